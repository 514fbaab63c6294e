import PyProof.Rows.All
import HandS.Codes
import HandS.Conv
import HandS.Deep
import HandS.DictComp
import HandS.ExcField
import HandS.ExcInit
import HandS.ExcIs
import HandS.ExcOwn
import HandS.ForExc
import HandS.ForMost
import HandS.IsInst
import HandS.Iter
import HandS.Rev
import HandS.SetBool
import HandS.SetFor
import HandS.SortInts
import HandS.SortKw
import HandS.SortRule
import HandS.Strs
import HandS.Style
import HandS.TupAny
import HandS.TupLe
import HandS.TupLen
import HandS.TupMul
import HandS.TupSets
import HandS.Wide
import KE.DataCmp
import KE.DataMinMax
import KE.GoesEnum
import KE.GoesEnumKw
import KE.GoesMore
import KE.GoesZip
import KE.KDictCopyH
import KE.KDictDisplayH
import KE.KDictKeyed
import KE.KDictPairs
import KE.KDictSum
import KE.KDictWalk
import KE.KDictZip
import KE.KTupSum
import KE.KeyNested
import KE.SortCalls
import KE.SortData
import OpenK.AllK
import PyProof.DictRoadsH
import PyProof.Rows.SetFrom
import PyProof.SetRoads
import PySem.Challenge.RW_breakrows_k24_plans_tightened
import Wide.All
import Wide.FinOn
set_option Elab.async false
set_option linter.all false
set_option maxRecDepth 100000
set_option maxHeartbeats 1000000
/-! A layer of trees over the hand layer: values are trees D, what may be changed lies in a small store M of our own; each construct has a function that computes its result, and a theorem that the hand layer's reading follows from it. -/
namespace Bk
open PySem PySem.Spec PyProof.Rows L2

/-! ### data, the store, results -/
inductive D where
  | non | bl (b : Bool) | int (i : Int) | str (x : Str)
  | tup (xs : List D) | lst (xs : List D) | ref (k : Nat) | dct (ks vs : List D) | ptu (xs : List D)
inductive MO where
  | dead | lst (xs : List D) | obj (nm : Str) (fs : List (Str × D)) | dct (ks vs : List D) | dki (kvs : List (Int × D))
inductive R (α : Type) where
  | ok (a : α) (M : List MO) | exc (c : Nat) (d : D) (M : List MO) | bad
def R.bind {α β : Type} (r : R α) (f : α → List MO → R β) : R β := match r with
  | .ok a M => f a M
  | .exc c d M => .exc c d M
  | .bad => .bad
abbrev Env := List (Option D)
abbrev GE := Env → List MO → R D
abbrev GT := Env → List MO → R Bool
abbrev GA := Env → List MO → R (List D)
inductive RS where
  | nx (Γ : Env) (M : List MO) | rt (d : D) (M : List MO) | bk (Γ : Env) (M : List MO) | ct (Γ : Env) (M : List MO)
  | exc (c : Nat) (d : D) (Γ : Env) (M : List MO) | bad
abbrev GS := Env → List MO → RS

/-- a list, tracked or written, and no more than that -/
def ExL (K : PySem.W.Frag) (H : Hp) (a : Addr) (xs : List V) : Prop :=
  Rd H a (.lst xs) ∨ ∃ (its : Array Value) (m : Nat), K.lookup a = some { cls := .type "list", data := .seq its m } ∧ its.size ≤ sizeLine ∧ Vals xs its.toList
theorem ExL.sq {K : PySem.W.Frag} {H : Hp} {a : Addr} {xs : List V} : ExL K H a xs → SqL K H a xs
  | .inl h => .inl h
  | .inr ⟨its, m, h1, h2, h3⟩ => .inr ⟨_, its, m, h1, rfl, rfl, rfl, h2, h3⟩
theorem ExL.at_ {X : Cx} {pins : List (Addr × Obj)} {σ : L2.St} {H : Hp} {s : Shared} {a : Addr} {xs : List V} (I : Inv X pins σ H s) (h : ExL X.K H a xs) : ∃ (its : List Value) (m : Nat), Vals xs its ∧ s.heap.get? a = some { cls := .type "list", data := .seq its.toArray m } ∧ xs.length ≤ sizeLine := by
  rcases h with h | ⟨its, m, h1, h2, h3⟩
  · obtain ⟨z, its, m, r, e⟩ := h.ok I.hok
    exact ⟨its, m, r, e, z⟩
  · refine ⟨its.toList, m, h3, by simpa using I.kIn a _ h1, ?_⟩
    have e := h3.length
    rw [Array.length_toList] at e
    exact Nat.le_trans (Nat.le_of_eq e) h2
/-! dicts: their keys nested tuples of whole numbers and None -/
section
variable (K : PySem.W.Frag) (Z : Hp)
mutual
inductive KeyV : NestedKey → V → Prop
  | non : KeyV .none .non
  | int (i : Int) : KeyV (.num i) (.int i)
  | tup {ks : List NestedKey} {a : Addr} {xs : List V} : SqT K Z a xs → KeyVs ks xs → KeyV (.tup ks) (.ref a)
inductive KeyVs : List NestedKey → List V → Prop
  | nil : KeyVs [] []
  | cons {k : NestedKey} {v : V} {ks : List NestedKey} {vs : List V} : KeyV k v → KeyVs ks vs → KeyVs (k :: ks) (v :: vs)
end
/-- the entries of a dict: keys, where they stand, values -/
inductive Ents : List NestedKey → List V → List V → List DictEntry → Prop
  | nil : Ents [] [] [] []
  | cons {k : NestedKey} {y : V} {ku : Value} {v : V} {u : Value} {hs : Int} {ks : List NestedKey} {kv vs : List V} {es : List DictEntry} : KeyV K Z k y → RelV y ku → k.depth ≤ 8 → (∀ w : World, hs = k.hash w) → RelV v u → Ents ks kv vs es → Ents (k :: ks) (y :: kv) (v :: vs) (⟨hs, ku, u⟩ :: es)
end
/-- a tuple that is known to have no dict of its own -/
def PlT (Z : Hp) (a : Addr) (xs : List V) : Prop := ∃ o : Obj, Z a = some (.frz o (.tup xs)) ∧ o.dict = none
theorem PlT.sq {K : PySem.W.Frag} {Z : Hp} {a : Addr} {xs : List V} : PlT Z a xs → SqT K Z a xs
  | ⟨o, h, _⟩ => .inl (.inr ⟨o, h⟩)
def dnO (a : Addr) (es : Array DictEntry) (ep : Nat) : HO := .ext fun h => ∃ o, h.get? a = some o ∧ o.ExactDict ∧ o.data = .dict es ep
/-- all keys are objects -/
def AllRef (ks : List V) : Prop := ∀ x ∈ ks, ∃ b, x = V.ref b
/-- a dict that stands at a and may change: its keys lean on what is frozen -/
def DR (K : PySem.W.Frag) (H Z : Hp) (a : Addr) (nks : List NestedKey) (ks vs : List V) : Prop := ∃ (es : Array DictEntry) (ep : Nat), H a = some (dnO a es ep) ∧ (a == sysModules) = false ∧ ks.length ≤ sizeLine ∧ nks.Nodup ∧ Ents K Z nks ks vs es.toList
/-- a dict that stands at a -/
def ExD (K : PySem.W.Frag) (Z : Hp) (a : Addr) (nks : List NestedKey) (ks vs : List V) : Prop := ∃ (es : Array DictEntry) (ep : Nat), Z a = some (dnO a es ep) ∧ (a == sysModules) = false ∧ ks.length ≤ sizeLine ∧ nks.Nodup ∧ Ents K Z nks ks vs es.toList
section
variable (K : PySem.W.Frag) (Z : Hp) (ι : Nat → Addr) (n : Nat)
mutual
inductive Rp : D → V → Prop
  | non : Rp .non .non
  | bl (b : Bool) : Rp (.bl b) (.bl b)
  | int (i : Int) : Rp (.int i) (.int i)
  | str (x : Str) : Rp (.str x) (.str x)
  | tup {ds : List D} {a : Addr} {xs : List V} : SqT K Z a xs → Rps ds xs → Rp (.tup ds) (.ref a)
  | lst {ds : List D} {a : Addr} {xs : List V} : ExL K Z a xs → Rps ds xs → Rp (.lst ds) (.ref a)
  | ref {k : Nat} : k < n → Rp (.ref k) (.ref (ι k))
  | dct {ks vs : List D} {a : Addr} {nks : List NestedKey} {kx xs : List V} : ExD K Z a nks kx xs → Rps ks kx → Rps vs xs → Rp (.dct ks vs) (.ref a)
  | ptu {ds : List D} {a : Addr} {xs : List V} : PlT Z a xs → Rps ds xs → Rp (.ptu ds) (.ref a)
inductive Rps : List D → List V → Prop
  | nil : Rps [] []
  | cons {d : D} {v : V} {ds : List D} {vs : List V} : Rp d v → Rps ds vs → Rps (d :: ds) (v :: vs)
end
end

abbrev Sub (Z Z' : Hp) : Prop := ∀ a o, Z a = some o → Z' a = some o
theorem subL {K : PySem.W.Frag} {Z Z' : Hp} (h : Sub Z Z') {a : Addr} {xs : List V} : ExL K Z a xs → ExL K Z' a xs
  | .inl (.inl e) => .inl (.inl (h _ _ e))
  | .inl (.inr ⟨o, e⟩) => .inl (.inr ⟨o, h _ _ e⟩)
  | .inr q => .inr q
theorem subT {K : PySem.W.Frag} {Z Z' : Hp} (h : Sub Z Z') {a : Addr} {xs : List V} : SqT K Z a xs → SqT K Z' a xs
  | .inl (.inl e) => .inl (.inl (h _ _ e))
  | .inl (.inr ⟨o, e⟩) => .inl (.inr ⟨o, h _ _ e⟩)
  | .inr q => .inr q

section
variable {K : PySem.W.Frag} {Z Z' : Hp}
mutual
theorem KeyV.sub (hz : Sub Z Z') : ∀ (k : NestedKey) (v : V), KeyV K Z k v → KeyV K Z' k v
  | .none, _, h => by cases h; exact .non
  | .num i, _, h => by cases h; exact .int i
  | .text x, _, h => by cases h
  | .tup ks, _, h => by
    cases h with
    | tup s r => exact .tup (subT hz s) (KeyVs.sub hz ks _ r)
theorem KeyVs.sub (hz : Sub Z Z') : ∀ (ks : List NestedKey) (vs : List V), KeyVs K Z ks vs → KeyVs K Z' ks vs
  | [], _, h => by cases h; exact .nil
  | k :: ks, _, h => by
    cases h with
    | cons r s => exact .cons (KeyV.sub hz k _ r) (KeyVs.sub hz ks _ s)
end
theorem Ents.sub (hz : Sub Z Z') : ∀ {ks : List NestedKey} {kv vs : List V} {es : List DictEntry}, Ents K Z ks kv vs es → Ents K Z' ks kv vs es
  | _, _, _, _, .nil => .nil
  | _, _, _, _, .cons a y b c d e => .cons (KeyV.sub hz _ _ a) y b c d (Ents.sub hz e)
theorem subD (hz : Sub Z Z') {a : Addr} {nks : List NestedKey} {ks vs : List V} : ExD K Z a nks ks vs → ExD K Z' a nks ks vs
  | ⟨es, ep, h1, h2, h3, h4, h5⟩ => ⟨es, ep, hz _ _ h1, h2, h3, h4, h5.sub hz⟩
end

section
variable {K : PySem.W.Frag} {Z Z' : Hp} {ι ι' : Nat → Addr} {n n' : Nat}
mutual
theorem Rp.mono (hz : Sub Z Z') (hi : ∀ k, k < n → ι' k = ι k) (hn : n ≤ n') : ∀ (d : D) (v : V), Rp K Z ι n d v → Rp K Z' ι' n' d v
  | .non, _, h => by cases h; exact .non
  | .bl b, _, h => by cases h; exact .bl b
  | .int i, _, h => by cases h; exact .int i
  | .str x, _, h => by cases h; exact .str x
  | .tup ds, _, h => by
    cases h with
    | tup s r => exact .tup (subT hz s) (Rps.mono hz hi hn ds _ r)
  | .lst ds, _, h => by
    cases h with
    | lst s r => exact .lst (subL hz s) (Rps.mono hz hi hn ds _ r)
  | .ref k, _, h => by
    cases h with
    | ref q => rw [← hi k q]; exact .ref (Nat.lt_of_lt_of_le q hn)
  | .dct ks vs, _, h => by
    cases h with
    | dct s r t => exact .dct (subD hz s) (Rps.mono hz hi hn ks _ r) (Rps.mono hz hi hn vs _ t)
  | .ptu ds, _, h => by
    cases h with
    | ptu s r => exact .ptu (let ⟨o, a, b⟩ := s; ⟨o, hz _ _ a, b⟩) (Rps.mono hz hi hn ds _ r)
theorem Rps.mono (hz : Sub Z Z') (hi : ∀ k, k < n → ι' k = ι k) (hn : n ≤ n') : ∀ (ds : List D) (vs : List V), Rps K Z ι n ds vs → Rps K Z' ι' n' ds vs
  | [], _, h => by cases h; exact .nil
  | d :: ds, _, h => by
    cases h with
    | cons r s => exact .cons (Rp.mono hz hi hn d _ r) (Rps.mono hz hi hn ds _ s)
end
theorem Rps.length : ∀ {ds : List D} {vs : List V}, Rps K Z ι n ds vs → ds.length = vs.length
  | [], _, h => by cases h; rfl
  | _ :: _, _, h => by
    cases h with
    | cons _ s => rw [List.length_cons, List.length_cons, Rps.length s]
theorem Rps.get : ∀ {ds : List D} {vs : List V} {i : Nat} {d : D}, Rps K Z ι n ds vs → ds[i]? = some d → ∃ v, vs[i]? = some v ∧ Rp K Z ι n d v
  | [], _, _, _, _, e => by simp at e
  | _ :: _, _, 0, _, h, e => by
    cases h with
    | cons r _ =>
      simp at e
      subst e
      exact ⟨_, rfl, r⟩
  | _ :: _, _, i + 1, _, h, e => by
    cases h with
    | cons _ s =>
      obtain ⟨v, h1, h2⟩ := Rps.get s (i := i) (by simpa using e)
      exact ⟨v, by simpa using h1, h2⟩
theorem Rps.append : ∀ {ds es : List D} {vs us : List V}, Rps K Z ι n ds vs → Rps K Z ι n es us → Rps K Z ι n (ds ++ es) (vs ++ us)
  | [], _, _, _, h, q => by cases h; exact q
  | _ :: _, _, _, _, h, q => by
    cases h with
    | cons r s => exact .cons r (Rps.append s q)
theorem Rps.set : ∀ {ds : List D} {vs : List V} {d : D} {v : V} (i : Nat), Rps K Z ι n ds vs → Rp K Z ι n d v → Rps K Z ι n (ds.set i d) (vs.set i v)
  | [], _, _, _, _, h, _ => by cases h; exact .nil
  | _ :: _, _, _, _, 0, h, q => by
    cases h with
    | cons _ s => exact .cons q s
  | _ :: _, _, _, _, i + 1, h, q => by
    cases h with
    | cons r s => exact .cons r (Rps.set i s q)
theorem Rps.take : ∀ {ds : List D} {vs : List V} (i : Nat), Rps K Z ι n ds vs → Rps K Z ι n (ds.take i) (vs.take i)
  | _, _, 0, _ => by rw [List.take_zero, List.take_zero]; exact .nil
  | [], _, _ + 1, h => by cases h; exact .nil
  | _ :: _, _, i + 1, h => by
    cases h with
    | cons r s => exact .cons r (Rps.take i s)
theorem Rps.drop : ∀ {ds : List D} {vs : List V} (i : Nat), Rps K Z ι n ds vs → Rps K Z ι n (ds.drop i) (vs.drop i)
  | _, _, 0, h => h
  | [], _, _ + 1, h => by cases h; exact .nil
  | _ :: _, _, i + 1, h => by
    cases h with
    | cons r s => exact Rps.drop i s
theorem Rps.rep {ds : List D} {vs : List V} (h : Rps K Z ι n ds vs) : ∀ k : Nat, Rps K Z ι n (List.replicate k ds).flatten (List.replicate k vs).flatten
  | 0 => .nil
  | k + 1 => by
    rw [List.replicate_succ, List.replicate_succ, List.flatten_cons, List.flatten_cons]
    exact h.append (Rps.rep h k)
theorem Rps.rev : ∀ {ds : List D} {vs : List V}, Rps K Z ι n ds vs → Rps K Z ι n ds.reverse vs.reverse
  | [], _, h => by cases h; exact .nil
  | _ :: _, _, h => by
    cases h with
    | cons r s =>
      rw [List.reverse_cons, List.reverse_cons]
      exact (Rps.rev s).append (.cons r .nil)
theorem Rps.ints : ∀ {is : List Int} {vs : List V}, Rps K Z ι n (is.map D.int) vs → vs = is.map V.int
  | [], _, h => by cases h; rfl
  | _ :: _, _, h => by
    cases h with
    | cons r s =>
      cases r
      rw [List.map_cons, Rps.ints s]
theorem Rps.of_ints : ∀ (is : List Int), Rps K Z ι n (is.map D.int) (is.map V.int)
  | [] => .nil
  | i :: is => .cons (.int i) (Rps.of_ints is)
end

/-! refs below a bound -/
mutual
def below (m : Nat) : D → Bool
  | .tup ds => belows m ds
  | .lst ds => belows m ds
  | .ref k => decide (k < m)
  | .dct ks vs => belows m ks && belows m vs
  | .ptu ds => belows m ds
  | _ => true
def belows (m : Nat) : List D → Bool
  | [] => true
  | d :: ds => below m d && belows m ds
end
section
variable {K : PySem.W.Frag} {Z : Hp} {ι : Nat → Addr} {n m : Nat}
mutual
theorem Rp.shrink : ∀ (d : D) (v : V), Rp K Z ι n d v → below m d = true → Rp K Z ι m d v
  | .non, _, h, _ => by cases h; exact .non
  | .bl b, _, h, _ => by cases h; exact .bl b
  | .int i, _, h, _ => by cases h; exact .int i
  | .str x, _, h, _ => by cases h; exact .str x
  | .tup ds, _, h, b => by
    cases h with
    | tup s r => exact .tup s (Rps.shrink ds _ r (by simpa [below] using b))
  | .lst ds, _, h, b => by
    cases h with
    | lst s r => exact .lst s (Rps.shrink ds _ r (by simpa [below] using b))
  | .ref k, _, h, b => by
    cases h with
    | ref q => exact .ref (by simpa [below] using b)
  | .dct ks vs, _, h, b => by
    cases h with
    | dct s r t =>
      have b' : (belows m ks && belows m vs) = true := b
      rw [Bool.and_eq_true] at b'
      exact .dct s (Rps.shrink ks _ r b'.1) (Rps.shrink vs _ t b'.2)
  | .ptu ds, _, h, b => by
    cases h with
    | ptu s r => exact .ptu s (Rps.shrink ds _ r (by simpa [below] using b))
theorem Rps.shrink : ∀ (ds : List D) (vs : List V), Rps K Z ι n ds vs → belows m ds = true → Rps K Z ι m ds vs
  | [], _, h, _ => by cases h; exact .nil
  | d :: ds, _, h, b => by
    cases h with
    | cons r s =>
      simp only [belows, Bool.and_eq_true] at b
      exact .cons (Rp.shrink d _ r b.1) (Rps.shrink ds _ s b.2)
end
end

/-! ### the heap holds the store -/
def belowO (m : Nat) : MO → Bool
  | .dead => true
  | .lst ds => belows m ds
  | .obj _ fs => belows m (fs.map (·.2))
  | .dct ks vs => belows m ks && belows m vs
  | .dki kvs => belows m (kvs.map (·.2))
def OR (K : PySem.W.Frag) (H Z : Hp) (ι : Nat → Addr) (n : Nat) : MO → Addr → Prop
  | .dead, _ => True
  | .lst ds, a => ∃ xs, H a = some (.lst xs) ∧ Rps K Z ι n ds xs
  | .obj nm fs, a => ∃ C dx gs, PySem.W.nsIn K mainGlobals nm = some (some (.ref C)) ∧ H a = some (.ins C dx gs) ∧ gs.map (·.1) = fs.map (·.1) ∧ Rps K Z ι n (fs.map (·.2)) (gs.map (·.2))
  | .dct ks vs, a => ∃ nks kx xs, DR K H Z a nks kx xs ∧ Rps K Z ι n ks kx ∧ Rps K Z ι n vs xs
  | .dki kvs, a => ∃ gs : List (L2.Key × V), H a = some (.dK gs) ∧ gs.map (·.1) = kvs.map (fun p => Sum.inl p.1) ∧ Rps K Z ι n (kvs.map (·.2)) (gs.map (·.2))
section
variable {K : PySem.W.Frag} {H Z : Hp} {ι : Nat → Addr} {n : Nat}
theorem OR.mono {Z' : Hp} {ι' : Nat → Addr} {n' : Nat} {H' : Hp} {u : MO} {a : Addr} (hz : Sub Z Z') (hi : ∀ k, k < n → ι' k = ι k) (hn : n ≤ n') (hh : ∀ o, H a = some o → H' a = some o) (h : OR K H Z ι n u a) : OR K H' Z' ι' n' u a := by
  cases u with
  | dead => trivial
  | lst ds =>
    obtain ⟨xs, e1, r⟩ := h
    exact ⟨xs, hh _ e1, Rps.mono hz hi hn _ _ r⟩
  | obj nm fs =>
    obtain ⟨C, dx, gs, e0, e1, e2, r⟩ := h
    exact ⟨C, dx, gs, e0, hh _ e1, e2, Rps.mono hz hi hn _ _ r⟩
  | dct ks vs =>
    obtain ⟨nks, kx, xs, ⟨es, ep, h1, h2, h3, h4, h5⟩, r, q⟩ := h
    exact ⟨nks, kx, xs, ⟨es, ep, hh _ h1, h2, h3, h4, h5.sub hz⟩, Rps.mono hz hi hn _ _ r, Rps.mono hz hi hn _ _ q⟩
  | dki kvs =>
    obtain ⟨gs, e1, e2, r⟩ := h
    exact ⟨gs, hh _ e1, e2, Rps.mono hz hi hn _ _ r⟩
theorem OR.shrink {u : MO} {a : Addr} {m : Nat} (h : OR K H Z ι n u a) (b : belowO m u = true) : OR K H Z ι m u a := by
  cases u with
  | dead => trivial
  | lst ds =>
    obtain ⟨xs, e1, r⟩ := h
    exact ⟨xs, e1, Rps.shrink _ _ r b⟩
  | obj nm fs =>
    obtain ⟨C, dx, gs, e0, e1, e2, r⟩ := h
    exact ⟨C, dx, gs, e0, e1, e2, Rps.shrink _ _ r b⟩
  | dct ks vs =>
    obtain ⟨nks, kx, xs, d, r, q⟩ := h
    have b' : (belows m ks && belows m vs) = true := b
    rw [Bool.and_eq_true] at b'
    exact ⟨nks, kx, xs, d, Rps.shrink _ _ r b'.1, Rps.shrink _ _ q b'.2⟩
  | dki kvs =>
    obtain ⟨gs, e1, e2, r⟩ := h
    exact ⟨gs, e1, e2, Rps.shrink _ _ r b⟩
/-- what leans on nothing of ours -/
theorem OR.low {ι' : Nat → Addr} {n' : Nat} {u : MO} {a : Addr} (h : OR K H Z ι n u a) (b : belowO 0 u = true) : OR K H Z ι' n' u a :=
  OR.mono (fun _ _ z => z) (fun _ z => absurd z (Nat.not_lt_zero _)) (Nat.zero_le _) (fun _ z => z) (h.shrink b)
end
structure HR (K : PySem.W.Frag) (H Z : Hp) (ι : Nat → Addr) (M : List MO) : Prop where
  sub : Sub Z H
  ali : ∀ k, k < M.length → ∃ o, H (ι k) = some o
  sep : ∀ (k : Nat) (o : MO), M[k]? = some o → o ≠ .dead → Z (ι k) = none
  inj : ∀ (j k : Nat) (o u : MO), M[j]? = some o → M[k]? = some u → o ≠ .dead → u ≠ .dead → ι j = ι k → j = k
  obj : ∀ (k : Nat) (o : MO), M[k]? = some o → OR K H Z ι M.length o (ι k)
  ded : ∀ (k : Nat), M[k]? = some .dead → ∃ o, Z (ι k) = some o
theorem HR.apart {K : PySem.W.Frag} {H Z : Hp} {ι : Nat → Addr} {M : List MO} (h : HR K H Z ι M) {j k : Nat} {o : MO} (hj : j < M.length) (hk : M[k]? = some o) (d : o ≠ .dead) (ne : j ≠ k) : ι j ≠ ι k := fun e => by
  have ej : M[j]? = some M[j] := List.getElem?_eq_getElem hj
  by_cases dj : M[j] = .dead
  · rw [dj] at ej
    obtain ⟨u, hu⟩ := h.ded j ej
    rw [e, h.sep k o hk d] at hu
    cases hu
  · exact ne (h.inj j k _ o ej hk dj d e)
structure Ext (H Z : Hp) (ι : Nat → Addr) (n : Nat) (H' Z' : Hp) (ι' : Nat → Addr) (n' : Nat) : Prop where
  zz : Sub Z Z'
  ii : ∀ k, k < n → ι' k = ι k
  fr : ∀ a o, H a = some o → (∀ k, k < n → a ≠ ι k) → H' a = some o
  nw : ∀ k, n ≤ k → k < n' → H (ι' k) = none
  ln : n ≤ n'
  zn : ∀ a o, Z' a = some o → Z a = some o ∨ H a = none ∨ ∃ k, k < n ∧ a = ι k
theorem Ext.refl {H Z : Hp} {ι : Nat → Addr} {n : Nat} : Ext H Z ι n H Z ι n :=
  ⟨fun _ _ h => h, fun _ _ => rfl, fun _ _ h _ => h, fun k h1 h2 => absurd h2 (Nat.not_lt.mpr h1), Nat.le_refl _, fun _ _ h => .inl h⟩
theorem Ext.trans {H Z H1 Z1 H2 Z2 : Hp} {ι ι1 ι2 : Nat → Addr} {n n1 n2 : Nat} (a : Ext H Z ι n H1 Z1 ι1 n1) (b : Ext H1 Z1 ι1 n1 H2 Z2 ι2 n2) (al : ∀ k, k < n1 → ∃ o, H1 (ι1 k) = some o) : Ext H Z ι n H2 Z2 ι2 n2 where
  zz := fun x o h => b.zz x o (a.zz x o h)
  ii := fun k h => (b.ii k (Nat.lt_of_lt_of_le h a.ln)).trans (a.ii k h)
  fr := fun x o h hk => by
    refine b.fr x o (a.fr x o h hk) fun k hk1 e => ?_
    by_cases hn : k < n
    · exact hk k hn (e.trans (a.ii k hn))
    · have q := a.nw k (Nat.le_of_not_lt hn) hk1
      rw [← e, h] at q
      cases q
  nw := fun k h1 h2 => by
    by_cases hn : k < n1
    · rw [b.ii k hn]
      exact a.nw k h1 hn
    · have q := b.nw k (Nat.le_of_not_lt hn) h2
      cases e : H (ι2 k) with
      | none => rfl
      | some o =>
        by_cases z : ∀ j, j < n → ι2 k ≠ ι j
        · rw [a.fr _ _ e z] at q
          cases q
        · exfalso
          apply z
          intro j hj ej
          obtain ⟨u, hu⟩ := al j (Nat.lt_of_lt_of_le hj a.ln)
          rw [a.ii j hj, ← ej, q] at hu
          cases hu
  ln := Nat.le_trans a.ln b.ln
  zn := fun x o h => by
    have low : ∀ u, H1 x = none → H x = some u → ∃ k, k < n ∧ x = ι k := fun u h1 hu => by
      refine Classical.byContradiction fun z => ?_
      rw [a.fr x u hu fun k hk e => z ⟨k, hk, e⟩] at h1
      cases h1
    have fin : H1 x = none → Z x = some o ∨ H x = none ∨ ∃ k, k < n ∧ x = ι k := fun h1 => by
      cases e : H x with
      | none => exact .inr (.inl rfl)
      | some u => exact .inr (.inr (low u h1 e))
    rcases b.zn x o h with h | h | ⟨k, hk, e⟩
    · exact a.zn x o h
    · exact fin h
    · by_cases hn : k < n
      · exact .inr (.inr ⟨k, hn, e.trans (a.ii k hn)⟩)
      · exact .inr (.inl (by rw [e]; exact a.nw k (Nat.le_of_not_lt hn) hk))
/-- the store is cut -/
theorem Ext.cut {H Z H1 Z1 : Hp} {ι ι1 : Nat → Addr} {n n1 m : Nat} (a : Ext H Z ι n H1 Z1 ι1 n1) (h1 : n ≤ m) (h2 : m ≤ n1) : Ext H Z ι n H1 Z1 ι1 m :=
  ⟨a.zz, a.ii, a.fr, fun k q1 q2 => a.nw k q1 (Nat.lt_of_lt_of_le q2 h2), h1, a.zn⟩
section
variable {K : PySem.W.Frag} {H Z H' Z' : Hp} {ι ι' : Nat → Addr} {M : List MO} {n' : Nat}
theorem Rp.ext {d : D} {v : V} {n : Nat} (r : Rp K Z ι n d v) (e : Ext H Z ι n H' Z' ι' n') : Rp K Z' ι' n' d v := Rp.mono e.zz e.ii e.ln d v r
theorem Rps.ext {ds : List D} {vs : List V} {n : Nat} (r : Rps K Z ι n ds vs) (e : Ext H Z ι n H' Z' ι' n') : Rps K Z' ι' n' ds vs := Rps.mono e.zz e.ii e.ln ds vs r
/-- a new thing that will not be changed -/
theorem HR.frozen (h : HR K H Z ι M) {p : Addr} {o : HO} (hp : H p = none) : HR K (upd H p o) (upd Z p o) ι M ∧ Ext H Z ι M.length (upd H p o) (upd Z p o) ι M.length := by
  have zp : Z p = none := by
    cases e : Z p with
    | none => rfl
    | some u =>
      rw [h.sub _ _ e] at hp
      cases hp
  have ne : ∀ k, k < M.length → ι k ≠ p := fun k hk e => by
    obtain ⟨u, hu⟩ := h.ali k hk
    rw [e, hp] at hu
    cases hu
  have lt : ∀ {k : Nat} {u : MO}, M[k]? = some u → k < M.length := fun e => (List.getElem?_eq_some_iff.mp e).1
  have s1 : Sub Z (upd Z p o) := fun a u e => by rw [upd_ne (ne_of_none e zp)]; exact e
  refine ⟨⟨fun a u e => ?_, fun k hk => ?_, fun k u e d => ?_, h.inj, fun k u e => ?_, fun k e => ?_⟩, s1, fun _ _ => rfl, fun a u e _ => ?_, fun k h1 h2 => absurd h2 (Nat.not_lt.mpr h1), Nat.le_refl _, fun a u e => ?_⟩
  · by_cases ha : a = p
    · subst ha
      rw [upd_same] at e ⊢
      exact e
    · rw [upd_ne ha] at e ⊢
      exact h.sub _ _ e
  · rw [upd_ne (ne k hk)]
    exact h.ali k hk
  · rw [upd_ne (ne k (lt e))]
    exact h.sep k u e d
  · exact OR.mono s1 (fun _ _ => rfl) (Nat.le_refl _) (fun o z => by rw [upd_ne (ne k (lt e))]; exact z) (h.obj k u e)
  · obtain ⟨u, hu⟩ := h.ded k e
    exact ⟨u, s1 _ _ hu⟩
  · rw [upd_ne (ne_of_none e hp)]
    exact e
  · by_cases ha : a = p
    · subst ha
      exact .inr (.inl hp)
    · rw [upd_ne ha] at e
      exact .inl e
def put (ι : Nat → Addr) (m : Nat) (p : Addr) : Nat → Addr := fun k => if k = m then p else ι k
theorem put_at {ι : Nat → Addr} {m : Nat} {p : Addr} : put ι m p m = p := if_pos rfl
theorem put_lt {ι : Nat → Addr} {m k : Nat} {p : Addr} (h : k < m) : put ι m p k = ι k := if_neg (Nat.ne_of_lt h)
/-- a new thing of ours -/
theorem HR.owned (h : HR K H Z ι M) {p : Addr} {ds : List D} {xs : List V} (hp : H p = none) (r : Rps K Z ι M.length ds xs) :
    HR K (upd H p (.lst xs)) Z (put ι M.length p) (M ++ [.lst ds]) ∧ Ext H Z ι M.length (upd H p (.lst xs)) Z (put ι M.length p) (M ++ [MO.lst ds]).length := by
  have zp : Z p = none := by
    cases e : Z p with
    | none => rfl
    | some u =>
      rw [h.sub _ _ e] at hp
      cases hp
  have ne : ∀ k, k < M.length → ι k ≠ p := fun k hk e => by
    obtain ⟨u, hu⟩ := h.ali k hk
    rw [e, hp] at hu
    cases hu
  have ii : ∀ k, k < M.length → (put ι M.length p) k = ι k := fun k hk => put_lt hk
  have il : (put ι M.length p) M.length = p := put_at
  have cs : ∀ {k : Nat} {u : MO}, (M ++ [MO.lst ds])[k]? = some u → (k < M.length ∧ M[k]? = some u) ∨ (k = M.length ∧ u = .lst ds) := fun {k u} e => by
    by_cases hk : k < M.length
    · rw [List.getElem?_append_left hk] at e
      exact .inl ⟨hk, e⟩
    · rw [List.getElem?_append_right (Nat.le_of_not_lt hk)] at e
      by_cases hz : k - M.length = 0
      · rw [hz] at e
        exact .inr ⟨by omega, (Option.some.inj e).symm⟩
      · rw [List.getElem?_eq_none (by simp; omega)] at e
        cases e
  have ln : (M ++ [MO.lst ds]).length = M.length + 1 := by simp
  refine ⟨⟨fun a u e => ?_, fun k hk => ?_, fun k u e d => ?_, fun j k o u e1 e2 d1 d2 e => ?_, fun k u e => ?_, fun k e => ?_⟩, fun _ _ e => e, ii, fun a u e _ => ?_, fun k h1 h2 => ?_, by rw [ln]; omega, fun _ _ e => .inl e⟩
  · rw [upd_ne (ne_of_none e zp)]
    exact h.sub _ _ e
  · rw [ln] at hk
    by_cases hk' : k < M.length
    · rw [ii k hk', upd_ne (ne k hk')]
      exact h.ali k hk'
    · have : k = M.length := by omega
      subst this
      exact ⟨_, by rw [il, upd_same]⟩
  · rcases cs e with ⟨hk, e⟩ | ⟨rfl, rfl⟩
    · rw [ii k hk]
      exact h.sep k u e d
    · rw [il]
      exact zp
  · rcases cs e1 with ⟨hj, e1⟩ | ⟨rfl, rfl⟩ <;> rcases cs e2 with ⟨hk, e2⟩ | ⟨rfl, rfl⟩
    · rw [ii j hj, ii k hk] at e
      exact h.inj j k o u e1 e2 d1 d2 e
    · rw [ii j hj, il] at e
      exact absurd e (ne j hj)
    · rw [ii k hk, il] at e
      exact absurd e.symm (ne k hk)
    · rfl
  · rcases cs e with ⟨hk, e⟩ | ⟨rfl, rfl⟩
    · rw [ii k hk]
      exact OR.mono (fun _ _ z => z) ii (by rw [ln]; omega) (fun o z => by rw [upd_ne (ne k hk)]; exact z) (h.obj k u e)
    · rw [il]
      exact ⟨xs, upd_same, Rps.mono (fun _ _ z => z) ii (by rw [ln]; omega) _ _ r⟩
  · rcases cs e with ⟨hk, e⟩ | ⟨_, e⟩
    · rw [ii k hk]
      exact h.ded k e
    · cases e
  · rw [upd_ne (ne_of_none e hp)]
    exact e
  · rw [ln] at h2
    have : k = M.length := by omega
    subst this
    rw [il]
    exact hp
/-- one of ours is changed -/
theorem HR.change (h : HR K H Z ι M) {j : Nat} {es ds : List D} {xs : List V} (hj : M[j]? = some (.lst es)) (r : Rps K Z ι M.length ds xs) :
    HR K (upd H (ι j) (.lst xs)) Z ι (M.set j (.lst ds)) ∧ Ext H Z ι M.length (upd H (ι j) (.lst xs)) Z ι (M.set j (.lst ds)).length := by
  have lt : j < M.length := (List.getElem?_eq_some_iff.mp hj).1
  have ln : (M.set j (MO.lst ds)).length = M.length := List.length_set
  have zj : Z (ι j) = none := h.sep j _ hj (by simp)
  have cs : ∀ {k : Nat} {u : MO}, (M.set j (.lst ds))[k]? = some u → (k ≠ j ∧ M[k]? = some u) ∨ (k = j ∧ u = .lst ds) := fun {k u} e => by
    by_cases hk : k = j
    · subst hk
      rw [List.getElem?_set_self lt] at e
      exact .inr ⟨rfl, (Option.some.inj e).symm⟩
    · rw [List.getElem?_set_ne (Ne.symm hk)] at e
      exact .inl ⟨hk, e⟩
  have apart : ∀ {k : Nat} {u : MO}, k ≠ j → M[k]? = some u → u ≠ .dead → ι k ≠ ι j := fun {k u} hk e d z => hk (h.inj k j u _ e hj d (by simp) z)
  refine ⟨⟨fun a u e => ?_, fun k hk => ?_, fun k u e d => ?_, fun a b o u e1 e2 d1 d2 e => ?_, fun k u e => ?_, fun k e => ?_⟩, fun _ _ e => e, fun _ _ => rfl, fun a u e z => ?_, fun k h1 h2 => absurd h2 (by rw [ln]; exact Nat.not_lt.mpr h1), by rw [ln]; exact Nat.le_refl _, fun _ _ e => .inl e⟩
  · rw [upd_ne (ne_of_none e zj)]
    exact h.sub _ _ e
  · rw [ln] at hk
    by_cases e : ι k = ι j
    · exact ⟨_, by rw [e, upd_same]⟩
    · rw [upd_ne e]
      exact h.ali k hk
  · rcases cs e with ⟨hk, e⟩ | ⟨rfl, rfl⟩
    · exact h.sep k u e d
    · exact zj
  · have live : ∀ {k : Nat} {u : MO}, (M.set j (.lst ds))[k]? = some u → u ≠ .dead → ∃ u', M[k]? = some u' ∧ u' ≠ .dead := fun {k u} e d => by
      rcases cs e with ⟨_, e⟩ | ⟨rfl, rfl⟩
      · exact ⟨u, e, d⟩
      · exact ⟨_, hj, by simp⟩
    obtain ⟨o', e1', d1'⟩ := live e1 d1
    obtain ⟨u', e2', d2'⟩ := live e2 d2
    exact h.inj a b o' u' e1' e2' d1' d2' e
  · rw [ln]
    rcases cs e with ⟨hk, e⟩ | ⟨rfl, rfl⟩
    · by_cases du : u = .dead
      · subst du
        trivial
      · exact OR.mono (fun _ _ z => z) (fun _ _ => rfl) (Nat.le_refl _) (fun o z => by rw [upd_ne (apart hk e du)]; exact z) (h.obj k u e)
    · exact ⟨xs, upd_same, r⟩
  · rcases cs e with ⟨_, e⟩ | ⟨_, e⟩
    · exact h.ded k e
    · cases e
  · rw [upd_ne (z j lt)]
    exact e
/-- one of ours will not be changed any more -/
theorem HR.freezeG (h : HR K H Z ι M) {j : Nat} {o : MO} {ho : HO} (hj : M[j]? = some o) (hd : o ≠ .dead) (e1 : H (ι j) = some ho) :
    HR K H (upd Z (ι j) ho) ι (M.set j .dead) ∧ Ext H Z ι M.length H (upd Z (ι j) ho) ι (M.set j MO.dead).length ∧ Sub Z (upd Z (ι j) ho) := by
  have lt : j < M.length := (List.getElem?_eq_some_iff.mp hj).1
  have ln : (M.set j MO.dead).length = M.length := List.length_set
  have zj : Z (ι j) = none := h.sep j _ hj hd
  have s1 : Sub Z (upd Z (ι j) ho) := fun a u e => by rw [upd_ne (ne_of_none e zj)]; exact e
  have cs : ∀ {k : Nat} {u : MO}, (M.set j .dead)[k]? = some u → u ≠ .dead → k ≠ j ∧ M[k]? = some u := fun {k u} e d => by
    by_cases hk : k = j
    · subst hk
      rw [List.getElem?_set_self lt] at e
      exact absurd (Option.some.inj e).symm d
    · rw [List.getElem?_set_ne (Ne.symm hk)] at e
      exact ⟨hk, e⟩
  refine ⟨⟨fun a u e => ?_, fun k hk => h.ali k (by rw [ln] at hk; exact hk), fun k u e d => ?_, fun a b o u q1 q2 d1 d2 e => ?_, fun k u e => ?_, fun k e => ?_⟩, ⟨s1, fun _ _ => rfl, fun a u e _ => e, fun k h1 h2 => absurd h2 (by rw [ln]; exact Nat.not_lt.mpr h1), by rw [ln]; exact Nat.le_refl _, fun a u e => ?_⟩, s1⟩
  · by_cases ha : a = ι j
    · subst ha
      rw [upd_same] at e
      cases e
      exact e1
    · rw [upd_ne ha] at e
      exact h.sub _ _ e
  · obtain ⟨hk, e⟩ := cs e d
    rw [upd_ne fun z => hk (h.inj k j u _ e hj d hd z)]
    exact h.sep k u e d
  · exact h.inj a b o u (cs q1 d1).2 (cs q2 d2).2 d1 d2 e
  · rw [ln]
    by_cases du : u = .dead
    · subst du
      trivial
    · exact OR.mono s1 (fun _ _ => rfl) (Nat.le_refl _) (fun _ z => z) (h.obj k u (cs e du).2)
  · by_cases hk : k = j
    · subst hk
      exact ⟨_, upd_same⟩
    · rw [List.getElem?_set_ne (Ne.symm hk)] at e
      obtain ⟨u, hu⟩ := h.ded k e
      exact ⟨u, s1 _ _ hu⟩
  · by_cases ha : a = ι j
    · exact .inr (.inr ⟨j, lt, ha⟩)
    · rw [upd_ne ha] at e
      exact .inl e
/-- a list of ours will not be changed any more -/
theorem HR.freeze (h : HR K H Z ι M) {j : Nat} {ds : List D} (hj : M[j]? = some (.lst ds)) :
    ∃ xs, Rps K Z ι M.length ds xs ∧ HR K H (upd Z (ι j) (.lst xs)) ι (M.set j .dead) ∧ Ext H Z ι M.length H (upd Z (ι j) (.lst xs)) ι (M.set j MO.dead).length ∧ Rp K (upd Z (ι j) (.lst xs)) ι (M.set j MO.dead).length (.lst ds) (.ref (ι j)) := by
  have ln : (M.set j MO.dead).length = M.length := List.length_set
  obtain ⟨xs, e1, r⟩ := h.obj j _ hj
  obtain ⟨a, b, s1⟩ := h.freezeG hj (by simp) e1
  refine ⟨xs, r, a, b, ?_⟩
  rw [ln]
  exact .lst (.inl (.inl upd_same)) (Rps.mono s1 (fun _ _ => rfl) (Nat.le_refl _) _ _ r)
/-- a dict of ours will not be changed any more -/
theorem HR.freezeD (h : HR K H Z ι M) {j : Nat} {ks vs : List D} (hj : M[j]? = some (.dct ks vs)) :
    ∃ ho, H (ι j) = some ho ∧ HR K H (upd Z (ι j) ho) ι (M.set j .dead) ∧ Ext H Z ι M.length H (upd Z (ι j) ho) ι (M.set j MO.dead).length ∧ Rp K (upd Z (ι j) ho) ι (M.set j MO.dead).length (.dct ks vs) (.ref (ι j)) := by
  have ln : (M.set j MO.dead).length = M.length := List.length_set
  obtain ⟨nks, kx, xs, ⟨es, ep, h1, h2, h3, h4, h5⟩, r, q⟩ := h.obj j _ hj
  obtain ⟨a, b, s1⟩ := h.freezeG hj (by simp) h1
  refine ⟨_, h1, a, b, ?_⟩
  rw [ln]
  exact .dct ⟨es, ep, upd_same, h2, h3, h4, h5.sub s1⟩ (Rps.mono s1 (fun _ _ => rfl) (Nat.le_refl _) _ _ r) (Rps.mono s1 (fun _ _ => rfl) (Nat.le_refl _) _ _ q)
end
/-- a cut: what is left leans on nothing that was cut off -/
def cutOk (m : Nat) (M : List MO) : Bool := (M.take m).all (belowO m)
theorem HR.cut {K : PySem.W.Frag} {H Z : Hp} {ι : Nat → Addr} {M : List MO} (h : HR K H Z ι M) {m : Nat} (hm : m ≤ M.length) (c : cutOk m M = true) : HR K H Z ι (M.take m) := by
  have ln : (M.take m).length = m := by rw [List.length_take]; omega
  have cs : ∀ {k : Nat} {u : MO}, (M.take m)[k]? = some u → M[k]? = some u ∧ belowO m u = true := fun {k u} e => by
    have lk : k < m := by
      have := (List.getElem?_eq_some_iff.mp e).1
      rw [ln] at this
      exact this
    have e' := e
    rw [List.getElem?_take_of_lt lk] at e'
    exact ⟨e', List.all_eq_true.mp c u (List.mem_of_getElem? e)⟩
  refine ⟨h.sub, fun k hk => h.ali k (by rw [ln] at hk; omega), fun k u e d => h.sep k u (cs e).1 d, fun a b o u e1 e2 d1 d2 e => h.inj a b o u (cs e1).1 (cs e2).1 d1 d2 e, fun k u e => ?_, fun k e => h.ded k (cs e).1⟩
  rw [ln]
  obtain ⟨e1, b⟩ := cs e
  exact (h.obj k u e1).shrink b
end Bk

set_option Elab.async false
set_option linter.all false
set_option maxRecDepth 100000
set_option maxHeartbeats 1000000
namespace Bk
open PySem PySem.Spec PyProof.Rows L2

/-! ### what is shown of a piece of syntax -/
abbrev St := L2.St
/-- the classes of errors: where each stands, and its one attribute -/
structure CT where
  at_ : Nat → Addr
  nm : Nat → Str
def ExcR (K : PySem.W.Frag) (C : CT) (H Z : Hp) (ι : Nat → Addr) (n c : Nat) (d : D) (cls : Value) (dd : Option Addr) : Prop :=
  cls = .ref (C.at_ c) ∧ ∃ a v, dd = some a ∧ Z a = some (.xd [(C.nm c, v)]) ∧ Rp K Z ι n d v
def Slots (K : PySem.W.Frag) (Z : Hp) (ι : Nat → Addr) (n : Nat) (Γ : Env) (σ : St) : Prop :=
  Γ.length = σ.length ∧ ∀ (i : Nat) (d : D), Γ[i]? = some (some d) → ∃ v, σ[i]? = some (some v) ∧ Rp K Z ι n d v
theorem Slots.ext {K : PySem.W.Frag} {H Z H' Z' : Hp} {ι ι' : Nat → Addr} {n n' : Nat} {Γ : Env} {σ : St} (s : Slots K Z ι n Γ σ) (e : Ext H Z ι n H' Z' ι' n') : Slots K Z' ι' n' Γ σ :=
  ⟨s.1, fun i d h => let ⟨v, h1, h2⟩ := s.2 i d h; ⟨v, h1, h2.ext e⟩⟩
theorem Slots.set {K : PySem.W.Frag} {Z : Hp} {ι : Nat → Addr} {n : Nat} {Γ : Env} {σ : St} (s : Slots K Z ι n Γ σ) (i : Nat) {d : D} {v : V} (r : Rp K Z ι n d v) : Slots K Z ι n (Γ.set i (some d)) (σ.set i (some v)) := by
  refine ⟨by rw [List.length_set, List.length_set]; exact s.1, fun j e h => ?_⟩
  by_cases hj : i = j
  · subst hj
    have lt : i < Γ.length := by
      have := (List.getElem?_eq_some_iff.mp h).1
      rw [List.length_set] at this
      exact this
    rw [List.getElem?_set_self lt] at h
    have q := Option.some.inj (Option.some.inj h)
    subst q
    exact ⟨v, List.getElem?_set_self (by rw [← s.1]; exact lt), r⟩
  · rw [List.getElem?_set_ne hj] at h
    rw [List.getElem?_set_ne hj]
    exact s.2 j e h
/-- slots are forgotten -/
def forget (Γ : Env) : List Nat → Env
  | [] => Γ
  | i :: is => forget (Γ.set i none) is
theorem Slots.forget {K : PySem.W.Frag} {Z : Hp} {ι : Nat → Addr} {n : Nat} {σ : St} : ∀ (is : List Nat) {Γ : Env}, Slots K Z ι n Γ σ → Slots K Z ι n (forget Γ is) σ
  | [], _, s => s
  | i :: is, Γ, s => Slots.forget is ⟨by rw [List.length_set]; exact s.1, fun j e h => by
      by_cases hj : i = j
      · subst hj
        have lt : i < Γ.length := by
          have := (List.getElem?_eq_some_iff.mp h).1
          rw [List.length_set] at this
          exact this
        rw [List.getElem?_set_self lt] at h
        cases h
      · rw [List.getElem?_set_ne hj] at h
        exact s.2 j e h⟩
/-- what leans on nothing that is cut off stays -/
def clean (m : Nat) (Γ : Env) : Env := Γ.map fun o => match o with
  | some d => if below m d = true then some d else none
  | none => none
theorem Slots.cut {K : PySem.W.Frag} {Z : Hp} {ι : Nat → Addr} {n m : Nat} {Γ : Env} {σ : St} (s : Slots K Z ι n Γ σ) : Slots K Z ι m (clean m Γ) σ := by
  refine ⟨by unfold clean; rw [List.length_map]; exact s.1, fun i d h => ?_⟩
  unfold clean at h
  rw [List.getElem?_map] at h
  cases e : Γ[i]? with
  | none => rw [e] at h; cases h
  | some o =>
    cases o with
    | none => rw [e] at h; cases h
    | some d' =>
      rw [e] at h
      have h' : (if below m d' = true then some d' else none) = some d := Option.some.inj h
      by_cases hb : below m d' = true
      · rw [if_pos hb] at h'
        have q := Option.some.inj h'
        subst q
        obtain ⟨v, h1, h2⟩ := s.2 i d' e
        exact ⟨v, h1, h2.shrink _ _ hb⟩
      · rw [if_neg hb] at h'
        cases h'

abbrev RpK (α β : Type) := Hp → (Nat → Addr) → Nat → α → β → Prop
abbrev rpE (K : PySem.W.Frag) : RpK D V := fun Z ι n d v => Rp K Z ι n d v
abbrev rpA (K : PySem.W.Frag) : RpK (List D) (List V) := fun Z ι n d v => Rps K Z ι n d v
abbrev rpT : RpK Bool Bool := fun _ _ _ a b => a = b
def Post {α β : Type} (X : Cx) (C : CT) (W : WX) (rp : RpK α β) (σ : St) (H Z : Hp) (ι : Nat → Addr) (M : List MO) (r : R α) (Q : β → Hp → Prop) : Prop := match r with
  | .ok a M' => ∀ (b : β) (H' Z' : Hp) (ι' : Nat → Addr), Ext H Z ι M.length H' Z' ι' M'.length → HR X.K H' Z' ι' M' → rp Z' ι' M'.length a b → Q b H'
  | .exc c d M' => ∀ (cls : Value) (dd : Option Addr) (H' Z' : Hp) (ι' : Nat → Addr), Ext H Z ι M.length H' Z' ι' M'.length → HR X.K H' Z' ι' M' → ExcR X.K C H' Z' ι' M'.length c d cls dd → W cls dd σ H'
  | .bad => False
section
variable {X : Cx} {C : CT} {W : WX} {σ : St} {H Z H1 Z1 : Hp} {ι ι1 : Nat → Addr} {M M1 : List MO}
theorem Post.shift {α β : Type} {rp : RpK α β} {r : R α} {Q : β → Hp → Prop} (h : Post X C W rp σ H Z ι M r Q) (e : Ext H Z ι M.length H1 Z1 ι1 M1.length) (hr : HR X.K H1 Z1 ι1 M1) : Post X C W rp σ H1 Z1 ι1 M1 r Q := by
  cases r with
  | ok a M' => exact fun b H' Z' ι' e' hr' rb => h b H' Z' ι' (e.trans e' hr.ali) hr' rb
  | exc c d M' => exact fun cls dd H' Z' ι' e' hr' rb => h cls dd H' Z' ι' (e.trans e' hr.ali) hr' rb
  | bad => exact h
theorem Post.bind {α β γ δ : Type} {rp1 : RpK α β} {rp2 : RpK γ δ} {r : R α} {f : α → List MO → R γ} {Q : δ → Hp → Prop} {Q1 : β → Hp → Prop} (h : Post X C W rp2 σ H Z ι M (r.bind f) Q)
    (k : ∀ (a : α) (M1 : List MO) (b : β) (H1 Z1 : Hp) (ι1 : Nat → Addr), Ext H Z ι M.length H1 Z1 ι1 M1.length → HR X.K H1 Z1 ι1 M1 → rp1 Z1 ι1 M1.length a b → Post X C W rp2 σ H1 Z1 ι1 M1 (f a M1) Q → Q1 b H1) :
    Post X C W rp1 σ H Z ι M r Q1 := by
  cases r with
  | ok a M' => exact fun b H' Z' ι' e' hr' rb => k a M' b H' Z' ι' e' hr' rb (Post.shift (r := f a M') h e' hr')
  | exc c d M' => exact h
  | bad => exact h
end

/-- an expression is computed by g -/
def QE (X : Cx) (C : CT) (W : WX) (e : Expr) (g : GE) : Prop := ∃ te, PE X e te ∧ ∀ (σ : St) (H Z : Hp) (ι : Nat → Addr) (Γ : Env) (M : List MO) (Q : VK), Slots X.K Z ι M.length Γ σ → HR X.K H Z ι M → Post X C W (rpE X.K) σ H Z ι M (g Γ M) Q → te σ H Q
def QT (X : Cx) (C : CT) (W : WX) (e : Expr) (g : GT) : Prop := ∃ te, PT X e te ∧ ∀ (σ : St) (H Z : Hp) (ι : Nat → Addr) (Γ : Env) (M : List MO) (Q : Bool → Hp → Prop), Slots X.K Z ι M.length Γ σ → HR X.K H Z ι M → Post X C W rpT σ H Z ι M (g Γ M) Q → te σ H Q
def QW (X : Cx) (C : CT) (W : WX) (e : Expr) (g : GT) : Prop := ∃ te, PW X e te ∧ ∀ (σ : St) (H Z : Hp) (ι : Nat → Addr) (Γ : Env) (M : List MO) (Q : Bool → Hp → Prop), Slots X.K Z ι M.length Γ σ → HR X.K H Z ι M → Post X C W rpT σ H Z ι M (g Γ M) Q → te σ H Q
def QA (X : Cx) (C : CT) (W : WX) (es : List Expr) (g : GA) : Prop := ∃ te, PA X es te ∧ ∀ (σ : St) (H Z : Hp) (ι : Nat → Addr) (Γ : Env) (M : List MO) (Q : List V → Hp → Prop), Slots X.K Z ι M.length Γ σ → HR X.K H Z ι M → Post X C W (rpA X.K) σ H Z ι M (g Γ M) Q → te σ H Q

/-! ### the functions that compute -/
def opR {α : Type} (o : Option α) (M : List MO) : R α := match o with
  | some a => .ok a M
  | none => .bad
def gV (i : Nat) : GE := fun Γ M => match Γ[i]? with
  | some (some d) => .ok d M
  | _ => .bad
def gC (d : D) : GE := fun _ M => .ok d M
def gOp2 (f : List MO → D → D → Option D) (ga gb : GE) : GE := fun Γ M => (ga Γ M).bind fun x M1 => (gb Γ M1).bind fun y M2 => opR (f M2 x y) M2
def gOp1 (f : List MO → D → Option D) (ga : GE) : GE := fun Γ M => (ga Γ M).bind fun x M1 => opR (f M1 x) M1
def gNil : GA := fun _ M => .ok [] M
def gCons (ga : GE) (gr : GA) : GA := fun Γ M => (ga Γ M).bind fun x M1 => (gr Γ M1).bind fun xs M2 => .ok (x :: xs) M2
def gTup (ga : GA) : GE := fun Γ M => (ga Γ M).bind fun xs M1 => if xs.length ≤ sizeLine then .ok (.tup xs) M1 else .bad
def gLst (ga : GA) : GE := fun Γ M => (ga Γ M).bind fun xs M1 => if xs.length ≤ sizeLine then .ok (.lst xs) M1 else .bad
def gLstO (ga : GA) : GE := fun Γ M => (ga Γ M).bind fun xs M1 => if xs.length ≤ sizeLine then .ok (.ref M1.length) (M1 ++ [.lst xs]) else .bad
def gCall (f : List MO → List D → Option D) (ga : GA) : GE := fun Γ M => (ga Γ M).bind fun xs M1 => opR (f M1 xs) M1
def toBl : D → Option Bool
  | .bl b => some b
  | _ => none
def gVal (ga : GE) : GT := fun Γ M => (ga Γ M).bind fun x M1 => opR (toBl x) M1
def gAndT (a b : GT) : GT := fun Γ M => (a Γ M).bind fun c M1 => if c = true then b Γ M1 else .ok false M1
def gOrT (a b : GT) : GT := fun Γ M => (a Γ M).bind fun c M1 => if c = true then .ok true M1 else b Γ M1
def gNotT (a : GT) : GT := fun Γ M => (a Γ M).bind fun c M1 => .ok (!c) M1
def gIfE (c : GT) (a b : GE) : GE := fun Γ M => (c Γ M).bind fun k M1 => if k = true then a Γ M1 else b Γ M1
def gAndV (a b : GE) : GE := fun Γ M => (a Γ M).bind fun x M1 => match x with
  | .bl c => if c = true then b Γ M1 else .ok (.bl false) M1
  | _ => .bad
def gOrV (a b : GE) : GE := fun Γ M => (a Γ M).bind fun x M1 => match x with
  | .bl c => if c = true then .ok (.bl true) M1 else b Γ M1
  | _ => .bad
def gChain (f f' : List MO → D → D → Option D) (ga gb gc : GE) : GE := fun Γ M => (ga Γ M).bind fun x M1 => (gb Γ M1).bind fun y M2 => (opR (f M2 x y) M2).bind fun k M3 => match k with
  | .bl c => if c = true then (gc Γ M3).bind fun z M4 => opR (f' M4 y z) M4 else .ok (.bl false) M3
  | _ => .bad

section
variable {X : Cx} {C : CT} {W : WX}
/-- a result that is new and will not be changed, or an old one -/
def After (X : Cx) (H Z : Hp) (ι : Nat → Addr) (M : List MO) (d : D) (Q : VK) : Prop := ∀ (v : V) (H' Z' : Hp), Ext H Z ι M.length H' Z' ι M.length → HR X.K H' Z' ι M → Rp X.K Z' ι M.length d v → Q v H'
theorem After.now {H Z : Hp} {ι : Nat → Addr} {M : List MO} {d : D} {Q : VK} {v : V} (h : After X H Z ι M d Q) (hr : HR X.K H Z ι M) (r : Rp X.K Z ι M.length d v) : Q v H := h v H Z .refl hr r
theorem After.lst {H Z : Hp} {ι : Nat → Addr} {M : List MO} {ds : List D} {Q : VK} {xs : List V} (h : After X H Z ι M (.lst ds) Q) (hr : HR X.K H Z ι M) (r : Rps X.K Z ι M.length ds xs) : ∀ p, H p = none → Q (.ref p) (upd H p (.lst xs)) := fun p hp => by
  obtain ⟨h1, e1⟩ := hr.frozen (o := .lst xs) hp
  exact h _ _ _ e1 h1 (.lst (.inl (.inl upd_same)) (r.ext e1))
theorem After.tup {H Z : Hp} {ι : Nat → Addr} {M : List MO} {ds : List D} {Q : VK} {xs : List V} (h : After X H Z ι M (.tup ds) Q) (hr : HR X.K H Z ι M) (r : Rps X.K Z ι M.length ds xs) : ∀ p, H p = none → Q (.ref p) (upd H p (.tup xs)) := fun p hp => by
  obtain ⟨h1, e1⟩ := hr.frozen (o := .tup xs) hp
  exact h _ _ _ e1 h1 (.tup (.inl (.inl upd_same)) (r.ext e1))
theorem Post.after {σ : St} {H Z : Hp} {ι : Nat → Addr} {M : List MO} {d : D} {Q : VK} (h : Post X C W (rpE X.K) σ H Z ι M (.ok d M) Q) : After X H Z ι M d Q := fun v H' Z' e hr r => h v H' Z' ι e hr r
/-- an operation on values is computed by f -/
def Ok2 (X : Cx) (r : R2) (f : List MO → D → D → Option D) : Prop := ∀ (x y : V) (H Z : Hp) (ι : Nat → Addr) (M : List MO) (dx dy d : D) (Q : VK), HR X.K H Z ι M → Rp X.K Z ι M.length dx x → Rp X.K Z ι M.length dy y → f M dx dy = some d → After X H Z ι M d Q → r x y H Q
def Ok1 (X : Cx) (r : V → Hp → VK → Prop) (f : List MO → D → Option D) : Prop := ∀ (x : V) (H Z : Hp) (ι : Nat → Addr) (M : List MO) (dx d : D) (Q : VK), HR X.K H Z ι M → Rp X.K Z ι M.length dx x → f M dx = some d → After X H Z ι M d Q → r x H Q
def OkA (X : Cx) (r : List V → Hp → VK → Prop) (f : List MO → List D → Option D) : Prop := ∀ (xs : List V) (H Z : Hp) (ι : Nat → Addr) (M : List MO) (ds : List D) (d : D) (Q : VK), HR X.K H Z ι M → Rps X.K Z ι M.length ds xs → f M ds = some d → After X H Z ι M d Q → r xs H Q
theorem Post.of_opR {α β γ δ : Type} {rp1 : RpK α β} {σ : St} {H Z : Hp} {ι : Nat → Addr} {M : List MO} {o : Option α} {Q : β → Hp → Prop} (h : Post X C W rp1 σ H Z ι M (opR o M) Q) : ∃ a, o = some a ∧ Post X C W rp1 σ H Z ι M (.ok a M) Q := by
  cases o with
  | none => exact h.elim
  | some a => exact ⟨a, rfl, h⟩

/-! ### the rules -/
theorem qe_v (i : Nat) {x : Str} {pos : Pos} (hN : X.N[i]? = some x := by rfl) (hv : Vis X.env.scope x := by first | exact Or.inl rfl | exact Or.inr (Or.inl rfl) | exact Or.inr (Or.inr rfl)) (hd : (x == ("__debug__" : Str)) = false := by decide)
    (hcd : (x == ("__classdict__" : Str)) = false := by decide) : QE X C W (.Name x pos) (gV i) := by
  refine ⟨_, pe_var hN hv hd hcd, fun σ H Z ι Γ M Q sl hr h => ?_⟩
  unfold gV at h
  cases e : Γ[i]? with
  | none => rw [e] at h; exact h.elim
  | some o =>
    cases o with
    | none => rw [e] at h; exact h.elim
    | some d =>
      rw [e] at h
      obtain ⟨v, h1, h2⟩ := sl.2 i d e
      exact ⟨v, h1, h v H Z ι .refl hr h2⟩
theorem qe_int {i : Int} {j pos} : QE X C W (.Constant (.int i) j pos) (gC (.int i)) := ⟨_, pe_int, fun σ H Z ι Γ M Q sl hr h => h _ H Z ι .refl hr (.int i)⟩
theorem qe_bl {b : Bool} {j pos} : QE X C W (.Constant (.bool b) j pos) (gC (.bl b)) := ⟨_, pe_bl, fun σ H Z ι Γ M Q sl hr h => h _ H Z ι .refl hr (.bl b)⟩
theorem qe_non {j pos} : QE X C W (.Constant .none j pos) (gC .non) := ⟨_, pe_non, fun σ H Z ι Γ M Q sl hr h => h _ H Z ι .refl hr .non⟩
/-- a module's number -/
theorem qe_gint {x : Str} {i : Int} {t : Tok} {pos : Pos} (hg : Gl X x) (hm : X.mg x = some (.int i t)) (hd : (x == ("__debug__" : Str)) = false := by decide) : QE X C W (.Name x pos) (gC (.int i)) :=
  ⟨_, pe_glob (v := .int i) hg hm ⟨t, rfl⟩ hd, fun σ H Z ι Γ M Q sl hr h => h _ H Z ι .refl hr (.int i)⟩
variable {e a b c : Expr} {es : List Expr} {ga gb gc g : GE} {gt gu : GT} {gs : GA} {pos : Pos} {f f' : List MO → D → D → Option D}
abbrev Rd1 (X : Cx) (C : CT) (W : WX) (g : GE) (te : TE) : Prop := ∀ (σ : St) (H Z : Hp) (ι : Nat → Addr) (Γ : Env) (M : List MO) (Q : VK), Slots X.K Z ι M.length Γ σ → HR X.K H Z ι M → Post X C W (rpE X.K) σ H Z ι M (g Γ M) Q → te σ H Q
theorem op_read {r : R2} {ta tb : TE} (hf : Ok2 X r f) (qa : Rd1 X C W ga ta) (qb : Rd1 X C W gb tb) : Rd1 X C W (gOp2 f ga gb) (tOp r ta tb) := fun σ H Z ι Γ M Q sl hr h =>
  qa σ H Z ι Γ M _ sl hr (Post.bind h fun x M1 v H1 Z1 ι1 e1 hr1 r1 h1 => qb σ H1 Z1 ι1 Γ M1 _ (sl.ext e1) hr1 (h1.bind fun y M2 u H2 Z2 ι2 e2 hr2 r2 h2 => by
    obtain ⟨d, hd, h3⟩ := Post.of_opR (γ := D) (δ := V) h2
    exact hf v u H2 Z2 ι2 M2 x y d Q hr2 (r1.ext e2) r2 hd h3.after))
theorem qe_bin {op : Operator} {r : R2} (ho : OpR X (binaryOp op) r) (hf : Ok2 X r f) (ha : QE X C W a ga) (hb : QE X C W b gb) : QE X C W (.BinOp a op b pos) (gOp2 f ga gb) := by
  obtain ⟨ta, pa, qa⟩ := ha
  obtain ⟨tb, pb, qb⟩ := hb
  exact ⟨_, pe_op ho pa pb, op_read hf qa qb⟩
theorem qe_cmp {op : CmpOp} {r : R2} (ho : OpR X (compareOp op) r) (hf : Ok2 X r f) (ha : QE X C W a ga) (hb : QE X C W b gb) (hm : behindInMarks op b = false) : QE X C W (.Compare a [op] [b] pos) (gOp2 f ga gb) := by
  obtain ⟨ta, pa, qa⟩ := ha
  obtain ⟨tb, pb, qb⟩ := hb
  exact ⟨_, pe_cmpR ho pa pb hm, op_read hf qa qb⟩
theorem qe_ix {r : R2} (ho : IxR X r) (hf : Ok2 X r f) (ha : QE X C W a ga) (hb : QE X C W b gb) (hs : PlainIx b := by exact fun _ _ => rfl) : QE X C W (.Subscript a b pos) (gOp2 f ga gb) := by
  obtain ⟨ta, pa, qa⟩ := ha
  obtain ⟨tb, pb, qb⟩ := hb
  exact ⟨_, pe_ix ho pa pb hs, op_read hf qa qb⟩
theorem qe_un {op : UnaryOp} {r : V → Hp → VK → Prop} {f : List MO → D → Option D} (ho : UnR X (unaryOp op) r) (hf : Ok1 X r f) (ha : QE X C W a ga) : QE X C W (.UnaryOp op a pos) (gOp1 f ga) := by
  obtain ⟨ta, pa, qa⟩ := ha
  refine ⟨_, pe_un ho pa, fun σ H Z ι Γ M Q sl hr h => qa σ H Z ι Γ M _ sl hr (h.bind fun x M1 v H1 Z1 ι1 e1 hr1 r1 h1 => ?_)⟩
  obtain ⟨d, hd, h3⟩ := Post.of_opR (γ := D) (δ := V) h1
  exact hf v H1 Z1 ι1 M1 x d Q hr1 r1 hd h3.after
theorem chain_read {r r' : R2} {ta tb tc : TE} (hf : Ok2 X r f) (hf' : Ok2 X r' f') (qa : Rd1 X C W ga ta) (qb : Rd1 X C W gb tb) (qc : Rd1 X C W gc tc) : Rd1 X C W (gChain f f' ga gb gc) (tChain r r' ta tb tc) := by
  intro σ H Z ι Γ M Q sl hr h
  refine qa σ H Z ι Γ M _ sl hr (Post.bind h fun x M1 v H1 Z1 ι1 e1 hr1 r1 h1 => qb σ H1 Z1 ι1 Γ M1 _ (sl.ext e1) hr1 (h1.bind fun y M2 u H2 Z2 ι2 e2 hr2 r2 h2 => ?_))
  cases hd : f M2 x y with
  | none => rw [hd] at h2; exact h2.elim
  | some d =>
    rw [hd] at h2
    refine hf v u H2 Z2 ι2 M2 x y d _ hr2 (r1.ext e2) r2 hd fun w H3 Z3 e3 hr3 r3 => ?_
    have h3 := Post.shift h2 e3 hr3
    cases r3 with
    | bl k =>
      refine ⟨k, rfl, ?_⟩
      cases k with
      | false => exact h3 _ H3 Z3 ι2 .refl hr3 (.bl false)
      | true =>
        have h4 : Post X C W (rpE X.K) σ H3 Z3 ι2 M2 ((gc Γ M2).bind fun z M4 => opR (f' M4 y z) M4) Q := h3
        refine qc σ H3 Z3 ι2 Γ M2 _ ((sl.ext e1).ext e2 |>.ext e3) hr3 (h4.bind fun z M4 w' H4 Z4 ι4 e4 hr4 r4 h5 => ?_)
        obtain ⟨d', hd', h6⟩ := Post.of_opR (γ := D) (δ := V) h5
        exact hf' u w' H4 Z4 ι4 M4 y z d' Q hr4 ((r2.ext e3).ext e4) r4 hd' h6.after
    | _ => exact h3.elim
theorem qe_chain {op op' : CmpOp} {r r' : R2} (ho : OpR X (compareOp op) r) (hf : Ok2 X r f) (ho' : OpR X (compareOp op') r') (hf' : Ok2 X r' f') (ha : QE X C W a ga) (hb : QE X C W b gb) (hc : QE X C W c gc) (hm : lastMarks [op, op'] [b, c] = false := by with_unfolding_all rfl) :
    QE X C W (.Compare a [op, op'] [b, c] pos) (gChain f f' ga gb gc) := by
  obtain ⟨ta, pa, qa⟩ := ha
  obtain ⟨tb, pb, qb⟩ := hb
  obtain ⟨tc, pc, qc⟩ := hc
  exact ⟨_, pe_chain ho ho' pa pb pc (hm := hm), chain_read hf hf' qa qb qc⟩
theorem qa_nil : QA X C W [] gNil := ⟨_, pa_nil, fun σ H Z ι Γ M Q sl hr h => h [] H Z ι .refl hr .nil⟩
theorem qa_cons (ha : QE X C W e g) (hb : QA X C W es gs) (hs : starEach (e :: es) X.env = (false, eval e X.env) :: starEach es X.env := by rfl) : QA X C W (e :: es) (gCons g gs) := by
  obtain ⟨ta, pa, qa⟩ := ha
  obtain ⟨tb, pb, qb⟩ := hb
  exact ⟨_, pa_cons pa pb hs, fun σ H Z ι Γ M Q sl hr h => qa σ H Z ι Γ M _ sl hr (h.bind fun x M1 v H1 Z1 ι1 e1 hr1 r1 h1 => qb σ H1 Z1 ι1 Γ M1 _ (sl.ext e1) hr1 (h1.bind fun y M2 u H2 Z2 ι2 e2 hr2 r2 h2 => h2 _ H2 Z2 ι2 .refl hr2 (.cons (r1.ext e2) r2)))⟩
theorem qe_tup {x1} (ha : QA X C W es gs) : QE X C W (.Tuple es x1 pos) (gTup gs) := by
  obtain ⟨ta, pa, qa⟩ := ha
  refine ⟨_, pe_tup pa, fun σ H Z ι Γ M Q sl hr h => qa σ H Z ι Γ M _ sl hr (h.bind fun x M1 v H1 Z1 ι1 e1 hr1 r1 h1 => ?_)⟩
  by_cases hz : x.length ≤ sizeLine
  · rw [if_pos hz] at h1
    exact ⟨by rw [← r1.length]; exact hz, h1.after.tup hr1 r1⟩
  · rw [if_neg hz] at h1
    exact h1.elim
theorem qe_lst (ha : QA X C W es gs) : QE X C W (.List es pos) (gLst gs) := by
  obtain ⟨ta, pa, qa⟩ := ha
  refine ⟨_, pe_lst pa, fun σ H Z ι Γ M Q sl hr h => qa σ H Z ι Γ M _ sl hr (h.bind fun x M1 v H1 Z1 ι1 e1 hr1 r1 h1 => ?_)⟩
  by_cases hz : x.length ≤ sizeLine
  · rw [if_pos hz] at h1
    exact ⟨by rw [← r1.length]; exact hz, h1.after.lst hr1 r1⟩
  · rw [if_neg hz] at h1
    exact h1.elim
theorem qe_lstO (ha : QA X C W es gs) : QE X C W (.List es pos) (gLstO gs) := by
  obtain ⟨ta, pa, qa⟩ := ha
  refine ⟨_, pe_lst pa, fun σ H Z ι Γ M Q sl hr h => qa σ H Z ι Γ M _ sl hr (h.bind fun x M1 v H1 Z1 ι1 e1 hr1 r1 h1 => ?_)⟩
  by_cases hz : x.length ≤ sizeLine
  · rw [if_pos hz] at h1
    refine ⟨by rw [← r1.length]; exact hz, fun p hp => ?_⟩
    obtain ⟨hr2, e2⟩ := hr1.owned hp r1
    refine h1 _ _ _ _ e2 hr2 ?_
    have q : Rp X.K Z1 (put ι1 M1.length p) (M1 ++ [MO.lst x]).length (.ref M1.length) (.ref (put ι1 M1.length p M1.length)) := .ref (by simp)
    rw [put_at] at q
    exact q
  · rw [if_neg hz] at h1
    exact h1.elim
theorem qe_callB {x : Str} {p : Pos} {id : String} {r : List V → Hp → VK → Prop} {f : List MO → List D → Option D} (ho : CallR X (.builtin id) r) (hf : OkA X r f) (hg : Gl X x) (hm : X.mg x = none) (hv : bootBuiltins x = some (.builtin id)) (ha : QA X C W (e :: es) gs)
    (hn : x ≠ "__name__" := by decide) (hdb : (x == ("__debug__" : Str)) = false := by decide) (he : starEach (e :: es) X.env = (false, eval e X.env) :: starEach es X.env := by rfl) (hpl : (backTo pos (starEach es X.env)).any (·.1) = false := by rfl) :
    QE X C W (.Call (.Name x p) (e :: es) [] pos) (gCall f gs) := by
  obtain ⟨ta, pa, qa⟩ := ha
  refine ⟨_, pe_callB ho hg hm hv pa hn hdb he hpl, fun σ H Z ι Γ M Q sl hr h => qa σ H Z ι Γ M _ sl hr (h.bind fun x M1 v H1 Z1 ι1 e1 hr1 r1 h1 => ?_)⟩
  obtain ⟨d, hd, h3⟩ := Post.of_opR (γ := D) (δ := V) h1
  exact hf v H1 Z1 ι1 M1 x d Q hr1 r1 hd h3.after
theorem qe_callTy {x T : Str} {p : Pos} {id : String} {r : List V → Hp → VK → Prop} {f : List MO → List D → Option D} (ho : CallR X (.type id) r) (hf : OkA X r f) (hg : Gl X x) (hm : X.mg x = none) (hv : bootBuiltins x = some (.type id)) (ha : QA X C W (e :: es) gs)
    (hn : x ≠ "__name__" := by decide) (hdb : (x == ("__debug__" : Str)) = false := by decide) (he : starEach (e :: es) X.env = (false, eval e X.env) :: starEach es X.env := by rfl) (hpl : (backTo pos (starEach es X.env)).any (·.1) = false := by rfl) :
    QE X C W (.Call (.Name x p) (e :: es) [] pos) (gCall f gs) := by
  obtain ⟨ta, pa, qa⟩ := ha
  refine ⟨_, pe_callTy ho hg hm hv pa hn hdb he hpl, fun σ H Z ι Γ M Q sl hr h => qa σ H Z ι Γ M _ sl hr (h.bind fun x M1 v H1 Z1 ι1 e1 hr1 r1 h1 => ?_)⟩
  obtain ⟨d, hd, h3⟩ := Post.of_opR (γ := D) (δ := V) h1
  exact hf v H1 Z1 ι1 M1 x d Q hr1 r1 hd h3.after

/-! tests -/
theorem qt_val (ha : QE X C W a ga) (he : ∀ whole, isTrue a X.env whole = (do let v ← whole; standAt a.pos; holding [v] (truthy v)) := by intro _; rfl) : QT X C W a (gVal ga) := by
  obtain ⟨ta, pa, qa⟩ := ha
  refine ⟨_, pt_val pa he, fun σ H Z ι Γ M Q sl hr h => qa σ H Z ι Γ M _ sl hr (h.bind fun x M1 v H1 Z1 ι1 e1 hr1 r1 h1 => ?_)⟩
  cases r1 with
  | bl k => exact ⟨k, rfl, h1 k H1 Z1 ι1 .refl hr1 rfl⟩
  | _ => exact h1.elim
theorem val_read {te : TE} (q : Rd1 X C W ga te) (σ : St) (H Z : Hp) (ι : Nat → Addr) (Γ : Env) (M : List MO) (Q : Bool → Hp → Prop) (sl : Slots X.K Z ι M.length Γ σ) (hr : HR X.K H Z ι M) (h : Post X C W rpT σ H Z ι M (gVal ga Γ M) Q) : tTest te σ H Q :=
  q σ H Z ι Γ M _ sl hr (Post.bind h fun x M1 v H1 Z1 ι1 e1 hr1 r1 h1 => by
    cases r1 with
    | bl k => exact ⟨k, rfl, h1 k H1 Z1 ι1 .refl hr1 rfl⟩
    | _ => exact h1.elim)
theorem qt_cmp {op : CmpOp} {r : R2} (ho : OpR X (compareOp op) r) (hf : Ok2 X r f) (ha : QE X C W a ga) (hb : QE X C W b gb) (hm : behindInMarks op b = false) : QT X C W (.Compare a [op] [b] pos) (gVal (gOp2 f ga gb)) := by
  obtain ⟨ta, pa, qa⟩ := ha
  obtain ⟨tb, pb, qb⟩ := hb
  exact ⟨_, pt_cmpR ho pa pb hm, val_read (op_read hf qa qb)⟩
theorem qt_chain {op op' : CmpOp} {r r' : R2} (ho : OpR X (compareOp op) r) (hf : Ok2 X r f) (ho' : OpR X (compareOp op') r') (hf' : Ok2 X r' f') (ha : QE X C W a ga) (hb : QE X C W b gb) (hc : QE X C W c gc) (hm : lastMarks [op, op'] [b, c] = false := by with_unfolding_all rfl) :
    QT X C W (.Compare a [op, op'] [b, c] pos) (gVal (gChain f f' ga gb gc)) := by
  obtain ⟨ta, pa, qa⟩ := ha
  obtain ⟨tb, pb, qb⟩ := hb
  obtain ⟨tc, pc, qc⟩ := hc
  exact ⟨_, pt_chain ho ho' pa pb pc (hm := hm), val_read (chain_read hf hf' qa qb qc)⟩
theorem qt_of (h : QW X C W a gt) : QT X C W a gt := let ⟨t, p, q⟩ := h; ⟨t, p.pt, q⟩
theorem qw_and1 (h : QT X C W a gt) : QW X C W (.BoolOp .And [a] pos) gt := let ⟨t, p, q⟩ := h; ⟨t, pw_and1 p, q⟩
theorem qw_or1 (h : QT X C W a gt) : QW X C W (.BoolOp .Or [a] pos) gt := let ⟨t, p, q⟩ := h; ⟨t, pw_or1 p, q⟩
theorem qw_and {rest : List Expr} (ha : QT X C W a gt) (hb : QW X C W (.BoolOp .And (b :: rest) pos) gu) : QW X C W (.BoolOp .And (a :: b :: rest) pos) (gAndT gt gu) := by
  obtain ⟨ta, pa, qa⟩ := ha
  obtain ⟨tb, pb, qb⟩ := hb
  refine ⟨_, pw_and pa pb, fun σ H Z ι Γ M Q sl hr h => qa σ H Z ι Γ M _ sl hr (h.bind fun x M1 v H1 Z1 ι1 e1 hr1 r1 h1 => ?_)⟩
  have r1' : x = v := r1
  subst r1'
  cases x with
  | true => exact qb σ H1 Z1 ι1 Γ M1 _ (sl.ext e1) hr1 h1
  | false => exact h1 false H1 Z1 ι1 .refl hr1 rfl
theorem qw_or {rest : List Expr} (ha : QT X C W a gt) (hb : QW X C W (.BoolOp .Or (b :: rest) pos) gu) : QW X C W (.BoolOp .Or (a :: b :: rest) pos) (gOrT gt gu) := by
  obtain ⟨ta, pa, qa⟩ := ha
  obtain ⟨tb, pb, qb⟩ := hb
  refine ⟨_, pw_or pa pb, fun σ H Z ι Γ M Q sl hr h => qa σ H Z ι Γ M _ sl hr (h.bind fun x M1 v H1 Z1 ι1 e1 hr1 r1 h1 => ?_)⟩
  have r1' : x = v := r1
  subst r1'
  cases x with
  | true => exact h1 true H1 Z1 ι1 .refl hr1 rfl
  | false => exact qb σ H1 Z1 ι1 Γ M1 _ (sl.ext e1) hr1 h1
theorem qt_not (ha : QT X C W a gt) : QT X C W (.UnaryOp .Not a pos) (gNotT gt) := by
  obtain ⟨ta, pa, qa⟩ := ha
  refine ⟨_, pt_not pa, fun σ H Z ι Γ M Q sl hr h => qa σ H Z ι Γ M _ sl hr (h.bind fun x M1 v H1 Z1 ι1 e1 hr1 r1 h1 => ?_)⟩
  have r1' : x = v := r1
  subst r1'
  exact h1 _ H1 Z1 ι1 .refl hr1 rfl
theorem qe_if (hc : QT X C W c gt) (ha : QE X C W a ga) (hb : QE X C W b gb) : QE X C W (.IfExp c a b pos) (gIfE gt ga gb) := by
  obtain ⟨tc, pc, qc⟩ := hc
  obtain ⟨ta, pa, qa⟩ := ha
  obtain ⟨tb, pb, qb⟩ := hb
  refine ⟨_, pe_ifExp pc pa pb, fun σ H Z ι Γ M Q sl hr h => qc σ H Z ι Γ M _ sl hr (h.bind fun x M1 v H1 Z1 ι1 e1 hr1 r1 h1 => ?_)⟩
  have r1' : x = v := r1
  subst r1'
  cases x with
  | true => exact qa σ H1 Z1 ι1 Γ M1 _ (sl.ext e1) hr1 h1
  | false => exact qb σ H1 Z1 ι1 Γ M1 _ (sl.ext e1) hr1 h1
theorem qe_one {op} (h : QE X C W a ga) : QE X C W (.BoolOp op [a] pos) ga := let ⟨t, p, q⟩ := h; ⟨t, pe_one p, q⟩
theorem qe_and {rest : List Expr} (ha : QE X C W a ga) (hb : QE X C W (.BoolOp .And (b :: rest) pos) gb) : QE X C W (.BoolOp .And (a :: b :: rest) pos) (gAndV ga gb) := by
  obtain ⟨ta, pa, qa⟩ := ha
  obtain ⟨tb, pb, qb⟩ := hb
  refine ⟨_, pe_and pa pb, fun σ H Z ι Γ M Q sl hr h => qa σ H Z ι Γ M _ sl hr (h.bind fun x M1 v H1 Z1 ι1 e1 hr1 r1 h1 => ?_)⟩
  cases r1 with
  | bl k =>
    refine ⟨k, rfl, ?_⟩
    cases k with
    | true => exact qb σ H1 Z1 ι1 Γ M1 _ (sl.ext e1) hr1 h1
    | false => exact h1 _ H1 Z1 ι1 .refl hr1 (.bl false)
  | _ => exact h1.elim
theorem qe_or {rest : List Expr} (ha : QE X C W a ga) (hb : QE X C W (.BoolOp .Or (b :: rest) pos) gb) : QE X C W (.BoolOp .Or (a :: b :: rest) pos) (gOrV ga gb) := by
  obtain ⟨ta, pa, qa⟩ := ha
  obtain ⟨tb, pb, qb⟩ := hb
  refine ⟨_, pe_or pa pb, fun σ H Z ι Γ M Q sl hr h => qa σ H Z ι Γ M _ sl hr (h.bind fun x M1 v H1 Z1 ι1 e1 hr1 r1 h1 => ?_)⟩
  cases r1 with
  | bl k =>
    refine ⟨k, rfl, ?_⟩
    cases k with
    | true => exact h1 _ H1 Z1 ι1 .refl hr1 (.bl true)
    | false => exact qb σ H1 Z1 ι1 Γ M1 _ (sl.ext e1) hr1 h1
  | _ => exact h1.elim
def dNot (_ : List MO) : D → Option D
  | .bl b => some (.bl (!b))
  | _ => none
theorem qe_not (ha : QE X C W a ga) : QE X C W (.UnaryOp .Not a pos) (gOp1 dNot ga) := by
  obtain ⟨ta, pa, qa⟩ := ha
  refine ⟨_, pe_not pa, fun σ H Z ι Γ M Q sl hr h => qa σ H Z ι Γ M _ sl hr (h.bind fun x M1 v H1 Z1 ι1 e1 hr1 r1 h1 => ?_)⟩
  cases r1 with
  | bl k => exact ⟨k, rfl, h1 _ H1 Z1 ι1 .refl hr1 (.bl _)⟩
  | _ => exact h1.elim
end
end Bk

set_option Elab.async false
set_option linter.all false
set_option maxRecDepth 100000
set_option maxHeartbeats 1000000
namespace Bk
open PySem PySem.Spec PyProof.Rows L2

/-! ### what is walked -/
abbrev GI := GA
/-- cd: what must hold of the store at each turn -/
def ItC (cd : List MO → Prop) (K : PySem.W.Frag) (J : It) (items : List D) (Z : Hp) (ι : Nat → Addr) (n : Nat) : Prop :=
  ∀ (i : Nat) (H' Z' : Hp) (ι' : Nat → Addr) (M' : List MO), Sub Z Z' → (∀ k, k < n → ι' k = ι k) → n ≤ M'.length → HR K H' Z' ι' M' → cd M' →
    (items.length = i → J.stop i H') ∧ ∀ d, items[i]? = some d → J.go i H' ∧ ∀ x H2, J.yld i H' x H2 → ∃ Z2, Ext H' Z' ι' M'.length H2 Z2 ι' M'.length ∧ HR K H2 Z2 ι' M' ∧ Rp K Z2 ι' M'.length d x
abbrev anyM : List MO → Prop := fun _ => True
abbrev ItR := ItC anyM
abbrev rpI (K : PySem.W.Frag) : RpK (List D) It := fun Z ι n items J => ItR K J items Z ι n
def QI (X : Cx) (C : CT) (W : WX) (tg e : Expr) (g : GI) : Prop := ∃ wi, PI X tg e wi ∧ ∀ (σ : St) (H Z : Hp) (ι : Nat → Addr) (Γ : Env) (M : List MO) (Q : It → Hp → Prop), Slots X.K Z ι M.length Γ σ → HR X.K H Z ι M → Post X C W (rpI X.K) σ H Z ι M (g Γ M) Q → wi σ H Q
def rngL (lo : Int) : Nat → List D
  | 0 => []
  | n + 1 => .int lo :: rngL (lo + 1) n
theorem rngL_get : ∀ (n : Nat) (lo : Int) (i : Nat) (d : D), (rngL lo n)[i]? = some d → i < n ∧ d = .int (lo + i)
  | 0, _, _, _, h => by simp [rngL] at h
  | n + 1, lo, 0, d, h => by
    simp [rngL] at h
    exact ⟨Nat.succ_pos _, by rw [← h]; simp⟩
  | n + 1, lo, i + 1, d, h => by
    simp only [rngL, List.getElem?_cons_succ] at h
    obtain ⟨h1, h2⟩ := rngL_get n (lo + 1) i d h
    refine ⟨Nat.succ_lt_succ h1, ?_⟩
    rw [h2]
    congr 1
    push_cast
    omega
theorem rngL_length : ∀ (n : Nat) (lo : Int), (rngL lo n).length = n
  | 0, _ => rfl
  | n + 1, lo => by simp [rngL, rngL_length n]
def seqD : D → Option (List D)
  | .lst ds => some ds
  | .tup ds => some ds
  | .ptu ds => some ds
  | _ => none
def gSeqI (ge : GE) : GI := fun Γ M => (ge Γ M).bind fun d M1 => opR (seqD d) M1
def inR (i : Int) : Bool := decide (-(2 ^ 62) ≤ i) && decide (i < 2 ^ 62)
def rng1 : List D → Option (List D)
  | [.int j] => if inR j then some (rngL 0 j.toNat) else none
  | _ => none
def rng2 : List D → Option (List D)
  | [.int i, .int j] => if inR i && inR j then some (rngL i (j - i).toNat) else none
  | _ => none
def gRng1 (ga : GA) : GI := fun Γ M => (ga Γ M).bind fun ds M1 => opR (rng1 ds) M1
def gRng2 (ga : GA) : GI := fun Γ M => (ga Γ M).bind fun ds M1 => opR (rng2 ds) M1
section
variable {X : Cx} {C : CT} {W : WX} {tg e a b : Expr} {g ga gb : GE} {gs : GA} {pos : Pos}
theorem itr_l {K : PySem.W.Frag} {Z : Hp} {ι : Nat → Addr} {n : Nat} {a : Addr} {xs : List V} {ds : List D} (s : ExL K Z a xs) (r : Rps K Z ι n ds xs) : ItR K (Itl K a) ds Z ι n := by
  intro i H' Z' ι' M' hz hi hn hr _
  have sH : SqL K H' a xs := (subL (fun a o h => hr.sub _ _ (hz _ _ h)) s).sq
  refine ⟨fun hl => ⟨xs, sH, by rw [← r.length]; exact Nat.le_of_eq hl⟩, fun d hd => ?_⟩
  obtain ⟨v, hv, rv⟩ := r.get hd
  refine ⟨⟨xs, v, sH, hv⟩, fun x H2 hy => ?_⟩
  obtain ⟨rfl, hx⟩ := hy
  have ex : xs[i]? = some x := hx _ sH
  rw [hv] at ex
  cases ex
  exact ⟨Z', .refl, hr, Rp.mono hz hi hn _ _ rv⟩
theorem itr_t {K : PySem.W.Frag} {Z : Hp} {ι : Nat → Addr} {n : Nat} {a : Addr} {xs : List V} {ds : List D} (s : SqT K Z a xs) (r : Rps K Z ι n ds xs) : ItR K (Itt K a) ds Z ι n := by
  intro i H' Z' ι' M' hz hi hn hr _
  have sH : SqT K H' a xs := subT (fun a o h => hr.sub _ _ (hz _ _ h)) s
  refine ⟨fun hl => ⟨xs, sH, by rw [← r.length]; exact Nat.le_of_eq hl⟩, fun d hd => ?_⟩
  obtain ⟨v, hv, rv⟩ := r.get hd
  refine ⟨⟨xs, v, sH, hv⟩, fun x H2 hy => ?_⟩
  obtain ⟨rfl, hx⟩ := hy
  have ex : xs[i]? = some x := hx _ sH
  rw [hv] at ex
  cases ex
  exact ⟨Z', .refl, hr, Rp.mono hz hi hn _ _ rv⟩
theorem itr_r {K : PySem.W.Frag} {Z : Hp} {ι : Nat → Addr} {n : Nat} {lo : Int} {m : Nat} : ItR K (Itr lo m) (rngL lo m) Z ι n := by
  intro i H' Z' ι' M' hz hi hn hr _
  refine ⟨fun hl => by rw [rngL_length] at hl; exact Nat.le_of_eq hl, fun d hd => ?_⟩
  obtain ⟨h1, rfl⟩ := rngL_get _ _ _ _ hd
  refine ⟨h1, fun x H2 hy => ?_⟩
  obtain ⟨rfl, rfl⟩ := hy
  exact ⟨Z', .refl, hr, .int _⟩
/-- a list or a tuple -/
def iSeq (K : PySem.W.Frag) (tl : TE) : TI := fun σ H R => tl σ H fun x H1 => ∃ a, x = .ref a ∧ (((∃ xs, SqL K H1 a xs) ∧ R (Itl K a) H1) ∨ ((∃ xs, SqT K H1 a xs) ∧ R (Itt K a) H1))
theorem pi_seq {tl : TE} (hl : PE X e tl) : PI X tg e (iSeq X.K tl) := by
  refine ⟨fun pins s σ H R I h => thn (hl.run pins s σ H _ I h) fun v s1 ⟨x, H1, J1, r1, a, ex, q1⟩ => ?_⟩
  subst ex
  cases r1
  have fp : ∀ b ∈ [s1.heap.objs.size], H1 b = none ∧ FpOk X pins H1 b := fun b hb => by
    obtain rfl : b = s1.heap.objs.size := by simpa using hb
    have z := J1.hok.fresh (Nat.le_refl _)
    exact ⟨z, J1.fpOk (Nat.le_refl _) z⟩
  rcases q1 with ⟨⟨xs, hq⟩, q⟩ | ⟨⟨xs, hq⟩, q⟩
  · obtain ⟨its, rv, p, hz⟩ := J1.list hq
    refine wpAny_pyIter_list p.isList ⟨_, _, _, _, H1, rfl, J1.kept (t' := s1.toks) fun b o e => Heap.get?_push_of_some _ e, turn_list a s1.heap.objs.size, ⟨_, Heap.get?_push_size _ rfl, rfl, rfl⟩, fun b hb => (fp b hb).2, q⟩
  · obtain ⟨its, rv, p, hz⟩ := J1.tuple hq
    refine wpAny_pyIter_tuple (show s1.heap.IsTuple a its.toArray from p) ⟨_, _, _, _, H1, rfl, J1.kept (t' := s1.toks) fun b o e => Heap.get?_push_of_some _ e, turn_tuple a s1.heap.objs.size, ⟨_, Heap.get?_push_size _ rfl, rfl, rfl⟩, fun b hb => (fp b hb).2, q⟩
theorem qi_seq (ha : QE X C W e g) : QI X C W tg e (gSeqI g) := by
  obtain ⟨ta, pa, qa⟩ := ha
  refine ⟨_, pi_seq pa, fun σ H Z ι Γ M Q sl hr h => qa σ H Z ι Γ M _ sl hr (h.bind fun x M1 v H1 Z1 ι1 e1 hr1 r1 h1 => ?_)⟩
  obtain ⟨ds, hd, h2⟩ := Post.of_opR (γ := D) (δ := V) h1
  cases r1 with
  | lst s r =>
    cases hd
    exact ⟨_, rfl, .inl ⟨⟨_, (subL hr1.sub s).sq⟩, h2 _ H1 Z1 ι1 .refl hr1 (itr_l s r)⟩⟩
  | tup s r =>
    cases hd
    exact ⟨_, rfl, .inr ⟨⟨_, subT hr1.sub s⟩, h2 _ H1 Z1 ι1 .refl hr1 (itr_t s r)⟩⟩
  | ptu s r =>
    cases hd
    exact ⟨_, rfl, .inr ⟨⟨_, subT hr1.sub s.sq⟩, h2 _ H1 Z1 ι1 .refl hr1 (itr_t s.sq r)⟩⟩
  | _ => cases hd
theorem qi_rng1 {p : Pos} (hg : Gl X "range") (hm : X.mg "range" = none) (ha : QA X C W [a] gs) (hs : starEach [a] X.env = [(false, eval a X.env)] := by rfl) : QI X C W tg (.Call (.Name "range" p) [a] [] pos) (gRng1 gs) := by
  obtain ⟨ta, pa, qa⟩ := ha
  refine ⟨_, pi_range1 hg hm pa hs, fun σ H Z ι Γ M Q sl hr h => qa σ H Z ι Γ M _ sl hr (h.bind fun x M1 v H1 Z1 ι1 e1 hr1 r1 h1 => ?_)⟩
  obtain ⟨ds, hd, h2⟩ := Post.of_opR (γ := D) (δ := V) h1
  unfold rng1 at hd
  split at hd
  · rename_i j
    cases r1 with
    | cons r rr =>
      cases r
      cases rr
      by_cases hj : inR j = true
      · rw [if_pos hj] at hd
        cases hd
        simp only [inR, Bool.and_eq_true, decide_eq_true_eq] at hj
        exact ⟨j, rfl, hj.1, hj.2, h2 _ H1 Z1 ι1 .refl hr1 itr_r⟩
      · rw [if_neg hj] at hd
        cases hd
  · cases hd
theorem qi_rng2 {p : Pos} (hg : Gl X "range") (hm : X.mg "range" = none) (ha : QA X C W [a, b] gs) (hs : starEach [a, b] X.env = [(false, eval a X.env), (false, eval b X.env)] := by rfl) (hs2 : starEach [b] X.env = [(false, eval b X.env)] := by rfl) : QI X C W tg (.Call (.Name "range" p) [a, b] [] pos) (gRng2 gs) := by
  obtain ⟨ta, pa, qa⟩ := ha
  refine ⟨_, pi_range2 hg hm pa hs (hs2 := hs2), fun σ H Z ι Γ M Q sl hr h => qa σ H Z ι Γ M _ sl hr (h.bind fun x M1 v H1 Z1 ι1 e1 hr1 r1 h1 => ?_)⟩
  obtain ⟨ds, hd, h2⟩ := Post.of_opR (γ := D) (δ := V) h1
  unfold rng2 at hd
  split at hd
  · rename_i i j
    cases r1 with
    | cons r rr =>
      cases r
      cases rr with
      | cons r2 rr =>
        cases r2
        cases rr
        by_cases hj : (inR i && inR j) = true
        · rw [if_pos hj] at hd
          cases hd
          simp only [inR, Bool.and_eq_true, decide_eq_true_eq] at hj
          exact ⟨i, j, rfl, ⟨hj.1.1, hj.1.2, hj.2.1, hj.2.2⟩, h2 _ H1 Z1 ι1 .refl hr1 itr_r⟩
        · rw [if_neg hj] at hd
          cases hd
  · cases hd
end

/-! ### targets -/
abbrev GG := D → Env → Option Env
abbrev GGs := List D → Env → Option Env
def gTo (i : Nat) : GG := fun d Γ => some (Γ.set i (some d))
def gToT (gs : GGs) : GG := fun d Γ => match d with
  | .tup ds => gs ds Γ
  | _ => none
def gToNil : GGs := fun ds Γ => match ds with
  | [] => some Γ
  | _ :: _ => none
def gToCons (g : GG) (gs : GGs) : GGs := fun ds Γ => match ds with
  | [] => none
  | d :: r => (g d Γ).bind fun Γ1 => gs r Γ1
def Wip (is : List Nat) (σ σ' : St) : Prop := ∀ vs : List Nat, (∀ i ∈ is, i ∈ vs) → wipe σ' vs = wipe σ vs
theorem wipe_set {σ : St} {i : Nat} {v : V} : ∀ {vs : List Nat}, i ∈ vs → wipe (σ.set i (some v)) vs = wipe σ vs
  | [], h => nomatch h
  | j :: vs, h => by
    show (wipe (σ.set i (some v)) vs).set j none = (wipe σ vs).set j none
    by_cases hm : i ∈ vs
    · rw [wipe_set hm]
    · have e : i = j := by
        rcases List.mem_cons.mp h with e | e
        · exact e
        · exact absurd e hm
      subst e
      have z : ∀ vs : List Nat, i ∉ vs → wipe (σ.set i (some v)) vs = (wipe σ vs).set i (some v) := by
        intro vs
        induction vs with
        | nil => intro _; rfl
        | cons k vs ih =>
          intro hk
          show (wipe (σ.set i (some v)) vs).set k none = ((wipe σ vs).set k none).set i (some v)
          rw [ih fun q => hk (List.mem_cons_of_mem _ q), List.set_comm _ _ (fun q => hk (by rw [q]; exact List.mem_cons_self))]
      rw [z vs hm, List.set_set]
def QG (X : Cx) (tg : Expr) (g : GG) (is : List Nat) : Prop := ∃ t, PG X tg t ∧ ∀ (v : V) (σ : St) (H Z : Hp) (ι : Nat → Addr) (n : Nat) (d : D) (Γ Γ' : Env) (Q : L2.St → Hp → Prop), Sub Z H → Slots X.K Z ι n Γ σ → Rp X.K Z ι n d v → g d Γ = some Γ' →
  (∀ σ', Slots X.K Z ι n Γ' σ' → Wip is σ σ' → Q σ' H) → t v σ H Q
def QGs (X : Cx) (tgs : List Expr) (g : GGs) (is : List Nat) : Prop := ∃ t, PGs X tgs t ∧ ∀ (vs : List V) (σ : St) (H Z : Hp) (ι : Nat → Addr) (n : Nat) (ds : List D) (Γ Γ' : Env) (Q : L2.St → Hp → Prop), Sub Z H → Slots X.K Z ι n Γ σ → Rps X.K Z ι n ds vs → g ds Γ = some Γ' →
  (∀ σ', Slots X.K Z ι n Γ' σ' → Wip is σ σ' → Q σ' H) → t vs σ H Q
section
variable {X : Cx} {e : Expr} {es : List Expr} {g : GG} {gs : GGs} {is js : List Nat} {pos : Pos}
theorem qg_name (i : Nat) {x : Str} (hN : X.N.Nodup) (hi : X.N[i]? = some x := by rfl) (hx : Loc X.env.scope x := by first | exact Or.inl rfl | exact Or.inr rfl)
    (hf : X.fn x = true ∨ X.env.scope.names.lookup x = some .local := by first | exact Or.inl rfl | exact Or.inr rfl) : QG X (.Name x pos) (gTo i) [i] := by
  refine ⟨_, pg_name hN hi hx hf, fun v σ H Z ι n d Γ Γ' Q hs sl r e h => ?_⟩
  cases e
  exact h _ (sl.set i r) fun vs hv => wipe_set (hv i (by simp))
theorem qgs_nil : QGs X [] gToNil [] := by
  refine ⟨_, pgs_nil, fun vs σ H Z ι n ds Γ Γ' Q hs sl r e h => ?_⟩
  cases r with
  | nil =>
    cases e
    exact ⟨rfl, h _ sl fun _ _ => rfl⟩
  | cons _ _ => cases e
theorem qgs_cons (h1 : QG X e g is) (h2 : QGs X es gs js) (hs : (assignEach (e :: es) X.env).map (·.2) = assign e X.env :: (assignEach es X.env).map (·.2) := by rfl) : QGs X (e :: es) (gToCons g gs) (is ++ js) := by
  obtain ⟨t1, p1, q1⟩ := h1
  obtain ⟨t2, p2, q2⟩ := h2
  refine ⟨_, pgs_cons p1 p2 hs, fun vs σ H Z ι n ds Γ Γ' Q hs sl r e h => ?_⟩
  cases r with
  | nil => cases e
  | cons r1 r2 =>
    rename_i d v ds vs
    have e' : (g d Γ).bind (fun Γ1 => gs ds Γ1) = some Γ' := e
    cases eg : g d Γ with
    | none => rw [eg] at e'; cases e'
    | some Γ1 =>
      rw [eg] at e'
      refine ⟨v, vs, rfl, q1 v σ H Z ι n d Γ Γ1 _ hs sl r1 eg fun σ1 s1 w1 => q2 vs σ1 H Z ι n ds Γ1 Γ' _ hs s1 r2 e' fun σ2 s2 w2 => h σ2 s2 fun us hu => ?_⟩
      rw [w2 us fun i hi => hu i (List.mem_append_right _ hi), w1 us fun i hi => hu i (List.mem_append_left _ hi)]
theorem qg_tup {k : Nat} {n : Nat} (hc : X.calm = true) (h : QGs X es gs is) (hn : (assignEach es X.env).length = n := by rfl) (hst : (assignEach es X.env).findIdx? (·.1) = none := by rfl) (hlen : ∀ ds Γ Γ', gs ds Γ = some Γ' → ds.length = n) : QG X (.Tuple es k pos) (gToT gs) is := by
  obtain ⟨t, p, q⟩ := h
  refine ⟨_, pg_tup hc p hn (hst := hst), fun v σ H Z ι m d Γ Γ' Q hs sl r e h => ?_⟩
  cases r with
  | tup s r =>
    have e' : gs _ Γ = some Γ' := e
    exact ⟨_, _, rfl, subT hs s, by rw [← r.length]; exact hlen _ _ _ e', q _ σ H Z ι m _ Γ Γ' Q hs sl r e' h⟩
  | _ => cases e
theorem len_nil : ∀ (ds : List D) (Γ Γ' : Env), gToNil ds Γ = some Γ' → ds.length = 0 := fun ds Γ Γ' e => by
  cases ds with
  | nil => rfl
  | cons _ _ => cases e
theorem len_cons {g : GG} {gs : GGs} {n : Nat} (h : ∀ (ds : List D) (Γ Γ' : Env), gs ds Γ = some Γ' → ds.length = n) : ∀ (ds : List D) (Γ Γ' : Env), gToCons g gs ds Γ = some Γ' → ds.length = n + 1 := fun ds Γ Γ' e => by
  cases ds with
  | nil => cases e
  | cons d ds =>
    have e' : (g d Γ).bind (fun Γ1 => gs ds Γ1) = some Γ' := e
    cases eg : g d Γ with
    | none => rw [eg] at e'; cases e'
    | some Γ1 =>
      rw [eg] at e'
      rw [List.length_cons, h _ _ _ e']
end

/-! ### statements -/
def PostS (X : Cx) (C : CT) (W : WX) (H Z : Hp) (ι : Nat → Addr) (M : List MO) (r : RS) (Dd : Ends) : Prop := match r with
  | .nx Γ M' => ∀ (σ' : L2.St) (H' Z' : Hp) (ι' : Nat → Addr), Ext H Z ι M.length H' Z' ι' M'.length → HR X.K H' Z' ι' M' → Slots X.K Z' ι' M'.length Γ σ' → Dd.nx σ' H'
  | .bk Γ M' => ∀ (σ' : L2.St) (H' Z' : Hp) (ι' : Nat → Addr), Ext H Z ι M.length H' Z' ι' M'.length → HR X.K H' Z' ι' M' → Slots X.K Z' ι' M'.length Γ σ' → Dd.bk σ' H'
  | .ct Γ M' => ∀ (σ' : L2.St) (H' Z' : Hp) (ι' : Nat → Addr), Ext H Z ι M.length H' Z' ι' M'.length → HR X.K H' Z' ι' M' → Slots X.K Z' ι' M'.length Γ σ' → Dd.ct σ' H'
  | .rt d M' => ∀ (v : V) (H' Z' : Hp) (ι' : Nat → Addr), Ext H Z ι M.length H' Z' ι' M'.length → HR X.K H' Z' ι' M' → Rp X.K Z' ι' M'.length d v → Dd.rt v H'
  | .exc c d Γ M' => ∀ (cls : Value) (dd : Option Addr) (σ' : L2.St) (H' Z' : Hp) (ι' : Nat → Addr), Ext H Z ι M.length H' Z' ι' M'.length → HR X.K H' Z' ι' M' → Slots X.K Z' ι' M'.length Γ σ' → ExcR X.K C H' Z' ι' M'.length c d cls dd → W cls dd σ' H'
  | .bad => False
def QS (X : Cx) (C : CT) (W : WX) (st : Stmt) (g : GS) : Prop := ∃ ts, PS X st ts ∧ ∀ (Dd : Ends) (σ : L2.St) (H Z : Hp) (ι : Nat → Addr) (Γ : Env) (M : List MO), Slots X.K Z ι M.length Γ σ → HR X.K H Z ι M → PostS X C W H Z ι M (g Γ M) Dd → ts Dd σ H
def QSs (X : Cx) (C : CT) (W : WX) (st : List Stmt) (g : GS) : Prop := ∃ ts, PSs X st ts ∧ ∀ (Dd : Ends) (σ : L2.St) (H Z : Hp) (ι : Nat → Addr) (Γ : Env) (M : List MO), Slots X.K Z ι M.length Γ σ → HR X.K H Z ι M → PostS X C W H Z ι M (g Γ M) Dd → ts Dd σ H
def R.thenS {α : Type} (Γ : Env) (r : R α) (f : α → List MO → RS) : RS := match r with
  | .ok a M => f a M
  | .exc c d M => .exc c d Γ M
  | .bad => .bad
def RS.next (r : RS) (f : Env → List MO → RS) : RS := match r with
  | .nx Γ M => f Γ M
  | r => r
def gPass : GS := fun Γ M => .nx Γ M
def gSeq (a b : GS) : GS := fun Γ M => (a Γ M).next b
def gExpr (ge : GE) : GS := fun Γ M => (ge Γ M).thenS Γ fun _ M1 => .nx Γ M1
def gRet (ge : GE) : GS := fun Γ M => (ge Γ M).thenS Γ fun d M1 => .rt d M1
def gRetN : GS := fun _ M => .rt .non M
def gIf (c : GT) (a b : GS) : GS := fun Γ M => (c Γ M).thenS Γ fun k M1 => if k = true then a Γ M1 else b Γ M1
def gAsg (ge : GE) (gg : GG) : GS := fun Γ M => (ge Γ M).thenS Γ fun d M1 => match gg d Γ with
  | some Γ' => .nx Γ' M1
  | none => .bad
def gBad : GS := fun _ _ => .bad
def gForget (is : List Nat) : GS := fun Γ M => .nx (forget Γ is) M
/-- a list of ours that stands in a slot is left as it is from now on -/
def gFz (i : Nat) : GS := fun Γ M => match Γ[i]? with
  | some (some (.ref k)) => match M[k]? with
    | some (.lst ds) => .nx (Γ.set i (some (.lst ds))) (M.set k .dead)
    | some (.dct ks vs) => .nx (Γ.set i (some (.dct ks vs))) (M.set k .dead)
    | _ => .bad
  | _ => .bad
/-- what the turn has made is dropped -/
def gCut (m : Nat) (r : RS) : RS := match r with
  | .nx Γ M => if m ≤ M.length ∧ cutOk m M = true then .nx (clean m Γ) (M.take m) else .bad
  | .ct Γ M => if m ≤ M.length ∧ cutOk m M = true then .ct (clean m Γ) (M.take m) else .bad
  | r => r
def gScope (a : GS) : GS := fun Γ M => gCut M.length (a Γ M)
/-- behind a loop's turn -/
def RS.turn (r : RS) (f : Env → List MO → RS) : RS := match r with
  | .nx Γ M => f Γ M
  | .ct Γ M => f Γ M
  | .bk Γ M => .nx Γ M
  | r => r
def optS (o : Option Env) (f : Env → RS) : RS := match o with
  | some Γ => f Γ
  | none => .bad
def gForL (gg : GG) (body : GS) : List D → GS
  | [] => gPass
  | d :: ds => fun Γ M => optS (gg d Γ) fun Γ1 => (body Γ1 M).turn (gForL gg body ds)
def gFor (gi : GI) (gg : GG) (body : GS) : GS := fun Γ M => (gi Γ M).thenS Γ fun ds M1 => gForL gg body ds Γ M1
section
variable {X : Cx} {C : CT} {W : WX} {H Z H1 Z1 : Hp} {ι ι1 : Nat → Addr} {M M1 : List MO} {Dd : Ends}
theorem PostS.shift {r : RS} (h : PostS X C W H Z ι M r Dd) (e : Ext H Z ι M.length H1 Z1 ι1 M1.length) (hr : HR X.K H1 Z1 ι1 M1) : PostS X C W H1 Z1 ι1 M1 r Dd := by
  cases r with
  | nx Γ M' => exact fun σ' H' Z' ι' e' => h σ' H' Z' ι' (e.trans e' hr.ali)
  | bk Γ M' => exact fun σ' H' Z' ι' e' => h σ' H' Z' ι' (e.trans e' hr.ali)
  | ct Γ M' => exact fun σ' H' Z' ι' e' => h σ' H' Z' ι' (e.trans e' hr.ali)
  | rt d M' => exact fun σ' H' Z' ι' e' => h σ' H' Z' ι' (e.trans e' hr.ali)
  | exc c d Γ M' => exact fun cls dd σ' H' Z' ι' e' => h cls dd σ' H' Z' ι' (e.trans e' hr.ali)
  | bad => exact h
theorem PostS.bind {α β : Type} {rp1 : RpK α β} {r : R α} {f : α → List MO → RS} {Γ : Env} {σ : St} {Q1 : β → Hp → Prop} (h : PostS X C W H Z ι M (r.thenS Γ f) Dd) (sl : Slots X.K Z ι M.length Γ σ)
    (k : ∀ (a : α) (M1 : List MO) (b : β) (H1 Z1 : Hp) (ι1 : Nat → Addr), Ext H Z ι M.length H1 Z1 ι1 M1.length → HR X.K H1 Z1 ι1 M1 → rp1 Z1 ι1 M1.length a b → PostS X C W H1 Z1 ι1 M1 (f a M1) Dd → Q1 b H1) :
    Post X C W rp1 σ H Z ι M r Q1 := by
  cases r with
  | ok a M' => exact fun b H' Z' ι' e' hr' rb => k a M' b H' Z' ι' e' hr' rb (PostS.shift (r := f a M') h e' hr')
  | exc c d M' => exact fun cls dd H' Z' ι' e' hr' rb => h cls dd σ H' Z' ι' e' hr' (sl.ext e') rb
  | bad => exact h
theorem PostS.next {r : RS} {f : Env → List MO → RS} {nx : L2.St → Hp → Prop} (h : PostS X C W H Z ι M (r.next f) Dd)
    (k : ∀ (Γ1 : Env) (M1 : List MO) (σ1 : L2.St) (H1 Z1 : Hp) (ι1 : Nat → Addr), Ext H Z ι M.length H1 Z1 ι1 M1.length → HR X.K H1 Z1 ι1 M1 → Slots X.K Z1 ι1 M1.length Γ1 σ1 → PostS X C W H1 Z1 ι1 M1 (f Γ1 M1) Dd → nx σ1 H1) :
    PostS X C W H Z ι M r { Dd with nx := nx } := by
  cases r with
  | nx Γ M' => exact fun σ' H' Z' ι' e' hr' sl => k Γ M' σ' H' Z' ι' e' hr' sl (PostS.shift (r := f Γ M') h e' hr')
  | bk Γ M' => exact h
  | ct Γ M' => exact h
  | rt d M' => exact h
  | exc c d Γ M' => exact h
  | bad => exact h
variable {st : Stmt} {rest : List Stmt} {e tg : Expr} {ge : GE} {gt : GT} {gg : GG} {g g2 : GS} {pos : Pos}
theorem qss_nil : QSs X C W [] gPass := ⟨_, pss_nil, fun Dd σ H Z ι Γ M sl hr h => h σ H Z ι .refl hr sl⟩
theorem qss_cons (h1 : QS X C W st g) (h2 : QSs X C W rest g2) : QSs X C W (st :: rest) (gSeq g g2) := by
  obtain ⟨t1, p1, q1⟩ := h1
  obtain ⟨t2, p2, q2⟩ := h2
  exact ⟨_, pss_cons p1 p2, fun Dd σ H Z ι Γ M sl hr h => q1 _ σ H Z ι Γ M sl hr (PostS.next h fun Γ1 M1 σ1 H1 Z1 ι1 e1 hr1 sl1 h1 => q2 Dd σ1 H1 Z1 ι1 Γ1 M1 sl1 hr1 h1)⟩
theorem qss_one (h1 : QS X C W st g) : QSs X C W [st] g := let ⟨t, p, q⟩ := h1; ⟨t, pss_one p, q⟩
theorem qss_never {sts : List Stmt} : QSs X C W sts gBad := ⟨_, pss_never, fun Dd σ H Z ι Γ M sl hr h => h⟩
/-- a step of our own behind a statement -/
theorem qs_ghost {g3 : GS} (h1 : QS X C W st g) (h : ∀ (Dd : Ends) (σ : L2.St) (H Z : Hp) (ι : Nat → Addr) (Γ : Env) (M : List MO), Slots X.K Z ι M.length Γ σ → HR X.K H Z ι M → PostS X C W H Z ι M (g3 Γ M) Dd → Dd.nx σ H) : QS X C W st (gSeq g g3) := by
  obtain ⟨t1, p1, q1⟩ := h1
  exact ⟨_, p1, fun Dd σ H Z ι Γ M sl hr hp => q1 Dd σ H Z ι Γ M sl hr (PostS.next (nx := Dd.nx) hp fun Γ1 M1 σ1 H1 Z1 ι1 e1 hr1 sl1 h1 => h Dd σ1 H1 Z1 ι1 Γ1 M1 sl1 hr1 h1)⟩
theorem qs_forget (is : List Nat) (h1 : QS X C W st g) : QS X C W st (gSeq g (gForget is)) := qs_ghost h1 fun Dd σ H Z ι Γ M sl hr h => h σ H Z ι .refl hr (sl.forget is)
theorem qs_fz (i : Nat) (h1 : QS X C W st g) : QS X C W st (gSeq g (gFz i)) := qs_ghost h1 fun Dd σ H Z ι Γ M sl hr h => by
  unfold gFz at h
  cases e : Γ[i]? with
  | none => rw [e] at h; exact h.elim
  | some o =>
    rw [e] at h
    cases o with
    | none => exact h.elim
    | some d =>
      cases d with
      | ref k =>
        simp only at h
        cases e2 : M[k]? with
        | none => rw [e2] at h; exact h.elim
        | some u =>
          rw [e2] at h
          cases u with
          | dead => exact h.elim
          | dki kvs0 => exact h.elim
          | obj nm fs => exact h.elim
          | lst ds =>
            obtain ⟨xs, r, hr1, x1, rp⟩ := hr.freeze e2
            obtain ⟨v, hv, rv⟩ := sl.2 i _ e
            cases rv
            have q := (sl.ext x1).set i rp
            have es : σ.set i (some (V.ref (ι k))) = σ := by
              have lt : i < σ.length := (List.getElem?_eq_some_iff.mp hv).1
              have ev : σ[i] = some (V.ref (ι k)) := (List.getElem?_eq_some_iff.mp hv).2
              rw [← ev, List.set_getElem_self]
            rw [es] at q
            exact h σ H _ ι x1 hr1 q
          | dct ks vs =>
            obtain ⟨ho, r, hr1, x1, rp⟩ := hr.freezeD e2
            obtain ⟨v, hv, rv⟩ := sl.2 i _ e
            cases rv
            have q := (sl.ext x1).set i rp
            have es : σ.set i (some (V.ref (ι k))) = σ := by
              have lt : i < σ.length := (List.getElem?_eq_some_iff.mp hv).1
              have ev : σ[i] = some (V.ref (ι k)) := (List.getElem?_eq_some_iff.mp hv).2
              rw [← ev, List.set_getElem_self]
            rw [es] at q
            exact h σ H _ ι x1 hr1 q
      | _ => exact h.elim
theorem qs_expr (ha : QE X C W e ge) (hs : swapsWith e none pos.line X.env = pure false := by rfl) : QS X C W (.Expr e pos) (gExpr ge) := by
  obtain ⟨ta, pa, qa⟩ := ha
  exact ⟨_, ps_expr pa hs, fun Dd σ H Z ι Γ M sl hr h => qa σ H Z ι Γ M _ sl hr (PostS.bind h sl fun x M1 v H1 Z1 ι1 e1 hr1 r1 h1 => h1 σ H1 Z1 ι1 .refl hr1 (sl.ext e1))⟩
theorem qs_ret (ha : QE X C W e ge) : QS X C W (.Return (some e) pos) (gRet ge) := by
  obtain ⟨ta, pa, qa⟩ := ha
  exact ⟨_, ps_ret pa, fun Dd σ H Z ι Γ M sl hr h => qa σ H Z ι Γ M _ sl hr (PostS.bind h sl fun x M1 v H1 Z1 ι1 e1 hr1 r1 h1 => h1 v H1 Z1 ι1 .refl hr1 r1)⟩
theorem qs_if {c : Expr} {a b : List Stmt} (hc : QT X C W c gt) (ha : QSs X C W a g) (hb : QSs X C W b g2) : QS X C W (.If c a b pos) (gIf gt g g2) := by
  obtain ⟨tc, pc, qc⟩ := hc
  obtain ⟨ta, pa, qa⟩ := ha
  obtain ⟨tb, pb, qb⟩ := hb
  refine ⟨_, ps_if pc pa pb, fun Dd σ H Z ι Γ M sl hr h => qc σ H Z ι Γ M _ sl hr (PostS.bind h sl fun x M1 v H1 Z1 ι1 e1 hr1 r1 h1 => ?_)⟩
  have r1' : x = v := r1
  subst r1'
  cases x with
  | true => exact qa Dd σ H1 Z1 ι1 Γ M1 (sl.ext e1) hr1 h1
  | false => exact qb Dd σ H1 Z1 ι1 Γ M1 (sl.ext e1) hr1 h1
theorem qs_asg {is : List Nat} (ha : QE X C W e ge) (hg : QG X tg gg is) (hs : swapsWithSole [tg] e pos.line X.env = pure false := by rfl) (hp : swappedStores [tg] e X.env = pure none := by rfl) (h1 : (assignEach [tg] X.env).map (·.2) = [assign tg X.env] := by rfl) : QS X C W (.Assign [tg] e pos) (gAsg ge gg) := by
  obtain ⟨ta, pa, qa⟩ := ha
  obtain ⟨t2, p2, q2⟩ := hg
  refine ⟨_, ps_asg pa p2 hs (hw := hp) (h1 := h1), fun Dd σ H Z ι Γ M sl hr h => qa σ H Z ι Γ M _ sl hr (PostS.bind h sl fun x M1 v H1 Z1 ι1 e1 hr1 r1 h1 => ?_)⟩
  cases eg : gg x Γ with
  | none => rw [eg] at h1; exact h1.elim
  | some Γ' =>
    rw [eg] at h1
    exact q2 v σ H1 Z1 ι1 M1.length x Γ Γ' _ hr1.sub (sl.ext e1) r1 eg fun σ' s' _ => h1 σ' H1 Z1 ι1 .refl hr1 s'

theorem qss_scope (h1 : QSs X C W rest g) : QSs X C W rest (gScope g) := by
  obtain ⟨t1, p1, q1⟩ := h1
  refine ⟨_, p1, fun Dd σ H Z ι Γ M sl hr h => q1 Dd σ H Z ι Γ M sl hr ?_⟩
  have h' : PostS X C W H Z ι M (gCut M.length (g Γ M)) Dd := h
  cases er : g Γ M with
  | nx Γ' M' =>
    rw [er] at h'
    by_cases hc : M.length ≤ M'.length ∧ cutOk M.length M' = true
    · have h2 : PostS X C W H Z ι M (if M.length ≤ M'.length ∧ cutOk M.length M' = true then .nx (clean M.length Γ') (M'.take M.length) else .bad) Dd := h'
      rw [if_pos hc] at h2
      have ln : (M'.take M.length).length = M.length := by rw [List.length_take]; omega
      intro σ' H' Z' ι' e1 hr1 sl1
      refine h2 σ' H' Z' ι' (by rw [ln]; exact e1.cut (Nat.le_refl _) hc.1) (hr1.cut hc.1 hc.2) (by rw [ln]; exact sl1.cut)
    · have h2 : PostS X C W H Z ι M (if M.length ≤ M'.length ∧ cutOk M.length M' = true then .nx (clean M.length Γ') (M'.take M.length) else .bad) Dd := h'
      rw [if_neg hc] at h2
      exact h2.elim
  | ct Γ' M' =>
    rw [er] at h'
    by_cases hc : M.length ≤ M'.length ∧ cutOk M.length M' = true
    · have h2 : PostS X C W H Z ι M (if M.length ≤ M'.length ∧ cutOk M.length M' = true then .ct (clean M.length Γ') (M'.take M.length) else .bad) Dd := h'
      rw [if_pos hc] at h2
      have ln : (M'.take M.length).length = M.length := by rw [List.length_take]; omega
      intro σ' H' Z' ι' e1 hr1 sl1
      refine h2 σ' H' Z' ι' (by rw [ln]; exact e1.cut (Nat.le_refl _) hc.1) (hr1.cut hc.1 hc.2) (by rw [ln]; exact sl1.cut)
    · have h2 : PostS X C W H Z ι M (if M.length ≤ M'.length ∧ cutOk M.length M' = true then .ct (clean M.length Γ') (M'.take M.length) else .bad) Dd := h'
      rw [if_neg hc] at h2
      exact h2.elim
  | bk Γ' M' => rw [er] at h'; exact h'
  | rt d M' => rw [er] at h'; exact h'
  | exc c d Γ' M' => rw [er] at h'; exact h'
  | bad => rw [er] at h'; exact h'
/-- a loop's turn: what is wanted behind it -/
theorem PostS.turn {r : RS} {f : Env → List MO → RS} {N : L2.St → Hp → Prop} (h : PostS X C W H Z ι M (r.turn f) Dd)
    (k : ∀ (Γ1 : Env) (M1 : List MO) (σ1 : L2.St) (H1 Z1 : Hp) (ι1 : Nat → Addr), Ext H Z ι M.length H1 Z1 ι1 M1.length → HR X.K H1 Z1 ι1 M1 → Slots X.K Z1 ι1 M1.length Γ1 σ1 → PostS X C W H1 Z1 ι1 M1 (f Γ1 M1) Dd → N σ1 H1) :
    PostS X C W H Z ι M r { Dd with nx := N, ct := N, bk := Dd.nx } := by
  cases r with
  | nx Γ M' => exact fun σ' H' Z' ι' e' hr' sl => k Γ M' σ' H' Z' ι' e' hr' sl (PostS.shift (r := f Γ M') h e' hr')
  | ct Γ M' => exact fun σ' H' Z' ι' e' hr' sl => k Γ M' σ' H' Z' ι' e' hr' sl (PostS.shift (r := f Γ M') h e' hr')
  | bk Γ M' => exact h
  | rt d M' => exact h
  | exc c d Γ M' => exact h
  | bad => exact h
theorem qs_for {iter : Expr} {body : List Stmt} {gi : GI} {is : List Nat} (hp : PassesOwn (model X.prog X.w) X.A X.env X.xe) (hc : X.calm = true) (hi : QI X C W tg iter gi) (hg : QG X tg gg is) (hb : QSs X C W body g)
    (hs : ∀ x, foldedSetIterable iter X.env x = pure x := by intro _; rfl) : QS X C W (.For tg iter body [] pos) (gFor gi gg g) := by
  obtain ⟨wi, pi, qi⟩ := hi
  obtain ⟨tg', pg, qg⟩ := hg
  obtain ⟨tb, pb, qb⟩ := hb
  refine ⟨_, ps_for hp hc pi pg pb hs, fun Dd σ H Z ι Γ M sl hr h => qi σ H Z ι Γ M _ sl hr (PostS.bind h sl fun ds M1 J H1 Z1 ι1 e1 hr1 rJ h1 => ?_)⟩
  refine ⟨fun i m σ' H' => ∃ (Z' : Hp) (ι' : Nat → Addr) (Γ' : Env) (M' : List MO), m = ds.length - i ∧ i ≤ ds.length ∧ Sub Z1 Z' ∧ (∀ k, k < M1.length → ι' k = ι1 k) ∧ M1.length ≤ M'.length ∧ HR X.K H' Z' ι' M' ∧ Slots X.K Z' ι' M'.length Γ' σ' ∧
    PostS X C W H' Z' ι' M' (gForL gg g (ds.drop i) Γ' M') Dd, ⟨ds.length, Z1, ι1, Γ, M1, rfl, Nat.zero_le _, fun _ _ z => z, fun _ _ => rfl, Nat.le_refl _, hr1, sl.ext e1, h1⟩, ?_⟩
  rintro i m σ' H' ⟨Z', ι', Γ', M', em, hle, hz, hii, hn, hr', sl', hp'⟩
  obtain ⟨hstop, hgo⟩ := rJ i H' Z' ι' M' hz hii hn hr' trivial
  by_cases hi : i < ds.length
  · refine .inr ?_
    have ed : ds.drop i = ds[i] :: ds.drop (i + 1) := List.drop_eq_getElem_cons hi
    obtain ⟨go, yl⟩ := hgo ds[i] (List.getElem?_eq_getElem hi)
    refine ⟨go, fun σ2 H2 => ∃ (Z2 : Hp) (ι2 : Nat → Addr) (Γ2 : Env) (M2 : List MO), Sub Z1 Z2 ∧ (∀ k, k < M1.length → ι2 k = ι1 k) ∧ M1.length ≤ M2.length ∧ HR X.K H2 Z2 ι2 M2 ∧ Slots X.K Z2 ι2 M2.length Γ2 σ2 ∧
      PostS X C W H2 Z2 ι2 M2 (gForL gg g (ds.drop (i + 1)) Γ2 M2) Dd, fun σ2 H2 hN => ?_, fun x H2 hy => ?_⟩
    · obtain ⟨Z2, ι2, Γ2, M2, a1, a2, a3, a4, a5, a6⟩ := hN
      exact ⟨ds.length - (i + 1), by omega, Z2, ι2, Γ2, M2, rfl, by omega, a1, a2, a3, a4, a5, a6⟩
    · obtain ⟨Z2, e2, hr2, rx⟩ := yl x H2 hy
      rw [ed] at hp'
      have hp2 := PostS.shift hp' e2 hr2
      have hb : PostS X C W H2 Z2 ι' M' (optS (gg ds[i] Γ') fun Γ1 => (g Γ1 M').turn (gForL gg g (ds.drop (i + 1)))) Dd := hp2
      cases eg : gg ds[i] Γ' with
      | none =>
        rw [eg] at hb
        exact hb.elim
      | some Γ1 =>
        rw [eg] at hb
        exact qg x σ' H2 Z2 ι' M'.length ds[i] Γ' Γ1 _ hr2.sub (sl'.ext e2) rx eg fun σ3 s3 _ => qb _ σ3 H2 Z2 ι' Γ1 M' s3 hr2 (PostS.turn hb fun Γ4 M4 σ4 H4 Z4 ι4 e4 hr4 s4 h4 =>
          ⟨Z4, ι4, Γ4, M4, fun a o z => e4.zz _ _ (e2.zz _ _ (hz _ _ z)), fun k hk => (e4.ii k (Nat.lt_of_lt_of_le hk hn)).trans (hii k hk), Nat.le_trans hn e4.ln, hr4, s4, h4⟩)
  · refine .inl ⟨hstop (by omega), ?_⟩
    rw [List.drop_eq_nil_of_le (Nat.le_of_not_lt hi)] at hp'
    exact hp' σ' H' Z' ι' .refl hr' sl'
end
end Bk

set_option Elab.async false
set_option linter.all false
set_option maxRecDepth 100000
set_option maxHeartbeats 2000000
namespace Bk
open PySem PySem.Spec PyProof.Rows L2

/-! ### a list made by a comprehension -/
/-- nothing may be raised -/
abbrev noW : WX := fun _ _ _ _ => False
theorem takes_no {X : Cx} : Takes X noW := fun u s' h => by
  unfold XE at h
  obtain ⟨_, _, _, _, _, _, _, h⟩ := h
  simp_all
/-- no exception goes on -/
def R.only {α β : Type} (r : R α) (f : α → List MO → R β) : R β := match r with
  | .ok a M => f a M
  | _ => .bad
def gLcL (gg : GG) (gt : GT) (ge : GE) (Γ : Env) : List D → List D → List MO → R (List D)
  | [], acc, M => .ok acc M
  | d :: ds, acc, M => match gg d Γ with
    | none => .bad
    | some Γ1 => (gt Γ1 M).only fun k M1 => if k = true then (ge Γ1 M1).only fun y M2 => if acc.length < sizeLine then gLcL gg gt ge Γ ds (acc ++ [y]) M2 else .bad else gLcL gg gt ge Γ ds acc M1
def gYes : GT := fun _ M => .ok true M
/-- the new list will not be changed -/
def gLc (gi : GI) (gg : GG) (gt : GT) (ge : GE) (own : List Nat) : GE := fun Γ M => (gi Γ M).bind fun ds M1 => (gLcL gg gt ge (forget Γ own) ds [] M1).bind fun acc M2 => .ok (.lst acc) M2
/-- the new list is ours -/
def gLcO (gi : GI) (gg : GG) (gt : GT) (ge : GE) (own : List Nat) : GE := fun Γ M => (gi Γ M).bind fun ds M1 => (gLcL gg gt ge (forget Γ own) ds [] M1).bind fun acc M2 => .ok (.ref M2.length) (M2 ++ [.lst acc])

section
variable {K : PySem.W.Frag} {H Z H0 Z0 : Hp} {ι ι0 : Nat → Addr} {M : List MO} {n0 : Nat} {p : Addr} {xs : List V} {ds : List D} {o : HO}
/-- a thing that is neither frozen nor ours -/
structure Odd (Z : Hp) (ι : Nat → Addr) (n : Nat) (p : Addr) : Prop where
  z : Z p = none
  i : ∀ k, k < n → ι k ≠ p
theorem HR.odd (h : HR K H Z ι M) (q : Odd Z ι M.length p) : HR K (upd H p o) Z ι M := by
  have lt : ∀ {k : Nat} {u : MO}, M[k]? = some u → k < M.length := fun e => (List.getElem?_eq_some_iff.mp e).1
  refine ⟨fun a u e => by rw [upd_ne (ne_of_none e q.z)]; exact h.sub _ _ e, fun k hk => by rw [upd_ne (q.i k hk)]; exact h.ali k hk, h.sep, h.inj, fun k u e => ?_, h.ded⟩
  exact OR.mono (fun _ _ z => z) (fun _ _ => rfl) (Nat.le_refl _) (fun o z => by rw [upd_ne (q.i k (lt e))]; exact z) (h.obj k u e)
theorem Odd.new (h : HR K H Z ι M) (hp : H p = none) : Odd Z ι M.length p := by
  refine ⟨?_, fun k hk e => ?_⟩
  · cases e : Z p with
    | none => rfl
    | some u =>
      rw [h.sub _ _ e] at hp
      cases hp
  · obtain ⟨u, hu⟩ := h.ali k hk
    rw [e, hp] at hu
    cases hu
theorem Odd.ext {H1 Z1 : Hp} {ι1 : Nat → Addr} {n n1 : Nat} {u : HO} (q : Odd Z ι n p) (hp : H p = some u) (e : Ext H Z ι n H1 Z1 ι1 n1) : Odd Z1 ι1 n1 p ∧ H1 p = some u := by
  refine ⟨⟨?_, fun k hk z => ?_⟩, e.fr p u hp fun k hk z => q.i k hk z.symm⟩
  · cases z : Z1 p with
    | none => rfl
    | some w =>
      rcases e.zn p w z with a | a | ⟨k, hk, a⟩
      · rw [q.z] at a; cases a
      · rw [hp] at a; cases a
      · exact absurd a.symm (q.i k hk)
  · by_cases hn : k < n
    · exact q.i k hn ((e.ii k hn).symm.trans z)
    · have w := e.nw k (Nat.le_of_not_lt hn) hk
      rw [z, hp] at w
      cases w
theorem Ext.touch {n : Nat} (e : Ext H0 Z0 ι0 n0 H Z ι n) (hp : H0 p = none) : Ext H0 Z0 ι0 n0 (upd H p o) Z ι n :=
  ⟨e.zz, e.ii, fun a u h1 h2 => by rw [upd_ne (ne_of_none h1 hp)]; exact e.fr a u h1 h2, e.nw, e.ln, e.zn⟩
theorem HR.adoptZ (h : HR K H Z ι M) (q : Odd Z ι M.length p) (hp : H p = some o) : HR K H (upd Z p o) ι M := by
  have s1 : Sub Z (upd Z p o) := fun a u e => by rw [upd_ne (ne_of_none e q.z)]; exact e
  refine ⟨fun a u e => ?_, h.ali, fun k u e d => by rw [upd_ne (q.i k (List.getElem?_eq_some_iff.mp e).1)]; exact h.sep k u e d, h.inj, fun k u e => ?_, fun k e => let ⟨u, hu⟩ := h.ded k e; ⟨u, s1 _ _ hu⟩⟩
  · by_cases ha : a = p
    · subst ha
      rw [upd_same] at e
      rw [← e]
      exact hp
    · rw [upd_ne ha] at e
      exact h.sub _ _ e
  · exact OR.mono s1 (fun _ _ => rfl) (Nat.le_refl _) (fun _ z => z) (h.obj k u e)
theorem Ext.adoptZ {n : Nat} (e : Ext H0 Z0 ι0 n0 H Z ι n) (hz : Z p = none) (hp : H0 p = none) : Ext H0 Z0 ι0 n0 H (upd Z p o) ι n :=
  ⟨fun a u h => by rw [upd_ne (ne_of_none (e.zz _ _ h) hz)]; exact e.zz _ _ h, e.ii, e.fr, e.nw, e.ln, fun a u h => by
    by_cases ha : a = p
    · subst ha
      exact .inr (.inl hp)
    · rw [upd_ne ha] at h
      exact e.zn a u h⟩
theorem HR.adoptM (h : HR K H Z ι M) (q : Odd Z ι M.length p) (hp : H p = some (.lst xs)) (r : Rps K Z ι M.length ds xs) : HR K H Z (put ι M.length p) (M ++ [.lst ds]) := by
  have ln : (M ++ [MO.lst ds]).length = M.length + 1 := by simp
  have cs : ∀ {k : Nat} {u : MO}, (M ++ [MO.lst ds])[k]? = some u → (k < M.length ∧ M[k]? = some u) ∨ (k = M.length ∧ u = .lst ds) := fun {k u} e => by
    by_cases hk : k < M.length
    · rw [List.getElem?_append_left hk] at e
      exact .inl ⟨hk, e⟩
    · rw [List.getElem?_append_right (Nat.le_of_not_lt hk)] at e
      by_cases hz : k - M.length = 0
      · rw [hz] at e
        exact .inr ⟨by omega, (Option.some.inj e).symm⟩
      · rw [List.getElem?_eq_none (by simp; omega)] at e
        cases e
  refine ⟨h.sub, fun k hk => ?_, fun k u e d => ?_, fun j k o u e1 e2 d1 d2 e => ?_, fun k u e => ?_, fun k e => ?_⟩
  · rw [ln] at hk
    by_cases hk' : k < M.length
    · rw [put_lt hk']
      exact h.ali k hk'
    · have : k = M.length := by omega
      subst this
      exact ⟨_, by rw [put_at]; exact hp⟩
  · rcases cs e with ⟨hk, e⟩ | ⟨rfl, rfl⟩
    · rw [put_lt hk]
      exact h.sep k u e d
    · rw [put_at]
      exact q.z
  · rcases cs e1 with ⟨hj, e1⟩ | ⟨rfl, rfl⟩ <;> rcases cs e2 with ⟨hk, e2⟩ | ⟨rfl, rfl⟩
    · rw [put_lt hj, put_lt hk] at e
      exact h.inj j k o u e1 e2 d1 d2 e
    · rw [put_lt hj, put_at] at e
      exact absurd e (q.i j hj)
    · rw [put_lt hk, put_at] at e
      exact absurd e.symm (q.i k hk)
    · rfl
  · rcases cs e with ⟨hk, e⟩ | ⟨rfl, rfl⟩
    · rw [put_lt hk]
      exact OR.mono (fun _ _ z => z) (fun _ z => put_lt z) (by rw [ln]; omega) (fun _ z => z) (h.obj k u e)
    · rw [put_at]
      exact ⟨xs, hp, Rps.mono (fun _ _ z => z) (fun _ z => put_lt z) (by rw [ln]; omega) _ _ r⟩
  · rcases cs e with ⟨hk, e⟩ | ⟨_, e⟩
    · rw [put_lt hk]
      exact h.ded k e
    · cases e
theorem Ext.adoptM (e : Ext H0 Z0 ι0 n0 H Z ι M.length) (hp : H0 p = none) : Ext H0 Z0 ι0 n0 H Z (put ι M.length p) (M ++ [MO.lst ds]).length := by
  have ln : (M ++ [MO.lst ds]).length = M.length + 1 := by simp
  refine ⟨e.zz, fun k hk => (put_lt (Nat.lt_of_lt_of_le hk e.ln)).trans (e.ii k hk), e.fr, fun k h1 h2 => ?_, by rw [ln]; have := e.ln; omega, e.zn⟩
  rw [ln] at h2
  by_cases hk : k < M.length
  · rw [put_lt hk]
    exact e.nw k h1 hk
  · have : k = M.length := by omega
    subst this
    rw [put_at]
    exact hp
end
theorem wipe_at {σ : St} : ∀ (vs : List Nat) (i : Nat), (wipe σ vs)[i]? = if i ∈ vs ∧ i < σ.length then some none else σ[i]?
  | [], i => by simp [wipe]
  | v :: vs, i => by
    have ih := wipe_at (σ := σ) vs i
    have ln := wipe_length σ vs
    show ((wipe σ vs).set v none)[i]? = _
    by_cases hv : v = i
    · subst hv
      by_cases hl : v < σ.length
      · rw [List.getElem?_set_self (by rw [ln]; exact hl), if_pos ⟨List.mem_cons_self, hl⟩]
      · rw [if_neg (fun z => hl z.2), List.getElem?_eq_none (by rw [List.length_set, ln]; omega), List.getElem?_eq_none (by omega)]
    · rw [List.getElem?_set_ne hv, ih]
      have : (i ∈ v :: vs) ↔ i ∈ vs := by simp only [List.mem_cons]; exact ⟨fun z => z.elim (fun e => absurd e.symm hv) id, .inr⟩
      simp only [this]
theorem wipe_wipe {σ : St} (vs : List Nat) : wipe (wipe σ vs) vs = wipe σ vs := by
  refine List.ext_getElem? fun i => ?_
  rw [wipe_at, wipe_length, wipe_at]
  split <;> rfl
theorem slots_wipe {K : PySem.W.Frag} {Z : Hp} {ι : Nat → Addr} {n : Nat} {σ : St} : ∀ (vs : List Nat) {Γ : Env}, Slots K Z ι n Γ σ → Slots K Z ι n (forget Γ vs) (wipe σ vs) := by
  have one : ∀ (vs : List Nat) (Γ : Env) (i : Nat) (d : D), (forget Γ vs)[i]? = some (some d) → Γ[i]? = some (some d) ∧ i ∉ vs := by
    intro vs
    induction vs with
    | nil => intro Γ i d h; exact ⟨h, by simp⟩
    | cons v vs ih =>
      intro Γ i d h
      obtain ⟨h1, h2⟩ := ih (Γ.set v none) i d h
      by_cases hv : v = i
      · subst hv
        have lt : v < Γ.length := by
          have := (List.getElem?_eq_some_iff.mp h1).1
          rw [List.length_set] at this
          exact this
        rw [List.getElem?_set_self lt] at h1
        cases h1
      · rw [List.getElem?_set_ne hv] at h1
        exact ⟨h1, by simp only [List.mem_cons, not_or]; exact ⟨fun e => hv e.symm, h2⟩⟩
  have keep : ∀ (vs : List Nat) (i : Nat), i ∉ vs → (wipe σ vs)[i]? = σ[i]? := by
    intro vs
    induction vs with
    | nil => intro i _; rfl
    | cons v vs ih =>
      intro i h
      show ((wipe σ vs).set v none)[i]? = _
      rw [List.getElem?_set_ne (fun e => h (by rw [e]; exact List.mem_cons_self))]
      exact ih i fun z => h (List.mem_cons_of_mem _ z)
  have len : ∀ (vs : List Nat) (Γ : Env), (forget Γ vs).length = Γ.length := by
    intro vs
    induction vs with
    | nil => intro Γ; rfl
    | cons v vs ih => intro Γ; exact (ih _).trans List.length_set
  intro vs Γ sl
  refine ⟨by rw [len, wipe_length]; exact sl.1, fun i d h => ?_⟩
  obtain ⟨h1, h2⟩ := one vs Γ i d h
  obtain ⟨v, e, r⟩ := sl.2 i d h1
  exact ⟨v, by rw [keep vs i h2]; exact e, r⟩
section
variable {X : Cx} {C : CT} {W : WX}
abbrev Blk (X : Cx) (scope : Scope) (F : Cx → Prop) : Prop := ∀ (s : Shared) (H : Hp) (c : Addr) (cl : List (Str × Addr)) (fp : List Addr), F (X.blk s H scope (compEnvC scope cl c X.env) fp)
/-- the readings that the functions are: the same in every block -/
def liftE (K : PySem.W.Frag) (X : Cx) (C : CT) (W : WX) (g : GE) : TE := fun σ H Q => ∃ (Z : Hp) (ι : Nat → Addr) (Γ : Env) (M : List MO), Slots K Z ι M.length Γ σ ∧ HR K H Z ι M ∧ Post X C W (rpE K) σ H Z ι M (g Γ M) Q
def liftT (K : PySem.W.Frag) (X : Cx) (C : CT) (W : WX) (g : GT) : TT := fun σ H Q => ∃ (Z : Hp) (ι : Nat → Addr) (Γ : Env) (M : List MO), Slots K Z ι M.length Γ σ ∧ HR K H Z ι M ∧ Post X C W rpT σ H Z ι M (g Γ M) Q
def liftG (K : PySem.W.Frag) (g : GG) (is : List Nat) : TG := fun v σ H Q => ∃ (Z : Hp) (ι : Nat → Addr) (n : Nat) (d : D) (Γ Γ' : Env), Sub Z H ∧ Slots K Z ι n Γ σ ∧ Rp K Z ι n d v ∧ g d Γ = some Γ' ∧ ∀ σ', Slots K Z ι n Γ' σ' → Wip is σ σ' → Q σ' H
def QTs (X : Cx) (C : CT) (W : WX) (es : List Expr) (g : GT) : Prop := ∃ te, PTs X es te ∧ ∀ (σ : St) (H Z : Hp) (ι : Nat → Addr) (Γ : Env) (M : List MO) (Q : Bool → Hp → Prop), Slots X.K Z ι M.length Γ σ → HR X.K H Z ι M → Post X C W rpT σ H Z ι M (g Γ M) Q → te σ H Q
theorem qts_nil : QTs X C W [] gYes := ⟨_, pts_nil, fun σ H Z ι Γ M Q sl hr h => h true H Z ι .refl hr rfl⟩
theorem qts_one {c : Expr} {g : GT} (h : QT X C W c g) : QTs X C W [c] g := let ⟨t, p, q⟩ := h; ⟨t, pts_one p, q⟩
theorem Post.blk {α β : Type} {X Y : Cx} {rp : RpK α β} {σ : St} {H Z : Hp} {ι : Nat → Addr} {M : List MO} {r : R α} {Q : β → Hp → Prop} (e : X.K = Y.K) (h : Post X C W rp σ H Z ι M r Q) : Post Y C W rp σ H Z ι M r Q := by
  cases r with
  | ok a M' =>
    intro b H' Z' ι' e' hr rb
    exact h b H' Z' ι' e' (by rw [e]; exact hr) rb
  | exc c d M' =>
    intro cls dd H' Z' ι' e' hr rb
    exact h cls dd H' Z' ι' e' (by rw [e]; exact hr) (by rw [e]; exact rb)
  | bad => exact h
theorem gLcL_run {cd : List MO → Prop} {gg : GG} {gt : GT} {ge : GE} {is own : List Nat} {σ : St} {Γ0 : Env} {fin : List D → List MO → R D} {Q : VK} {J : It} {p : Addr}
    {ds : List D} {H0 Z0 : Hp} {ι0 : Nat → Addr} {M0 : List MO} (hsub : ∀ i ∈ is, i ∈ own) (sl : Slots X.K Z0 ι0 M0.length Γ0 (wipe σ own)) (rJ : ItC cd X.K J ds Z0 ι0 M0.length) (cd0 : cd M0) (cdt : ∀ Γ M d M', gt Γ M = .ok d M' → cd M → cd M') (cde : ∀ Γ M d M', ge Γ M = .ok d M' → cd M → cd M') (hp0 : H0 p = none) (hr0 : HR X.K H0 Z0 ι0 M0)
    (h : Post X C W (rpE X.K) σ H0 Z0 ι0 M0 ((gLcL gg gt ge Γ0 ds [] M0).bind fin) Q)
    (hfin : ∀ (acc : List D) (accV : List V) (M : List MO) (H Z : Hp) (ι : Nat → Addr), Ext H0 Z0 ι0 M0.length H Z ι M.length → HR X.K H Z ι M → Odd Z ι M.length p → H p = some (.lst accV) → Rps X.K Z ι M.length acc accV → Post X C W (rpE X.K) σ H0 Z0 ι0 M0 (fin acc M) Q → Q (.ref p) H) :
    ∃ Wv : Nat → Nat → Hp → Prop, (∃ m, Wv 0 m (upd H0 p (.lst []))) ∧ ∀ i m H, Wv i m H →
      (J.stop i H ∧ Q (.ref p) H) ∨ (J.go i H ∧ ∃ Nx : Hp → Prop, (∀ H', Nx H' → ∃ m', m' < m ∧ Wv (i + 1) m' H') ∧ ∀ x H', J.yld i H x H' → liftG X.K gg is x (wipe σ own) H' fun σ2 H2 => wipe σ2 own = wipe σ own ∧ liftT X.K X C noW gt σ2 H2 fun b H3 =>
        if b = true then liftE X.K X C noW ge σ2 H3 fun y H4 => ∃ acc, H4 p = some (.lst acc) ∧ acc.length < sizeLine ∧ Nx (upd H4 p (.lst (acc ++ [y]))) else Nx H3) := by
  let Inv' : Nat → Hp → Prop := fun i H => ∃ (Z : Hp) (ι : Nat → Addr) (M : List MO) (acc : List D) (accV : List V), Ext H0 Z0 ι0 M0.length H Z ι M.length ∧ HR X.K H Z ι M ∧ Odd Z ι M.length p ∧ H p = some (.lst accV) ∧ Rps X.K Z ι M.length acc accV ∧ cd M ∧
    Post X C W (rpE X.K) σ H0 Z0 ι0 M0 ((gLcL gg gt ge Γ0 (ds.drop i) acc M).bind fin) Q
  have q0 : Odd Z0 ι0 M0.length p := .new hr0 hp0
  refine ⟨fun i m H => m = ds.length - i ∧ i ≤ ds.length ∧ Inv' i H, ⟨ds.length, rfl, Nat.zero_le _, Z0, ι0, M0, [], [], (Ext.refl).touch hp0, hr0.odd q0, q0, upd_same, .nil, cd0, h⟩, ?_⟩
  rintro i m H ⟨em, hle, Z, ι, M, acc, accV, e1, hr1, od, hp, ra, cdM, hpost⟩
  obtain ⟨hstop, hgo⟩ := rJ i H Z ι M e1.zz e1.ii e1.ln hr1 cdM
  by_cases hi : i < ds.length
  · refine .inr ?_
    have ed : ds.drop i = ds[i] :: ds.drop (i + 1) := List.drop_eq_getElem_cons hi
    obtain ⟨go, yl⟩ := hgo ds[i] (List.getElem?_eq_getElem hi)
    refine ⟨go, Inv' (i + 1), fun H' hN => ⟨ds.length - (i + 1), by omega, rfl, by omega, hN⟩, fun x H2 hy => ?_⟩
    obtain ⟨Z2, e2, hr2, rx⟩ := yl x H2 hy
    obtain ⟨od2, hp2⟩ := od.ext hp e2
    have e12 := e1.trans e2 hr1.ali
    rw [ed] at hpost
    cases eg : gg ds[i] Γ0 with
    | none =>
      have z : gLcL gg gt ge Γ0 (ds[i] :: ds.drop (i + 1)) acc M = .bad := by
        unfold gLcL
        rw [eg]
      rw [z] at hpost
      exact hpost.elim
    | some Γ1 =>
      have z : gLcL gg gt ge Γ0 (ds[i] :: ds.drop (i + 1)) acc M = ((gt Γ1 M).only fun k M1 => if k = true then (ge Γ1 M1).only fun y M2 => if acc.length < sizeLine then gLcL gg gt ge Γ0 (ds.drop (i + 1)) (acc ++ [y]) M2 else .bad
          else gLcL gg gt ge Γ0 (ds.drop (i + 1)) acc M1) := by
        conv => lhs; unfold gLcL
        rw [eg]
      rw [z] at hpost
      refine ⟨Z2, ι, M.length, ds[i], Γ0, Γ1, hr2.sub, sl.ext e12, rx, eg, fun σ2 s2 w2 => ⟨(w2 own hsub).trans (wipe_wipe own), Z2, ι, Γ1, M, s2, hr2, ?_⟩⟩
      cases et : gt Γ1 M with
      | bad => rw [et] at hpost; exact hpost.elim
      | exc c d M' => rw [et] at hpost; exact hpost.elim
      | ok k M3 =>
        rw [et] at hpost
        intro b H3 Z3 ι3 e3 hr3 hb
        have hb' : k = b := hb
        subst hb'
        obtain ⟨od3, hp3⟩ := od2.ext hp2 e3
        have e13 := e12.trans e3 hr2.ali
        have ra3 := (ra.ext e2).ext e3
        cases k with
        | false => exact ⟨Z3, ι3, M3, acc, accV, e13, hr3, od3, hp3, ra3, cdt _ _ _ _ et cdM, hpost⟩
        | true =>
          rw [if_pos rfl]
          refine ⟨Z3, ι3, Γ1, M3, s2.ext e3, hr3, ?_⟩
          have hpost2 : Post X C W (rpE X.K) σ H0 Z0 ι0 M0 (((ge Γ1 M3).only fun y M2 => if acc.length < sizeLine then gLcL gg gt ge Γ0 (ds.drop (i + 1)) (acc ++ [y]) M2 else .bad).bind fin) Q := hpost
          cases ee : ge Γ1 M3 with
          | bad => rw [ee] at hpost2; exact hpost2.elim
          | exc c d M' => rw [ee] at hpost2; exact hpost2.elim
          | ok y M4 =>
            rw [ee] at hpost2
            have hpost3 : Post X C W (rpE X.K) σ H0 Z0 ι0 M0 ((if acc.length < sizeLine then gLcL gg gt ge Γ0 (ds.drop (i + 1)) (acc ++ [y]) M4 else .bad).bind fin) Q := hpost2
            by_cases hz : acc.length < sizeLine
            · rw [if_pos hz] at hpost3
              intro v H4 Z4 ι4 e4 hr4 rv
              obtain ⟨od4, hp4⟩ := od3.ext hp3 e4
              have ra4 := ra3.ext e4
              exact ⟨accV, hp4, by rw [← ra4.length]; exact hz, Z4, ι4, M4, acc ++ [y], accV ++ [v], (e13.trans e4 hr3.ali).touch hp0, hr4.odd od4, od4, upd_same, ra4.append (.cons rv .nil), cde _ _ _ _ ee (cdt _ _ _ _ et cdM), hpost3⟩
            · rw [if_neg hz] at hpost3
              exact hpost3.elim
  · refine .inl ⟨hstop (by omega), ?_⟩
    rw [List.drop_eq_nil_of_le (Nat.le_of_not_lt hi)] at hpost
    exact hfin acc accV M H Z ι e1 hr1 od hp ra hpost

theorem lc_read {own : List Nat} {gi : GI} {gg : GG} {gt : GT} {ge : GE} {is : List Nat} {wi : TI} {fin : List D → List MO → R D}
    (qi : ∀ (σ : St) (H Z : Hp) (ι : Nat → Addr) (Γ : Env) (M : List MO) (Q : It → Hp → Prop), Slots X.K Z ι M.length Γ σ → HR X.K H Z ι M → Post X C W (rpI X.K) σ H Z ι M (gi Γ M) Q → wi σ H Q) (hsub : ∀ i ∈ is, i ∈ own)
    (hfin : ∀ (σ : St) (H0 Z0 : Hp) (ι0 : Nat → Addr) (M0 : List MO) (p : Addr) (Q : VK) (acc : List D) (accV : List V) (M : List MO) (H Z : Hp) (ι : Nat → Addr), H0 p = none → Ext H0 Z0 ι0 M0.length H Z ι M.length → HR X.K H Z ι M → Odd Z ι M.length p → H p = some (.lst accV) →
      Rps X.K Z ι M.length acc accV → Post X C W (rpE X.K) σ H0 Z0 ι0 M0 (fin acc M) Q → Q (.ref p) H)
    (σ : St) (H Z : Hp) (ι : Nat → Addr) (Γ : Env) (M : List MO) (Q : VK) (sl : Slots X.K Z ι M.length Γ σ) (hr : HR X.K H Z ι M)
    (h : Post X C W (rpE X.K) σ H Z ι M ((gi Γ M).bind fun ds M1 => (gLcL gg gt ge (forget Γ own) ds [] M1).bind fin) Q) :
    tLc wi (liftG X.K gg is) (liftT X.K X C noW gt) (liftE X.K X C noW ge) own σ H Q :=
  qi σ H Z ι Γ M _ sl hr (h.bind fun ds M1 J H1 Z1 ι1 e1 hr1 rJ h1 => fun p hp =>
    gLcL_run hsub (slots_wipe _ (sl.ext e1)) rJ trivial (fun _ _ _ _ _ _ => trivial) (fun _ _ _ _ _ _ => trivial) hp hr1 h1 fun acc accV M' H' Z' ι' a1 a2 a3 a4 a5 a6 => hfin σ H1 Z1 ι1 M1 p Q acc accV M' H' Z' ι' hp a1 a2 a3 a4 a5 a6)
theorem blk_g {tg : Expr} {scope : Scope} {gg : GG} {is : List Nat} (hg : Blk X scope fun Y => QG Y tg gg is) : Blk X scope fun Y => PG Y tg (liftG X.K gg is) := fun s H c cl fp => by
  obtain ⟨t, p, q⟩ := hg s H c cl fp
  exact ⟨fun pins s σ H v u Q I r h => p.run pins s σ H v u Q I r (let ⟨Z, ι, n, d, Γ, Γ', h1, h2, h3, h4, h5⟩ := h; q v σ H Z ι n d Γ Γ' Q h1 h2 h3 h4 h5)⟩
theorem blk_t {ifs : List Expr} {scope : Scope} {gt : GT} (ht : Blk X scope fun Y => QTs Y C noW ifs gt) : Blk X scope fun Y => PTs Y ifs (liftT X.K X C noW gt) := fun s H c cl fp => by
  obtain ⟨t, p, q⟩ := ht s H c cl fp
  exact ⟨fun pins s σ H Q I h => p.run pins s σ H Q I (let ⟨Z, ι, Γ, M, h1, h2, h3⟩ := h; q σ H Z ι Γ M Q h1 h2 (h3.blk rfl))⟩
theorem blk_e {elt : Expr} {scope : Scope} {ge : GE} (he : Blk X scope fun Y => QE Y C noW elt ge) : Blk X scope fun Y => PE Y elt (liftE X.K X C noW ge) := fun s H c cl fp => by
  obtain ⟨t, p, q⟩ := he s H c cl fp
  exact ⟨fun pins s σ H Q I h => p.run pins s σ H Q I (let ⟨Z, ι, Γ, M, h1, h2, h3⟩ := h; q σ H Z ι Γ M Q h1 h2 (h3.blk rfl))⟩
theorem fin_z {σ : St} {H0 Z0 : Hp} {ι0 : Nat → Addr} {M0 : List MO} {p : Addr} {Q : VK} {acc : List D} {accV : List V} {M : List MO} {H Z : Hp} {ι : Nat → Addr} (h0 : H0 p = none) (e : Ext H0 Z0 ι0 M0.length H Z ι M.length) (hr : HR X.K H Z ι M) (od : Odd Z ι M.length p) (hp : H p = some (.lst accV))
    (ra : Rps X.K Z ι M.length acc accV) (h : Post X C W (rpE X.K) σ H0 Z0 ι0 M0 (.ok (.lst acc) M) Q) : Q (.ref p) H :=
  h _ H _ ι (e.adoptZ od.z h0) (hr.adoptZ od hp) (.lst (.inl (.inl upd_same)) (Rps.mono (fun a u q => by rw [upd_ne (ne_of_none q od.z)]; exact q) (fun _ _ => rfl) (Nat.le_refl _) _ _ ra))
section
variable {elt tg iter : Expr} {ifs : List Expr} {scope : Scope} {own : List (Str × Nat)} {pos spos py : Pos} {gi : GI} {gg : GG} {gt : GT} {ge : GE} {is ixs : List Nat}
theorem qe_lc (hc : X.calm = true) (hN : X.N.Nodup) (hi : QI X C W tg iter gi) (ok : BlkOk X.N X.env.scope scope own)
    (hg : Blk X scope fun Y => QG Y tg gg is) (ht : Blk X scope fun Y => QTs Y C noW ifs gt) (he : Blk X scope fun Y => QE Y C noW elt ge) (hix : ixs = own.map (·.2) := by rfl) (hsub : ∀ i ∈ is, i ∈ own.map (·.2) := by decide) (hs : ∀ x, foldedSetIterable iter X.env x = pure x := by intro _; rfl) :
    QE X C W (.ListComp elt [⟨tg, iter, ifs, 0⟩] scope pos) (gLc gi gg gt ge ixs) := by
  subst hix
  obtain ⟨wi, pi, qi⟩ := hi
  exact ⟨_, pe_lc hc hN pi ok (blk_g hg) (blk_t ht) (blk_e he) hs, lc_read qi hsub fun σ H0 Z0 ι0 M0 p Q acc accV M H Z ι h0 e hr od hp ra h => fin_z h0 e hr od hp ra h⟩
/-- y = [..]: the model stores the list within the comprehension -/
theorem qs_lc {i : Nat} {y : Str} (hc : X.calm = true) (hN : X.N.Nodup) (hy : X.N[i]? = some y) (hyl : X.env.scope.names.lookup y = some .local) (hsw : swapsWith (.ListComp elt [⟨tg, iter, ifs, 0⟩] scope pos) (some (.Name y py)) spos.line X.env = pure true)
    (hi : QI X C W tg iter gi) (ok : BlkOk X.N X.env.scope scope own) (hg : Blk X scope fun Y => QG Y tg gg is) (ht : Blk X scope fun Y => QTs Y C noW ifs gt) (he : Blk X scope fun Y => QE Y C noW elt ge)
    (hix : ixs = own.map (·.2) := by rfl) (hsub : ∀ i ∈ is, i ∈ own.map (·.2) := by decide) (hs : ∀ x, foldedSetIterable iter X.env x = pure x := by intro _; rfl) : QS X C W (.Assign [.Name y py] (.ListComp elt [⟨tg, iter, ifs, 0⟩] scope pos) spos) (gAsg (gLc gi gg gt ge ixs) (gTo i)) := by
  subst hix
  obtain ⟨wi, pi, qi⟩ := hi
  refine ⟨_, ps_setLc hc hN hy hyl hsw pi ok (blk_g hg) (blk_t ht) (blk_e he) hs, fun Dd σ H Z ι Γ M sl hr h => ?_⟩
  refine lc_read qi hsub (fin := fun acc M2 => .ok (.lst acc) M2) (fun σ H0 Z0 ι0 M0 p Q acc accV M H Z ι h0 e hr od hp ra h => fin_z h0 e hr od hp ra h) σ H Z ι Γ M _ sl hr (PostS.bind (Γ := Γ) h sl fun x M1 v H1 Z1 ι1 e1 hr1 r1 h1 => ?_)
  exact h1 _ H1 Z1 ι1 .refl hr1 ((sl.ext e1).set i r1)
end
end
end Bk

set_option Elab.async false
set_option linter.all false
set_option maxRecDepth 100000
set_option maxHeartbeats 2000000
namespace Bk
open PySem PySem.Spec PyProof.Rows L2

/-! ### calls: what of ours is handed over is lent, and comes back changed -/
/-- the arguments as the callee sees them, and which things of ours are lent -/
def lendA : Nat → List D → List D
  | _, [] => []
  | m, .ref _ :: r => .ref m :: lendA (m + 1) r
  | m, d :: r => d :: lendA m r
def lendK : List D → List Nat
  | [] => []
  | .ref k :: r => k :: lendK r
  | _ :: r => lendK r
def getAll (M : List MO) : List Nat → Option (List MO)
  | [] => some []
  | k :: ks => match M[k]?, getAll M ks with
    | some o, some os => some (o :: os)
    | _, _ => none
def setAll (M : List MO) : List Nat → List MO → List MO
  | k :: ks, o :: os => setAll (M.set k o) ks os
  | _, _ => M
def isDead : MO → Bool
  | .dead => true
  | _ => false
/-- no refs but at the top -/
def flatArgs : List D → Bool
  | [] => true
  | .ref _ :: r => flatArgs r
  | d :: r => below 0 d && flatArgs r
def lentOk (os : List MO) : Bool := os.all fun o => !isDead o && belowO 0 o
def backD (ks : List Nat) (n : Nat) : D → Option D
  | .ref j => if j < ks.length then (ks[j]?).map D.ref else some (.ref (n + (j - ks.length)))
  | d => if below 0 d = true then some d else none
/-- nothing is lent: nothing comes back -/
def callF (F : List D → List MO → R D) (ds : List D) (M : List MO) : R D := match getAll M (lendK ds) with
  | none => .bad
  | some os => if (lendK ds).Nodup ∧ flatArgs ds = true ∧ lentOk os = true then
      match F (lendA 0 ds) os with
      | .ok d os' => if (lendK ds).length ≤ os'.length ∧ os'.all (belowO 0) = true then
          match backD (lendK ds) M.length d with
          | some d' => .ok d' (setAll M (lendK ds) os' ++ os'.drop (lendK ds).length)
          | none => .bad
        else .bad
      | .exc c d os' => if (lendK ds).length ≤ os'.length ∧ os'.all (belowO 0) = true ∧ below 0 d = true then .exc c d (setAll M (lendK ds) os' ++ os'.drop (lendK ds).length) else .bad
      | .bad => .bad
    else .bad
def gCallF (n : Nat) (F : List D → List MO → R D) (ga : GA) : GE := fun Γ M => (ga Γ M).bind fun ds M1 => if ds.length = n then callF F ds M1 else .bad
/-- positional values, then the keywords' values, in the parameters' order -/
def pick {α : Type} (l : List α) : List Nat → List α
  | [] => []
  | i :: is => match l[i]? with
    | some a => a :: pick l is
    | none => pick l is
def gCallK (n : Nat) (F : List D → List MO → R D) (is : List Nat) (ga gk : GA) : GE := fun Γ M => (ga Γ M).bind fun ds M1 => (gk Γ M1).bind fun es M2 => if (pick (ds ++ es) is).length = n then callF F (pick (ds ++ es) is) M2 else .bad

section
variable {K : PySem.W.Frag} {Z : Hp} {ι : Nat → Addr} {n : Nat}
/-- which address stands for which lent thing -/
def lentι (ι : Nat → Addr) (ks : List Nat) : Nat → Addr := fun j => ι (ks.getD j 0)
theorem lend_rps : ∀ (ds : List D) (vs : List V) (pre : List Nat), flatArgs ds = true → Rps K Z ι n ds vs → Rps K Z (lentι ι (pre ++ lendK ds)) (pre ++ lendK ds).length (lendA pre.length ds) vs
  | [], _, _, _, h => by cases h; exact .nil
  | .ref k :: r, _, pre, hf, h => by
    cases h with
    | cons r1 rs =>
      cases r1 with
      | ref hk =>
        have ih := lend_rps r _ (pre ++ [k]) (by simpa [flatArgs] using hf) rs
        have e : pre ++ [k] ++ lendK r = pre ++ lendK (.ref k :: r) := by simp [lendK]
        rw [e] at ih
        have el : (pre ++ [k]).length = pre.length + 1 := by simp
        rw [el] at ih
        refine .cons ?_ ih
        have q : Rp K Z (lentι ι (pre ++ lendK (.ref k :: r))) (pre ++ lendK (.ref k :: r)).length (.ref pre.length) (.ref (lentι ι (pre ++ lendK (.ref k :: r)) pre.length)) := .ref (by simp [lendK])
        have ek : lentι ι (pre ++ lendK (.ref k :: r)) pre.length = ι k := by
          unfold lentι
          congr 1
          simp [lendK]
        rw [ek] at q
        exact q
  | .non :: r, _, pre, hf, h => by
    cases h with
    | cons r1 rs =>
      cases r1
      exact .cons .non (lend_rps r _ pre (by simpa [flatArgs, below] using hf) rs)
  | .bl b :: r, _, pre, hf, h => by
    cases h with
    | cons r1 rs =>
      cases r1
      exact .cons (.bl b) (lend_rps r _ pre (by simpa [flatArgs, below] using hf) rs)
  | .int i :: r, _, pre, hf, h => by
    cases h with
    | cons r1 rs =>
      cases r1
      exact .cons (.int i) (lend_rps r _ pre (by simpa [flatArgs, below] using hf) rs)
  | .str x :: r, _, pre, hf, h => by
    cases h with
    | cons r1 rs =>
      cases r1
      exact .cons (.str x) (lend_rps r _ pre (by simpa [flatArgs, below] using hf) rs)
  | .tup ds :: r, _, pre, hf, h => by
    cases h with
    | cons r1 rs =>
      have hf' : below 0 (.tup ds) = true ∧ flatArgs r = true := by simpa [flatArgs] using hf
      exact .cons (Rp.mono (fun _ _ z => z) (fun k hk => absurd hk (Nat.not_lt_zero _)) (Nat.zero_le _) _ _ (r1.shrink _ _ hf'.1)) (lend_rps r _ pre hf'.2 rs)
  | .lst ds :: r, _, pre, hf, h => by
    cases h with
    | cons r1 rs =>
      have hf' : below 0 (.lst ds) = true ∧ flatArgs r = true := by simpa [flatArgs] using hf
      exact .cons (Rp.mono (fun _ _ z => z) (fun k hk => absurd hk (Nat.not_lt_zero _)) (Nat.zero_le _) _ _ (r1.shrink _ _ hf'.1)) (lend_rps r _ pre hf'.2 rs)
  | .dct ks ws :: r, _, pre, hf, h => by
    cases h with
    | cons r1 rs =>
      have hf' : below 0 (.dct ks ws) = true ∧ flatArgs r = true := by simpa [flatArgs] using hf
      exact .cons (Rp.mono (fun _ _ z => z) (fun k hk => absurd hk (Nat.not_lt_zero _)) (Nat.zero_le _) _ _ (r1.shrink _ _ hf'.1)) (lend_rps r _ pre hf'.2 rs)
  | .ptu ds :: r, _, pre, hf, h => by
    cases h with
    | cons r1 rs =>
      have hf' : below 0 (.ptu ds) = true ∧ flatArgs r = true := by simpa [flatArgs] using hf
      exact .cons (Rp.mono (fun _ _ z => z) (fun k hk => absurd hk (Nat.not_lt_zero _)) (Nat.zero_le _) _ _ (r1.shrink _ _ hf'.1)) (lend_rps r _ pre hf'.2 rs)
theorem getAll_at {M : List MO} : ∀ {ks : List Nat} {os : List MO}, getAll M ks = some os → os.length = ks.length ∧ ∀ (j : Nat) (o : MO), os[j]? = some o → ∃ k, ks[j]? = some k ∧ M[k]? = some o
  | [], os, h => by
    cases h
    exact ⟨rfl, fun j o e => by simp at e⟩
  | k :: ks, os, h => by
    unfold getAll at h
    cases e1 : M[k]? with
    | none => rw [e1] at h; simp at h
    | some o =>
      cases e2 : getAll M ks with
      | none => rw [e1, e2] at h; simp at h
      | some os' =>
        rw [e1, e2] at h
        cases h
        obtain ⟨l, f⟩ := getAll_at e2
        refine ⟨by simp [l], fun j o' e => ?_⟩
        cases j with
        | zero =>
          simp at e
          subst e
          exact ⟨k, rfl, e1⟩
        | succ j =>
          obtain ⟨k', h1, h2⟩ := f j o' (by simpa using e)
          exact ⟨k', by simpa using h1, h2⟩
theorem setAll_length : ∀ (ks : List Nat) (os : List MO) (M : List MO), (setAll M ks os).length = M.length
  | [], _, _ => by simp [setAll]
  | _ :: _, [], _ => by simp [setAll]
  | k :: ks, o :: os, M => by
    show (setAll (M.set k o) ks os).length = _
    rw [setAll_length ks os, List.length_set]
/-- what stands where, behind -/
theorem setAll_at : ∀ (ks : List Nat) (os : List MO) (M : List MO) (k : Nat) (o : MO), ks.Nodup → ks.length ≤ os.length → (setAll M ks os)[k]? = some o → (k ∉ ks ∧ M[k]? = some o) ∨ ∃ j : Nat, j < ks.length ∧ ks[j]? = some k ∧ os[j]? = some o
  | [], _, M, k, o, _, _, h => .inl ⟨by simp, by simpa [setAll] using h⟩
  | _ :: _, [], _, _, _, _, hl, _ => by simp at hl
  | k0 :: ks, o0 :: os, M, k, o, nd, hl, h => by
    have nd' := List.nodup_cons.mp nd
    rcases setAll_at ks os (M.set k0 o0) k o nd'.2 (by simpa using hl) h with ⟨h1, h2⟩ | ⟨j, h1, h2, h3⟩
    · by_cases e : k0 = k
      · subst e
        have lt : k0 < M.length := by
          have := (List.getElem?_eq_some_iff.mp h2).1
          rw [List.length_set] at this
          exact this
        rw [List.getElem?_set_self lt] at h2
        exact .inr ⟨0, by simp, rfl, by simpa using h2⟩
      · rw [List.getElem?_set_ne e] at h2
        exact .inl ⟨by simp only [List.mem_cons, not_or]; exact ⟨fun z => e z.symm, h1⟩, h2⟩
    · exact .inr ⟨j + 1, by simp; omega, by simpa using h2, by simpa using h3⟩
end
/-- the things that are lent, as the callee has them -/
theorem HR.lend {K : PySem.W.Frag} {H Z : Hp} {ι : Nat → Addr} {M os : List MO} {ks : List Nat} (h : HR K H Z ι M) (nd : ks.Nodup) (g : getAll M ks = some os) (lo : lentOk os = true) : HR K H Z (lentι ι ks) os := by
  obtain ⟨l, f⟩ := getAll_at g
  have at_ : ∀ {j k : Nat}, ks[j]? = some k → lentι ι ks j = ι k := fun {j k} e => by
    unfold lentι
    rw [List.getD_eq_getElem?_getD, e]
    rfl
  have ok : ∀ {j : Nat} {o : MO}, os[j]? = some o → belowO 0 o = true ∧ o ≠ .dead := fun {j o} e => by
    have q := List.all_eq_true.mp lo o (List.mem_of_getElem? e)
    simp only [Bool.and_eq_true, Bool.not_eq_true'] at q
    exact ⟨q.2, fun z => by rw [z] at q; exact absurd q.1 (by simp [isDead])⟩
  refine ⟨h.sub, fun j hj => ?_, fun j o e d => ?_, fun i j o u e1 e2 d1 d2 e => ?_, fun j o e => ?_, fun j e => absurd rfl (ok e).2⟩
  · obtain ⟨k, h1, h2⟩ := f j os[j] (List.getElem?_eq_getElem hj)
    rw [at_ h1]
    exact h.ali k (List.getElem?_eq_some_iff.mp h2).1
  · obtain ⟨k, h1, h2⟩ := f j o e
    rw [at_ h1]
    exact h.sep k o h2 d
  · obtain ⟨k1, a1, b1⟩ := f i o e1
    obtain ⟨k2, a2, b2⟩ := f j u e2
    rw [at_ a1, at_ a2] at e
    have ek := h.inj k1 k2 o u b1 b2 d1 d2 e
    subst ek
    obtain ⟨i1, i2⟩ := List.getElem?_eq_some_iff.mp a1
    obtain ⟨j1, j2⟩ := List.getElem?_eq_some_iff.mp a2
    exact (List.getElem_inj nd).mp (i2.trans j2.symm)
  · obtain ⟨k, h1, h2⟩ := f j o e
    rw [at_ h1]
    exact (h.obj k o h2).low (ok e).1
/-- where everything stands behind a call -/
def backι (ι ι' : Nat → Addr) (n m : Nat) : Nat → Addr := fun k => if k < n then ι k else ι' (m + (k - n))
theorem HR.back {K : PySem.W.Frag} {H Z H' Z' : Hp} {ι ι' : Nat → Addr} {M os os' : List MO} {ks : List Nat} (h : HR K H Z ι M) (nd : ks.Nodup) (g : getAll M ks = some os) (lo : lentOk os = true) (e : Ext H Z (lentι ι ks) os.length H' Z' ι' os'.length) (h' : HR K H' Z' ι' os')
    (hl : ks.length ≤ os'.length) (hb : os'.all (belowO 0) = true) :
    HR K H' Z' (backι ι ι' M.length ks.length) (setAll M ks os' ++ os'.drop ks.length) ∧ Ext H Z ι M.length H' Z' (backι ι ι' M.length ks.length) (setAll M ks os' ++ os'.drop ks.length).length := by
  obtain ⟨l, f⟩ := getAll_at g
  have ln : (setAll M ks os' ++ os'.drop ks.length).length = M.length + (os'.length - ks.length) := by rw [List.length_append, setAll_length, List.length_drop]
  have bl : ∀ {k : Nat}, k < M.length → backι ι ι' M.length ks.length k = ι k := fun hk => if_pos hk
  have bn : ∀ {k : Nat}, ¬ k < M.length → backι ι ι' M.length ks.length k = ι' (ks.length + (k - M.length)) := fun hk => if_neg hk
  have at_ : ∀ {j k : Nat}, ks[j]? = some k → lentι ι ks j = ι k := fun {j k} e => by
    unfold lentι
    rw [List.getD_eq_getElem?_getD, e]
    rfl
  have at' : ∀ {j k : Nat}, ks[j]? = some k → ι' j = ι k := fun {j k} z => (e.ii j (by rw [l]; exact (List.getElem?_eq_some_iff.mp z).1)).trans (at_ z)
  have cs : ∀ {k : Nat} {o : MO}, (setAll M ks os' ++ os'.drop ks.length)[k]? = some o → (k < M.length ∧ k ∉ ks ∧ M[k]? = some o) ∨ (k < M.length ∧ ∃ j : Nat, ks[j]? = some k ∧ os'[j]? = some o) ∨ (¬ k < M.length ∧ os'[ks.length + (k - M.length)]? = some o) := fun {k o} z => by
    by_cases hk : k < M.length
    · rw [List.getElem?_append_left (by rw [setAll_length]; exact hk)] at z
      rcases setAll_at ks os' M k o nd hl z with ⟨h1, h2⟩ | ⟨j, _, h2, h3⟩
      · exact .inl ⟨hk, h1, h2⟩
      · exact .inr (.inl ⟨hk, j, h2, h3⟩)
    · rw [List.getElem?_append_right (by rw [setAll_length]; exact Nat.le_of_not_lt hk), setAll_length, List.getElem?_drop] at z
      exact .inr (.inr ⟨hk, z⟩)
  have dd : ∀ {j : Nat} {o : MO}, os[j]? = some o → o ≠ .dead := fun {j o} e => by
    have q := List.all_eq_true.mp lo o (List.mem_of_getElem? e)
    simp only [Bool.and_eq_true, Bool.not_eq_true'] at q
    exact fun z => by rw [z] at q; exact absurd q.1 (by simp [isDead])
  -- a live thing that was not lent stands apart from all that were
  have apart : ∀ {k j : Nat} {o : MO}, k ∉ ks → M[k]? = some o → o ≠ .dead → j < os.length → ι k ≠ lentι ι ks j := fun {k j o} hk ho hd hj z => by
    obtain ⟨k', h1, h2⟩ := f j os[j] (List.getElem?_eq_getElem hj)
    rw [at_ h1] at z
    have ek := h.inj k k' o os[j] ho h2 hd (dd (List.getElem?_eq_getElem hj)) z
    subst ek
    exact hk (List.mem_of_getElem? h1)
  have old : ∀ {k : Nat}, k < M.length → ∃ u, H (ι k) = some u := fun hk => h.ali _ hk
  have nw : ∀ {k j : Nat}, k < M.length → os.length ≤ j → j < os'.length → ι k ≠ ι' j := fun {k j} hk h1 h2 z => by
    obtain ⟨u, hu⟩ := old hk
    have w := e.nw j h1 h2
    rw [← z, hu] at w
    cases w
  refine ⟨⟨h'.sub, fun k hk => ?_, fun k o z d => ?_, fun a b o u z1 z2 d1 d2 z => ?_, fun k o z => ?_, fun k z => ?_⟩, e.zz, fun k hk => bl hk, fun a o h1 h2 => e.fr a o h1 fun j hj z => ?_, fun k h1 h2 => ?_, by rw [ln]; omega, fun a o z => ?_⟩
  · by_cases hk' : k < M.length
    · rw [bl hk']
      obtain ⟨u, hu⟩ := old hk'
      by_cases z : ∃ j, j < os.length ∧ ι k = lentι ι ks j
      · obtain ⟨j, hj, z⟩ := z
        rw [z, ← e.ii j hj]
        exact h'.ali j (Nat.lt_of_lt_of_le hj e.ln)
      · exact ⟨u, e.fr _ _ hu fun j hj q => z ⟨j, hj, q⟩⟩
    · rw [bn hk']
      rw [ln] at hk
      exact h'.ali _ (by omega)
  · rcases cs z with ⟨hk, hn, ho⟩ | ⟨hk, j, hj, ho⟩ | ⟨hk, ho⟩
    · rw [bl hk]
      cases q : Z' (ι k) with
      | none => rfl
      | some w =>
        rcases e.zn _ _ q with a | a | ⟨j, hj, a⟩
        · rw [h.sep k o ho d] at a; cases a
        · obtain ⟨u, hu⟩ := old hk
          rw [hu] at a; cases a
        · exact absurd a (apart hn ho d hj)
    · rw [bl hk, ← at' hj]
      exact h'.sep j o ho d
    · rw [bn hk]
      exact h'.sep _ o ho d
  · rcases cs z1 with ⟨ha, hn, ho⟩ | ⟨ha, i, hi, ho⟩ | ⟨ha, ho⟩ <;> rcases cs z2 with ⟨hb', hn', hu⟩ | ⟨hb', j, hj, hu⟩ | ⟨hb', hu⟩
    · rw [bl ha, bl hb'] at z
      exact h.inj a b o u ho hu d1 d2 z
    · rw [bl ha, bl hb'] at z
      exact absurd (z.trans (at_ hj).symm) (apart hn ho d1 (by rw [l]; exact (List.getElem?_eq_some_iff.mp hj).1))
    · rw [bl ha, bn hb'] at z
      exact absurd z (nw ha (by rw [l]; omega) (List.getElem?_eq_some_iff.mp hu).1)
    · rw [bl ha, bl hb'] at z
      exact absurd (z.symm.trans (at_ hi).symm) (apart hn' hu d2 (by rw [l]; exact (List.getElem?_eq_some_iff.mp hi).1))
    · rw [bl ha, bl hb', ← at' hi, ← at' hj] at z
      have ij := h'.inj i j o u ho hu d1 d2 z
      subst ij
      rw [hi] at hj
      exact Option.some.inj hj
    · rw [bl ha, bn hb', ← at' hi] at z
      have ij := h'.inj i _ o u ho hu d1 d2 z
      have := (List.getElem?_eq_some_iff.mp hi).1
      omega
    · rw [bn ha, bl hb'] at z
      exact absurd z.symm (nw hb' (by rw [l]; omega) (List.getElem?_eq_some_iff.mp ho).1)
    · rw [bn ha, bl hb', ← at' hj] at z
      have ij := h'.inj _ j o u ho hu d1 d2 z
      have := (List.getElem?_eq_some_iff.mp hj).1
      omega
    · rw [bn ha, bn hb'] at z
      have ij := h'.inj _ _ o u ho hu d1 d2 z
      omega
  · have low : ∀ {j : Nat} {o : MO}, os'[j]? = some o → belowO 0 o = true := fun q => List.all_eq_true.mp hb _ (List.mem_of_getElem? q)
    rcases cs z with ⟨hk, hn, ho⟩ | ⟨hk, j, hj, ho⟩ | ⟨hk, ho⟩
    · rw [bl hk]
      by_cases du : o = .dead
      · subst du
        trivial
      · exact OR.mono e.zz (fun k hk => bl hk) (by rw [ln]; omega) (fun u z => e.fr _ _ z fun j hj => apart hn ho du hj) (h.obj k o ho)
    · rw [bl hk, ← at' hj]
      exact (h'.obj j o ho).low (low ho)
    · rw [bn hk]
      exact (h'.obj _ o ho).low (low ho)
  · rcases cs z with ⟨hk, _, ho⟩ | ⟨hk, j, hj, ho⟩ | ⟨hk, ho⟩
    · rw [bl hk]
      obtain ⟨u, hu⟩ := h.ded k ho
      exact ⟨u, e.zz _ _ hu⟩
    · rw [bl hk, ← at' hj]
      exact h'.ded j ho
    · rw [bn hk]
      exact h'.ded _ ho
  · obtain ⟨k, q1, q2⟩ := f j os[j] (List.getElem?_eq_getElem hj)
    rw [at_ q1] at z
    exact h2 k (List.getElem?_eq_some_iff.mp q2).1 z
  · rw [bn (Nat.not_lt.mpr h1)]
    rw [ln] at h2
    exact e.nw _ (by rw [l]; omega) (by omega)
  · rcases e.zn a o z with q | q | ⟨j, hj, q⟩
    · exact .inl q
    · exact .inr (.inl q)
    · obtain ⟨k, q1, q2⟩ := f j os[j] (List.getElem?_eq_getElem hj)
      rw [at_ q1] at q
      exact .inr (.inr ⟨k, (List.getElem?_eq_some_iff.mp q2).1, q⟩)
theorem backD_rp {K : PySem.W.Frag} {Z' : Hp} {ι ι' : Nat → Addr} {ks : List Nat} {n m N : Nat} {d d' : D} {v : V} (hk : ∀ k ∈ ks, k < n) (hi : ∀ (j k : Nat), ks[j]? = some k → ι' j = ι k) (hN : n + (m - ks.length) ≤ N) (r : Rp K Z' ι' m d v) (h : backD ks n d = some d') :
    Rp K Z' (backι ι ι' n ks.length) N d' v := by
  have flat : ∀ {d : D}, below 0 d = true → Rp K Z' ι' m d v → Rp K Z' (backι ι ι' n ks.length) N d v := fun b r => Rp.mono (fun _ _ z => z) (fun _ z => absurd z (Nat.not_lt_zero _)) (Nat.zero_le _) _ _ (r.shrink _ _ b)
  cases r with
  | ref hj =>
    rename_i j
    have h' : (if j < ks.length then (ks[j]?).map D.ref else some (.ref (n + (j - ks.length)))) = some d' := h
    by_cases hl : j < ks.length
    · rw [if_pos hl, List.getElem?_eq_getElem hl] at h'
      cases h'
      have hk' := hk _ (List.getElem_mem hl)
      have q : Rp K Z' (backι ι ι' n ks.length) N (.ref ks[j]) (.ref (backι ι ι' n ks.length ks[j])) := .ref (by omega)
      rw [show backι ι ι' n ks.length ks[j] = ι' j by unfold backι; rw [if_pos hk']; exact (hi j _ (List.getElem?_eq_getElem hl)).symm] at q
      exact q
    · rw [if_neg hl] at h'
      cases h'
      have q : Rp K Z' (backι ι ι' n ks.length) N (.ref (n + (j - ks.length))) (.ref (backι ι ι' n ks.length (n + (j - ks.length)))) := .ref (by omega)
      rw [show backι ι ι' n ks.length (n + (j - ks.length)) = ι' j by unfold backι; rw [if_neg (by omega)]; congr 1; omega] at q
      exact q
  | non => cases h; exact .non
  | bl b => cases h; exact .bl b
  | int i => cases h; exact .int i
  | str x => cases h; exact .str x
  | tup s r =>
    rename_i ds a xs
    have h' : (if below 0 (.tup ds) = true then some (D.tup ds) else none) = some d' := h
    by_cases b : below 0 (.tup ds) = true
    · rw [if_pos b] at h'
      cases h'
      exact flat b (.tup s r)
    · rw [if_neg b] at h'
      cases h'
  | lst s r =>
    rename_i ds a xs
    have h' : (if below 0 (.lst ds) = true then some (D.lst ds) else none) = some d' := h
    by_cases b : below 0 (.lst ds) = true
    · rw [if_pos b] at h'
      cases h'
      exact flat b (.lst s r)
    · rw [if_neg b] at h'
      cases h'
  | dct s r t =>
    rename_i ks ws a nks kx xs
    have h' : (if below 0 (.dct ks ws) = true then some (D.dct ks ws) else none) = some d' := h
    by_cases b : below 0 (.dct ks ws) = true
    · rw [if_pos b] at h'
      cases h'
      exact flat b (.dct s r t)
    · rw [if_neg b] at h'
      cases h'
  | ptu s r =>
    rename_i ds a xs
    have h' : (if below 0 (.ptu ds) = true then some (D.ptu ds) else none) = some d' := h
    by_cases b : below 0 (.ptu ds) = true
    · rw [if_pos b] at h'
      cases h'
      exact flat b (.ptu s r)
    · rw [if_neg b] at h'
      cases h'
end Bk

set_option Elab.async false
set_option linter.all false
set_option maxRecDepth 100000
set_option maxHeartbeats 2000000
namespace Bk
open PySem PySem.Spec PyProof.Rows L2

/-! ### defs -/
def PostF (K : PySem.W.Frag) (C : CT) (E : XK) (H Z : Hp) (ι : Nat → Addr) (M : List MO) (r : R D) (Q : VK) : Prop := match r with
  | .ok d M' => ∀ (v : V) (H' Z' : Hp) (ι' : Nat → Addr), Ext H Z ι M.length H' Z' ι' M'.length → HR K H' Z' ι' M' → Rp K Z' ι' M'.length d v → Q v H'
  | .exc c d M' => ∀ (cls : Value) (dd : Option Addr) (H' Z' : Hp) (ι' : Nat → Addr), Ext H Z ι M.length H' Z' ι' M'.length → HR K H' Z' ι' M' → ExcR K C H' Z' ι' M'.length c d cls dd → E cls dd H'
  | .bad => False
/-- the def at f computes F, by at most k calls one in another -/
structure FnQ (P : Program) (w : World) (K : PySem.W.Frag) (mg : Str → Option Value) (base : Heap) (C : CT) (k : Nat) (f : Addr) (fd : FuncData) (ps : List Str) (F : List D → List MO → R D) : Prop where
  run : ∀ (A : Around) (outer : List PySem.Env) (s : Shared) (H : Hp) (args : Args) (us : List Value) (vs : List V) (Q : VK) (E : XK) (ds : List D) (Z : Hp) (ι : Nat → Addr) (M : List MO), Room k A → A.guards = some [] → Env0 P w K mg base A outer s H →
    BindsTo s fd args (ps.zip us) → Vals vs us → vs.length = ps.length → Rps K Z ι M.length ds vs → HR K H Z ι M → PostF K C E H Z ι M (F ds M) Q → codeAny (model P w) A (.call (.ref f) args) (CR (L2.CX P w) outer P w H s Q E) s
theorem FnQ.mono {P : Program} {w : World} {K : PySem.W.Frag} {mg : Str → Option Value} {base : Heap} {C : CT} {j k : Nat} {f : Addr} {fd : FuncData} {ps : List Str} {F : List D → List MO → R D} (x : FnQ P w K mg base C j f fd ps F) (h : j ≤ k) : FnQ P w K mg base C k f fd ps F :=
  ⟨fun A outer s H args us vs Q E ds Z ι M hr => x.run A outer s H args us vs Q E ds Z ι M (hr.mono h)⟩
/-- what a body's end gives the caller: what it made besides is dropped -/
def retR (m : Nat) (M' : List MO) : D → R D
  | .ref k => if k < m then .ok (.ref k) (M'.take m) else match M'[k]? with
    | some (.lst ds) => if belows m ds = true then .ok (.ref m) (M'.take m ++ [.lst ds]) else .bad
    | _ => .bad
  | d => if below m d = true then .ok d (M'.take m) else .bad
def fin (m : Nat) : RS → R D
  | .rt d M' => if m ≤ M'.length ∧ cutOk m M' = true then retR m M' d else .bad
  | .nx _ M' => if m ≤ M'.length ∧ cutOk m M' = true then .ok .non (M'.take m) else .bad
  | .exc c d _ M' => if m ≤ M'.length ∧ cutOk m M' = true ∧ below m d = true then .exc c d (M'.take m) else .bad
  | _ => .bad
/-- a def of n names with the body g -/
def runF (n : Nat) (g : GS) (ds : List D) (M : List MO) : R D := fin M.length (g (ds.map some ++ List.replicate (n - ds.length) none) M)

section
variable {K : PySem.W.Frag} {C : CT} {H Z H' Z' : Hp} {ι ι' : Nat → Addr} {M M' : List MO} {E : XK} {Q : VK}
theorem take_len {α : Type} {l : List α} {m : Nat} (h : m ≤ l.length) : (l.take m).length = m := by rw [List.length_take]; omega
theorem retR_run {d : D} {v : V} (e : Ext H Z ι M.length H' Z' ι' M'.length) (hr : HR K H' Z' ι' M') (r : Rp K Z' ι' M'.length d v) (c1 : M.length ≤ M'.length) (c2 : cutOk M.length M' = true) (h : PostF K C E H Z ι M (retR M.length M' d) Q) : Q v H' := by
  have ln := take_len c1
  have flat : ∀ {d : D}, Rp K Z' ι' M'.length d v → PostF K C E H Z ι M (if below M.length d = true then .ok d (M'.take M.length) else .bad) Q → Q v H' := fun {d} r h => by
    by_cases b : below M.length d = true
    · rw [if_pos b] at h
      exact h v H' Z' ι' (by rw [ln]; exact e.cut (Nat.le_refl _) c1) (hr.cut c1 c2) (by rw [ln]; exact r.shrink _ _ b)
    · rw [if_neg b] at h
      exact h.elim
  cases r with
  | ref hk =>
    rename_i k
    have h2 : PostF K C E H Z ι M (if k < M.length then .ok (.ref k) (M'.take M.length) else match M'[k]? with
      | some (.lst ds) => if belows M.length ds = true then .ok (.ref M.length) (M'.take M.length ++ [.lst ds]) else .bad
      | _ => .bad) Q := h
    by_cases hm : k < M.length
    · rw [if_pos hm] at h2
      exact h2 _ H' Z' ι' (by rw [ln]; exact e.cut (Nat.le_refl _) c1) (hr.cut c1 c2) (by rw [ln]; exact .ref hm)
    · rw [if_neg hm] at h2
      cases e1 : M'[k]? with
      | none => rw [e1] at h2; exact h2.elim
      | some o =>
        rw [e1] at h2
        cases o with
        | dead => exact h2.elim
        | dct ks0 vs0 => exact h2.elim
        | dki kvs0 => exact h2.elim
        | obj nm fs => exact h2.elim
        | lst ds =>
          have h3 : PostF K C E H Z ι M (if belows M.length ds = true then .ok (.ref M.length) (M'.take M.length ++ [.lst ds]) else .bad) Q := h2
          by_cases b : belows M.length ds = true
          · rw [if_pos b] at h3
            obtain ⟨xs, e2, r2⟩ := hr.obj k _ e1
            have hc := hr.cut c1 c2
            have lk : k < M'.length := (List.getElem?_eq_some_iff.mp e1).1
            have od : Odd Z' ι' (M'.take M.length).length (ι' k) := ⟨hr.sep k _ e1 (by simp), fun j hj => by
              rw [ln] at hj
              exact hr.apart (by omega) e1 (by simp) (by omega)⟩
            have q : Rp K Z' (put ι' (M'.take M.length).length (ι' k)) (M'.take M.length ++ [MO.lst ds]).length (.ref (M'.take M.length).length) (.ref (put ι' (M'.take M.length).length (ι' k) (M'.take M.length).length)) := .ref (by simp)
            rw [put_at] at q
            have n0 : H (ι' k) = none := e.nw k (by omega) lk
            have x := Ext.adoptM (M := M'.take M.length) (ds := ds) (p := ι' k) (by rw [ln]; exact e.cut (Nat.le_refl _) c1) n0
            have z := hc.adoptM od e2 (by rw [ln]; exact Rps.shrink _ _ r2 b)
            have h4 : PostF K C E H Z ι M (.ok (.ref (M'.take M.length).length) (M'.take M.length ++ [.lst ds])) Q := by rw [ln]; exact h3
            exact h4 _ H' Z' _ x z q
          · rw [if_neg b] at h3
            exact h3.elim
  | non => exact flat .non h
  | bl b => exact flat (.bl b) h
  | int i => exact flat (.int i) h
  | str x => exact flat (.str x) h
  | tup s r => exact flat (.tup s r) h
  | lst s r => exact flat (.lst s r) h
  | dct s r t => exact flat (.dct s r t) h
  | ptu s r => exact flat (.ptu s r) h

theorem fin_run {X : Cx} {W : WX} {r : RS} (hW : ∀ c d σ H, E c d H → W c d σ H) (eK : X.K = K) (h : PostF K C E H Z ι M (fin M.length r) Q) : PostS X C W H Z ι M r { nx := fun _ H' => Q .non H', rt := Q } := by
  subst eK
  cases r with
  | bad => exact h
  | bk Γ M' => exact h.elim
  | ct Γ M' => exact h.elim
  | nx Γ M' =>
    have h2 : PostF X.K C E H Z ι M (if M.length ≤ M'.length ∧ cutOk M.length M' = true then .ok .non (M'.take M.length) else .bad) Q := h
    by_cases c : M.length ≤ M'.length ∧ cutOk M.length M' = true
    · rw [if_pos c] at h2
      intro σ' H' Z' ι' e hr sl
      have ln := take_len c.1
      exact h2 .non H' Z' ι' (by rw [ln]; exact e.cut (Nat.le_refl _) c.1) (hr.cut c.1 c.2) .non
    · rw [if_neg c] at h2
      exact h2.elim
  | rt d M' =>
    have h2 : PostF X.K C E H Z ι M (if M.length ≤ M'.length ∧ cutOk M.length M' = true then retR M.length M' d else .bad) Q := h
    by_cases c : M.length ≤ M'.length ∧ cutOk M.length M' = true
    · rw [if_pos c] at h2
      intro v H' Z' ι' e hr r
      exact retR_run e hr r c.1 c.2 h2
    · rw [if_neg c] at h2
      exact h2.elim
  | exc n d Γ M' =>
    have h2 : PostF X.K C E H Z ι M (if M.length ≤ M'.length ∧ cutOk M.length M' = true ∧ below M.length d = true then .exc n d (M'.take M.length) else .bad) Q := h
    by_cases c : M.length ≤ M'.length ∧ cutOk M.length M' = true ∧ below M.length d = true
    · rw [if_pos c] at h2
      intro cls dd σ' H' Z' ι' e hr sl x
      have ln := take_len c.1
      obtain ⟨x1, a, v, x2, x3, x4⟩ := x
      exact hW _ _ _ _ (h2 cls dd H' Z' ι' (by rw [ln]; exact e.cut (Nat.le_refl _) c.1) (hr.cut c.1 c.2.1) ⟨x1, a, v, x2, x3, by rw [ln]; exact x4.shrink _ _ c.2.2⟩)
    · rw [if_neg c] at h2
      exact h2.elim
theorem slots_start {ds : List D} {vs : List V} {N : List Str} {n : Nat} (r : Rps K Z ι n ds vs) (hl : vs.length ≤ N.length) : Slots K Z ι n (ds.map some ++ List.replicate (N.length - ds.length) none) (L2.start N vs) := by
  have l := r.length
  refine ⟨by unfold L2.start; simp [l], fun i d h => ?_⟩
  by_cases hi : i < ds.length
  · rw [List.getElem?_append_left (by simpa using hi), List.getElem?_map] at h
    cases e : ds[i]? with
    | none => rw [e] at h; cases h
    | some d' =>
      rw [e] at h
      cases h
      obtain ⟨v, e2, r2⟩ := r.get e
      refine ⟨v, ?_, r2⟩
      unfold L2.start
      rw [List.getElem?_append_left (by rw [List.length_map, ← l]; exact hi), List.getElem?_map, e2]
      rfl
  · rw [List.getElem?_append_right (by simpa using Nat.le_of_not_lt hi), List.getElem?_replicate] at h
    split at h <;> cases h
end
section
variable {P : Program} {w : World} {K : PySem.W.Frag} {mg : Str → Option Value} {base : Heap} {C : CT}
/-- THE RULE for a def: its body computes g -/
theorem fq_of {x qual : Str} {st : Stmt} {f : Addr} {fd : FuncData} {N ps : List Str} {k : Nat} {g : GS} (F : Fun K x qual st f fd) (S : FnScope N ps (defScope st))
    (hbody : ∀ (cdv : Value) (A : Around) (outer : List PySem.Env) (s : Shared) (H : Hp) (E : XK), Room k (A.deeper (envOfC qual (defScope st) s.heap.objs.size f cdv)) → A.guards = some [] →
      QSs (cxOf (L2.CX P w) P w K mg base N qual (defScope st) f cdv A outer s H E) C (fun cls d _ H => E cls d H) (defBody st) g) : FnQ P w K mg base C (k + 1) f fd ps (runF N.length g) := by
  obtain ⟨oc, od, kV, doc, pm, an, cdv, ct, osl, rfl, lk, hcd⟩ := F.ex
  refine ⟨fun A outer s H args us vs Q E ds Z ι M room hgu env0 hbind rvs hlen rds hr hpost => ?_⟩
  have hK : K.In s.heap := env0.mod.kin.keeps fun b o z => (env0.bs b o z).1
  have hlim : s.heap.NoLimit := env0.mod.nolimit.keeps fun b o z => (env0.bs b o z).1
  have kinds : ∀ y ∈ ps.zip us, (defScope st).names.lookup y.1 = some .local ∨ ((defScope st).names.lookup y.1 = some .cell ∧ ((cellsFrom (s.heap.objs.size + 1) (defScope st).names []).lookup y.1).isSome = true) := fun y hy => by
    rcases S.par y.1 (List.of_mem_zip (a := y.1) (b := y.2) hy).1 with z | z
    · exact .inl z
    · exact .inr ⟨z, PySem.W.cellsFrom_some _ _ _ (.inl z)⟩
  refine codeAny_call_function room.depth (hK _ _ lk) rfl S.co S.gen rfl (PySem.W.codeRec_of hK hcd) (hbind _ _ _ _ (wpAny_newFunctionEnv_cells S.kind kinds fun env he s1 ic => ?_))
  subst he
  refine ⟨hlim.keeps ic.toInCall.keep, codeAny_func ?_⟩
  obtain ⟨ts, pts, qts⟩ := hbody cdv A outer s H E (room.deeper _) hgu
  have J : Inv (cxOf (L2.CX P w) P w K mg base N qual (defScope st) f cdv A outer s H E) [] (L2.start N vs) H s1 := inv_start S room.hd env0 hlen rvs ic
  have lN : vs.length ≤ N.length := by
    have z := congrArg List.length S.pre
    rw [List.length_take] at z
    omega
  have hq := qts _ (L2.start N vs) H Z ι _ M (slots_start rds lN) hr (fin_run (E := E) (fun _ _ _ _ z => z) rfl hpost)
  refine wpAny_mono (pts.run [] s1 _ H _ J hq) (fun fl s' hs => ?_) fun _ _ hs => hs
  have ends : ∀ {σ' : L2.St} {H' : Hp} {v : V} {u : Value}, Inv (cxOf (L2.CX P w) P w K mg base N qual (defScope st) f cdv A outer s H E) [] σ' H' s' → RelV v u → Q v H' → CE outer P w H s Q u s' :=
    fun {σ' H' v u} J2 rv q => ⟨v, H', J2.os, J2.bare, J2.base, J2.hok, rv, q⟩
  cases fl with
  | ret u => exact let ⟨v, σ', H', J2, rv, q⟩ := hs; ends J2 rv q
  | next => exact let ⟨σ', H', J2, q⟩ := hs; ends (v := V.non) (u := Value.none) J2 rfl q
  | brk => exact let ⟨_, _, _, q⟩ := hs; q.elim
  | cont => exact let ⟨_, _, _, q⟩ := hs; q.elim
end

/-! ### calls of defs -/
section
variable {X : Cx} {C : CT} {W : WX} {k : Nat} {f : Addr} {fd : FuncData} {ps : List Str} {F : List D → List MO → R D} {x : Str} {p pos : Pos} {e : Expr} {es : List Expr} {gs : GA}
/-- what a call asks -/
def rCallQ (K : PySem.W.Frag) (C : CT) (ps : List Str) (F : List D → List MO → R D) (E : XK) (vs : List V) (H : Hp) (Q : VK) : Prop :=
  vs.length = ps.length ∧ ∃ (ds : List D) (Z : Hp) (ι : Nat → Addr) (M : List MO), Rps K Z ι M.length ds vs ∧ HR K H Z ι M ∧ PostF K C E H Z ι M (F ds M) Q
theorem run_q {pins : List (Addr × Obj)} {σ : St} {H : Hp} {s : Shared} {Q : VK} {vs : List V} {us : List Value} {args : Args} (F0 : FnQ X.prog X.w X.K X.mg X.base C k f fd ps F) (hr : Room k X.A) (hgu : X.A.guards = some []) (tk : Takes X W) (I : Inv X pins σ H s)
    (hb : BindsTo s fd args (ps.zip us)) (r : Vals vs us) (h : rCallQ X.K C ps F (WE W σ) vs H Q) : codeAny (model X.prog X.w) X.A (.call (.ref f) args) (fun r s' => match r with
      | .ok (.ret u) => EP X pins σ Q u s'
      | .ok _ => False
      | .error e => X.xe e s') s := by
  obtain ⟨hl, ds, Z, ι, M, rd, hr', hp⟩ := h
  refine codeAny_mono (F0.run X.A X.stack s H args us vs Q (WE W σ) ds Z ι M hr hgu I.env0 hb r hl rd hr' hp) fun r s' hq => ?_
  cases r with
  | error e => exact passAt tk σ pins H s e s' I hq
  | ok fl =>
    cases fl with
    | ret u => exact I.after hq
    | next => exact hq.elim
    | brk => exact hq.elim
    | cont => exact hq.elim
theorem lent_post {σ : St} {H Z : Hp} {ι : Nat → Addr} {ds : List D} {vs : List V} {M : List MO} {Q : VK} (hr : HR X.K H Z ι M) (r : Rps X.K Z ι M.length ds vs) (hl : vs.length = ps.length) (h : Post X C W (rpE X.K) σ H Z ι M (callF F ds M) Q) : rCallQ X.K C ps F (WE W σ) vs H Q := by
  unfold callF at h
  cases eg : getAll M (lendK ds) with
  | none => rw [eg] at h; exact h.elim
  | some os =>
    rw [eg] at h
    simp only at h
    by_cases c : (lendK ds).Nodup ∧ flatArgs ds = true ∧ lentOk os = true
    · rw [if_pos c] at h
      obtain ⟨l, fa⟩ := getAll_at eg
      have r2 := lend_rps ds vs [] c.2.1 r
      simp only [List.nil_append, List.length_nil] at r2
      rw [← l] at r2
      have hr2 := hr.lend c.1 eg c.2.2
      refine ⟨hl, lendA 0 ds, Z, lentι ι (lendK ds), os, r2, hr2, ?_⟩
      have kl : ∀ k ∈ lendK ds, k < M.length := fun k hk => by
        obtain ⟨j, hj, ej⟩ := List.mem_iff_getElem.mp hk
        obtain ⟨k', q1, q2⟩ := fa j os[j] (List.getElem?_eq_getElem (by rw [l]; exact hj))
        rw [List.getElem?_eq_getElem hj] at q1
        cases q1
        rw [← ej]
        exact (List.getElem?_eq_some_iff.mp q2).1
      cases eF : F (lendA 0 ds) os with
      | bad => rw [eF] at h; exact h.elim
      | exc n d os' =>
        rw [eF] at h
        simp only at h
        by_cases c2 : (lendK ds).length ≤ os'.length ∧ os'.all (belowO 0) = true ∧ below 0 d = true
        · rw [if_pos c2] at h
          intro cls dd H' Z' ι' e' hr' x
          obtain ⟨b1, b2⟩ := hr.back c.1 eg c.2.2 e' hr' c2.1 c2.2.1
          obtain ⟨x1, a, v, x2, x3, x4⟩ := x
          exact h cls dd H' Z' _ b2 b1 ⟨x1, a, v, x2, x3, Rp.mono (fun _ _ z => z) (fun _ z => absurd z (Nat.not_lt_zero _)) (Nat.zero_le _) _ _ (x4.shrink _ _ c2.2.2)⟩
        · rw [if_neg c2] at h
          exact h.elim
      | ok d os' =>
        rw [eF] at h
        simp only at h
        by_cases c2 : (lendK ds).length ≤ os'.length ∧ os'.all (belowO 0) = true
        · rw [if_pos c2] at h
          intro v H' Z' ι' e' hr' x
          obtain ⟨b1, b2⟩ := hr.back c.1 eg c.2.2 e' hr' c2.1 c2.2
          cases eb : backD (lendK ds) M.length d with
          | none => rw [eb] at h; exact h.elim
          | some d' =>
            rw [eb] at h
            have ln : (setAll M (lendK ds) os' ++ os'.drop (lendK ds).length).length = M.length + (os'.length - (lendK ds).length) := by rw [List.length_append, setAll_length, List.length_drop]
            refine h v H' Z' _ b2 b1 (backD_rp kl (fun j k q => ?_) (by rw [ln]; exact Nat.le_refl _) x eb)
            rw [e'.ii j (by rw [l]; exact (List.getElem?_eq_some_iff.mp q).1)]
            unfold lentι
            rw [List.getD_eq_getElem?_getD, q]
            rfl
        · rw [if_neg c2] at h
          exact h.elim
    · rw [if_neg c] at h
      exact h.elim
/-- the callee runs, its arguments bound -/
theorem run_call {pins : List (Addr × Obj)} {σ : St} {H : Hp} {s : Shared} {Q : VK} {vs : List V} {us ts : List Value} {kw : List (Str × Value)} (F0 : FnQ X.prog X.w X.K X.mg X.base C k f fd ps F) (hr : Room k X.A) (hgu : X.A.guards = some []) (tk : Takes X W) (I : Inv X pins σ H s)
    (hb : BindsTo s fd ⟨us, kw⟩ (ps.zip ts)) (r : Vals vs ts) (h : rCallQ X.K C ps F (WE W σ) vs H Q) : wpAny (model X.prog X.w) X.A (call (.ref f) us kw) (EP X pins σ Q) X.xe s :=
  wpAny_call (codeAny_mono (run_q F0 hr hgu tk I hb r h) fun r s' hq => by
    cases r with
    | error e => exact hq
    | ok fl =>
      cases fl with
      | ret u => exact hq
      | next => exact hq.elim
      | brk => exact hq.elim
      | cont => exact hq.elim)
/-- f(e, ..) -/
theorem qe_call {n : Nat} (F0 : FnQ X.prog X.w X.K X.mg X.base C k f fd ps F) (hr : Room k X.A) (hgu : X.A.guards = some []) (tk : Takes X W) (hg : Gl X x) (hm : X.mg x = some (.ref f)) (hk : PySem.W.keepIn X.K (.ref f) = true) (hb : Binds X.K fd ps []) (ha : QA X C W (e :: es) gs) (hn : n = ps.length := by rfl)
    (hdb : (x == ("__debug__" : Str)) = false := by decide) (he : starEach (e :: es) X.env = (false, eval e X.env) :: starEach es X.env := by rfl) (hpl : (backTo pos (starEach es X.env)).any (·.1) = false := by rfl) :
    QE X C W (.Call (.Name x p) (e :: es) [] pos) (gCallF n F gs) := by
  subst hn
  obtain ⟨ta, pa, qa⟩ := ha
  refine ⟨fun σ H Q => ta σ H fun vs H1 => rCallQ X.K C ps F (WE W σ) vs H1 Q, ⟨fun pins s σ H Q I h => wpAny_Call_Name_kw (ld_glob I hg hm ?_ hdb)⟩, fun σ H Z ι Γ M Q sl hr h => qa σ H Z ι Γ M _ sl hr (h.bind fun ds M1 vs H1 Z1 ι1 e1 hr1 r1 h1 => ?_)⟩
  · refine PySem.W.callWith_K (h₀ := X.base) I.ok.mod.kin hk (thn (pa.run pos pins s σ H _ I h) fun us s1 hh => ?_) he hpl
    obtain ⟨vs, H1, J, r, q⟩ := hh
    have hl : us.length = ps.length := r.length.symm.trans q.1
    have hbb := hb s1 us J.kIn (by rw [List.append_nil]; exact hl)
    rw [List.append_nil] at hbb
    exact ⟨J.kIn, run_call F0 hr hgu tk J hbb r q⟩
  · by_cases c : ds.length = ps.length
    · rw [if_pos c] at h1
      exact lent_post hr1 r1 (by rw [← r1.length]; exact c) h1
    · rw [if_neg c] at h1
      exact h1.elim
variable {kws : List Keyword} {gk : GA} {ks : List Str} {is : List Nat} {np : Nat}
end
end Bk

set_option Elab.async false
set_option linter.all false
set_option maxRecDepth 100000
set_option maxHeartbeats 2000000
namespace Bk
open PySem PySem.Spec PyProof.Rows L2

/-! ### the law's own call -/
theorem no_cx {P : Program} {w : World} {outer : List PySem.Env} {H : Hp} {s s' : Shared} {u : Value} : ¬ L2.CX P w outer H s (fun _ _ _ => False) u s' := by
  intro h
  unfold L2.CX at h
  simp_all
theorem rps_ints {K : PySem.W.Frag} {Z : Hp} {ι : Nat → Addr} {n : Nat} (is : List Int) : Rps K Z ι n (is.map D.int) (is.map V.int) := Rps.of_ints is
theorem law_q {P : Program} {w : World} {K : PySem.W.Frag} {mg mb : Str → Option Value} {C : CT} {k : Nat} {fa a : Addr} {fd : FuncData} {x : Str} {F : List D → List MO → R D} {s₁ : Shared} {vs : List Value} {ns : List Int}
    (KX : K.In s₁.heap) (hns : s₁.heap.Ns mainGlobals mg) (hb : s₁.heap.Ns builtinsNs mb) (hbb : ∀ x : Str, x ≠ "__name__" → mb x = bootBuiltins x) (hlim : s₁.heap.NoLimit) (hg : s₁.gens = #[])
    (ha : s₁.heap.get? a = some { cls := .type "list", data := .seq vs.toArray }) (hi : IntsAre vs ns) (hl : ns.length ≤ sizeLine) (hr : Room k callerA)
    (hF : ∀ base : Heap, K.In base → base.Ns mainGlobals mg → FnQ P w K mg base C k fa fd [x] F) (hbind : ∀ (s : Shared) (u : Value), BindsTo s fd ⟨[u], []⟩ [(x, u)]) (hlaw : F [.lst (ns.map D.int)] [] = .ok (.bl true) []) :
    codeAny (model P w) callerA (.call (.ref fa) ⟨[.ref a], []⟩) (fun r s' => r = .ok (.ret (.bool true)) ∧ OldK s₁.heap s'.heap ∧ s'.os = s₁.os ∧ AllBare s'.gens) s₁ := by
  have hvals := vals_ints hi
  have hlen := hi.length
  have main : ∀ H : Hp, Only H → ExL K H a (ns.map V.int) → HOk P w H s₁.heap → (∀ b, H b ≠ none → b = a) → (H a ≠ none → K.lookup a = none) →
      codeAny (model P w) callerA (.call (.ref fa) ⟨[.ref a], []⟩) (fun r s' => r = .ok (.ret (.bool true)) ∧ OldK s₁.heap s'.heap ∧ s'.os = s₁.os ∧ AllBare s'.gens) s₁ := by
    intro H only seq hok alone apart
    have free : ∀ {b : Addr} {o : Obj} {es : Array DictEntry} {ep : Nat}, s₁.heap.get? b = some o → o.data = .dict es ep → H b = none := fun {b o es ep} e d => by
      refine Classical.byContradiction fun z => ?_
      have eb : b = a := alone b z
      rw [eb, ha] at e
      cases e
      cases (show Data.seq vs.toArray _ = Data.dict es ep from d)
    have stays : ∀ {b : Addr} {m : Str → Option Value}, s₁.heap.Ns b m → (hidT s₁.heap H).Ns b m := fun {b m} z =>
      let ⟨o, es, ep, e, d, r⟩ := z
      ⟨o, es, ep, hidT_get e (free e d), d, r⟩
    have kin : K.In (hidT s₁.heap H) := fun b o e => hidT_get (KX b o e) (by
      refine Classical.byContradiction fun z => ?_
      have eb : b = a := alone b z
      subst eb
      rw [apart z] at e
      cases e)
    have hmod : Mod K mg (hidT s₁.heap H) := ⟨kin, stays hns, ⟨mb, stays hb, hbb⟩, let ⟨m, h1, h2⟩ := hlim; ⟨m, stays h1, h2⟩⟩
    have env0 : Env0 P w K mg (hidT s₁.heap H) callerA [] s₁ H :=
      ⟨rfl, hmod, fun b o e => of_hidT e, Nat.le_of_eq (hidT_size _ _), trivial, fun b z => absurd (show b ∈ ([] : List Addr) from z) (by simp), hok, AllBare.of_eq hg⟩
    have hr0 : HR K H H (fun _ => 0) [] := ⟨fun _ _ h => h, fun k h => absurd h (Nat.not_lt_zero _), fun k o h => by simp at h, fun j k o u h => by simp at h, fun k o h => by simp at h, fun k h => by simp at h⟩
    refine codeAny_mono ((hF _ kin (stays hns)).run callerA [] s₁ H ⟨[.ref a], []⟩ [.ref a] [.ref a] (fun v _ => v = .bl true) (fun _ _ _ => False) [.lst (ns.map D.int)] H (fun _ => 0) [] hr rfl env0 (hbind s₁ (.ref a)) (.cons rfl .nil) rfl
      (.cons (.lst seq (rps_ints ns)) .nil) hr0 ?_) fun r s' h => ?_
    · rw [hlaw]
      intro v H' Z' ι' _ _ rv
      cases rv
      rfl
    · cases r with
      | error e => exact absurd h no_cx
      | ok fl =>
        cases fl with
        | next => exact h.elim
        | brk => exact h.elim
        | cont => exact h.elim
        | ret u =>
          obtain ⟨v, H', os, bare, un, hok', rv, q⟩ := h
          obtain rfl : v = .bl true := q
          obtain rfl : u = Value.bool true := rv
          refine ⟨rfl, .of_keep fun b o e => ?_, os, bare⟩
          cases hb2 : H b with
          | none => exact un.keep b o e hb2 (fun z => absurd (show b ∈ ([] : List Addr) from z) (by simp)) (by simp)
          | some u =>
            rcases only b with z | ⟨ob, xs, z⟩
            · rw [hb2] at z
              cases z
            · have e1 := (hok b _ z).1
              have e2 := (hok' b _ (un.frzs b ob _ z)).1
              rw [e] at e1
              cases e1
              exact e2
  cases hk : K.lookup a with
  | some o =>
    have e := KX a o hk
    rw [ha] at e
    cases e
    exact main (fun _ => none) (fun _ => .inl rfl) (.inr ⟨vs.toArray, _, hk, by rw [List.size_toArray, hlen]; exact hl, by simpa using hvals⟩) (fun b u z => absurd z (by simp)) (fun b z => absurd rfl z) fun z => absurd rfl z
  | none =>
    have at_ : ∀ b u, (if b = a then some (HO.frz { cls := .type "list", data := .seq vs.toArray } (.lst (ns.map V.int))) else none) = some u → b = a ∧ u = HO.frz { cls := .type "list", data := .seq vs.toArray } (.lst (ns.map V.int)) := fun b u z => by
      by_cases hb : b = a
      · rw [if_pos hb] at z
        exact ⟨hb, (Option.some.inj z).symm⟩
      · rw [if_neg hb] at z
        cases z
    refine main (fun b => if b = a then some (.frz { cls := .type "list", data := .seq vs.toArray } (.lst (ns.map V.int))) else none) (fun b => ?_) (.inl (.inr ⟨_, if_pos rfl⟩)) (fun b u z => ?_) (fun b z => ?_) fun _ => hk
    · by_cases hb : b = a
      · exact .inr ⟨_, _, if_pos hb⟩
      · exact .inl (if_neg hb)
    · obtain ⟨rfl, rfl⟩ := at_ b u z
      exact ⟨ha, by rw [List.length_map]; exact hl, vs, _, hvals, ha⟩
    · exact Classical.byContradiction fun hb => z (if_neg hb)
/-- what k_head leaves -/
theorem walk_q {l : PySem.W.OpenLaw} {n k : Nat} {q : Program} {loose : List Str} {XP : (Str → Option Value) → Heap → Prop} {YP : World → Heap → Prop} {d : DefRec} {K : Params → PySem.W.Frag} {x : Str} {F : List D → List MO → R D}
    (hn : l.most = some n) (hn2 : n ≤ sizeLine) (hdf : d.params.defaults = []) (hr : Room k callerA) (hY : ∀ (w : World) (h : Heap), YP w h → (K w.params).In h)
    (hF : ∀ (w : World) (mg : Str → Option Value) (fa : Addr) (h : Heap), (K w.params).In h → h.Ns mainGlobals mg → mg d.name = some (.ref fa) →
      ∃ (fd : FuncData) (C : CT), (∀ (s : Shared) (u : Value), BindsTo s fd ⟨[u], []⟩ [(x, u)]) ∧ ∀ base : Heap, (K w.params).In base → base.Ns mainGlobals mg → FnQ l.prog w (K w.params) mg base C k fa fd [x] F)
    (hlaw : ∀ ns : List Int, ns.length ≤ n → F [.lst (ns.map D.int)] [] = .ok (.bl true) []) :
    PySem.W.WalkO q loose XP YP l.row.toRowW d [] (fun f vs => PySem.call f vs) := by
  refine Att.attach_call hn hdf fun w s₀ s₁ mg mb fa o pm cd doc a vs ns G Y ho hd hcd hmg hobj hints hlen hg => ?_
  have kx := hY w _ Y
  obtain ⟨fd, C, hb, hF'⟩ := hF w mg fa _ kx G.T.g hmg
  exact law_q kx G.T.g G.T.b G.T.builtins G.T.nolimit hg hobj hints (Nat.le_trans hlen hn2) hr hF' hb (hlaw ns hlen)
end Bk

set_option Elab.async false
set_option linter.all false
set_option maxRecDepth 100000
set_option maxHeartbeats 2000000
namespace Bk
open PySem PySem.Spec PyProof.Rows L2

/-! ### what operations compute -/
def listD (M : List MO) : D → Option (List D)
  | .lst ds => some ds
  | .ref k => match M[k]? with
    | some (.lst ds) => some ds
    | _ => none
  | _ => none
def tupD : D → Option (List D)
  | .tup ds => some ds
  | _ => none
def itemsD (M : List MO) : D → Option (List D)
  | .tup ds => some ds
  | .ptu ds => some ds
  | d => listD M d
section
variable {K : PySem.W.Frag} {H Z : Hp} {ι : Nat → Addr} {M : List MO} {d : D} {ds : List D} {v : V}
theorem listD_run (hr : HR K H Z ι M) (r : Rp K Z ι M.length d v) (h : listD M d = some ds) : ∃ a xs, v = .ref a ∧ ExL K H a xs ∧ Rps K Z ι M.length ds xs := by
  cases r with
  | lst s r =>
    cases h
    exact ⟨_, _, rfl, subL hr.sub s, r⟩
  | ref hk =>
    rename_i k
    have h' : (match M[k]? with
      | some (.lst ds) => some ds
      | _ => none) = some ds := h
    cases e : M[k]? with
    | none => rw [e] at h'; cases h'
    | some o =>
      rw [e] at h'
      cases o with
      | dead => cases h'
      | dct ks0 vs0 => cases h'
      | dki kvs0 => cases h'
      | obj nm fs => cases h'
      | lst es =>
        cases h'
        obtain ⟨xs, e1, r1⟩ := hr.obj k _ e
        exact ⟨_, xs, rfl, .inl (.of e1), r1⟩
  | _ => cases h
theorem tupD_run (hr : HR K H Z ι M) (r : Rp K Z ι M.length d v) (h : tupD d = some ds) : ∃ a xs, v = .ref a ∧ SqT K H a xs ∧ Rps K Z ι M.length ds xs := by
  cases r with
  | tup s r =>
    cases h
    exact ⟨_, _, rfl, subT hr.sub s, r⟩
  | _ => cases h
theorem itemsD_run (hr : HR K H Z ι M) (r : Rp K Z ι M.length d v) (h : itemsD M d = some ds) : ∃ a xs, v = .ref a ∧ (ExL K H a xs ∨ SqT K H a xs) ∧ Rps K Z ι M.length ds xs := by
  cases r with
  | tup s r =>
    cases h
    exact ⟨_, _, rfl, .inr (subT hr.sub s), r⟩
  | ptu s r =>
    cases h
    exact ⟨_, _, rfl, .inr (subT hr.sub s.sq), r⟩
  | lst s r =>
    obtain ⟨a, xs, h1, h2, h3⟩ := listD_run hr (.lst s r) h
    exact ⟨a, xs, h1, .inl h2, h3⟩
  | ref hk =>
    obtain ⟨a, xs, h1, h2, h3⟩ := listD_run hr (.ref hk) h
    exact ⟨a, xs, h1, .inl h2, h3⟩
  | _ => cases h
end
def iop (c : Int → Int → Bool) (g : Int → Int → D) (_ : List MO) : D → D → Option D
  | .int i, .int j => if c i j = true then some (g i j) else none
  | _, _ => none
section
variable {X : Cx}
theorem OpR.or {f : Value → Value → Sem Value} {r r' : R2} (h : OpR X f r) (h' : OpR X f r') : OpR X f (fun x y H Q => r x y H Q ∨ r' x y H Q) := fun pins s σ H x y v u Q I rx ry q =>
  q.elim (h pins s σ H x y v u Q I rx ry) (h' pins s σ H x y v u Q I rx ry)
theorem UnR.or {f : Value → Sem Value} {r r' : V → Hp → VK → Prop} (h : UnR X f r) (h' : UnR X f r') : UnR X f (fun x H Q => r x H Q ∨ r' x H Q) := fun pins s σ H x v Q I rx q => q.elim (h pins s σ H x v Q I rx) (h' pins s σ H x v Q I rx)
/-- either of two functions, as the second finds none -/
def orD (f f' : List MO → D → D → Option D) (M : List MO) (x y : D) : Option D := (f M x y).or (f' M x y)
theorem Ok2.or {r r' : R2} {f f' : List MO → D → D → Option D} (h : Ok2 X r f) (h' : Ok2 X r' f') : Ok2 X (fun x y H Q => r x y H Q ∨ r' x y H Q) (orD f f') := fun x y H Z ι M dx dy d Q hr rx ry e q => by
  unfold orD at e
  cases e1 : f M dx dy with
  | some d' =>
    rw [e1] at e
    cases e
    exact .inl (h x y H Z ι M dx dy _ Q hr rx ry e1 q)
  | none =>
    rw [e1] at e
    exact .inr (h' x y H Z ι M dx dy _ Q hr rx ry e q)
/-- how a value without parts is handed on -/
def flatVD : V → Option D
  | .non => some .non
  | .bl b => some (.bl b)
  | .int i => some (.int i)
  | .str x => some (.str x)
  | _ => none
theorem flat_rp {K : PySem.W.Frag} {Z : Hp} {ι : Nat → Addr} {n : Nat} {v : V} {d : D} (h : flatVD v = some d) : Rp K Z ι n d v := by
  cases v with
  | non => cases h; exact .non
  | bl b => cases h; exact .bl b
  | int i => cases h; exact .int i
  | str x => cases h; exact .str x
  | _ => cases h
theorem ok_rI {P : Int → Int → Prop} {gV : Int → Int → V} {c : Int → Int → Bool} {g : Int → Int → D} (hc : ∀ i j, c i j = true → P i j) (hg : ∀ i j, flatVD (gV i j) = some (g i j)) : Ok2 X (rI P gV) (iop c g) := fun x y H Z ι M dx dy d Q hr rx ry e q => by
  cases rx with
  | int i =>
    cases ry with
    | int j =>
      have e' : (if c i j = true then some (g i j) else none) = some d := e
      by_cases hh : c i j = true
      · rw [if_pos hh] at e'
        cases e'
        exact ⟨i, j, rfl, rfl, hc i j hh, q.now hr (flat_rp (hg i j))⟩
      · rw [if_neg hh] at e'
        cases e'
    | _ => cases e
  | _ => cases ry <;> cases e
def yes2 (_ _ : Int) : Bool := true
theorem ok_rI0 {gV : Int → Int → V} {g : Int → Int → D} (hg : ∀ i j, flatVD (gV i j) = some (g i j)) : Ok2 X (rI0 gV) (iop yes2 g) := fun x y H Z ι M dx dy d Q hr rx ry e q => by
  cases rx with
  | int i =>
    cases ry with
    | int j =>
      cases e
      exact ⟨i, j, rfl, rfl, q.now hr (flat_rp (hg i j))⟩
    | _ => cases e
  | _ => cases ry <;> cases e
/-! numbers -/
def dSub := iop yes2 fun i j => .int (i - j)
def mulOk (i j : Int) : Bool := (decide (-(2 ^ 64) < i) && decide (i < 2 ^ 64)) || (decide (-(2 ^ 64) < j) && decide (j < 2 ^ 64)) || decide (i.natAbs.log2 + j.natAbs.log2 < 1000000)
def fdivOk (_ j : Int) : Bool := decide (0 < j) && decide (j.natAbs.log2 < 9000)
def dFdiv := iop fdivOk fun i j => .int (i / j)
def modOk (_ j : Int) : Bool := decide (0 < j)
def dMod := iop modOk fun i j => .int (i % j)
def dMul := iop mulOk fun i j => .int (i * j)
def powOk (i j : Int) : Bool := decide (0 ≤ j) && decide (j ≤ 1000000) && decide (i.natAbs < 2 ^ 64)
def dPow := iop powOk fun i j => .int (i ^ j.toNat)
theorem ok_sub : Ok2 X (rI0 fun i j => .int (i - j)) dSub := ok_rI0 fun _ _ => rfl
theorem ok_fdiv : Ok2 X (rI CDivW fun i j => .int (i / j)) dFdiv := ok_rI (fun i j h => by
  simp only [fdivOk, Bool.and_eq_true, decide_eq_true_eq] at h
  exact h) fun _ _ => rfl
theorem op_modP : OpR X (binaryOp .Mod) (rI (fun _ j => 0 < j) fun i j => .int (i % j)) := fun pins s σ H x y v u Q I rx ry ⟨i, j, h1, h2, h3, q⟩ =>
  op_modN pins s σ H x y v u Q I rx ry ⟨i, j, h1, h2, by omega, by
    have h4 : (0 : Int) < j := h3
    show Q (V.int (i.fmod j)) H
    rw [Int.fmod_eq_emod_of_nonneg i (by omega)]
    exact q⟩
theorem ok_mod : Ok2 X (rI (fun _ j => 0 < j) fun i j => .int (i % j)) dMod := ok_rI (fun i j h => of_decide_eq_true h) fun _ _ => rfl
theorem op_mulA : OpR X (binaryOp .Mult) (rI (fun i j => mulOk i j = true) fun i j => .int (i * j)) := fun pins s σ H x y v u Q I rx ry ⟨i, j, h1, h2, h3, q⟩ => by
  simp only [mulOk, Bool.or_eq_true, Bool.and_eq_true, decide_eq_true_eq] at h3
  rcases h3 with h3 | h3
  · exact op_mul pins s σ H x y v u Q I rx ry ⟨i, j, h1, h2, h3, q⟩
  · exact op_mulW pins s σ H x y v u Q I rx ry ⟨i, j, h1, h2, h3, q⟩
theorem ok_mul : Ok2 X (rI (fun i j => mulOk i j = true) fun i j => .int (i * j)) dMul := ok_rI (fun i j h => h) fun _ _ => rfl
theorem ok_pow : Ok2 X (rI CPow fun i j => .int (i ^ j.toNat)) dPow := ok_rI (fun i j h => by
  simp only [powOk, Bool.and_eq_true, decide_eq_true_eq] at h
  exact ⟨h.1.1, h.1.2, h.2⟩) fun _ _ => rfl
def dLt := iop yes2 fun i j => .bl (decide (i < j))
def dLe := iop yes2 fun i j => .bl (decide (i ≤ j))
def dGt := iop yes2 fun i j => .bl (decide (j < i))
def dGe := iop yes2 fun i j => .bl (decide (j ≤ i))
theorem ok_lt : Ok2 X (rI0 fun i j => .bl (decide (i < j))) dLt := ok_rI0 fun _ _ => rfl
theorem ok_le : Ok2 X (rI0 fun i j => .bl (decide (i ≤ j))) dLe := ok_rI0 fun _ _ => rfl
theorem ok_gt : Ok2 X (rI0 fun i j => .bl (decide (j < i))) dGt := ok_rI0 fun _ _ => rfl
theorem ok_ge : Ok2 X (rI0 fun i j => .bl (decide (j ≤ i))) dGe := ok_rI0 fun _ _ => rfl

/-! adding -/
def catT (_ : List MO) : D → D → Option D
  | .tup a, .tup b => if a.length + b.length ≤ sizeLine then some (.tup (a ++ b)) else none
  | _, _ => none
def catL (M : List MO) (x y : D) : Option D := match listD M x, listD M y with
  | some a, some b => if a.length + b.length ≤ sizeLine then some (.lst (a ++ b)) else none
  | _, _ => none
def addI (M : List MO) : D → D → Option D
  | .int i, .int j => some (.int (i + j))
  | .str x, .str y => if x.length + y.length ≤ sizeLine then some (.str (x ++ y)) else none
  | .tup a, y => catT M (.tup a) y
  | x, y => catL M x y
def dAdd := addI
def rCatS (K : PySem.W.Frag) : R2 := fun x y H Q => ∃ l b xs zs, x = .ref l ∧ y = .ref b ∧ ExL K H l xs ∧ ExL K H b zs ∧ xs.length + zs.length ≤ sizeLine ∧ ∀ p, H p = none → Q (.ref p) (upd H p (.lst (xs ++ zs)))
theorem op_catS : OpR X (binaryOp .Add) (rCatS X.K) := by
  intro pins s σ H x y v u Q I rx ry h
  obtain ⟨l, b, xs, zs, rfl, rfl, hx, hz, hs, q⟩ := h
  cases rx
  cases ry
  obtain ⟨its, m1, r1, e1, _⟩ := hx.at_ I
  obtain ⟨its2, m2, r2, e2, _⟩ := hz.at_ I
  refine PySem.P.add_list e1 e2 ?_ (by rw [List.size_toArray, List.size_toArray, ← r1.length, ← r2.length]; exact hs)
  have ea : its.toArray ++ its2.toArray = (its ++ its2).toArray := by simp
  rw [ea]
  exact ⟨.ref _, _, I.lnew (t' := s.toks) (r1.append r2) (by rw [List.length_append]; exact hs), rfl, q _ I.fresh⟩
abbrev rAdd (K : PySem.W.Frag) : R2 := fun x y H Q => (rI0 (fun i j => .int (i + j)) x y H Q ∨ (∃ i j, x = .str i ∧ y = .str j ∧ i.length + j.length ≤ sizeLine ∧ Q (.str (i ++ j)) H)) ∨ (rCatA K x y H Q ∨ rCatS K x y H Q)
theorem op_addA : OpR X (binaryOp .Add) (rAdd X.K) := (op_add.or op_add_str).or (op_catA.or op_catS)
theorem ok_add : Ok2 X (rAdd X.K) dAdd := fun x y H Z ι M dx dy d Q hr rx ry e q => by
  have lists : ∀ {dx : D}, Rp X.K Z ι M.length dx x → catL M dx dy = some d → rAdd X.K x y H Q := fun {dx} rx e => by
    unfold catL at e
    cases e1 : listD M dx with
    | none => rw [e1] at e; cases e
    | some a =>
      cases e2 : listD M dy with
      | none => rw [e1, e2] at e; cases e
      | some b =>
        rw [e1, e2] at e
        simp only at e
        by_cases c : a.length + b.length ≤ sizeLine
        · rw [if_pos c] at e
          cases e
          obtain ⟨p1, xs, rfl, s1, r1⟩ := listD_run hr rx e1
          obtain ⟨p2, ys, rfl, s2, r2⟩ := listD_run hr ry e2
          exact .inr (.inr ⟨p1, p2, xs, ys, rfl, rfl, s1, s2, by rw [← r1.length, ← r2.length]; exact c, q.lst hr (r1.append r2)⟩)
        · rw [if_neg c] at e
          cases e
  cases rx with
  | int i =>
    cases ry with
    | int j =>
      cases e
      exact .inl (.inl ⟨i, j, rfl, rfl, q.now hr (.int _)⟩)
    | _ => cases e
  | dct s r t => cases e
  | ptu s r => cases e
  | str a =>
    cases ry with
    | str b =>
      have e' : (if a.length + b.length ≤ sizeLine then some (D.str (a ++ b)) else none) = some d := e
      by_cases c : a.length + b.length ≤ sizeLine
      · rw [if_pos c] at e'
        cases e'
        exact .inl (.inr ⟨a, b, rfl, rfl, c, q.now hr (.str _)⟩)
      · rw [if_neg c] at e'
        cases e'
    | _ => cases e
  | tup s1 r1 =>
    rename_i a p1 xs
    cases ry with
    | tup s2 r2 =>
      rename_i b p2 ys
      have e' : (if a.length + b.length ≤ sizeLine then some (D.tup (a ++ b)) else none) = some d := e
      by_cases c : a.length + b.length ≤ sizeLine
      · rw [if_pos c] at e'
        cases e'
        refine .inr (.inl ⟨p1, p2, xs, ys, rfl, rfl, subT hr.sub s1, subT hr.sub s2, by rw [← r1.length, ← r2.length]; exact c, fun z => ?_, fun _ z => ?_, fun _ _ => q.tup hr (r1.append r2)⟩)
        · have : a = [] := List.length_eq_zero_iff.mp (by rw [r1.length, z]; rfl)
          subst this
          exact q.now hr (.tup s2 r2)
        · have : b = [] := List.length_eq_zero_iff.mp (by rw [r2.length, z]; rfl)
          subst this
          rw [List.append_nil] at q
          exact q.now hr (.tup s1 r1)
      · rw [if_neg c] at e'
        cases e'
    | _ => cases e
  | lst s1 r1 => exact lists (.lst s1 r1) e
  | ref hk => exact lists (.ref hk) e
  | non => cases ry <;> cases e
  | bl b => cases ry <;> cases e

/-! is None -/
def dIsN (_ : List MO) : D → D → Option D
  | .non, .non => some (.bl true)
  | _, .non => some (.bl false)
  | _, _ => none
def dNotN (_ : List MO) : D → D → Option D
  | .non, .non => some (.bl false)
  | _, .non => some (.bl true)
  | _, _ => none
theorem ok_isN : Ok2 X (fun x y H Q => y = .non ∧ Q (.bl (decide (x = .non))) H) dIsN := fun x y H Z ι M dx dy d Q hr rx ry e q => by
  cases ry with
  | non =>
    refine ⟨rfl, ?_⟩
    cases rx with
    | non =>
      cases e
      exact q.now hr (.bl true)
    | _ =>
      cases e
      exact q.now hr (.bl false)
  | _ => cases rx <;> cases e
theorem ok_notN : Ok2 X (fun x y H Q => y = .non ∧ Q (.bl (!decide (x = .non))) H) dNotN := fun x y H Z ι M dx dy d Q hr rx ry e q => by
  cases ry with
  | non =>
    refine ⟨rfl, ?_⟩
    cases rx with
    | non =>
      cases e
      exact q.now hr (.bl false)
    | _ =>
      cases e
      exact q.now hr (.bl true)
  | _ => cases rx <;> cases e

/-! equal data -/
mutual
/-- data without refs -/
def toP : D → Option PyData
  | .non => some .none
  | .bl b => some (.bool b)
  | .int i => some (.int i)
  | .str x => some (.str x)
  | .tup ds => (toPs ds).map .tuple
  | .lst ds => (toPs ds).map .list
  | .ref _ => none
  | .dct _ _ => none
  | .ptu ds => (toPs ds).map .tuple
def toPs : List D → Option (List PyData)
  | [] => some []
  | d :: ds => match toP d, toPs ds with
    | some p, some ps => some (p :: ps)
    | _, _ => none
end
/-- a list of ours, and those in it, as they stand -/
def deref1 (M : List MO) : D → D
  | .ref k => match M[k]? with
    | some (.lst ds) => .lst ds
    | _ => .ref k
  | d => d
def deref (M : List MO) (d : D) : D := match deref1 M d with
  | .lst ds => .lst (ds.map (deref1 M))
  | d => d
section
variable {K : PySem.W.Frag} {H Z : Hp} {ι : Nat → Addr} {n : Nat} {M : List MO}
mutual
theorem toP_dp (hs : Sub Z H) : ∀ (d : D) (v : V) (p : PyData), Rp K Z ι n d v → toP d = some p → Dp K H v p
  | .non, _, p, h, e => by cases h; cases e; exact .non
  | .bl b, _, p, h, e => by cases h; cases e; exact .bl b
  | .int i, _, p, h, e => by cases h; cases e; exact .int i
  | .str x, _, p, h, e => by cases h; cases e; exact .str x
  | .tup ds, _, p, h, e => by
    cases h with
    | tup s r =>
      have e' : (toPs ds).map PyData.tuple = some p := e
      cases e2 : toPs ds with
      | none => rw [e2] at e'; cases e'
      | some ps =>
        rw [e2] at e'
        cases e'
        exact .tup (subT hs s) (toPs_dp hs ds _ ps r e2)
  | .lst ds, _, p, h, e => by
    cases h with
    | lst s r =>
      have e' : (toPs ds).map PyData.list = some p := e
      cases e2 : toPs ds with
      | none => rw [e2] at e'; cases e'
      | some ps =>
        rw [e2] at e'
        cases e'
        exact .lst (subL hs s).sq (toPs_dp hs ds _ ps r e2)
  | .ref k, _, p, h, e => by cases e
  | .dct _ _, _, p, h, e => by cases e
  | .ptu ds, _, p, h, e => by
    cases h with
    | ptu s r =>
      have e' : (toPs ds).map PyData.tuple = some p := e
      cases e2 : toPs ds with
      | none => rw [e2] at e'; cases e'
      | some ps =>
        rw [e2] at e'
        cases e'
        exact .tup (subT hs s.sq) (toPs_dp hs ds _ ps r e2)
theorem toPs_dp (hs : Sub Z H) : ∀ (ds : List D) (vs : List V) (ps : List PyData), Rps K Z ι n ds vs → toPs ds = some ps → DpAll K H vs ps
  | [], _, ps, h, e => by cases h; cases e; exact .nil
  | d :: ds, _, ps, h, e => by
    cases h with
    | cons r rs =>
      have e' : (match toP d, toPs ds with
        | some p, some ps => some (p :: ps)
        | _, _ => none) = some ps := e
      cases e1 : toP d with
      | none => rw [e1] at e'; cases e'
      | some p =>
        cases e2 : toPs ds with
        | none => rw [e1, e2] at e'; cases e'
        | some qs =>
          rw [e1, e2] at e'
          cases e'
          exact .cons (toP_dp hs d _ p r e1) (toPs_dp hs ds _ qs rs e2)
end
theorem deref1_dp (hr : HR K H Z ι M) {d : D} {v : V} {p : PyData} (r : Rp K Z ι M.length d v) (e : toP (deref1 M d) = some p) : Dp K H v p := by
  cases r with
  | ref hk =>
    rename_i k
    have e' : toP (match M[k]? with
      | some (.lst ds) => .lst ds
      | _ => .ref k) = some p := e
    cases e1 : M[k]? with
    | none => rw [e1] at e'; cases e'
    | some o =>
      rw [e1] at e'
      cases o with
      | dead => cases e'
      | dct ks0 vs0 => cases e'
      | dki kvs0 => cases e'
      | obj nm fs => cases e'
      | lst ds =>
        have e2 : (toPs ds).map PyData.list = some p := e'
        obtain ⟨xs, h1, r1⟩ := hr.obj k _ e1
        cases e3 : toPs ds with
        | none => rw [e3] at e2; cases e2
        | some ps =>
          rw [e3] at e2
          cases e2
          exact .lst (.of h1) (toPs_dp hr.sub ds _ ps r1 e3)
  | non => exact toP_dp (ι := ι) (n := M.length) hr.sub _ _ _ .non e
  | bl b => exact toP_dp (ι := ι) (n := M.length) hr.sub _ _ _ (.bl b) e
  | int i => exact toP_dp (ι := ι) (n := M.length) hr.sub _ _ _ (.int i) e
  | str x => exact toP_dp (ι := ι) (n := M.length) hr.sub _ _ _ (.str x) e
  | tup s r => exact toP_dp hr.sub _ _ _ (.tup s r) e
  | dct s r t => cases e
  | ptu s r => exact toP_dp hr.sub _ _ _ (.ptu s r) e
  | lst s r => exact toP_dp hr.sub _ _ _ (.lst s r) e
theorem deref1s_dp (hr : HR K H Z ι M) : ∀ {ds : List D} {vs : List V} {ps : List PyData}, Rps K Z ι M.length ds vs → toPs (ds.map (deref1 M)) = some ps → DpAll K H vs ps
  | [], _, ps, h, e => by cases h; cases e; exact .nil
  | d :: ds, _, ps, h, e => by
    cases h with
    | cons r rs =>
      have e' : (match toP (deref1 M d), toPs (ds.map (deref1 M)) with
        | some p, some ps => some (p :: ps)
        | _, _ => none) = some ps := e
      cases e1 : toP (deref1 M d) with
      | none => rw [e1] at e'; cases e'
      | some p =>
        cases e2 : toPs (ds.map (deref1 M)) with
        | none => rw [e1, e2] at e'; cases e'
        | some qs =>
          rw [e1, e2] at e'
          cases e'
          exact .cons (deref1_dp hr r e1) (deref1s_dp hr rs e2)
theorem deref_dp (hr : HR K H Z ι M) {d : D} {v : V} {p : PyData} (r : Rp K Z ι M.length d v) (e : toP (deref M d) = some p) : Dp K H v p := by
  have two : ∀ {ds : List D} {a : Addr} {xs : List V}, SqL K H a xs → Rps K Z ι M.length ds xs → toP (.lst (ds.map (deref1 M))) = some p → Dp K H (.ref a) p := fun {ds a xs} s r e => by
    have e' : (toPs (ds.map (deref1 M))).map PyData.list = some p := e
    cases e2 : toPs (ds.map (deref1 M)) with
    | none => rw [e2] at e'; cases e'
    | some ps =>
      rw [e2] at e'
      cases e'
      exact .lst s (deref1s_dp hr r e2)
  cases r with
  | lst s r => exact two (subL hr.sub s).sq r e
  | ref hk =>
    rename_i k
    cases e1 : M[k]? with
    | none =>
      have : deref M (.ref k) = .ref k := by simp [deref, deref1, e1]
      rw [this] at e
      cases e
    | some o =>
      cases o with
      | dead =>
        have : deref M (.ref k) = .ref k := by simp [deref, deref1, e1]
        rw [this] at e
        cases e
      | dct ks0 vs0 =>
        have : deref M (.ref k) = .ref k := by simp [deref, deref1, e1]
        rw [this] at e
        cases e
      | dki kvs0 =>
        have : deref M (.ref k) = .ref k := by simp [deref, deref1, e1]
        rw [this] at e
        cases e
      | obj nm fs =>
        have : deref M (.ref k) = .ref k := by simp [deref, deref1, e1]
        rw [this] at e
        cases e
      | lst ds =>
        have : deref M (.ref k) = .lst (ds.map (deref1 M)) := by simp [deref, deref1, e1]
        rw [this] at e
        obtain ⟨xs, h1, r1⟩ := hr.obj k _ e1
        exact two (.of h1) r1 e
  | non => exact toP_dp (ι := ι) (n := M.length) hr.sub _ _ _ .non e
  | bl b => exact toP_dp (ι := ι) (n := M.length) hr.sub _ _ _ (.bl b) e
  | int i => exact toP_dp (ι := ι) (n := M.length) hr.sub _ _ _ (.int i) e
  | str x => exact toP_dp (ι := ι) (n := M.length) hr.sub _ _ _ (.str x) e
  | tup s r => exact toP_dp hr.sub _ _ _ (.tup s r) e
  | dct s r t => cases e
  | ptu s r => exact toP_dp hr.sub _ _ _ (.ptu s r) e
end
def eqP (M : List MO) (x y : D) : Option Bool := match toP (deref M x), toP (deref M y) with
  | some p, some q => if (SeqAt.shaped p && SeqAt.shaped q) = true then some (PyData.eqv p q) else none
  | _, _ => none
def dEq (M : List MO) (x y : D) : Option D := (eqP M x y).map D.bl
def dNe (M : List MO) (x y : D) : Option D := (eqP M x y).map fun b => D.bl (!b)
theorem eqP_run {K : PySem.W.Frag} {H Z : Hp} {ι : Nat → Addr} {M : List MO} {dx dy : D} {x y : V} {b : Bool} (hr : HR K H Z ι M) (rx : Rp K Z ι M.length dx x) (ry : Rp K Z ι M.length dy y) (e : eqP M dx dy = some b) :
    ∃ p q, Dp K H x p ∧ Dp K H y q ∧ SeqAt.shaped p = true ∧ SeqAt.shaped q = true ∧ PyData.eqv p q = b := by
  unfold eqP at e
  cases e1 : toP (deref M dx) with
  | none => rw [e1] at e; cases e
  | some p =>
    cases e2 : toP (deref M dy) with
    | none => rw [e1, e2] at e; cases e
    | some q =>
      rw [e1, e2] at e
      simp only at e
      by_cases c : (SeqAt.shaped p && SeqAt.shaped q) = true
      · rw [if_pos c] at e
        rw [Bool.and_eq_true] at c
        exact ⟨p, q, deref_dp hr rx e1, deref_dp hr ry e2, c.1, c.2, Option.some.inj e⟩
      · rw [if_neg c] at e
        cases e
theorem ok_eq : Ok2 X (rEqD X.K) dEq := fun x y H Z ι M dx dy d Q hr rx ry e q => by
  unfold dEq at e
  cases e1 : eqP M dx dy with
  | none => rw [e1] at e; cases e
  | some b =>
    rw [e1] at e
    cases e
    obtain ⟨p, p', h1, h2, h3, h4, h5⟩ := eqP_run hr rx ry e1
    exact ⟨p, p', h1, h2, h3, h4, by rw [h5]; exact q.now hr (.bl b)⟩
theorem ok_ne : Ok2 X (rNeD X.K) dNe := fun x y H Z ι M dx dy d Q hr rx ry e q => by
  unfold dNe at e
  cases e1 : eqP M dx dy with
  | none => rw [e1] at e; cases e
  | some b =>
    rw [e1] at e
    cases e
    obtain ⟨p, p', h1, h2, h3, h4, h5⟩ := eqP_run hr rx ry e1
    exact ⟨p, p', h1, h2, h3, h4, by rw [h5]; exact q.now hr (.bl _)⟩
end
end Bk

set_option Elab.async false
set_option linter.all false
set_option maxRecDepth 100000
set_option maxHeartbeats 2000000
namespace Bk
open PySem PySem.Spec PyProof.Rows L2
section
variable {X : Cx}
/-! a list times a number -/
def rRepS (K : PySem.W.Frag) : R2 := fun x y H Q => ∃ l k xs, x = .ref l ∧ y = .int k ∧ ExL K H l xs ∧ -(2 ^ 63) ≤ k ∧ k < 2 ^ 63 ∧ xs.length * k.toNat ≤ sizeLine ∧ ∀ p, H p = none → Q (.ref p) (upd H p (.lst (List.replicate k.toNat xs).flatten))
theorem op_repS : OpR X (binaryOp .Mult) (rRepS X.K) := by
  intro pins s σ H x y v u Q I rx ry h
  obtain ⟨l, k, xs, rfl, rfl, hx, k1, k2, hz, q⟩ := h
  cases rx
  obtain ⟨tk, rfl⟩ := ry
  obtain ⟨its, m, rv, eo, _⟩ := hx.at_ I
  have hl := rv.length
  have size : its.toArray.size * k.toNat ≤ sizeLine := by rw [List.size_toArray, ← hl]; exact hz
  have cap : ¬ its.toArray.size * k.toNat > (2 ^ 63 - 1) / 8 := Nat.not_lt.mpr (Nat.le_trans size (by decide))
  have fit : ¬ (!Builtin.List.listFitsIndex k) = true := by
    rw [fitsIndex_both k1 k2]
    exact Bool.false_ne_true
  have long : ¬ Builtin.List.listTooLong (its.toArray.size * k.toNat) = true := by
    rw [notLongL size]
    exact Bool.false_ne_true
  have made : List.foldl (fun a b => a ++ b) #[] (List.replicate (if its.toArray.isEmpty = true then 0 else k.toNat) its.toArray) = (List.replicate k.toNat its).flatten.toArray := by
    have any : ∀ j : Nat, List.foldl (fun a b => a ++ b) #[] (List.replicate j its.toArray) = (List.replicate j its).flatten.toArray := fun j => by simpa using foldl_rep its j []
    rw [any]
    cases its with
    | nil => simp
    | cons a r' => simp
  refine wpAny_binaryOp_repeat_ref (T := "list") (U := "int") (by decide) ⟨_, eo, rfl⟩ (fun s' => typeIs_int s' k tk) noFill_list_mul F.fills_int_mul F.slot_int_rmul repeat_list F.slot_int_index.lookup ?_
  refine call_meets F.slot_int_rmul (typeIs_int s k tk) F.entry_int_rmul (F.args_int_rmul_2 _ _) (int___rmul___int_list k tk l its.toArray m) ⟨eo, rfl, ⟨_, eo, rfl⟩, ?_⟩
  refine call_meets F.slot_list_mul ⟨_, eo, rfl⟩ F.entry_list_mul (F.args_list_mul_2 _ _) (AutoListH.list___mul___list_int_3 l its.toArray m k tk fit cap long) ⟨eo, ?_⟩
  rw [made]
  exact ⟨.ref _, _, I.lnew (t' := s.toks) (rv.rep k.toNat) (by rw [PyProof.Rows.lm_len_rep_flat, Nat.mul_comm]; exact hz), rfl, q _ I.fresh⟩
def repI (M : List MO) (x : D) : D → Option D
  | .int k => match listD M x with
    | some a => if decide (k < 2 ^ 63) && decide (-(2 ^ 63) ≤ k) && decide (a.length * k.toNat ≤ sizeLine) then some (.lst (List.replicate k.toNat a).flatten) else none
    | none => none
  | _ => none
def dMulA (M : List MO) : D → D → Option D
  | .int i, y => dMul M (.int i) y
  | x, y => repI M x y
abbrev rMulA (K : PySem.W.Frag) : R2 := fun x y H Q => rI (fun i j => mulOk i j = true) (fun i j => .int (i * j)) x y H Q ∨ rRepS K x y H Q
theorem op_mulL : OpR X (binaryOp .Mult) (rMulA X.K) := op_mulA.or op_repS
theorem ok_mulL : Ok2 X (rMulA X.K) dMulA := fun x y H Z ι M dx dy d Q hr rx ry e q => by
  have lists : ∀ {dx : D}, Rp X.K Z ι M.length dx x → repI M dx dy = some d → rMulA X.K x y H Q := fun {dx} rx e => by
    cases ry with
    | int k =>
      have e' : (match listD M dx with
        | some a => if decide (k < 2 ^ 63) && decide (-(2 ^ 63) ≤ k) && decide (a.length * k.toNat ≤ sizeLine) then some (D.lst (List.replicate k.toNat a).flatten) else none
        | none => none) = some d := e
      cases e1 : listD M dx with
      | none => rw [e1] at e'; cases e'
      | some a =>
        rw [e1] at e'
        simp only at e'
        by_cases c : (decide (k < 2 ^ 63) && decide (-(2 ^ 63) ≤ k) && decide (a.length * k.toNat ≤ sizeLine)) = true
        · rw [if_pos c] at e'
          cases e'
          simp only [Bool.and_eq_true, decide_eq_true_eq] at c
          obtain ⟨p1, xs, rfl, s1, r1⟩ := listD_run hr rx e1
          exact .inr ⟨p1, k, xs, rfl, rfl, s1, c.1.2, c.1.1, by rw [← r1.length]; exact c.2, q.lst hr (r1.rep k.toNat)⟩
        · rw [if_neg c] at e'
          cases e'
    | _ => cases e
  cases rx with
  | dct s_ r_ t_ => first | (cases e; done) | (cases hd; done) | (cases h; done) | (cases h1; done) | (cases e1; done) | (cases h'; done) | (cases ei; done) | (cases e'; done) | exact h.elim | exact h1.elim | exact h2.elim | exact .inl (lists (.dct s_ r_ t_) hd) | exact lists (.dct s_ r_ t_) e
  | ptu s_ r_ => first | exact seqs (.ptu s_ r_) e | (cases e; exact .base (.tup (subT hr.sub s_.sq))) | (cases e; done) | (cases hd; done) | (cases h; done) | (cases h1; done) | (cases e1; done) | (cases h'; done) | (cases ei; done) | (cases e'; done) | exact h.elim | exact h1.elim | exact h2.elim | exact .inl (lists (.ptu s_ r_) hd) | exact lists (.ptu s_ r_) e
  | int i => exact .inl (ok_mul (X := X) _ _ H Z ι M _ _ d Q hr (.int i) ry e q)
  | lst s1 r1 => exact lists (.lst s1 r1) e
  | ref hk => exact lists (.ref hk) e
  | tup s1 r1 => exact lists (.tup s1 r1) e
  | non => exact lists .non e
  | bl b => exact lists (.bl b) e
  | str b => exact lists (.str b) e
/-! minus -/
def dNeg (_ : List MO) : D → Option D
  | .int i => some (.int (-i))
  | _ => none
theorem ok_neg : Ok1 X (rU fun i => .int (-i)) dNeg := fun x H Z ι M dx d Q hr rx e q => by
  cases rx with
  | int i =>
    cases e
    exact ⟨i, rfl, q.now hr (.int _)⟩
  | _ => cases e
/-! items -/
def dIx (M : List MO) (x : D) : D → Option D
  | .int i => (itemsD M x).bind fun ds => atI ds i
  | _ => none
theorem atI_rp {K : PySem.W.Frag} {Z : Hp} {ι : Nat → Addr} {n : Nat} {ds : List D} {vs : List V} {i : Int} {d : D} (r : Rps K Z ι n ds vs) (h : atI ds i = some d) : ∃ v, atI vs i = some v ∧ Rp K Z ι n d v := by
  unfold atI at h
  cases e : ixN ds.length i with
  | none => rw [e] at h; cases h
  | some j =>
    rw [e] at h
    obtain ⟨v, h1, h2⟩ := r.get (i := j) h
    refine ⟨v, ?_, h2⟩
    unfold atI
    rw [← r.length, e]
    exact h1
abbrev rIxA (K : PySem.W.Frag) : R2 := fun x y H Q => rIxL K x y H Q ∨ rIxT K x y H Q
theorem ix_A : IxR X (rIxA X.K) := ix_list.or ix_tup
theorem ok_ix : Ok2 X (rIxA X.K) dIx := fun x y H Z ι M dx dy d Q hr rx ry e q => by
  cases ry with
  | int i =>
    have e' : (itemsD M dx).bind (fun ds => atI ds i) = some d := e
    cases e1 : itemsD M dx with
    | none => rw [e1] at e'; cases e'
    | some ds =>
      rw [e1] at e'
      obtain ⟨a, xs, rfl, s, r⟩ := itemsD_run hr rx e1
      obtain ⟨v, h1, h2⟩ := atI_rp r e'
      rcases s with s | s
      · exact .inl ⟨a, xs, i, v, rfl, rfl, s.sq, h1, q.now hr h2⟩
      · exact .inr ⟨a, xs, i, v, rfl, rfl, s, h1, q.now hr h2⟩
  | _ => cases e
/-! in -/
def toV : D → Option V
  | .non => some .non
  | .bl b => some (.bl b)
  | .int i => some (.int i)
  | .str x => some (.str x)
  | _ => none
def toVs : List D → Option (List V)
  | [] => some []
  | d :: ds => match toV d, toVs ds with
    | some v, some vs => some (v :: vs)
    | _, _ => none
theorem toV_is {K : PySem.W.Frag} {Z : Hp} {ι : Nat → Addr} {n : Nat} {d : D} {v w : V} (r : Rp K Z ι n d v) (h : toV d = some w) : v = w ∧ flatV v = true := by
  cases r with
  | non => cases h; exact ⟨rfl, rfl⟩
  | bl b => cases h; exact ⟨rfl, rfl⟩
  | int i => cases h; exact ⟨rfl, rfl⟩
  | str x => cases h; exact ⟨rfl, rfl⟩
  | _ => cases h
theorem toVs_is {K : PySem.W.Frag} {Z : Hp} {ι : Nat → Addr} {n : Nat} : ∀ {ds : List D} {vs ws : List V}, Rps K Z ι n ds vs → toVs ds = some ws → vs = ws ∧ vs.all flatV = true
  | [], _, _, r, h => by cases r; cases h; exact ⟨rfl, rfl⟩
  | d :: ds, _, _, r, h => by
    cases r with
    | cons r rs =>
      have h' : (match toV d, toVs ds with
        | some v, some vs => some (v :: vs)
        | _, _ => none) = some _ := h
      cases e1 : toV d with
      | none => rw [e1] at h'; cases h'
      | some v =>
        cases e2 : toVs ds with
        | none => rw [e1, e2] at h'; cases h'
        | some vs =>
          rw [e1, e2] at h'
          cases h'
          obtain ⟨a1, a2⟩ := toV_is r e1
          obtain ⟨b1, b2⟩ := toVs_is rs e2
          exact ⟨by rw [a1, b1], by simp [a2, b2]⟩
def inP (M : List MO) (x y : D) : Option Bool := match toV x, (itemsD M y).bind toVs with
  | some v, some vs => some (inV v vs)
  | _, _ => none
def dIn (M : List MO) (x y : D) : Option D := (inP M x y).map D.bl
def dNotIn (M : List MO) (x y : D) : Option D := (inP M x y).map fun b => D.bl (!b)
theorem inP_run {K : PySem.W.Frag} {H Z : Hp} {ι : Nat → Addr} {M : List MO} {dx dy : D} {x y : V} {b : Bool} (hr : HR K H Z ι M) (rx : Rp K Z ι M.length dx x) (ry : Rp K Z ι M.length dy y) (e : inP M dx dy = some b) :
    ∃ p xs, y = .ref p ∧ (SqL K H p xs ∨ SqT K H p xs) ∧ flatV x = true ∧ xs.all flatV = true ∧ inV x xs = b := by
  unfold inP at e
  cases e1 : toV dx with
  | none => rw [e1] at e; cases e
  | some v =>
    cases e2 : itemsD M dy with
    | none => rw [e1, e2] at e; cases e
    | some ds =>
      cases e3 : toVs ds with
      | none => rw [e1, e2, Option.bind_some, e3] at e; cases e
      | some vs =>
        rw [e1, e2, Option.bind_some, e3] at e
        cases e
        obtain ⟨a1, a2⟩ := toV_is rx e1
        obtain ⟨p, xs, rfl, s, r⟩ := itemsD_run hr ry e2
        obtain ⟨b1, b2⟩ := toVs_is r e3
        subst a1 b1
        exact ⟨p, _, rfl, s.elim (fun s => .inl s.sq) .inr, a2, b2, rfl⟩
theorem ok_in : Ok2 X (rIn X.K false) dIn := fun x y H Z ι M dx dy d Q hr rx ry e q => by
  unfold dIn at e
  cases e1 : inP M dx dy with
  | none => rw [e1] at e; cases e
  | some b =>
    rw [e1] at e
    cases e
    obtain ⟨p, xs, h1, h2, h3, h4, h5⟩ := inP_run hr rx ry e1
    exact ⟨p, xs, h1, h2, h3, h4, by rw [h5]; exact q.now hr (.bl b)⟩
/-! slices -/
abbrev GO := Env → List MO → R (Option Int)
abbrev rpO : RpK (Option Int) (Option Int) := fun _ _ _ a b => a = b
def QO (X : Cx) (C : CT) (W : WX) (e : Option Expr) (g : GO) : Prop := ∃ te, PO X e te ∧ ∀ (σ : St) (H Z : Hp) (ι : Nat → Addr) (Γ : Env) (M : List MO) (Q : Option Int → Hp → Prop), Slots X.K Z ι M.length Γ σ → HR X.K H Z ι M → Post X C W rpO σ H Z ι M (g Γ M) Q → te σ H Q
def gNoO : GO := fun _ M => .ok none M
def toI : D → Option Int
  | .int i => some i
  | _ => none
def gO (ge : GE) : GO := fun Γ M => (ge Γ M).bind fun d M1 => opR ((toI d).map some) M1
variable {C : CT} {W : WX}
theorem qo_none : QO X C W none gNoO := ⟨_, po_none, fun σ H Z ι Γ M Q sl hr h => h none H Z ι .refl hr rfl⟩
theorem qo_some {e : Expr} {g : GE} (h : QE X C W e g) : QO X C W (some e) (gO g) := by
  obtain ⟨t, p, q⟩ := h
  refine ⟨_, po_some p, fun σ H Z ι Γ M Q sl hr h => q σ H Z ι Γ M _ sl hr (h.bind fun x M1 v H1 Z1 ι1 e1 hr1 r1 h1 => ?_)⟩
  cases r1 with
  | int i => exact ⟨i, rfl, h1 _ H1 Z1 ι1 .refl hr1 rfl⟩
  | _ => exact h1.elim
def cutD (ds : List D) (lo hi : Option Int) : List D := (ds.drop (HT.sIx ds.length 0 lo)).take (HT.sIx ds.length ds.length hi - HT.sIx ds.length 0 lo)
def dCut (M : List MO) (lo hi : Option Int) : D → Option D
  | .tup ds => some (.tup (cutD ds lo hi))
  | d => (listD M d).map fun ds => .lst (cutD ds lo hi)
def gSl (ge : GE) (lo hi : GO) : GE := fun Γ M => (ge Γ M).bind fun x M1 => (lo Γ M1).bind fun a M2 => (hi Γ M2).bind fun b M3 => opR (dCut M3 a b x) M3
theorem cut_rps {K : PySem.W.Frag} {Z : Hp} {ι : Nat → Addr} {n : Nat} {ds : List D} {vs : List V} (r : Rps K Z ι n ds vs) (lo hi : Option Int) : Rps K Z ι n (cutD ds lo hi) (cutV vs lo hi) := by
  unfold cutD cutV
  rw [r.length]
  exact (r.drop _).take _
theorem qe_slice {e : Expr} {lo hi : Option Expr} {g : GE} {gl gh : GO} {pos p2 : Pos} (he : QE X C W e g) (hl : QO X C W lo gl) (hh : QO X C W hi gh) : QE X C W (.Subscript e (.Slice lo hi none p2) pos) (gSl g gl gh) := by
  obtain ⟨t, p, q⟩ := he
  obtain ⟨tl, pl, ql⟩ := hl
  obtain ⟨th, ph, qh⟩ := hh
  refine ⟨_, pe_slice (sl_list.or sl_tupA) p pl ph, fun σ H Z ι Γ M Q sl hr h => q σ H Z ι Γ M _ sl hr (h.bind fun x M1 v H1 Z1 ι1 e1 hr1 r1 h1 => ql σ H1 Z1 ι1 Γ M1 _ (sl.ext e1) hr1 (h1.bind fun a M2 a' H2 Z2 ι2 e2 hr2 ra h2 =>
    qh σ H2 Z2 ι2 Γ M2 _ ((sl.ext e1).ext e2) hr2 (h2.bind fun b M3 b' H3 Z3 ι3 e3 hr3 rb h3 => ?_)))⟩
  have ra' : a = a' := ra
  have rb' : b = b' := rb
  subst ra' rb'
  obtain ⟨d, hd, h4⟩ := Post.of_opR (γ := D) (δ := V) h3
  have r3 := (r1.ext e2).ext e3
  have q3 := h4.after
  have lists : ∀ {dx : D}, Rp X.K Z3 ι3 M3.length dx v → (listD M3 dx).map (fun ds => D.lst (cutD ds a b)) = some d → rSlL X.K v a b H3 Q := fun {dx} rx e => by
    cases e1 : listD M3 dx with
    | none => rw [e1] at e; cases e
    | some ds =>
      rw [e1] at e
      cases e
      obtain ⟨p1, xs, rfl, s1, r1⟩ := listD_run hr3 rx e1
      exact ⟨p1, xs, rfl, s1.sq, q3.lst hr3 (cut_rps r1 a b)⟩
  cases r3 with
  | dct s_ r_ t_ => first | (cases e; done) | (cases hd; done) | (cases h; done) | (cases h1; done) | (cases e1; done) | (cases h'; done) | (cases ei; done) | (cases e'; done) | exact h.elim | exact h1.elim | exact h2.elim | exact .inl (lists (.dct s_ r_ t_) hd) | exact lists (.dct s_ r_ t_) e
  | ptu s_ r_ => first | exact seqs (.ptu s_ r_) e | (cases e; exact .base (.tup (subT hr.sub s_.sq))) | (cases e; done) | (cases hd; done) | (cases h; done) | (cases h1; done) | (cases e1; done) | (cases h'; done) | (cases ei; done) | (cases e'; done) | exact h.elim | exact h1.elim | exact h2.elim | exact .inl (lists (.ptu s_ r_) hd) | exact lists (.ptu s_ r_) e
  | tup s r =>
    rename_i ds a0 xs
    cases hd
    refine .inr ⟨a0, xs, rfl, subT hr3.sub s, fun z => ?_, fun _ => q3.tup hr3 (cut_rps r a b)⟩
    have ec : cutD ds a b = ds := by
      unfold cutD
      rw [r.length, z.1, z.2, List.drop_zero, Nat.sub_zero, ← r.length, List.take_length]
    rw [ec] at q3
    exact q3.now hr3 (.tup s r)
  | lst s r => exact .inl (lists (.lst s r) hd)
  | ref hk => exact .inl (lists (.ref hk) hd)
  | non => cases hd
  | bl b => cases hd
  | int b => cases hd
  | str b => cases hd
end
end Bk

set_option Elab.async false
set_option linter.all false
set_option maxRecDepth 100000
set_option maxHeartbeats 2000000
namespace Bk
open PySem PySem.Spec PyProof.Rows L2
section
variable {X : Cx}
theorem rps1 {K : PySem.W.Frag} {Z : Hp} {ι : Nat → Addr} {n : Nat} {d : D} {vs : List V} (r : Rps K Z ι n [d] vs) : ∃ v, vs = [v] ∧ Rp K Z ι n d v := by
  cases r with
  | cons r rs =>
    cases rs
    exact ⟨_, rfl, r⟩
theorem rps2 {K : PySem.W.Frag} {Z : Hp} {ι : Nat → Addr} {n : Nat} {d e : D} {vs : List V} (r : Rps K Z ι n [d, e] vs) : ∃ v u, vs = [v, u] ∧ Rp K Z ι n d v ∧ Rp K Z ι n e u := by
  cases r with
  | cons r rs =>
    obtain ⟨u, rfl, r2⟩ := rps1 rs
    exact ⟨_, u, rfl, r, r2⟩
/-- a function of one argument -/
def fn1 (f : List MO → D → Option D) (M : List MO) : List D → Option D
  | [d] => f M d
  | _ => none
theorem OkA.of1 {r : List V → Hp → VK → Prop} {f : List MO → D → Option D} (h : Ok1 X (fun x H Q => r [x] H Q) f) : OkA X r (fn1 f) := fun xs H Z ι M ds d Q hr rx e q => by
  match ds, e, rx with
  | [d0], e, rx =>
    obtain ⟨v, rfl, r1⟩ := rps1 rx
    exact h v H Z ι M d0 d Q hr r1 e q
def fn2 (f : List MO → D → D → Option D) (M : List MO) : List D → Option D
  | [d, e] => f M d e
  | _ => none
/-! len -/
def dLen (M : List MO) : D → Option D
  | .str x => if x.length ≤ sizeLine then some (.int x.length) else none
  | d => (itemsD M d).map fun ds => .int ds.length
theorem ok_len : Ok1 X (fun x H Q => ∃ x' n, [x] = [x'] ∧ LenV X.K x' H n ∧ Q (.int n) H) dLen := fun x H Z ι M dx d Q hr rx e q => by
  have seqs : ∀ {dx : D}, Rp X.K Z ι M.length dx x → (itemsD M dx).map (fun ds => D.int ds.length) = some d → ∃ x' n, [x] = [x'] ∧ LenV X.K x' H n ∧ Q (.int n) H := fun {dx} rx e => by
    cases e1 : itemsD M dx with
    | none => rw [e1] at e; cases e
    | some ds =>
      rw [e1] at e
      cases e
      obtain ⟨a, xs, rfl, s, r⟩ := itemsD_run hr rx e1
      refine ⟨_, xs.length, rfl, ?_, by rw [← r.length]; exact q.now hr (.int _)⟩
      rcases s with s | s
      · exact .inl ⟨xs, s.sq, rfl⟩
      · exact .inr ⟨xs, s, rfl⟩
  cases rx with
  | dct s_ r_ t_ => first | (cases e; done) | (cases hd; done) | (cases h; done) | (cases h1; done) | (cases e1; done) | (cases h'; done) | (cases ei; done) | (cases e'; done) | exact h.elim | exact h1.elim | exact h2.elim | exact .inl (lists (.dct s_ r_ t_) hd) | exact lists (.dct s_ r_ t_) e
  | ptu s_ r_ => first | exact seqs (.ptu s_ r_) e | (cases e; exact .base (.tup (subT hr.sub s_.sq))) | (cases e; done) | (cases hd; done) | (cases h; done) | (cases h1; done) | (cases e1; done) | (cases h'; done) | (cases ei; done) | (cases e'; done) | exact h.elim | exact h1.elim | exact h2.elim | exact .inl (lists (.ptu s_ r_) hd) | exact lists (.ptu s_ r_) e
  | str z =>
    have e' : (if z.length ≤ sizeLine then some (D.int z.length) else none) = some d := e
    by_cases c : z.length ≤ sizeLine
    · rw [if_pos c] at e'
      cases e'
      exact ⟨_, z.length, rfl, ⟨c, rfl⟩, q.now hr (.int _)⟩
    · rw [if_neg c] at e'
      cases e'
  | tup s r => exact seqs (.tup s r) e
  | lst s r => exact seqs (.lst s r) e
  | ref hk => exact seqs (.ref hk) e
  | non => exact seqs .non e
  | bl b => exact seqs (.bl b) e
  | int b => exact seqs (.int b) e
/-! int -/
def dInt (_ : List MO) : D → Option D
  | .int i => some (.int i)
  | .bl b => some (.int (if b then 1 else 0))
  | _ => none
theorem ok_int : Ok1 X (fun x H Q => (∃ i, [x] = [.int i] ∧ Q (.int i) H) ∨ ∃ k, [x] = [.bl k] ∧ Q (.int (if k then 1 else 0)) H) dInt := fun x H Z ι M dx d Q hr rx e q => by
  cases rx with
  | int i =>
    cases e
    exact .inl ⟨i, rfl, q.now hr (.int i)⟩
  | bl b =>
    cases e
    exact .inr ⟨b, rfl, q.now hr (.int _)⟩
  | _ => cases e
/-! str of a number -/
def dStr (_ : List MO) : D → Option D
  | .int i => if i.natAbs.log2 < 1920 then some (.str (toString i)) else none
  | _ => none
/-! min, max, sum, all, any -/
def dMin2 (_ : List MO) : D → D → Option D
  | .int i, .int j => some (.int (if j < i then j else i))
  | _, _ => none
def dMax2 (_ : List MO) : D → D → Option D
  | .int i, .int j => some (.int (if j > i then j else i))
  | _, _ => none
def intsD : List D → Option (List Int)
  | [] => some []
  | .int i :: ds => (intsD ds).map (i :: ·)
  | _ => none
def blsD : List D → Option (List Bool)
  | [] => some []
  | .bl i :: ds => (blsD ds).map (i :: ·)
  | _ => none
theorem intsD_is {K : PySem.W.Frag} {Z : Hp} {ι : Nat → Addr} {n : Nat} : ∀ {ds : List D} {vs : List V} {is : List Int}, Rps K Z ι n ds vs → intsD ds = some is → vs = is.map V.int
  | [], _, _, r, h => by cases r; cases h; rfl
  | .int i :: ds, _, _, r, h => by
    cases r with
    | cons r rs =>
      have h' : (intsD ds).map (i :: ·) = some _ := h
      cases e : intsD ds with
      | none => rw [e] at h'; cases h'
      | some js =>
        rw [e] at h'
        cases h'
        cases r
        rw [intsD_is rs e]
        rfl
  | .non :: _, _, _, _, h => by cases h
  | .bl _ :: _, _, _, _, h => by cases h
  | .str _ :: _, _, _, _, h => by cases h
  | .tup _ :: _, _, _, _, h => by cases h
  | .lst _ :: _, _, _, _, h => by cases h
  | .ref _ :: _, _, _, _, h => by cases h
theorem blsD_is {K : PySem.W.Frag} {Z : Hp} {ι : Nat → Addr} {n : Nat} : ∀ {ds : List D} {vs : List V} {is : List Bool}, Rps K Z ι n ds vs → blsD ds = some is → vs = is.map V.bl
  | [], _, _, r, h => by cases r; cases h; rfl
  | .bl i :: ds, _, _, r, h => by
    cases r with
    | cons r rs =>
      have h' : (blsD ds).map (i :: ·) = some _ := h
      cases e : blsD ds with
      | none => rw [e] at h'; cases h'
      | some js =>
        rw [e] at h'
        cases h'
        cases r
        rw [blsD_is rs e]
        rfl
  | .non :: _, _, _, _, h => by cases h
  | .int _ :: _, _, _, _, h => by cases h
  | .str _ :: _, _, _, _, h => by cases h
  | .tup _ :: _, _, _, _, h => by cases h
  | .lst _ :: _, _, _, _, h => by cases h
  | .ref _ :: _, _, _, _, h => by cases h
@[simp] theorem intsD_map (is : List Int) : intsD (is.map D.int) = some is := by
  induction is with
  | nil => rfl
  | cons i is ih => simp [intsD, ih]
@[simp] theorem blsD_map (is : List Bool) : blsD (is.map D.bl) = some is := by
  induction is with
  | nil => rfl
  | cons i is ih => simp [blsD, ih]
def maxI : List Int → Int
  | [] => 0
  | [i] => i
  | i :: j :: r => let m := maxI (j :: r); if m ≤ i then i else m
def ofInts (f : List Int → Option D) (M : List MO) (d : D) : Option D := ((listD M d).bind intsD).bind f
def ofBls (f : List Bool → D) (M : List MO) (d : D) : Option D := ((listD M d).bind blsD).map f
def dSum := ofInts fun is => some (.int is.sum)
def dMax := ofInts fun is => if is = [] then none else some (.int (maxI is))
def dAll := ofBls fun bs => .bl (bs.all id)
theorem ofInts_run {K : PySem.W.Frag} {H Z : Hp} {ι : Nat → Addr} {M : List MO} {f : List Int → Option D} {dx d : D} {x : V} (hr : HR K H Z ι M) (r : Rp K Z ι M.length dx x) (e : ofInts f M dx = some d) : ∃ a is, x = .ref a ∧ SqL K H a (is.map V.int) ∧ f is = some d := by
  unfold ofInts at e
  cases e1 : listD M dx with
  | none => rw [e1] at e; cases e
  | some ds =>
    rw [e1, Option.bind_some] at e
    cases e2 : intsD ds with
    | none => rw [e2] at e; cases e
    | some is =>
      rw [e2] at e
      obtain ⟨a, xs, rfl, s, r2⟩ := listD_run hr r e1
      rw [intsD_is r2 e2] at s
      exact ⟨a, is, rfl, s.sq, e⟩
theorem ofBls_run {K : PySem.W.Frag} {H Z : Hp} {ι : Nat → Addr} {M : List MO} {f : List Bool → D} {dx d : D} {x : V} (hr : HR K H Z ι M) (r : Rp K Z ι M.length dx x) (e : ofBls f M dx = some d) : ∃ a is, x = .ref a ∧ SqL K H a (is.map V.bl) ∧ f is = d := by
  unfold ofBls at e
  cases e1 : listD M dx with
  | none => rw [e1] at e; cases e
  | some ds =>
    rw [e1, Option.bind_some] at e
    cases e2 : blsD ds with
    | none => rw [e2] at e; cases e
    | some is =>
      rw [e2] at e
      cases e
      obtain ⟨a, xs, rfl, s, r2⟩ := listD_run hr r e1
      rw [blsD_is r2 e2] at s
      exact ⟨a, is, rfl, s.sq, rfl⟩
theorem ok_all : Ok1 X (fun x H Q => rAll X.K [x] H Q) dAll := fun x H Z ι M dx d Q hr rx e q => by
  obtain ⟨a, is, rfl, s, rfl⟩ := ofBls_run hr rx e
  exact ⟨a, is, rfl, s, q.now hr (.bl _)⟩
/-! list(x), tuple(x) -/
def dList (M : List MO) (d : D) : Option D := (itemsD M d).map D.lst
def dTuple (M : List MO) (d : D) : Option D := (itemsD M d).map D.tup
theorem ok_list : Ok1 X (fun x H Q => ∃ p ys, [x] = [.ref p] ∧ (SqL X.K H p ys ∨ SqT X.K H p ys) ∧ ∀ l, H l = none → Q (.ref l) (upd H l (.lst ys))) dList := fun x H Z ι M dx d Q hr rx e q => by
  unfold dList at e
  cases e1 : itemsD M dx with
  | none => rw [e1] at e; cases e
  | some ds =>
    rw [e1] at e
    cases e
    obtain ⟨a, xs, rfl, s, r⟩ := itemsD_run hr rx e1
    exact ⟨a, xs, rfl, s.elim (fun s => .inl s.sq) .inr, q.lst hr r⟩
theorem ok_tuple : Ok1 X (fun x H Q => ∃ p ys, [x] = [.ref p] ∧ ((SqL X.K H p ys ∧ ∀ l, H l = none → Q (.ref l) (upd H l (.tup ys))) ∨ (SqT X.K H p ys ∧ Q (.ref p) H))) dTuple := fun x H Z ι M dx d Q hr rx e q => by
  unfold dTuple at e
  cases rx with
  | tup s r =>
    cases e
    exact ⟨_, _, rfl, .inr ⟨subT hr.sub s, q.now hr (.tup s r)⟩⟩
  | ptu s r =>
    cases e
    exact ⟨_, _, rfl, .inr ⟨subT hr.sub s.sq, q.now hr (.tup s.sq r)⟩⟩
  | lst s r =>
    cases e
    exact ⟨_, _, rfl, .inl ⟨(subL hr.sub s).sq, q.tup hr r⟩⟩
  | ref hk =>
    rename_i k
    cases e1 : itemsD M (.ref k) with
    | none => rw [e1] at e; cases e
    | some ds =>
      rw [e1] at e
      cases e
      obtain ⟨a, xs, ea, s, r⟩ := listD_run hr (.ref hk) e1
      cases ea
      exact ⟨_, _, rfl, .inl ⟨s.sq, q.tup hr r⟩⟩
  | _ => cases e
end
/-! list(range(..)) -/
section
variable {X : Cx} {C : CT} {W : WX} {a b e : Expr} {ga gb : GE} {p pos p2 pos2 : Pos}
def rngOk (i j : Int) : Bool := inR i && inR j && decide ((j - i).toNat ≤ 2 ^ 24)
def gRgL (own : Bool) (ga gb : GE) : GE := fun Γ M => (ga Γ M).bind fun x M1 => (gb Γ M1).bind fun y M2 => match x, y with
  | .int i, .int j => if rngOk i j = true then (if own = true then .ok (.ref M2.length) (M2 ++ [.lst (rngL i (j - i).toNat)]) else .ok (.lst (rngL i (j - i).toNat)) M2) else .bad
  | _, _ => .bad
/-! isinstance -/
def tyName (M : List MO) : D → Option String
  | .non => some "NoneType"
  | .bl _ => some "bool"
  | .int _ => some "int"
  | .str _ => some "str"
  | .tup _ => some "tuple"
  | .lst _ => some "list"
  | .dct _ _ => none
  | .ptu _ => some "tuple"
  | .ref k => match M[k]? with
    | some (.lst _) => some "list"
    | _ => none
theorem tyName_run {K : PySem.W.Frag} {H Z : Hp} {ι : Nat → Addr} {M : List MO} {d : D} {x : V} {t : String} (hr : HR K H Z ι M) (r : Rp K Z ι M.length d x) (e : tyName M d = some t) : TyX K H x (.type t) := by
  have lists : ∀ {a : Addr} {xs : List V}, ExL K H a xs → TyX K H (.ref a) (.type "list") := fun {a xs} s => by
    rcases s with (s | ⟨o, s⟩) | ⟨its, m, s, _, _⟩
    · exact .base (.lst s)
    · exact .base (.frz s)
    · exact .kList s rfl
  cases r with
  | dct s_ r_ t_ => first | (cases e; done) | (cases hd; done) | (cases h; done) | (cases h1; done) | (cases e1; done) | (cases h'; done) | (cases ei; done) | (cases e'; done) | exact h.elim | exact h1.elim | exact h2.elim | exact .inl (lists (.dct s_ r_ t_) hd) | exact lists (.dct s_ r_ t_) e
  | ptu s r =>
    cases e
    obtain ⟨o, s, _⟩ := s
    exact .fTuple (hr.sub _ _ s)
  | non => cases e; exact .base .non
  | bl b => cases e; exact .base (.bl b)
  | int i => cases e; exact .base (.int i)
  | str z => cases e; exact .base (.str z)
  | tup s r =>
    cases e
    rcases subT hr.sub s with (s | ⟨o, s⟩) | ⟨o, its, m, s, c, _⟩
    · exact .base (.tup s)
    · exact .fTuple s
    · exact .kTuple s c
  | lst s r =>
    cases e
    exact lists (subL hr.sub s)
  | ref hk =>
    rename_i k
    have e' : (match M[k]? with
      | some (.lst _) => some "list"
      | _ => none) = some t := e
    cases e1 : M[k]? with
    | none => rw [e1] at e'; cases e'
    | some o =>
      rw [e1] at e'
      cases o with
      | dead => cases e'
      | dct ks0 vs0 => cases e'
      | dki kvs0 => cases e'
      | obj nm fs => cases e'
      | lst ds =>
        cases e'
        obtain ⟨xs, h1, _⟩ := hr.obj k _ e1
        exact lists (.inl (.of h1))
def dIsi (T : String) (M : List MO) (d : D) : Option D := (tyName M d).bind fun t => (kitB t T).map D.bl
def anyB (t : String) : List String → Option Bool
  | [] => some false
  | T :: Ts => match kitB t T with
    | some true => some true
    | some false => anyB t Ts
    | none => none
def dIsiT (Ts : List String) (M : List MO) (d : D) : Option D := (tyName M d).bind fun t => (anyB t Ts).map D.bl
theorem anyB_kit {K : PySem.W.Frag} {t : String} : ∀ {Ts : List String} {b : Bool}, anyB t Ts = some b → PySem.W.kitAny K (.type t) (Ts.map Value.type) = some b
  | [], b, h => by cases h; rfl
  | T :: Ts, b, h => by
    unfold anyB at h
    show (match PySem.W.kitOne K (.type t) (.type T) with
      | some true => some true
      | some false => PySem.W.kitAny K (.type t) (Ts.map Value.type)
      | none => none) = some b
    cases e : kitB t T with
    | none => rw [e] at h; cases h
    | some k =>
      rw [e] at h
      rw [kit_ty e]
      cases k with
      | true => exact h
      | false => exact anyB_kit h
theorem qe_isi {T : String} {TN : Str} {q : Pos} (hg : Gl X "isinstance") (hm : X.mg "isinstance" = none) (hT : Gl X TN) (hmT : X.mg TN = none) (hv : bootBuiltins TN = some (.type T)) (ha : QE X C W e ga) (hn : TN ≠ "__name__" := by decide) (hd : (TN == ("__debug__" : Str)) = false := by decide)
    (he : starEach [e, Expr.Name TN q] X.env = (false, eval e X.env) :: starEach [Expr.Name TN q] X.env := by rfl) (he2 : starEach [Expr.Name TN q] X.env = (false, eval (Expr.Name TN q) X.env) :: starEach [] X.env := by rfl) (hpl : (backTo pos (starEach [Expr.Name TN q] X.env)).any (·.1) = false := by rfl) :
    QE X C W (.Call (.Name "isinstance" p) [e, .Name TN q] [] pos) (gOp1 (dIsi T) ga) := by
  obtain ⟨ta, pa, qa⟩ := ha
  refine ⟨_, pe_callB call_isi hg hm (by decide +kernel) (pa_cons pa (pa_cons (pe_bltn (v := .ty T) hT hmT hv rfl hn hd) pa_nil he2) he) (he := he) (hpl := hpl), fun σ H Z ι Γ M Q sl hr h => qa σ H Z ι Γ M _ sl hr (h.bind fun x M1 v H1 Z1 ι1 e1 hr1 r1 h1 => ?_)⟩
  obtain ⟨d, hd, h3⟩ := Post.of_opR (γ := D) (δ := V) h1
  unfold dIsi at hd
  cases e2 : tyName M1 x with
  | none => rw [e2] at hd; cases hd
  | some t =>
    rw [e2, Option.bind_some] at hd
    cases e3 : kitB t T with
    | none => rw [e3] at hd; cases hd
    | some b =>
      rw [e3] at hd
      cases hd
      exact ⟨v, .ty T, .type t, .type T, b, rfl, .ty T, tyName_run hr1 r1 e2, kit_ty e3, h3.after.now hr1 (.bl b)⟩
theorem qe_isi2 {T1 T2 : String} {N1 N2 : Str} {q1 q2 q3 : Pos} {kk : Nat} (hg : Gl X "isinstance") (hm : X.mg "isinstance" = none) (hT1 : Gl X N1) (hm1 : X.mg N1 = none) (hv1 : bootBuiltins N1 = some (.type T1)) (hT2 : Gl X N2) (hm2 : X.mg N2 = none) (hv2 : bootBuiltins N2 = some (.type T2)) (ha : QE X C W e ga)
    (hn1 : N1 ≠ "__name__" := by decide) (hd1 : (N1 == ("__debug__" : Str)) = false := by decide) (hn2 : N2 ≠ "__name__" := by decide) (hd2 : (N2 == ("__debug__" : Str)) = false := by decide)
    (he : starEach [e, Expr.Tuple [.Name N1 q1, .Name N2 q2] kk q3] X.env = (false, eval e X.env) :: starEach [Expr.Tuple [.Name N1 q1, .Name N2 q2] kk q3] X.env := by rfl) (he2 : starEach [Expr.Tuple [.Name N1 q1, .Name N2 q2] kk q3] X.env = (false, eval (Expr.Tuple [.Name N1 q1, .Name N2 q2] kk q3) X.env) :: starEach [] X.env := by rfl)
    (hpl : (backTo pos (starEach [Expr.Tuple [.Name N1 q1, .Name N2 q2] kk q3] X.env)).any (·.1) = false := by rfl)
    (hs1 : starEach [Expr.Name N1 q1, Expr.Name N2 q2] X.env = (false, eval (Expr.Name N1 q1) X.env) :: starEach [Expr.Name N2 q2] X.env := by rfl) (hs2 : starEach [Expr.Name N2 q2] X.env = (false, eval (Expr.Name N2 q2) X.env) :: starEach [] X.env := by rfl) :
    QE X C W (.Call (.Name "isinstance" p) [e, .Tuple [.Name N1 q1, .Name N2 q2] kk q3] [] pos) (gOp1 (dIsiT [T1, T2]) ga) := by
  obtain ⟨ta, pa, qa⟩ := ha
  refine ⟨_, pe_callB call_isiT hg hm (by decide +kernel) (pa_cons pa (pa_cons (pe_tup (pa_cons (pe_bltn (v := .ty T1) hT1 hm1 hv1 rfl hn1 hd1) (pa_cons (pe_bltn (v := .ty T2) hT2 hm2 hv2 rfl hn2 hd2) pa_nil hs2) hs1)) pa_nil he2) he) (he := he) (hpl := hpl),
    fun σ H Z ι Γ M Q sl hr h => qa σ H Z ι Γ M _ sl hr (h.bind fun x M1 v H1 Z1 ι1 e1 hr1 r1 h1 => ?_)⟩
  obtain ⟨d, hd, h3⟩ := Post.of_opR (γ := D) (δ := V) h1
  unfold dIsiT at hd
  cases e2 : tyName M1 x with
  | none => rw [e2] at hd; cases hd
  | some t =>
    rw [e2, Option.bind_some] at hd
    cases e3 : anyB t [T1, T2] with
    | none => rw [e3] at hd; cases hd
    | some b =>
      rw [e3] at hd
      cases hd
      refine ⟨by show 2 ≤ sizeLine; decide, fun tp hp => ?_⟩
      obtain ⟨hr2, x2⟩ := hr1.frozen (o := .tup [.ty T1, .ty T2]) hp
      exact ⟨v, tp, [.ty T1, .ty T2], .type t, [.type T1, .type T2], b, rfl, upd_same, .cons (.ty T1) (.cons (.ty T2) .nil), tyName_run hr2 (r1.ext x2) e2, anyB_kit (Ts := [T1, T2]) e3, h3.after _ _ _ x2 hr2 (.bl b)⟩
end
end Bk

set_option Elab.async false
set_option linter.all false
set_option maxRecDepth 100000
set_option maxHeartbeats 2000000
namespace Bk
open PySem PySem.Spec PyProof.Rows L2
/-! ### what changes a list of ours -/
/-- a method: the list as it was, the argument; the list as it is, the answer -/
abbrev MF := List MO → List D → D → Option (List D × D)
abbrev MF0 := List D → Option (List D × D)
def isListD (M : List MO) (d : D) : Bool := (listD M d).isSome
def mutR (M : List MO) (x : D) (f : List D → Option (List D × D)) : R D := match x with
  | .ref k => match M[k]? with
    | some (.lst ds) => match f ds with
      | some (ds', r) => .ok r (M.set k (.lst ds'))
      | none => .bad
    | _ => .bad
  | _ => .bad
def gMeth1 (f : MF) (go ge : GE) : GE := fun Γ M => (go Γ M).bind fun x M1 => if isListD M1 x = true then (ge Γ M1).bind fun y M2 => mutR M2 x fun ds => f M2 ds y else .bad
def gMeth0 (f : MF0) (go : GE) : GE := fun Γ M => (go Γ M).bind fun x M1 => mutR M1 x f
section
variable {X : Cx} {C : CT} {W : WX}
def OkM (X : Cx) (r : V → List V → Hp → VK → Prop) (f : MF) : Prop := ∀ (p : Addr) (xs : List V) (y : V) (H Z : Hp) (ι : Nat → Addr) (M : List MO) (ds ds' : List D) (dy d : D) (Q : VK), HR X.K H Z ι M → H p = some (.lst xs) → Rps X.K Z ι M.length ds xs → Rp X.K Z ι M.length dy y → f M ds dy = some (ds', d) →
  (∀ (xs' : List V) (w : V), Rps X.K Z ι M.length ds' xs' → Rp X.K Z ι M.length d w → Q w (upd H p (.lst xs'))) → r (.ref p) [y] H Q
theorem mutR_run {σ : St} {H Z : Hp} {ι : Nat → Addr} {M : List MO} {x : D} {v : V} {f : List D → Option (List D × D)} {Q : VK} (hr : HR X.K H Z ι M) (r : Rp X.K Z ι M.length x v) (h : Post X C W (rpE X.K) σ H Z ι M (mutR M x f) Q) :
    ∃ (k : Nat) (ds ds' : List D) (d : D) (xs : List V), v = .ref (ι k) ∧ H (ι k) = some (.lst xs) ∧ Rps X.K Z ι M.length ds xs ∧ f ds = some (ds', d) ∧ ∀ (xs' : List V) (w : V), Rps X.K Z ι M.length ds' xs' → Rp X.K Z ι M.length d w → Q w (upd H (ι k) (.lst xs')) := by
  cases r with
  | ref hk =>
    rename_i k
    have h' : Post X C W (rpE X.K) σ H Z ι M (match M[k]? with
      | some (.lst ds) => match f ds with
        | some (ds', r) => .ok r (M.set k (.lst ds'))
        | none => .bad
      | _ => .bad) Q := h
    cases e1 : M[k]? with
    | none => rw [e1] at h'; exact h'.elim
    | some o =>
      rw [e1] at h'
      cases o with
      | dead => exact h'.elim
      | dct ks0 vs0 => exact h'.elim
      | dki kvs0 => exact h'.elim
      | obj nm fs => exact h'.elim
      | lst ds =>
        have h2 : Post X C W (rpE X.K) σ H Z ι M (match f ds with
          | some (ds', r) => .ok r (M.set k (.lst ds'))
          | none => .bad) Q := h'
        cases e2 : f ds with
        | none => rw [e2] at h2; exact h2.elim
        | some q =>
          obtain ⟨ds', d⟩ := q
          rw [e2] at h2
          obtain ⟨xs, a1, a2⟩ := hr.obj k _ e1
          refine ⟨k, ds, ds', d, xs, rfl, a1, a2, e2, fun xs' w r1 r2 => ?_⟩
          obtain ⟨b1, b2⟩ := hr.change e1 r1
          exact h2 w _ Z ι b2 b1 (r2.ext b2)
  | _ => exact h.elim
theorem isListD_run {K : PySem.W.Frag} {H Z : Hp} {ι : Nat → Addr} {M : List MO} {d : D} {v : V} (hr : HR K H Z ι M) (r : Rp K Z ι M.length d v) (h : isListD M d = true) : tyV K "list" v H := by
  unfold isListD at h
  cases e : listD M d with
  | none => rw [e] at h; cases h
  | some ds =>
    obtain ⟨a, xs, rfl, s, _⟩ := listD_run hr r e
    exact .inl ⟨rfl, xs, s.sq⟩
theorem qe_meth1 {o e : Expr} {go ge : GE} {f : MF} {id : String} {name : Str} {pos apos : Pos} {r : V → List V → Hp → VK → Prop} (slot : Slot "list" name id) (hty : typeOf (.builtin id) = pure (.type "method_descriptor")) (hm : MtR X id r) (ok : OkM X r f) (ho : QE X C W o go) (he : QE X C W e ge)
    (hbase : attributeBase o name X.env (eval o X.env) = eval o X.env := by rfl) (hs : starEach [e] X.env = (false, eval e X.env) :: starEach [] X.env := by rfl)
    (hfew : ((backTo pos (starEach [e] X.env)).all (fun x => !x.1) && (backToKw pos (keywordEach [] X.env)).all (fun x => x.1.isSome) && decide ([e].length + ([] : List Keyword).length + (if ([] : List Keyword).isEmpty then 0 else 1) < 30)) = true := by rfl)
    (hline : (apos.endLine == pos.line) = true := by rfl) : QE X C W (.Call (.Attribute o name apos) [e] [] pos) (gMeth1 f go ge) := by
  obtain ⟨ta, pa, qa⟩ := ho
  obtain ⟨tb, pb, qb⟩ := he
  refine ⟨_, pe_bm PySem.F.plainAttrs_list slot hty hm pa (pa_cons pb pa_nil hs) hbase hfew hline hs rfl, fun σ H Z ι Γ M Q sl hr h => qa σ H Z ι Γ M _ sl hr (h.bind fun x M1 v H1 Z1 ι1 e1 hr1 r1 h1 => ?_)⟩
  by_cases c : isListD M1 x = true
  · rw [if_pos c] at h1
    refine ⟨isListD_run hr1 r1 c, qb σ H1 Z1 ι1 Γ M1 _ (sl.ext e1) hr1 (h1.bind fun y M2 u H2 Z2 ι2 e2 hr2 r2 h2 => ?_)⟩
    obtain ⟨k, ds, ds', d, xs, ev, a1, a2, a3, a4⟩ := mutR_run hr2 (r1.ext e2) h2
    rw [ev]
    exact ok _ xs u H2 Z2 ι2 M2 ds ds' y d Q hr2 a1 a2 r2 a3 a4
  · rw [if_neg c] at h1
    exact h1.elim
def mAppend : MF := fun _ ds y => if ds.length < sizeLine then some (ds ++ [y], .non) else none
theorem ok_append : OkM X rAppend mAppend := fun p xs y H Z ι M ds ds' dy d Q hr e r ry h q => by
  unfold mAppend at h
  by_cases c : ds.length < sizeLine
  · rw [if_pos c] at h
    cases h
    exact ⟨p, xs, y, rfl, rfl, e, by rw [← r.length]; exact c, q _ _ (r.append (.cons ry .nil)) .non⟩
  · rw [if_neg c] at h
    cases h
def rExtendS (K : PySem.W.Frag) : V → List V → Hp → VK → Prop := fun x vs H Q => ∃ l b xs zs, x = .ref l ∧ vs = [.ref b] ∧ H l = some (.lst xs) ∧ ExL K H b zs ∧ xs.length + zs.length ≤ sizeLine ∧ Q .non (upd H l (.lst (xs ++ zs)))
theorem mt_extendS : MtM X "list.extend" (rExtendS X.K) := by
  intro pins s σ H x vs v us Q I rx rv h
  obtain ⟨l, b, xs, zs, rfl, rfl, h1, h2, hz, q⟩ := h
  cases rx
  obtain ⟨u, rfl, ru⟩ := rv.one
  cases ru
  obtain ⟨z, its, n, r, hl, e⟩ := I.lstM h1
  obtain ⟨its2, n2, r2, e2, z2⟩ := h2.at_ I
  have l2 := r2.length
  have room : its.toArray.size + its2.toArray.size ≤ sizeLine := by
    rw [List.size_toArray, List.size_toArray]
    omega
  have short : ¬ (!its.toArray.isEmpty && Builtin.List.listTooLong (its.toArray.size + its2.toArray.size)) = true := by
    rw [notLongL room, Bool.and_false]
    exact Bool.false_ne_true
  refine call_meets F.slot_list_extend ⟨_, e, rfl⟩ F.entry_list_extend (F.args_list_extend_2 _ _) (AutoSeq1.list_extend_list_list_0 l its.toArray n b its2.toArray n2 short (by rw [List.size_toArray]; omega) (by omega)) ⟨e, e2, ?_⟩
  exact ⟨.non, _, I.lset (its' := its ++ its2) h1 e (by simp) (r.append r2) (by rw [List.length_append]; omega), rfl, q⟩
def mExtend : MF := fun M ds y => match listD M y with
  | some es => if ds.length + es.length ≤ sizeLine then some (ds ++ es, .non) else none
  | none => none
theorem ok_extend : OkM X (rExtendS X.K) mExtend := fun p xs y H Z ι M ds ds' dy d Q hr e r ry h q => by
  unfold mExtend at h
  cases e1 : listD M dy with
  | none => rw [e1] at h; cases h
  | some es =>
    rw [e1] at h
    simp only at h
    obtain ⟨b, zs, rfl, s2, r2⟩ := listD_run hr ry e1
    by_cases c : ds.length + es.length ≤ sizeLine
    · rw [if_pos c] at h
      cases h
      exact ⟨p, b, xs, zs, rfl, rfl, e, s2, by rw [← r.length, ← r2.length]; exact c, q _ _ (r.append r2) .non⟩
    · rw [if_neg c] at h
      cases h
/-! xs[i] = e -/
def setR (M : List MO) (o i v : D) : Option (List MO) := match o, i with
  | .ref k, .int j => match M[k]? with
    | some (.lst ds) => match ixN ds.length j with
      | some m => some (M.set k (.lst (ds.set m v)))
      | none => none
    | _ => none
  | _, _ => none
def gSetI (ge go gi : GE) : GS := fun Γ M => (ge Γ M).thenS Γ fun v M1 => (go Γ M1).thenS Γ fun o M2 => (gi Γ M2).thenS Γ fun i M3 => match setR M3 o i v with
  | some M4 => .nx Γ M4
  | none => .bad
theorem qs_setI {o i e : Expr} {go gi ge : GE} {pos spos : Pos} (he : QE X C W e ge) (ho : QE X C W o go) (hi : QE X C W i gi) (hs : swapsWithSole [Expr.Subscript o i spos] e pos.line X.env = pure false := by rfl) (hp : swappedStores [Expr.Subscript o i spos] e X.env = pure none := by rfl)
    (h1 : (assignEach [Expr.Subscript o i spos] X.env).map (·.2) = [assign (Expr.Subscript o i spos) X.env] := by rfl)
    (ha : ∀ v, assign (.Subscript o i spos) X.env v = (do let ov ← holding [v] (eval o X.env); let iv ← holding [v, ov] (eval i X.env); standAt spos; holding [v, ov, iv] (setItem ov iv v); release [v, ov, iv] []) := by intro _; rfl) :
    QS X C W (.Assign [.Subscript o i spos] e pos) (gSetI ge go gi) := by
  obtain ⟨te, pe, qe⟩ := he
  obtain ⟨to, po, qo⟩ := ho
  obtain ⟨ti, pi, qi⟩ := hi
  refine ⟨_, ps_asg pe (pg_sub po pi set_list ha) hs hp h1, fun Dd σ H Z ι Γ M sl hr h => qe σ H Z ι Γ M _ sl hr (PostS.bind h sl fun v M1 v' H1 Z1 ι1 e1 hr1 r1 h1 => qo σ H1 Z1 ι1 Γ M1 _ (sl.ext e1) hr1 (PostS.bind h1 (sl.ext e1) fun o M2 o' H2 Z2 ι2 e2 hr2 r2 h2 =>
    qi σ H2 Z2 ι2 Γ M2 _ ((sl.ext e1).ext e2) hr2 (PostS.bind h2 ((sl.ext e1).ext e2) fun i M3 i' H3 Z3 ι3 e3 hr3 r3 h3 => ?_)))⟩
  have ro := r2.ext e3
  have rv := (r1.ext e2).ext e3
  have sl3 := ((sl.ext e1).ext e2).ext e3
  cases es : setR M3 o i v with
  | none => rw [es] at h3; exact h3.elim
  | some M4 =>
    rw [es] at h3
    unfold setR at es
    cases ro with
    | ref hk =>
      rename_i k
      cases r3 with
      | int j =>
        simp only at es
        cases ek : M3[k]? with
        | none => rw [ek] at es; cases es
        | some u =>
          rw [ek] at es
          cases u with
          | dead => cases es
          | dct ks0 vs0 => cases es
          | dki kvs0 => cases es
          | obj nm fs => cases es
          | lst ds =>
            simp only at es
            cases em : ixN ds.length j with
            | none => rw [em] at es; cases es
            | some m =>
              rw [em] at es
              cases es
              obtain ⟨xs, a1, a2⟩ := hr3.obj k _ ek
              obtain ⟨b1, b2⟩ := hr3.change ek (a2.set m rv)
              exact ⟨_, xs, j, m, rfl, rfl, a1, by rw [← a2.length]; exact em, h3 σ _ Z3 ι3 b2 b1 (sl3.ext b2)⟩
      | _ => cases es
    | _ => cases es
/-! x += e -/
def gAug (i : Nat) (f : Int → Int → Int) (ge : GE) : GS := fun Γ M => match Γ[i]? with
  | some (some (.int a)) => (ge Γ M).thenS Γ fun y M1 => match y with
    | .int b => .nx (Γ.set i (some (.int (f a b)))) M1
    | _ => .bad
  | _ => .bad
theorem qs_aug (i : Nat) {x : Str} {e : Expr} {op : Operator} {f : Int → Int → Int} {ge : GE} {pos pos' : Pos} (hN : X.N.Nodup) (ho : PIp X op (ipI f)) (he : QE X C W e ge) (hi : X.N[i]? = some x := by rfl) (hx : Loc X.env.scope x := by first | exact Or.inl rfl | exact Or.inr rfl)
    (hf : X.fn x = true ∨ X.env.scope.names.lookup x = some .local := by first | exact Or.inl rfl | exact Or.inr rfl) : QS X C W (.AugAssign (.Name x pos') op e pos) (gAug i f ge) := by
  obtain ⟨te, pe, qe⟩ := he
  refine ⟨_, ps_aug hN hi hx pe ho hf, fun Dd σ H Z ι Γ M sl hr h => ?_⟩
  unfold gAug at h
  cases e1 : Γ[i]? with
  | none => rw [e1] at h; exact h.elim
  | some o =>
    rw [e1] at h
    cases o with
    | none => exact h.elim
    | some d =>
      cases d with
      | int a =>
        obtain ⟨v, a1, a2⟩ := sl.2 i _ e1
        cases a2
        refine ⟨_, a1, qe σ H Z ι Γ M _ sl hr (PostS.bind h sl fun y M1 u H1 Z1 ι1 x1 hr1 r1 h1 => ?_)⟩
        cases r1 with
        | int b => exact ⟨a, b, rfl, rfl, h1 _ H1 Z1 ι1 .refl hr1 ((sl.ext x1).set i (.int _))⟩
        | _ => exact h1.elim
      | _ => exact h.elim
/-! repr -/
def rReprD (K : PySem.W.Frag) : List V → Hp → VK → Prop := fun xs H Q => ∃ (a : Addr) (d : PyData), xs = [.ref a] ∧ Dp K H (.ref a) d ∧ d.showable = true ∧ d.hasDict = false ∧ d.depth ≤ 60 ∧ d.shown.length ≤ sizeLine ∧ Q (.str d.shown) H
theorem call_reprD (hgu : X.A.guards = some []) (hu : X.A.units + 64 < cLine) : CallR X (.builtin "repr") (rReprD X.K) := by
  intro pins s σ H xs us Q I r h
  obtain ⟨a, d, rfl, hd, h1, h2, h3, h4, q⟩ := h
  obtain ⟨u, rfl, ru⟩ := Vals.one r
  cases ru
  obtain ⟨as, rd⟩ := Dp.reads I d (.ref a) (.ref a) hd rfl
  refine repr_of_reads' rd h1 (fun z => by rw [h2] at z; cases z) hgu (by omega) (fun _ _ e => e) (fun h' u tk k => ?_) h4
  exact ⟨.str d.shown, H, I.kept (t' := tk) k, ⟨u, rfl⟩, q⟩
def dRepr (M : List MO) (d : D) : Option D := match d with
  | .non => none
  | .bl _ => none
  | .int _ => none
  | .str _ => none
  | d => (toP (deref M d)).bind fun p => if (p.showable && !p.hasDict && decide (p.depth ≤ 60) && decide (p.shown.length ≤ sizeLine)) = true then some (.str p.shown) else none
theorem ok_repr : Ok1 X (fun x H Q => rReprD X.K [x] H Q) dRepr := fun x H Z ι M dx d Q hr rx e q => by
  have go : ∀ {dx : D} {a : Addr}, Rp X.K Z ι M.length dx (.ref a) → ((toP (deref M dx)).bind fun p => if (p.showable && !p.hasDict && decide (p.depth ≤ 60) && decide (p.shown.length ≤ sizeLine)) = true then some (D.str p.shown) else none) = some d → rReprD X.K [.ref a] H Q := fun {dx a} rx e => by
    cases e1 : toP (deref M dx) with
    | none => rw [e1] at e; cases e
    | some p =>
      rw [e1, Option.bind_some] at e
      by_cases c : (p.showable && !p.hasDict && decide (p.depth ≤ 60) && decide (p.shown.length ≤ sizeLine)) = true
      · rw [if_pos c] at e
        cases e
        simp only [Bool.and_eq_true, Bool.not_eq_true', decide_eq_true_eq] at c
        exact ⟨a, p, rfl, deref_dp hr rx e1, c.1.1.1, c.1.1.2, c.1.2, c.2, q.now hr (.str _)⟩
      · rw [if_neg c] at e
        cases e
  cases rx with
  | tup s r => exact go (.tup s r) e
  | ptu s r => exact go (.ptu s r) e
  | lst s r => exact go (.lst s r) e
  | ref hk => exact go (.ref hk) e
  | _ => cases e
end
end Bk

set_option Elab.async false
set_option linter.all false
set_option maxRecDepth 100000
set_option maxHeartbeats 2000000
namespace Bk
open PySem PySem.Spec PyProof.Rows L2
/-! ### enumerate and zip of lists and tuples -/
inductive Src where
  | l (a : Addr) | t (a : Addr)
namespace Src
def addr : Src → Addr
  | .l a => a
  | .t a => a
def here (K : PySem.W.Frag) (H : Hp) (xs : List V) : Src → Prop
  | .l a => SqL K H a xs
  | .t a => SqT K H a xs
def it (h : Heap) (i : Addr) (n : Nat) : Src → Prop
  | .l a => h.IsListIter i a n
  | .t a => h.IsTupleIter i a n
def arr (h : Heap) (items : Array Value) : Src → Prop
  | .l a => h.IsList a items
  | .t a => h.IsTuple a items
def obj : Src → Obj
  | .l a => { cls := .type "list_iterator", data := .fields #[.ref a, .int 0 0] }
  | .t a => { cls := .type "tuple_iterator", data := .fields #[.ref a, .int 0 0] }
theorem begins (S : Src) (items : Array Value) : Begins (.ref S.addr) S.obj fun h => S.arr h items := by
  cases S with
  | l a => exact begins_list a items
  | t a => exact begins_tuple a items
theorem draws {prog : Program} {w : World} {A : Around} (hh : A.handled = none) (S : Src) (i : Addr) (hne : S.addr ≠ i) (items : Array Value) :
    Draws prog w A i [i, S.addr] items.size (fun n v => items[n]? = some v) (fun n h => S.it h i n ∧ S.arr h items) := by
  cases S with
  | l a => exact Draws.list hh i a hne items
  | t a => exact Draws.tuple hh i a hne items
theorem inv {X : Cx} {pins : List (Addr × Obj)} {σ : L2.St} {H : Hp} {s : Shared} {xs : List V} (I : Inv X pins σ H s) {S : Src} (h : S.here X.K H xs) : ∃ its : List Value, Vals xs its ∧ S.arr s.heap its.toArray := by
  cases S with
  | l a =>
    obtain ⟨its, r, p, _⟩ := I.list h
    exact ⟨its, r, p.isList⟩
  | t a =>
    obtain ⟨its, r, p, _⟩ := I.tuple h
    exact ⟨its, r, p⟩
theorem inj {X : Cx} {pins : List (Addr × Obj)} {σ : L2.St} {H : Hp} {s : Shared} {xs ys : List V} (I : Inv X pins σ H s) {S : Src} (h : S.here X.K H xs) (h' : S.here X.K H ys) : xs = ys := by
  cases S with
  | l a => exact I.list_inj h h'
  | t a => exact I.tuple_inj h h'
theorem start {S : Src} {h : Heap} {i : Addr} (e : h.get? i = some S.obj) : S.it h i 0 := by
  cases S with
  | l a => exact ⟨_, e, rfl, rfl⟩
  | t a => exact ⟨_, e, rfl, rfl⟩
theorem it_at {S : Src} {h h' : Heap} {i : Addr} {n : Nat} (x : S.it h i n) (k : ∀ o, h.get? i = some o → h'.get? i = some o) : S.it h' i n := by
  cases S with
  | l a =>
    have y : h.IsListIter i a n := x
    exact y.at k
  | t a =>
    have y : h.IsTupleIter i a n := x
    exact y.at k
theorem it_obj {S : Src} {h : Heap} {i : Addr} {n : Nat} (x : S.it h i n) : ∃ o, h.get? i = some o ∧ ∀ v, o.data ≠ .cell v := by
  cases S with
  | l a =>
    obtain ⟨o, ho, _, hd⟩ := (show h.IsListIter i a n from x)
    exact ⟨o, ho, fun v q => by rw [hd] at q; cases q⟩
  | t a =>
    obtain ⟨o, ho, _, hd⟩ := (show h.IsTupleIter i a n from x)
    exact ⟨o, ho, fun v q => by rw [hd] at q; cases q⟩
theorem arr_ne {S : Src} {h : Heap} {items : Array Value} {b : Addr} {ob : Obj} (x : S.arr h items) (e : h.get? b = some ob) (hd : ∀ its n, ob.data ≠ .seq its n) : S.addr ≠ b := by
  cases S with
  | l a =>
    obtain ⟨o, ho, _, m, hdd⟩ := (show h.IsList a items from x)
    intro z
    have z' : a = b := z
    rw [z', e] at ho
    cases ho
    exact hd _ _ hdd
  | t a =>
    obtain ⟨o, ho, _, m, hdd⟩ := (show h.IsTuple a items from x)
    intro z
    have z' : a = b := z
    rw [z', e] at ho
    cases ho
    exact hd _ _ hdd
theorem arr_it {S : Src} {h : Heap} {items : Array Value} {i : Addr} {n : Nat} (x : S.arr h items) (y : S.it h i n) : S.addr ≠ i := by
  cases S with
  | l a =>
    obtain ⟨o, ho, _, m, hd⟩ := (show h.IsList a items from x)
    obtain ⟨o', ho', _, hd'⟩ := (show h.IsListIter i a n from y)
    intro z
    have z' : a = i := z
    rw [z', ho'] at ho
    cases ho
    rw [hd] at hd'
    cases hd'
  | t a =>
    obtain ⟨o, ho, _, m, hd⟩ := (show h.IsTuple a items from x)
    obtain ⟨o', ho', _, hd'⟩ := (show h.IsTupleIter i a n from y)
    intro z
    have z' : a = i := z
    rw [z', ho'] at ho
    cases ho
    rw [hd] at hd'
    cases hd'
theorem arr_lt {S : Src} {h : Heap} {items : Array Value} (x : S.arr h items) : S.addr < h.objs.size := by
  cases S with
  | l a =>
    obtain ⟨o, ho, _⟩ := (show h.IsList a items from x)
    exact Heap.lt_size ho
  | t a =>
    obtain ⟨o, ho, _⟩ := (show h.IsTuple a items from x)
    exact Heap.lt_size ho
end Src
set_option maxHeartbeats 4000000 in
theorem meets_enum1 {v : Value} {o : Obj} {H : Heap → Prop} (B : Begins v o H) :
    Meets (Builtin.«enumerate.__new__» ⟨[.type "enumerate", v], []⟩) (fun _ R s => H s.heap ∧ R (.ok (.ret (.ref (s.heap.push o).objs.size)))
      { s with heap := (s.heap.push o).push { cls := .type "enumerate", data := .fields #[.none, .bool false, .ref s.heap.objs.size, rawInt 0, .none, .none] } }) :=
  .of_wp fun prog w A R s hs => by
    obtain ⟨hp, g, d, tk, os⟩ := s
    obtain ⟨hH, hR⟩ := hs
    have subs := sub_enumerate
    have iter : ∀ {A' : Around} {E : Value → Shared → Prop} {Q : Value → Shared → Prop}, Q (.ref hp.objs.size) ⟨hp.push o, g, d, tk, os⟩ → wpAny (model prog w) A' (pyIter v) Q E ⟨hp, g, d, tk, os⟩ := fun q => B.iter prog w _ _ _ _ hH q
    wp_walk using iter
    refine wpAny_stack_any fun _ => wpAny_pure ?_
    split
    · rename_i c _ _ _ _ _
      cases (c == Value.type "enumerate") <;> (wp_walk using iter; exact ⟨_, rfl, hR⟩)
    · wp_walk using iter
      exact ⟨_, rfl, hR⟩
theorem call_enum1 {prog : Program} {w : World} {A : Around} {E : Value → Shared → Prop} {s : Shared} {v : Value} {o : Obj} {H : Heap → Prop} {Q : Value → Shared → Prop} (B : Begins v o H) (hH : H s.heap)
    (h : ∀ h', IsEnum h' (s.heap.objs.size + 1) s.heap.objs.size 0 .none → h'.get? s.heap.objs.size = some o → (∀ b u, s.heap.get? b = some u → h'.get? b = some u) → Q (.ref (s.heap.objs.size + 1)) { s with heap := h' }) :
    wpAny (model prog w) A (call (.type "enumerate") [v]) Q E s := by
  refine callType_new F.called_enumerate (by decide) (F.typeCall_enumerate_1 _) (F.newCall_enumerate_1 _) (fun ob => F.args_object_init_2 ob _) F.entry_enumerate_new (meets_enum1 B) ⟨hH, ?_⟩
  have sz : (s.heap.push o).objs.size = s.heap.objs.size + 1 := Heap.size_push ..
  show _ ∧ _
  rw [sz]
  have e := Heap.get?_push_size (s.heap.push o) (o := { cls := .type "enumerate", data := .fields #[.none, .bool false, .ref s.heap.objs.size, rawInt 0, .none, .none] }) rfl
  rw [sz] at e
  exact ⟨⟨_, e, rfl⟩, h _ e (Heap.get?_push_of_some _ (Heap.get?_push_size _ B.free)) fun b u x => Heap.get?_push_of_some _ (Heap.get?_push_of_some _ x)⟩
/-! the turns -/
def Ien (K : PySem.W.Frag) (S : Src) (k0 : Int) : It :=
  ⟨fun n H => ∃ (xs : List V) (x : V), S.here K H xs ∧ xs[n]? = some x, fun n H v H' => ∃ T x, v = .ref T ∧ H T = none ∧ H' = upd H T (.tup [.int (k0 + (n : Nat)), x]) ∧ ∀ xs, S.here K H xs → xs[n]? = some x, fun n H => ∃ xs : List V, S.here K H xs ∧ xs.length = n⟩
theorem turn_en {P : Program} {w : World} {K : PySem.W.Frag} {elts : List Expr} {kk : Nat} {tpos : Pos} (S : Src) (k0 : Int) (e i : Addr) :
    Turn P w K (.Tuple elts kk tpos) (Ien K S k0) [e, i] e (fun n h => (∃ old, IsEnum h e i (k0 + (n : Nat)) old) ∧ S.it h i n ∧ e ≠ i) where
  mem := List.mem_cons_self
  obj := fun n h st b hb => by
    obtain ⟨⟨old, he⟩, hi, _⟩ := st
    rcases List.mem_cons.mp hb with z | z
    · subst z
      exact ⟨_, he, fun v q => nomatch q⟩
    · have z' : b = i := by simpa using z
      subst z'
      exact Src.it_obj hi
  keep := fun n h h' st k => by
    obtain ⟨⟨old, he⟩, hi, ne⟩ := st
    exact ⟨⟨old, k e (by simp) _ he⟩, Src.it_at hi fun o q => k i (by simp) o q, ne⟩
  item := by
    intro X hP hw hK hc n pins s σ H E I hf st hg
    subst hP hw hK
    obtain ⟨⟨old, he⟩, hi, ne⟩ := st
    obtain ⟨xs, x, hq, hx⟩ := hg
    obtain ⟨its, rv, har⟩ := Src.inv I hq
    obtain ⟨u, hu, ru⟩ := rv.get hx
    obtain ⟨oi, hoi, _⟩ := Src.it_obj hi
    have hh : X.A.in1.handled = none := I.ok.hd hc
    have a1 : S.addr ≠ e := Src.arr_ne har he (fun _ _ q => nomatch q)
    have a2 := Src.arr_it har hi
    have Wk := WalksT.enumFrom k0 (Src.draws (prog := X.prog) (w := X.w) hh S i a2 its.toArray) e ne (by simp only [List.mem_cons, List.not_mem_nil, or_false, not_or]; exact ⟨ne, fun z => a1 z.symm⟩) (by simp)
    have ln : n < its.toArray.size := by
      have := (List.getElem?_eq_some_iff.mp hu).1
      simpa using this
    refine Wk.item n s _ E ln ⟨⟨old, he⟩, hi, har⟩ fun T vals h' tk hP hT hTup hMid hk => ⟨_, rfl, Wk.go elts kk tpos n T _ _ _ hMid fun h2 hSt hk2 => ?_⟩
    obtain ⟨t, x', hx', hvals⟩ := hP
    subst hvals
    have ex : x' = u := by
      have q : its.toArray[n]? = some u := by simpa using hu
      rw [hx'] at q
      exact Option.some.inj q
    subst ex
    have out := Wk.apart n T _ hMid
    have tup2 : h2.IsTuple T #[.int (k0 + (n : Nat)) t, x'] := hTup.at fun o q => hk2 T o out q
    have new : ObjOk X.prog X.w (upd H T (.tup [.int (k0 + (n : Nat)), x])) h2 T (.tup [.int (k0 + (n : Nat)), x]) :=
      ⟨by show 2 ≤ sizeLine; decide, [.int (k0 + (n : Nat)) t, x'], .cons ⟨_, rfl⟩ (.cons ru .nil), tup2⟩
    have J := I.turnedNew (t' := tk) (ch := [e, i]) (fun b ob hb q => hk2 b ob hb (hk b ob hb q)) hf hT new
    refine ⟨.ref T, _, J, rfl, ⟨T, x, rfl, I.hok.fresh hT, rfl, fun ys hy => by rw [Src.inj I hy hq]; exact hx⟩, ?_, fun b hb => ?_⟩
    · obtain ⟨⟨o2, he2⟩, hi2, _⟩ := hSt
      have en : k0 + ((n + 1 : Nat) : Int) = k0 + (n : Nat) + 1 := by push_cast; omega
      exact ⟨⟨o2, by first | exact he2 | (rw [en]; exact he2)⟩, hi2, ne⟩
    · have hb' : b < s.heap.objs.size := by
        rcases List.mem_cons.mp hb with z | z
        · rw [z]; exact Heap.lt_size he
        · have z' : b = i := by simpa using z
          rw [z']; exact Heap.lt_size hoi
      rw [upd_ne (Nat.ne_of_lt (Nat.lt_of_lt_of_le hb' hT))]
      exact (hf b hb).1
  done := by
    intro X hP hw hK hc n pins s σ H E I hf st hg
    subst hP hw hK
    obtain ⟨⟨old, he⟩, hi, ne⟩ := st
    obtain ⟨xs, hq, hx⟩ := hg
    obtain ⟨its, rv, har⟩ := Src.inv I hq
    have hh : X.A.in1.handled = none := I.ok.hd hc
    have a1 : S.addr ≠ e := Src.arr_ne har he (fun _ _ q => nomatch q)
    have Wk := WalksT.enumFrom k0 (Src.draws (prog := X.prog) (w := X.w) hh S i (Src.arr_it har hi) its.toArray) e ne (by simp only [List.mem_cons, List.not_mem_nil, or_false, not_or]; exact ⟨ne, fun z => a1 z.symm⟩) (by simp)
    have en : its.toArray.size = n := by rw [List.size_toArray, ← rv.length]; exact hx
    rw [en] at Wk
    exact Wk.done s _ E ⟨⟨old, he⟩, hi, har⟩ fun h' tk hk => ⟨rfl, I.turnedL (t' := tk) (ch := [e, i]) (fun b ob hb q => hk b ob hb q) hf⟩
  self := fun A n s Q E st h => by
    obtain ⟨⟨_, he⟩, _⟩ := st
    exact wpAny_pyIter_enum he h
end Bk

set_option Elab.async false
set_option linter.all false
set_option maxRecDepth 100000
set_option maxHeartbeats 2000000
namespace Bk
open PySem PySem.Spec PyProof.Rows L2
def enumL (k : Int) : List D → List D
  | [] => []
  | d :: ds => .tup [.int k, d] :: enumL (k + 1) ds
theorem enumL_len : ∀ (ds : List D) (k : Int), (enumL k ds).length = ds.length
  | [], _ => rfl
  | d :: ds, k => by simp [enumL, enumL_len ds]
theorem enumL_get : ∀ (ds : List D) (k : Int) (i : Nat) (x : D), (enumL k ds)[i]? = some x → ∃ d, ds[i]? = some d ∧ x = .tup [.int (k + (i : Nat)), d]
  | [], _, _, _, h => by simp [enumL] at h
  | d :: ds, k, 0, x, h => by
    simp [enumL] at h
    exact ⟨d, rfl, by rw [← h]; simp⟩
  | d :: ds, k, i + 1, x, h => by
    simp only [enumL, List.getElem?_cons_succ] at h
    obtain ⟨d', h1, h2⟩ := enumL_get ds (k + 1) i x h
    refine ⟨d', by simpa using h1, ?_⟩
    rw [h2]
    congr 3
    push_cast
    omega
def zipL : List D → List D → List D
  | d :: ds, e :: es => .tup [d, e] :: zipL ds es
  | _, _ => []
theorem zipL_len : ∀ (ds es : List D), (zipL ds es).length = min ds.length es.length
  | [], _ => by simp [zipL]
  | _ :: _, [] => by simp [zipL]
  | d :: ds, e :: es => by
    simp only [zipL, List.length_cons, zipL_len ds es]
    omega
theorem zipL_get : ∀ (ds es : List D) (i : Nat) (x : D), (zipL ds es)[i]? = some x → ∃ d e, ds[i]? = some d ∧ es[i]? = some e ∧ x = .tup [d, e]
  | [], _, _, _, h => by simp [zipL] at h
  | _ :: _, [], _, _, h => by simp [zipL] at h
  | d :: ds, e :: es, 0, x, h => by
    simp [zipL] at h
    exact ⟨d, e, rfl, rfl, h.symm⟩
  | d :: ds, e :: es, i + 1, x, h => by
    simp only [zipL, List.getElem?_cons_succ] at h
    obtain ⟨d', e', h1, h2, h3⟩ := zipL_get ds es i x h
    exact ⟨d', e', by simpa using h1, by simpa using h2, h3⟩
def gEnum (ge : GE) : GI := fun Γ M => (ge Γ M).bind fun d M1 => opR ((seqD d).map (enumL 0)) M1
def gEnumK (ge : GE) (gk : GE) : GI := fun Γ M => (ge Γ M).bind fun d M1 => (gk Γ M1).bind fun k M2 => match k with
  | .int k => if decide (-(2 ^ 63) ≤ k) && decide (k < 2 ^ 63) then opR ((seqD d).map (enumL k)) M2 else .bad
  | _ => .bad
def zipO (x y : D) : Option (List D) := match seqD x, seqD y with
  | some ds, some es => some (zipL ds es)
  | _, _ => none
def gZip (ga gb : GE) : GI := fun Γ M => (ga Γ M).bind fun x M1 => (gb Γ M1).bind fun y M2 => opR (zipO x y) M2
section
variable {X : Cx} {C : CT} {W : WX} {e e2 : Expr} {ge ga gb gk : GE} {p pos tpos : Pos} {elts : List Expr} {kk : Nat}
theorem src_of {K : PySem.W.Frag} {H Z : Hp} {ι : Nat → Addr} {n : Nat} {d : D} {ds : List D} {v : V} (hs : Sub Z H) (r : Rp K Z ι n d v) (h : seqD d = some ds) : ∃ (S : Src) (xs : List V), v = .ref S.addr ∧ S.here K Z xs ∧ Rps K Z ι n ds xs := by
  cases r with
  | lst s r => cases h; exact ⟨.l _, _, rfl, s.sq, r⟩
  | tup s r => cases h; exact ⟨.t _, _, rfl, s, r⟩
  | ptu s r => cases h; exact ⟨.t _, _, rfl, s.sq, r⟩
  | _ => cases h
theorem here_sub {K : PySem.W.Frag} {Z H : Hp} (h : Sub Z H) {S : Src} {xs : List V} : S.here K Z xs → S.here K H xs := by
  cases S with
  | l a =>
    intro q
    rcases (show SqL K Z a xs from q) with (q | ⟨o, q⟩) | q
    · exact .inl (.inl (h _ _ q))
    · exact .inl (.inr ⟨o, h _ _ q⟩)
    · exact .inr q
  | t a => exact fun q => subT h q
theorem itr_en {K : PySem.W.Frag} {Z : Hp} {ι : Nat → Addr} {n : Nat} {S : Src} {xs : List V} {ds : List D} {k : Int} (s : S.here K Z xs) (r : Rps K Z ι n ds xs) : ItR K (Ien K S k) (enumL k ds) Z ι n := by
  intro i H' Z' ι' M' hz hi hn hr _
  have sH : S.here K H' xs := here_sub (fun a o h => hr.sub _ _ (hz _ _ h)) s
  refine ⟨fun hl => ⟨xs, sH, by rw [← r.length, ← enumL_len ds k]; exact hl⟩, fun d hd => ?_⟩
  obtain ⟨d0, h1, rfl⟩ := enumL_get ds k i d hd
  obtain ⟨v, hv, rv⟩ := r.get h1
  refine ⟨⟨xs, v, sH, hv⟩, fun x H2 hy => ?_⟩
  obtain ⟨T, x', rfl, hT, rfl, hx⟩ := hy
  have ex : xs[i]? = some x' := hx _ sH
  rw [hv] at ex
  cases ex
  obtain ⟨q1, q2⟩ := hr.frozen (o := .tup [.int (k + (i : Nat)), v]) hT
  refine ⟨_, q2, q1, .tup (.inl (.inl upd_same)) (.cons (.int _) (.cons ?_ .nil))⟩
  exact Rp.ext (Rp.mono hz hi hn _ _ rv) q2
theorem qi_enum (hg : Gl X "enumerate") (hm : X.mg "enumerate" = none) (ha : QE X C W e ge) (hs : starEach [e] X.env = (false, eval e X.env) :: starEach [] X.env := by rfl) : QI X C W (.Tuple elts kk tpos) (.Call (.Name "enumerate" p) [e] [] pos) (gEnum ge) := by
  obtain ⟨ta, pa, qa⟩ := ha
  refine ⟨fun σ H R => ta σ H fun v H1 => ∃ (S : Src) (xs : List V), v = .ref S.addr ∧ S.here X.K H1 xs ∧ R (Ien X.K S 0) H1, ⟨fun pins s σ H R I h => ?_⟩, fun σ H Z ι Γ M Q sl hr h => qa σ H Z ι Γ M _ sl hr (Post.bind h fun x M1 v H1 Z1 ι1 e1 hr1 r1 h1 => ?_)⟩
  · refine Call_ (ld_blt I hg hm boot_enumerate (PyProof.Rows.callWith_type1 (thn ((pa_cons pa pa_nil hs).run pos pins s σ H (fun vs H1 => ∃ v, vs = [v] ∧ ∃ (S : Src) (xs : List V), v = .ref S.addr ∧ S.here X.K H1 xs ∧ R (Ien X.K S 0) H1) I ?_) fun us s1 hh => ?_) hs rfl))
    · have hmono : (fun x H1 => tNil σ H1 fun xs H2 => ∃ v, x :: xs = [v] ∧ ∃ (S : Src) (ys : List V), v = .ref S.addr ∧ S.here X.K H2 ys ∧ R (Ien X.K S 0) H2) = fun (v : V) (H1 : Hp) => ∃ (S : Src) (xs : List V), v = .ref S.addr ∧ S.here X.K H1 xs ∧ R (Ien X.K S 0) H1 := by
        funext x H1
        apply propext
        constructor
        · rintro ⟨v, ev, q⟩
          cases ev
          exact q
        · intro q
          exact ⟨x, rfl, q⟩
      show ta σ H fun x H1 => tNil σ H1 fun xs H2 => ∃ v, x :: xs = [v] ∧ ∃ (S : Src) (ys : List V), v = .ref S.addr ∧ S.here X.K H2 ys ∧ R (Ien X.K S 0) H2
      rw [hmono]
      exact h
    · obtain ⟨vs, H1, J, r1, v, rfl, S, xs, rfl, hq, q⟩ := hh
      obtain ⟨u, rfl, ru⟩ := Vals.one r1
      cases ru
      obtain ⟨its, rv, har⟩ := Src.inv J hq
      refine call_enum1 (S.begins its.toArray) har fun h' he hit hk => wpAny_pyIter_enum he ?_
      have J2 : Inv X pins σ H1 { s1 with heap := h' } := J.kept (t' := s1.toks) hk
      refine ⟨s1.heap.objs.size + 1, [s1.heap.objs.size + 1, s1.heap.objs.size], _, _, H1, rfl, J2, turn_en S 0 (s1.heap.objs.size + 1) s1.heap.objs.size, ⟨⟨.none, by simpa using he⟩, Src.start hit, Nat.succ_ne_self _⟩, fun b hb => ?_, q⟩
      have le : s1.heap.objs.size ≤ b := by
        rcases List.mem_cons.mp hb with z | z
        · rw [z]; exact Nat.le_succ _
        · have z' : b = s1.heap.objs.size := by simpa using z
          rw [z']
          exact Nat.le_refl _
      exact J.fpOk le (J.hok.fresh le)
  · obtain ⟨items, hd, h2⟩ := Post.of_opR (γ := D) (δ := V) h1
    cases es : seqD x with
    | none => rw [es] at hd; cases hd
    | some ds =>
      rw [es] at hd
      cases hd
      obtain ⟨S, xs, rfl, hS, r⟩ := src_of hr1.sub r1 es
      exact ⟨S, xs, rfl, here_sub hr1.sub hS, h2 _ H1 Z1 ι1 .refl hr1 (itr_en hS r)⟩
end
end Bk

set_option Elab.async false
set_option linter.all false
set_option maxRecDepth 100000
set_option maxHeartbeats 2000000
namespace Bk
open PySem PySem.Spec PyProof.Rows L2
/-! ### a comprehension over a list of ours, which it leaves as it is -/
def gLcW (ge : GE) (gg : GG) (gt : GT) (gel : GE) (own : List Nat) : GE := fun Γ M => (ge Γ M).bind fun d M1 => match d with
  | .ref k => match M1[k]? with
    | some (.lst ds) => (gLcL gg gt gel (forget Γ own) ds [] M1).bind fun acc M2 => .ok (.lst acc) M2
    | _ => .bad
  | _ => .bad
section
variable {X : Cx} {C : CT} {W : WX} {elt tg iter : Expr} {ifs : List Expr} {scope : Scope} {own : List (Str × Nat)} {pos : Pos} {gi : GE} {gg : GG} {gt : GT} {ge : GE} {is ixs : List Nat}
end
end Bk
namespace Bk
open PySem PySem.Spec PyProof.Rows L2
theorem qs_pre {X : Cx} {C : CT} {W : WX} {st : Stmt} {g : GS} (is : List Nat) (h1 : QS X C W st g) : QS X C W st (gSeq (gForget is) g) := by
  obtain ⟨t, p, q⟩ := h1
  exact ⟨t, p, fun Dd σ H Z ι Γ M sl hr h => q Dd σ H Z ι (forget Γ is) M (sl.forget is) hr h⟩
end Bk

set_option Elab.async false
set_option linter.all false
set_option maxRecDepth 100000
set_option maxHeartbeats 2000000
namespace Bk
open PySem PySem.Spec PyProof.Rows L2
/-! ### ==, for texts of any kind as well -/
def dEqA (M : List MO) (x y : D) : Option D := match x, y with
  | .str a, .str b => some (.bl (decide (a = b)))
  | x, y => dEq M x y
def dNeA (M : List MO) (x y : D) : Option D := match x, y with
  | .str a, .str b => some (.bl (!decide (a = b)))
  | x, y => dNe M x y
section
variable {X : Cx}
theorem op_eqA (hu : X.A.units + 64 < cLine) : OpR X (compareOp .Eq) (fun x y H Q => rEqD X.K x y H Q ∨ rEq x y H Q) := (op_eqD hu).or op_eq
theorem op_neA (hu : X.A.units + 64 < cLine) : OpR X (compareOp .NotEq) (fun x y H Q => rNeD X.K x y H Q ∨ rNe x y H Q) := (op_neD hu).or op_ne
theorem str_dec (a b : Str) : decide (V.str a = V.str b) = decide (a = b) := by simp
theorem ok_eqA : Ok2 X (fun x y H Q => rEqD X.K x y H Q ∨ rEq x y H Q) dEqA := fun x y H Z ι M dx dy d Q hr rx ry e q => by
  unfold dEqA at e
  split at e
  · cases e
    cases rx
    cases ry
    exact .inr ⟨rfl, q.now hr (by rw [str_dec]; exact .bl _)⟩
  · exact .inl (ok_eq x y H Z ι M dx dy d Q hr rx ry e q)
theorem ok_neA : Ok2 X (fun x y H Q => rNeD X.K x y H Q ∨ rNe x y H Q) dNeA := fun x y H Z ι M dx dy d Q hr rx ry e q => by
  unfold dNeA at e
  split at e
  · cases e
    cases rx
    cases ry
    exact .inr ⟨rfl, q.now hr (by rw [str_dec]; exact .bl _)⟩
  · exact .inl (ok_ne x y H Z ι M dx dy d Q hr rx ry e q)
end
@[simp] theorem e_eqS (M : List MO) (a b : Str) : dEqA M (.str a) (.str b) = some (.bl (decide (a = b))) := Eq.trans rfl rfl
@[simp] theorem e_neS (M : List MO) (a b : Str) : dNeA M (.str a) (.str b) = some (.bl (!decide (a = b))) := Eq.trans rfl rfl
/-! ### data that is as it is -/
structure Dt (n : Nat) (d : D) (p : PyData) : Prop where
  e : toP d = some p
  l : p.canLay0 = true
  h : p.depth ≤ n
structure Dts (n : Nat) (ds : List D) (ps : List PyData) : Prop where
  e : toPs ds = some ps
  l : PyData.canLayAll0 ps = true
  h : PyData.depthAll ps ≤ n
theorem Dt.int (n : Nat) (i : Int) : Dt n (.int i) (.int i) := ⟨rfl, rfl, Nat.zero_le _⟩
theorem Dt.non (n : Nat) : Dt n .non .none := ⟨rfl, rfl, Nat.zero_le _⟩
theorem Dt.bl (n : Nat) (b : Bool) : Dt n (.bl b) (.bool b) := ⟨rfl, rfl, Nat.zero_le _⟩
theorem Dts.nil (n : Nat) : Dts n [] [] := ⟨rfl, rfl, Nat.zero_le _⟩
theorem Dts.cons {n : Nat} {d : D} {ds : List D} {p : PyData} {ps : List PyData} (h : Dt n d p) (t : Dts n ds ps) : Dts n (d :: ds) (p :: ps) :=
  ⟨by simp [toPs, h.e, t.e], by simp [PyData.canLayAll0, h.l, t.l], by have := h.h; have := t.h; simp only [PyData.depthAll]; omega⟩
theorem Dts.tup {n : Nat} {ds : List D} {ps : List PyData} (h : Dts n ds ps) : Dt (n + 1) (.tup ds) (.tuple ps) := ⟨by simp [toP, h.e], by simpa [PyData.canLay0] using h.l, by have := h.h; simp only [PyData.depth]; omega⟩
theorem Dts.lst {n : Nat} {ds : List D} {ps : List PyData} (h : Dts n ds ps) : Dt (n + 1) (.lst ds) (.list ps) := ⟨by simp [toP, h.e], by simpa [PyData.canLay0] using h.l, by have := h.h; simp only [PyData.depth]; omega⟩
theorem Dts.map {α : Type} {n : Nat} {f : α → D} {g : α → PyData} (xs : List α) (h : ∀ x ∈ xs, Dt n (f x) (g x)) : Dts n (xs.map f) (xs.map g) := by
  induction xs with
  | nil => exact .nil n
  | cons x xs ih => exact .cons (h x (by simp)) (ih fun y hy => h y (by simp [hy]))
theorem Dts.ints (n : Nat) (is : List Int) : Dts n (is.map D.int) (is.map PyData.int) := Dts.map is fun i _ => .int n i
theorem Dt.shaped {n : Nat} {d : D} {p : PyData} (h : Dt n d p) (hn : n ≤ 64) : SeqAt.shaped p = true := by
  have := h.h
  simp [SeqAt.shaped, h.l]
  omega
theorem eqP_of {n m : Nat} {M : List MO} {x y d d' : D} {p q : PyData} (h : Dt n d p) (h' : Dt m d' q) (hx : deref M x = d) (hy : deref M y = d') (hn : n ≤ 64) (hm : m ≤ 64) : eqP M x y = some (PyData.eqv p q) := by
  unfold eqP
  rw [hx, hy, h.e, h'.e]
  simp [h.shaped hn, h'.shaped hm]
theorem eqv_same {p : PyData} (h : p.canLay0 = true) : PyData.eqv p p = true := SeqAt.eqv_refl p h
theorem eqP_same {n : Nat} {M : List MO} {x y d : D} {p : PyData} (h : Dt n d p) (hx : deref M x = d) (hy : deref M y = d) (hn : n ≤ 64) : eqP M x y = some true := by
  rw [eqP_of h h hx hy hn hn, eqv_same h.l]
theorem dEqA_p {M : List MO} {x y : D} {b : Bool} (h : eqP M x y = some b) (hx : ∀ s, x ≠ .str s) : dEqA M x y = some (.bl b) := by
  unfold dEqA
  split
  · exact absurd rfl (hx _)
  · simp [dEq, h]
theorem dNeA_p {M : List MO} {x y : D} {b : Bool} (h : eqP M x y = some b) (hx : ∀ s, x ≠ .str s) : dNeA M x y = some (.bl !b) := by
  unfold dNeA
  split
  · exact absurd rfl (hx _)
  · simp [dNe, h]
@[simp] theorem dEqA_int (M : List MO) (i j : Int) : dEqA M (.int i) (.int j) = some (.bl (decide (i = j))) := by
  rw [dEqA_p (eqP_of (Dt.int 0 i) (Dt.int 0 j) rfl rfl (by decide) (by decide)) (fun _ h => by cases h)]
  simp only [PyData.eqv]
  congr 2
  try rfl
@[simp] theorem dNeA_int (M : List MO) (i j : Int) : dNeA M (.int i) (.int j) = some (.bl (!decide (i = j))) := by
  rw [dNeA_p (eqP_of (Dt.int 0 i) (Dt.int 0 j) rfl rfl (by decide) (by decide)) (fun _ h => by cases h)]
  simp only [PyData.eqv]
  congr 2
  try rfl
theorem deref_ref {M : List MO} {k : Nat} {ds : List D} (h : M[k]? = some (.lst ds)) : deref M (.ref k) = .lst (ds.map (deref1 M)) := by
  simp [deref, deref1, h]
mutual
theorem below_toP : ∀ (d : D) (p : PyData), toP d = some p → below 0 d = true
  | .non, _, _ => rfl
  | .bl _, _, _ => rfl
  | .int _, _, _ => rfl
  | .str _, _, _ => rfl
  | .tup ds, p, h => by
    cases e : toPs ds with
    | none => simp [toP, e] at h
    | some ps => simpa [below] using belows_toPs ds ps e
  | .lst ds, p, h => by
    cases e : toPs ds with
    | none => simp [toP, e] at h
    | some ps => simpa [below] using belows_toPs ds ps e
  | .ref _, _, h => by cases h
  | .dct _ _, _, h => by cases h
  | .ptu ds, p, h => by
    cases e : toPs ds with
    | none => simp [toP, e] at h
    | some ps => simpa [below] using belows_toPs ds ps e
theorem belows_toPs : ∀ (ds : List D) (ps : List PyData), toPs ds = some ps → belows 0 ds = true
  | [], _, _ => rfl
  | d :: ds, ps, h => by
    cases e1 : toP d with
    | none => simp [toPs, e1] at h
    | some p =>
      cases e2 : toPs ds with
      | none => simp [toPs, e1, e2] at h
      | some ps => simp [belows, below_toP d p e1, belows_toPs ds ps e2]
end
mutual
theorem below_up : ∀ {m : Nat} (d : D), below 0 d = true → below m d = true
  | _, .non, _ => rfl
  | _, .bl _, _ => rfl
  | _, .int _, _ => rfl
  | _, .str _, _ => rfl
  | m, .tup ds, h => by simpa [below] using belows_up ds (by simpa [below] using h)
  | m, .lst ds, h => by simpa [below] using belows_up ds (by simpa [below] using h)
  | _, .ref _, h => by simp [below] at h
  | m, .dct ks vs, h => by
    have h' : belows 0 ks = true ∧ belows 0 vs = true := by simpa [below] using h
    simp [below, belows_up ks h'.1, belows_up vs h'.2]
  | m, .ptu ds, h => by simpa [below] using belows_up ds (by simpa [below] using h)
theorem belows_up : ∀ {m : Nat} (ds : List D), belows 0 ds = true → belows m ds = true
  | _, [], _ => rfl
  | m, d :: ds, h => by
    simp only [belows, Bool.and_eq_true] at h ⊢
    exact ⟨below_up d h.1, belows_up ds h.2⟩
end
mutual
theorem flat_noref : ∀ (M : List MO) (d : D), below 0 d = true → deref1 M d = d
  | _, .non, _ => rfl
  | _, .bl _, _ => rfl
  | _, .int _, _ => rfl
  | _, .str _, _ => rfl
  | _, .tup _, _ => rfl
  | _, .lst _, _ => rfl
  | _, .ref _, h => by simp [below] at h
  | _, .dct _ _, _ => rfl
  | _, .ptu _, _ => rfl
end
theorem belows_all {m : Nat} (ds : List D) : belows m ds = ds.all (below m) := by
  induction ds with
  | nil => rfl
  | cons d ds ih => simp [belows, ih]
theorem map_deref {M : List MO} {ds : List D} (h : belows 0 ds = true) : ds.map (deref1 M) = ds := by
  rw [belows_all, List.all_eq_true] at h
  conv => rhs; rw [← List.map_id ds]
  exact List.map_congr_left fun d hd => flat_noref M d (h d hd)
theorem deref_flat {M : List MO} {d : D} (h : below 0 d = true) : deref M d = d := by
  unfold deref
  rw [flat_noref M d h]
  cases d with
  | lst ds =>
    show D.lst (ds.map (deref1 M)) = _
    rw [map_deref (by simpa [below] using h)]
  | _ => rfl
theorem Dt.below {n m : Nat} {d : D} {p : PyData} (h : Dt n d p) : below m d = true := below_up d (below_toP d p h.e)
theorem Dts.belows {n m : Nat} {ds : List D} {ps : List PyData} (h : Dts n ds ps) : belows m ds = true := belows_up ds (belows_toPs ds ps h.e)
theorem Dt.deref {n : Nat} {M : List MO} {d : D} {p : PyData} (h : Dt n d p) : deref M d = d := deref_flat h.below
theorem Dts.derefR {n : Nat} {M : List MO} {k : Nat} {ds : List D} {ps : List PyData} (h : Dts n ds ps) (hk : M[k]? = some (.lst ds)) : deref M (.ref k) = .lst ds := by rw [deref_ref hk, map_deref h.belows]
@[simp] theorem belows_ints (m : Nat) (is : List Int) : belows m (is.map D.int) = true := (Dts.ints 0 is).belows
/-! what repr writes is not too long -/
structure Sh (b : Nat) (p : PyData) : Prop where
  s : p.showable = true
  d : p.hasDict = false
  l : p.leavesShort 13 = true
  b : p.bulk ≤ b
structure Shs (b : Nat) (ps : List PyData) : Prop where
  s : PyData.showableAll ps = true
  d : PyData.hasDictAll ps = false
  l : PyData.leavesShortAll 13 ps = true
  b : PyData.bulkAll ps ≤ b
theorem Sh.int {i : Int} (h : i.natAbs < 10 ^ 12) : Sh 0 (.int i) := ⟨by
  have : i.natAbs.log2 < 1920 := by
    by_cases z : i.natAbs = 0
    · rw [z]; decide
    · have : i.natAbs.log2 < 40 := (Nat.log2_lt z).mpr (by omega)
      omega
  simp [PyData.showable, this], rfl, by simpa [PyData.leavesShort] using PyData.shown_int_le h, Nat.le_refl _⟩
theorem Sh.non : Sh 0 .none := ⟨rfl, rfl, rfl, Nat.le_refl _⟩
theorem Sh.bl (b : Bool) : Sh 0 (.bool b) := ⟨rfl, rfl, rfl, Nat.le_refl _⟩
theorem Shs.nil : Shs 0 [] := ⟨rfl, rfl, rfl, Nat.le_refl _⟩
theorem Shs.cons {b c : Nat} {p : PyData} {ps : List PyData} (h : Sh b p) (t : Shs c ps) : Shs (b + 1 + c) (p :: ps) :=
  ⟨by simp [PyData.showableAll, h.s, t.s], by simp [PyData.hasDictAll, h.d, t.d], by simp [PyData.leavesShortAll, h.l, t.l], by have := h.b; have := t.b; simp only [PyData.bulkAll]; omega⟩
theorem Shs.tup {b : Nat} {ps : List PyData} (h : Shs b ps) : Sh b (.tuple ps) := ⟨by simpa [PyData.showable] using h.s, by simpa [PyData.hasDict] using h.d, by simpa [PyData.leavesShort] using h.l, by simpa [PyData.bulk] using h.b⟩
theorem Shs.lst {b : Nat} {ps : List PyData} (h : Shs b ps) : Sh b (.list ps) := ⟨by simpa [PyData.showable] using h.s, by simpa [PyData.hasDict] using h.d, by simpa [PyData.leavesShort] using h.l, by simpa [PyData.bulk] using h.b⟩
theorem Shs.map {α : Type} {b : Nat} {g : α → PyData} (xs : List α) (h : ∀ x ∈ xs, Sh b (g x)) : Shs (xs.length * (b + 1)) (xs.map g) := by
  induction xs with
  | nil => simpa using Shs.nil
  | cons x xs ih =>
    have := Shs.cons (h x (by simp)) (ih fun y hy => h y (by simp [hy]))
    simp only [List.length_cons, List.map_cons]
    rw [Nat.succ_mul, Nat.add_comm]
    exact this
theorem Shs.ints {is : List Int} (h : ∀ i ∈ is, i.natAbs < 10 ^ 12) : Shs is.length (is.map PyData.int) := by
  have := Shs.map (b := 0) is fun i hi => Sh.int (h i hi)
  simpa using this
theorem repr_of {n b : Nat} {M : List MO} {x d : D} {p : PyData} (h : Dt n d p) (s : Sh b p) (hx : deref M x = d) (hn : n ≤ 60) (hb : b ≤ 2 ^ 20) (hk : (∃ k, x = .ref k) ∨ (∃ ds, x = .lst ds) ∨ ∃ ds, x = .tup ds) : dRepr M x = some (.str p.shown) := by
  have e : dRepr M x = (toP (deref M x)).bind fun p => if (p.showable && !p.hasDict && decide (p.depth ≤ 60) && decide (p.shown.length ≤ sizeLine)) = true then some (.str p.shown) else none := by
    rcases hk with ⟨k, rfl⟩ | ⟨k, rfl⟩ | ⟨k, rfl⟩ <;> rfl
  rw [e, hx, h.e, Option.bind_some, if_pos]
  have h1 := h.h
  have h2 := PyData.shown_fits_bulk (B := 13) (by decide) (by decide) s.l (Nat.le_trans s.b hb)
  have h3 : p.depth ≤ 60 := by omega
  simp [s.s, s.d, h3, h2]
end Bk

set_option Elab.async false
set_option linter.all false
set_option maxRecDepth 100000
set_option maxHeartbeats 2000000
namespace Bk
open PySem PySem.Spec PyProof.Rows L2
/-! ### how the functions are worked out -/
section
variable {α β : Type}
@[simp] theorem rb_ok (a : α) (M : List MO) (f : α → List MO → R β) : (R.ok a M).bind f = f a M := Eq.trans rfl rfl
@[simp] theorem rb_ex (c : Nat) (d : D) (M : List MO) (f : α → List MO → R β) : (R.exc c d M : R α).bind f = .exc c d M := Eq.trans rfl rfl
@[simp] theorem rt_ok (Γ : Env) (a : α) (M : List MO) (f : α → List MO → RS) : (R.ok a M).thenS Γ f = f a M := Eq.trans rfl rfl
@[simp] theorem rt_ex (Γ : Env) (c : Nat) (d : D) (M : List MO) (f : α → List MO → RS) : (R.exc c d M : R α).thenS Γ f = .exc c d Γ M := Eq.trans rfl rfl
@[simp] theorem ro_ok (a : α) (M : List MO) (f : α → List MO → R β) : (R.ok a M).only f = f a M := Eq.trans rfl rfl
@[simp] theorem sn_nx (Γ : Env) (M : List MO) (f : Env → List MO → RS) : (RS.nx Γ M).next f = f Γ M := Eq.trans rfl rfl
@[simp] theorem sn_rt (d : D) (M : List MO) (f : Env → List MO → RS) : (RS.rt d M).next f = .rt d M := Eq.trans rfl rfl
@[simp] theorem sn_ct (Γ : Env) (M : List MO) (f : Env → List MO → RS) : (RS.ct Γ M).next f = .ct Γ M := Eq.trans rfl rfl
@[simp] theorem sn_bk (Γ : Env) (M : List MO) (f : Env → List MO → RS) : (RS.bk Γ M).next f = .bk Γ M := Eq.trans rfl rfl
@[simp] theorem sn_ex (c : Nat) (d : D) (Γ : Env) (M : List MO) (f : Env → List MO → RS) : (RS.exc c d Γ M).next f = .exc c d Γ M := Eq.trans rfl rfl
@[simp] theorem st_nx (Γ : Env) (M : List MO) (f : Env → List MO → RS) : (RS.nx Γ M).turn f = f Γ M := Eq.trans rfl rfl
@[simp] theorem st_ct (Γ : Env) (M : List MO) (f : Env → List MO → RS) : (RS.ct Γ M).turn f = f Γ M := Eq.trans rfl rfl
@[simp] theorem st_bk (Γ : Env) (M : List MO) (f : Env → List MO → RS) : (RS.bk Γ M).turn f = .nx Γ M := Eq.trans rfl rfl
@[simp] theorem st_rt (d : D) (M : List MO) (f : Env → List MO → RS) : (RS.rt d M).turn f = .rt d M := Eq.trans rfl rfl
@[simp] theorem st_ex (c : Nat) (d : D) (Γ : Env) (M : List MO) (f : Env → List MO → RS) : (RS.exc c d Γ M).turn f = .exc c d Γ M := Eq.trans rfl rfl
@[simp] theorem opR_some (a : α) (M : List MO) : opR (some a) M = .ok a M := Eq.trans rfl rfl
@[simp] theorem optS_some (Γ : Env) (f : Env → RS) : optS (some Γ) f = f Γ := Eq.trans rfl rfl
end
@[simp] theorem u_gV (i : Nat) (Γ : Env) (M : List MO) : gV i Γ M = (match Γ[i]? with
  | some (some d) => .ok d M
  | _ => .bad) := Eq.trans rfl rfl
@[simp] theorem u_gC (d : D) (Γ : Env) (M : List MO) : gC d Γ M = .ok d M := Eq.trans rfl rfl
@[simp] theorem u_gOp2 (f : List MO → D → D → Option D) (ga gb : GE) (Γ : Env) (M : List MO) : gOp2 f ga gb Γ M = (ga Γ M).bind fun x M1 => (gb Γ M1).bind fun y M2 => opR (f M2 x y) M2 := Eq.trans rfl rfl
@[simp] theorem u_gOp1 (f : List MO → D → Option D) (ga : GE) (Γ : Env) (M : List MO) : gOp1 f ga Γ M = (ga Γ M).bind fun x M1 => opR (f M1 x) M1 := Eq.trans rfl rfl
@[simp] theorem u_gNil (Γ : Env) (M : List MO) : gNil Γ M = .ok [] M := Eq.trans rfl rfl
@[simp] theorem u_gCons (ga : GE) (gr : GA) (Γ : Env) (M : List MO) : gCons ga gr Γ M = (ga Γ M).bind fun x M1 => (gr Γ M1).bind fun xs M2 => .ok (x :: xs) M2 := Eq.trans rfl rfl
@[simp] theorem u_gTup (ga : GA) (Γ : Env) (M : List MO) : gTup ga Γ M = (ga Γ M).bind fun xs M1 => if xs.length ≤ sizeLine then .ok (.tup xs) M1 else .bad := Eq.trans rfl rfl
@[simp] theorem u_gLst (ga : GA) (Γ : Env) (M : List MO) : gLst ga Γ M = (ga Γ M).bind fun xs M1 => if xs.length ≤ sizeLine then .ok (.lst xs) M1 else .bad := Eq.trans rfl rfl
@[simp] theorem u_gLstO (ga : GA) (Γ : Env) (M : List MO) : gLstO ga Γ M = (ga Γ M).bind fun xs M1 => if xs.length ≤ sizeLine then .ok (.ref M1.length) (M1 ++ [.lst xs]) else .bad := Eq.trans rfl rfl
@[simp] theorem u_gCall (f : List MO → List D → Option D) (ga : GA) (Γ : Env) (M : List MO) : gCall f ga Γ M = (ga Γ M).bind fun xs M1 => opR (f M1 xs) M1 := Eq.trans rfl rfl
@[simp] theorem u_gVal (ga : GE) (Γ : Env) (M : List MO) : gVal ga Γ M = (ga Γ M).bind fun x M1 => opR (toBl x) M1 := Eq.trans rfl rfl
@[simp] theorem u_gAndT (a b : GT) (Γ : Env) (M : List MO) : gAndT a b Γ M = (a Γ M).bind fun c M1 => if c = true then b Γ M1 else .ok false M1 := Eq.trans rfl rfl
@[simp] theorem u_gOrT (a b : GT) (Γ : Env) (M : List MO) : gOrT a b Γ M = (a Γ M).bind fun c M1 => if c = true then .ok true M1 else b Γ M1 := Eq.trans rfl rfl
@[simp] theorem u_gNotT (a : GT) (Γ : Env) (M : List MO) : gNotT a Γ M = (a Γ M).bind fun c M1 => .ok (!c) M1 := Eq.trans rfl rfl
@[simp] theorem u_gIfE (c : GT) (a b : GE) (Γ : Env) (M : List MO) : gIfE c a b Γ M = (c Γ M).bind fun k M1 => if k = true then a Γ M1 else b Γ M1 := Eq.trans rfl rfl
@[simp] theorem u_gAndV (a b : GE) (Γ : Env) (M : List MO) : gAndV a b Γ M = ((a Γ M).bind fun x M1 => match x with
  | .bl c => if c = true then b Γ M1 else .ok (.bl false) M1
  | _ => .bad) := Eq.trans rfl rfl
@[simp] theorem u_gOrV (a b : GE) (Γ : Env) (M : List MO) : gOrV a b Γ M = ((a Γ M).bind fun x M1 => match x with
  | .bl c => if c = true then .ok (.bl true) M1 else b Γ M1
  | _ => .bad) := Eq.trans rfl rfl
@[simp] theorem u_gChain (f f' : List MO → D → D → Option D) (ga gb gc : GE) (Γ : Env) (M : List MO) : gChain f f' ga gb gc Γ M = ((ga Γ M).bind fun x M1 => (gb Γ M1).bind fun y M2 => (opR (f M2 x y) M2).bind fun k M3 => match k with
  | .bl c => if c = true then (gc Γ M3).bind fun z M4 => opR (f' M4 y z) M4 else .ok (.bl false) M3
  | _ => .bad) := Eq.trans rfl rfl
@[simp] theorem u_gSeqI (ge : GE) (Γ : Env) (M : List MO) : gSeqI ge Γ M = (ge Γ M).bind fun d M1 => opR (seqD d) M1 := Eq.trans rfl rfl
@[simp] theorem u_gRng1 (ga : GA) (Γ : Env) (M : List MO) : gRng1 ga Γ M = (ga Γ M).bind fun ds M1 => opR (rng1 ds) M1 := Eq.trans rfl rfl
@[simp] theorem u_gRng2 (ga : GA) (Γ : Env) (M : List MO) : gRng2 ga Γ M = (ga Γ M).bind fun ds M1 => opR (rng2 ds) M1 := Eq.trans rfl rfl
@[simp] theorem u_gTo (i : Nat) (d : D) (Γ : Env) : gTo i d Γ = some (Γ.set i (some d)) := Eq.trans rfl rfl
@[simp] theorem u_gToT (gs : GGs) (d : D) (Γ : Env) : gToT gs d Γ = (match d with
  | .tup ds => gs ds Γ
  | _ => none) := Eq.trans rfl rfl
@[simp] theorem u_gToNil (ds : List D) (Γ : Env) : gToNil ds Γ = (match ds with
  | [] => some Γ
  | _ :: _ => none) := Eq.trans rfl rfl
@[simp] theorem u_gToCons (g : GG) (gs : GGs) (ds : List D) (Γ : Env) : gToCons g gs ds Γ = (match ds with
  | [] => none
  | d :: r => (g d Γ).bind fun Γ1 => gs r Γ1) := Eq.trans rfl rfl
@[simp] theorem u_gPass (Γ : Env) (M : List MO) : gPass Γ M = .nx Γ M := Eq.trans rfl rfl
@[simp] theorem u_gSeq (a b : GS) (Γ : Env) (M : List MO) : gSeq a b Γ M = (a Γ M).next b := Eq.trans rfl rfl
@[simp] theorem u_gExpr (ge : GE) (Γ : Env) (M : List MO) : gExpr ge Γ M = (ge Γ M).thenS Γ fun _ M1 => .nx Γ M1 := Eq.trans rfl rfl
@[simp] theorem u_gRet (ge : GE) (Γ : Env) (M : List MO) : gRet ge Γ M = (ge Γ M).thenS Γ fun d M1 => .rt d M1 := Eq.trans rfl rfl
@[simp] theorem u_gRetN (Γ : Env) (M : List MO) : gRetN Γ M = .rt .non M := Eq.trans rfl rfl
@[simp] theorem u_gIf (c : GT) (a b : GS) (Γ : Env) (M : List MO) : gIf c a b Γ M = (c Γ M).thenS Γ fun k M1 => if k = true then a Γ M1 else b Γ M1 := Eq.trans rfl rfl
@[simp] theorem u_gAsg (ge : GE) (gg : GG) (Γ : Env) (M : List MO) : gAsg ge gg Γ M = ((ge Γ M).thenS Γ fun d M1 => match gg d Γ with
  | some Γ' => .nx Γ' M1
  | none => .bad) := Eq.trans rfl rfl
@[simp] theorem u_gBad (Γ : Env) (M : List MO) : gBad Γ M = .bad := Eq.trans rfl rfl
@[simp] theorem u_gForget (is : List Nat) (Γ : Env) (M : List MO) : gForget is Γ M = .nx (forget Γ is) M := Eq.trans rfl rfl
@[simp] theorem u_gFz (i : Nat) (Γ : Env) (M : List MO) : gFz i Γ M = (match Γ[i]? with
  | some (some (.ref k)) => match M[k]? with
    | some (.lst ds) => .nx (Γ.set i (some (.lst ds))) (M.set k .dead)
    | some (.dct ks vs) => .nx (Γ.set i (some (.dct ks vs))) (M.set k .dead)
    | _ => .bad
  | _ => .bad) := Eq.trans rfl rfl
@[simp] theorem u_gScope (a : GS) (Γ : Env) (M : List MO) : gScope a Γ M = gCut M.length (a Γ M) := Eq.trans rfl rfl
@[simp] theorem u_gFor (gi : GI) (gg : GG) (body : GS) (Γ : Env) (M : List MO) : gFor gi gg body Γ M = (gi Γ M).thenS Γ fun ds M1 => gForL gg body ds Γ M1 := Eq.trans rfl rfl
@[simp] theorem u_gYes (Γ : Env) (M : List MO) : gYes Γ M = .ok true M := Eq.trans rfl rfl
@[simp] theorem u_gLc (gi : GI) (gg : GG) (gt : GT) (ge : GE) (own : List Nat) (Γ : Env) (M : List MO) : gLc gi gg gt ge own Γ M = (gi Γ M).bind fun ds M1 => (gLcL gg gt ge (forget Γ own) ds [] M1).bind fun acc M2 => .ok (.lst acc) M2 := Eq.trans rfl rfl
@[simp] theorem u_gLcO (gi : GI) (gg : GG) (gt : GT) (ge : GE) (own : List Nat) (Γ : Env) (M : List MO) : gLcO gi gg gt ge own Γ M = (gi Γ M).bind fun ds M1 => (gLcL gg gt ge (forget Γ own) ds [] M1).bind fun acc M2 => .ok (.ref M2.length) (M2 ++ [.lst acc]) := Eq.trans rfl rfl
@[simp] theorem u_gNoO (Γ : Env) (M : List MO) : gNoO Γ M = .ok none M := Eq.trans rfl rfl
@[simp] theorem u_gO (ge : GE) (Γ : Env) (M : List MO) : gO ge Γ M = (ge Γ M).bind fun d M1 => opR ((toI d).map some) M1 := Eq.trans rfl rfl
@[simp] theorem u_gSl (ge : GE) (lo hi : GO) (Γ : Env) (M : List MO) : gSl ge lo hi Γ M = (ge Γ M).bind fun x M1 => (lo Γ M1).bind fun a M2 => (hi Γ M2).bind fun b M3 => opR (dCut M3 a b x) M3 := Eq.trans rfl rfl
@[simp] theorem u_gRgL (own : Bool) (ga gb : GE) (Γ : Env) (M : List MO) : gRgL own ga gb Γ M = ((ga Γ M).bind fun x M1 => (gb Γ M1).bind fun y M2 => match x, y with
  | .int i, .int j => if rngOk i j = true then (if own = true then .ok (.ref M2.length) (M2 ++ [.lst (rngL i (j - i).toNat)]) else .ok (.lst (rngL i (j - i).toNat)) M2) else .bad
  | _, _ => .bad) := Eq.trans rfl rfl
@[simp] theorem u_gMeth1 (f : MF) (go ge : GE) (Γ : Env) (M : List MO) : gMeth1 f go ge Γ M = (go Γ M).bind fun x M1 => if isListD M1 x = true then (ge Γ M1).bind fun y M2 => mutR M2 x fun ds => f M2 ds y else .bad := Eq.trans rfl rfl
@[simp] theorem u_gMeth0 (f : MF0) (go : GE) (Γ : Env) (M : List MO) : gMeth0 f go Γ M = (go Γ M).bind fun x M1 => mutR M1 x f := Eq.trans rfl rfl
@[simp] theorem u_gSetI (ge go gi : GE) (Γ : Env) (M : List MO) : gSetI ge go gi Γ M = ((ge Γ M).thenS Γ fun v M1 => (go Γ M1).thenS Γ fun o M2 => (gi Γ M2).thenS Γ fun i M3 => match setR M3 o i v with
  | some M4 => .nx Γ M4
  | none => .bad) := Eq.trans rfl rfl
@[simp] theorem u_gAug (i : Nat) (f : Int → Int → Int) (ge : GE) (Γ : Env) (M : List MO) : gAug i f ge Γ M = (match Γ[i]? with
  | some (some (.int a)) => (ge Γ M).thenS Γ fun y M1 => match y with
    | .int b => .nx (Γ.set i (some (.int (f a b)))) M1
    | _ => .bad
  | _ => .bad) := Eq.trans rfl rfl
@[simp] theorem u_gEnum (ge : GE) (Γ : Env) (M : List MO) : gEnum ge Γ M = (ge Γ M).bind fun d M1 => opR ((seqD d).map (enumL 0)) M1 := Eq.trans rfl rfl
@[simp] theorem u_gEnumK (ge : GE) (gk : GE) (Γ : Env) (M : List MO) : gEnumK ge gk Γ M = ((ge Γ M).bind fun d M1 => (gk Γ M1).bind fun k M2 => match k with
  | .int k => if decide (-(2 ^ 63) ≤ k) && decide (k < 2 ^ 63) then opR ((seqD d).map (enumL k)) M2 else .bad
  | _ => .bad) := Eq.trans rfl rfl
@[simp] theorem u_gZip (ga gb : GE) (Γ : Env) (M : List MO) : gZip ga gb Γ M = (ga Γ M).bind fun x M1 => (gb Γ M1).bind fun y M2 => opR (zipO x y) M2 := Eq.trans rfl rfl
@[simp] theorem u_gLcW (ge : GE) (gg : GG) (gt : GT) (gel : GE) (own : List Nat) (Γ : Env) (M : List MO) : gLcW ge gg gt gel own Γ M = ((ge Γ M).bind fun d M1 => match d with
  | .ref k => match M1[k]? with
    | some (.lst ds) => (gLcL gg gt gel (forget Γ own) ds [] M1).bind fun acc M2 => .ok (.lst acc) M2
    | _ => .bad
  | _ => .bad) := Eq.trans rfl rfl
@[simp] theorem u_gCallF (n : Nat) (F : List D → List MO → R D) (ga : GA) (Γ : Env) (M : List MO) : gCallF n F ga Γ M = (ga Γ M).bind fun ds M1 => if ds.length = n then callF F ds M1 else .bad := Eq.trans rfl rfl
@[simp] theorem u_gCallK (n : Nat) (F : List D → List MO → R D) (is : List Nat) (ga gk : GA) (Γ : Env) (M : List MO) : gCallK n F is ga gk Γ M = (ga Γ M).bind fun ds M1 => (gk Γ M1).bind fun es M2 => if (pick (ds ++ es) is).length = n then callF F (pick (ds ++ es) is) M2 else .bad := Eq.trans rfl rfl
@[simp] theorem u_gForL0 (gg : GG) (b : GS) (Γ : Env) (M : List MO) : gForL gg b [] Γ M = .nx Γ M := Eq.trans rfl rfl
@[simp] theorem u_gForLc (gg : GG) (b : GS) (d : D) (ds : List D) (Γ : Env) (M : List MO) : gForL gg b (d :: ds) Γ M = optS (gg d Γ) fun Γ1 => (b Γ1 M).turn (gForL gg b ds) := Eq.trans rfl rfl
@[simp] theorem u_forget0 (Γ : Env) : forget Γ [] = Γ := Eq.trans rfl rfl
@[simp] theorem u_forgetc (Γ : Env) (i : Nat) (is : List Nat) : forget Γ (i :: is) = forget (Γ.set i none) is := Eq.trans rfl rfl
@[simp] theorem u_toBl (b : Bool) : toBl (.bl b) = some b := Eq.trans rfl rfl
@[simp] theorem u_dNot (M : List MO) (b : Bool) : dNot M (.bl b) = some (.bl !b) := Eq.trans rfl rfl
@[simp] theorem u_toI (i : Int) : toI (.int i) = some i := Eq.trans rfl rfl
@[simp] theorem u_rng1 (j : Int) : rng1 [.int j] = if inR j then some (rngL 0 j.toNat) else none := Eq.trans rfl rfl
@[simp] theorem u_rng2 (i j : Int) : rng2 [.int i, .int j] = if inR i && inR j then some (rngL i (j - i).toNat) else none := Eq.trans rfl rfl
@[simp] theorem u_fn1 (f : List MO → D → Option D) (M : List MO) (d : D) : fn1 f M [d] = f M d := Eq.trans rfl rfl
@[simp] theorem u_fn2 (f : List MO → D → D → Option D) (M : List MO) (d e : D) : fn2 f M [d, e] = f M d e := Eq.trans rfl rfl
@[simp] theorem u_isListD (M : List MO) (d : D) : isListD M d = (listD M d).isSome := Eq.trans rfl rfl
@[simp] theorem u_pick0 {α : Type} (l : List α) : pick l [] = [] := Eq.trans rfl rfl
@[simp] theorem u_pickc {α : Type} (l : List α) (i : Nat) (is : List Nat) : pick l (i :: is) = (match l[i]? with
    | some a => a :: pick l is
    | none => pick l is) := Eq.trans rfl rfl
@[simp] theorem bl_non (m : Nat) : below m .non = true := Eq.trans rfl rfl
@[simp] theorem bl_bl (m : Nat) (b : Bool) : below m (.bl b) = true := Eq.trans rfl rfl
@[simp] theorem bl_int (m : Nat) (i : Int) : below m (.int i) = true := Eq.trans rfl rfl
@[simp] theorem bl_str (m : Nat) (x : Str) : below m (.str x) = true := Eq.trans rfl rfl
@[simp] theorem bl_tup (m : Nat) (ds : List D) : below m (.tup ds) = belows m ds := by simp [below]
@[simp] theorem bl_lst (m : Nat) (ds : List D) : below m (.lst ds) = belows m ds := by simp [below]
@[simp] theorem bl_ref (m k : Nat) : below m (.ref k) = decide (k < m) := by simp [below]
@[simp] theorem bls_nil (m : Nat) : belows m [] = true := Eq.trans rfl rfl
@[simp] theorem bls_cons (m : Nat) (d : D) (ds : List D) : belows m (d :: ds) = (below m d && belows m ds) := by simp [belows]
@[simp] theorem bls_app (m : Nat) (ds es : List D) : belows m (ds ++ es) = (belows m ds && belows m es) := by simp [belows_all]
@[simp] theorem blo_lst (m : Nat) (ds : List D) : belowO m (.lst ds) = belows m ds := Eq.trans rfl rfl
@[simp] theorem blo_dead (m : Nat) : belowO m .dead = true := Eq.trans rfl rfl
@[simp] theorem cut_0 (M : List MO) : cutOk 0 M = true := by simp [cutOk]
@[simp] theorem cut_nil (m : Nat) : cutOk m [] = true := by simp [cutOk]
@[simp] theorem cut_s (m : Nat) (o : MO) (M : List MO) : cutOk (m + 1) (o :: M) = ((M.take m).all (belowO (m + 1)) && belowO (m + 1) o) := by simp [cutOk, Bool.and_comm]
@[simp] theorem sz_1 : 1 ≤ sizeLine := by decide
@[simp] theorem sz_2 : 2 ≤ sizeLine := by decide
@[simp] theorem sz_3 : 3 ≤ sizeLine := by decide
@[simp] theorem sz_4 : 4 ≤ sizeLine := by decide
@[simp] theorem sz_5 : 5 ≤ sizeLine := by decide
@[simp] theorem sz_6 : 6 ≤ sizeLine := by decide
@[simp] theorem sz_7 : 7 ≤ sizeLine := by decide
@[simp] theorem sz_8 : 8 ≤ sizeLine := by decide
@[simp] theorem sz_9 : 9 ≤ sizeLine := by decide
@[simp] theorem sz_10 : 10 ≤ sizeLine := by decide
@[simp] theorem sz_11 : 11 ≤ sizeLine := by decide
@[simp] theorem sz_12 : 12 ≤ sizeLine := by decide
@[simp] theorem sz_13 : 13 ≤ sizeLine := by decide
@[simp] theorem sz_14 : 14 ≤ sizeLine := by decide
@[simp] theorem sz_15 : 15 ≤ sizeLine := by decide
@[simp] theorem sz_16 : 16 ≤ sizeLine := by decide
@[simp] theorem sz_17 : 17 ≤ sizeLine := by decide
@[simp] theorem sz_18 : 18 ≤ sizeLine := by decide
@[simp] theorem sz_19 : 19 ≤ sizeLine := by decide
@[simp] theorem sz_20 : 20 ≤ sizeLine := by decide
@[simp] theorem szl_0 : 0 < sizeLine := by decide
@[simp] theorem szl_1 : 1 < sizeLine := by decide
@[simp] theorem szl_2 : 2 < sizeLine := by decide
@[simp] theorem szl_3 : 3 < sizeLine := by decide
@[simp] theorem szl_4 : 4 < sizeLine := by decide
@[simp] theorem szl_5 : 5 < sizeLine := by decide
@[simp] theorem szl_6 : 6 < sizeLine := by decide
@[simp] theorem szl_7 : 7 < sizeLine := by decide
@[simp] theorem szl_8 : 8 < sizeLine := by decide
@[simp] theorem szl_9 : 9 < sizeLine := by decide
@[simp] theorem szl_10 : 10 < sizeLine := by decide
@[simp] theorem szl_11 : 11 < sizeLine := by decide
@[simp] theorem szl_12 : 12 < sizeLine := by decide
@[simp] theorem szl_13 : 13 < sizeLine := by decide
@[simp] theorem szl_14 : 14 < sizeLine := by decide
@[simp] theorem szl_15 : 15 < sizeLine := by decide
@[simp] theorem szl_16 : 16 < sizeLine := by decide
@[simp] theorem szl_17 : 17 < sizeLine := by decide
@[simp] theorem szl_18 : 18 < sizeLine := by decide
@[simp] theorem szl_19 : 19 < sizeLine := by decide
@[simp] theorem szl_20 : 20 < sizeLine := by decide
@[simp] theorem gc_nx (m : Nat) (Γ : Env) (M : List MO) : gCut m (.nx Γ M) = if m ≤ M.length ∧ cutOk m M = true then .nx (clean m Γ) (M.take m) else .bad := Eq.trans rfl rfl
@[simp] theorem gc_ct (m : Nat) (Γ : Env) (M : List MO) : gCut m (.ct Γ M) = if m ≤ M.length ∧ cutOk m M = true then .ct (clean m Γ) (M.take m) else .bad := Eq.trans rfl rfl
@[simp] theorem gc_bk (m : Nat) (Γ : Env) (M : List MO) : gCut m (.bk Γ M) = .bk Γ M := Eq.trans rfl rfl
@[simp] theorem gc_rt (m : Nat) (d : D) (M : List MO) : gCut m (.rt d M) = .rt d M := Eq.trans rfl rfl
@[simp] theorem gc_ex (m c : Nat) (d : D) (Γ : Env) (M : List MO) : gCut m (.exc c d Γ M) = .exc c d Γ M := Eq.trans rfl rfl
@[simp] theorem fi_rt (m : Nat) (d : D) (M : List MO) : fin m (.rt d M) = if m ≤ M.length ∧ cutOk m M = true then retR m M d else .bad := Eq.trans rfl rfl
@[simp] theorem fi_nx (m : Nat) (Γ : Env) (M : List MO) : fin m (.nx Γ M) = if m ≤ M.length ∧ cutOk m M = true then R.ok D.non (M.take m) else .bad := Eq.trans rfl rfl
@[simp] theorem fi_ex (m c : Nat) (d : D) (Γ : Env) (M : List MO) : fin m (.exc c d Γ M) = if m ≤ M.length ∧ cutOk m M = true ∧ below m d = true then .exc c d (M.take m) else .bad := Eq.trans rfl rfl
@[simp] theorem re_non (m : Nat) (M : List MO) : retR m M .non = .ok .non (M.take m) := Eq.trans rfl rfl
@[simp] theorem re_bl (m : Nat) (M : List MO) (b : Bool) : retR m M (.bl b) = .ok (.bl b) (M.take m) := Eq.trans rfl rfl
@[simp] theorem re_int (m : Nat) (M : List MO) (i : Int) : retR m M (.int i) = .ok (.int i) (M.take m) := Eq.trans rfl rfl
@[simp] theorem re_str (m : Nat) (M : List MO) (x : Str) : retR m M (.str x) = .ok (.str x) (M.take m) := Eq.trans rfl rfl
@[simp] theorem re_tup (m : Nat) (M : List MO) (ds : List D) : retR m M (.tup ds) = if belows m ds = true then .ok (.tup ds) (M.take m) else .bad := by simp [retR]
@[simp] theorem re_lst (m : Nat) (M : List MO) (ds : List D) : retR m M (.lst ds) = if belows m ds = true then .ok (.lst ds) (M.take m) else .bad := by simp [retR]
@[simp] theorem re_ref (m : Nat) (M : List MO) (k : Nat) : retR m M (.ref k) = if k < m then .ok (.ref k) (M.take m) else match M[k]? with
    | some (.lst ds) => if belows m ds = true then .ok (.ref m) (M.take m ++ [.lst ds]) else .bad
    | _ => .bad := Eq.trans rfl rfl
@[simp] theorem seqD_l (ds : List D) : seqD (.lst ds) = some ds := Eq.trans rfl rfl
@[simp] theorem seqD_t (ds : List D) : seqD (.tup ds) = some ds := Eq.trans rfl rfl
@[simp] theorem listD_l (M : List MO) (ds : List D) : listD M (.lst ds) = some ds := Eq.trans rfl rfl
@[simp] theorem itemsD_l (M : List MO) (ds : List D) : itemsD M (.lst ds) = some ds := Eq.trans rfl rfl
@[simp] theorem itemsD_t (M : List MO) (ds : List D) : itemsD M (.tup ds) = some ds := Eq.trans rfl rfl
@[simp] theorem itemsD_r (M : List MO) (k : Nat) : itemsD M (.ref k) = listD M (.ref k) := Eq.trans rfl rfl
@[simp] theorem e_add (M : List MO) (i j : Int) : dAdd M (.int i) (.int j) = some (.int (i + j)) := Eq.trans rfl rfl
@[simp] theorem e_addL (M : List MO) (a b : List D) : dAdd M (.lst a) (.lst b) = if a.length + b.length ≤ sizeLine then some (.lst (a ++ b)) else none := Eq.trans rfl rfl
@[simp] theorem e_addT (M : List MO) (a b : List D) : dAdd M (.tup a) (.tup b) = if a.length + b.length ≤ sizeLine then some (.tup (a ++ b)) else none := Eq.trans rfl rfl
@[simp] theorem e_sub (M : List MO) (i j : Int) : dSub M (.int i) (.int j) = some (.int (i - j)) := Eq.trans rfl rfl
theorem e_mul {i j : Int} (M : List MO) (h : mulOk i j = true) : dMulA M (.int i) (.int j) = some (.int (i * j)) := by
  show (if mulOk i j = true then some (D.int (i * j)) else none) = _
  rw [if_pos h]
@[simp] theorem e_mulR (M : List MO) (i : Int) : dMulA M (.int i) (.int 0) = some (.int 0) := by
  rw [e_mul M (by simp [mulOk])]
  simp
@[simp] theorem e_fdiv (M : List MO) (i j : Int) : dFdiv M (.int i) (.int j) = if fdivOk i j = true then some (.int (i / j)) else none := Eq.trans rfl rfl
@[simp] theorem e_mod (M : List MO) (i j : Int) : dMod M (.int i) (.int j) = if 0 < j then some (.int (i % j)) else none := by
  show (if modOk i j = true then _ else _) = _
  simp [modOk]
@[simp] theorem e_pow (M : List MO) (i j : Int) : dPow M (.int i) (.int j) = if powOk i j = true then some (.int (i ^ j.toNat)) else none := Eq.trans rfl rfl
@[simp] theorem e_lt (M : List MO) (i j : Int) : dLt M (.int i) (.int j) = some (.bl (decide (i < j))) := Eq.trans rfl rfl
@[simp] theorem e_le (M : List MO) (i j : Int) : dLe M (.int i) (.int j) = some (.bl (decide (i ≤ j))) := Eq.trans rfl rfl
@[simp] theorem e_gt (M : List MO) (i j : Int) : dGt M (.int i) (.int j) = some (.bl (decide (j < i))) := Eq.trans rfl rfl
@[simp] theorem e_ge (M : List MO) (i j : Int) : dGe M (.int i) (.int j) = some (.bl (decide (j ≤ i))) := Eq.trans rfl rfl
@[simp] theorem e_neg (M : List MO) (i : Int) : dNeg M (.int i) = some (.int (-i)) := Eq.trans rfl rfl
@[simp] theorem e_is0 (M : List MO) : dIsN M .non .non = some (.bl true) := Eq.trans rfl rfl
@[simp] theorem e_is1 (M : List MO) (i : Int) : dIsN M (.int i) .non = some (.bl false) := Eq.trans rfl rfl
@[simp] theorem e_is2 (M : List MO) (i : List D) : dIsN M (.tup i) .non = some (.bl false) := Eq.trans rfl rfl
@[simp] theorem e_is3 (M : List MO) (i : List D) : dIsN M (.lst i) .non = some (.bl false) := Eq.trans rfl rfl
@[simp] theorem e_is4 (M : List MO) (i : Str) : dIsN M (.str i) .non = some (.bl false) := Eq.trans rfl rfl
@[simp] theorem e_is5 (M : List MO) (i : Nat) : dIsN M (.ref i) .non = some (.bl false) := Eq.trans rfl rfl
@[simp] theorem e_ns0 (M : List MO) : dNotN M .non .non = some (.bl false) := Eq.trans rfl rfl
@[simp] theorem e_ns1 (M : List MO) (i : Int) : dNotN M (.int i) .non = some (.bl true) := Eq.trans rfl rfl
@[simp] theorem e_ns2 (M : List MO) (i : List D) : dNotN M (.tup i) .non = some (.bl true) := Eq.trans rfl rfl
@[simp] theorem e_ns3 (M : List MO) (i : List D) : dNotN M (.lst i) .non = some (.bl true) := Eq.trans rfl rfl
@[simp] theorem e_ns4 (M : List MO) (i : Str) : dNotN M (.str i) .non = some (.bl true) := Eq.trans rfl rfl
@[simp] theorem e_ns5 (M : List MO) (i : Nat) : dNotN M (.ref i) .non = some (.bl true) := Eq.trans rfl rfl
@[simp] theorem e_ix (M : List MO) (x : D) (i : Int) : dIx M x (.int i) = (itemsD M x).bind fun ds => atI ds i := Eq.trans rfl rfl
theorem atI_nat (ds : List D) (n : Nat) : atI ds (n : Int) = ds[n]? := by
  unfold atI ixN
  by_cases h : n < ds.length
  · simp [h]
  · simp [h]
@[simp] theorem atI_0 (a : D) (ds : List D) : atI (a :: ds) 0 = some a := (atI_nat _ 0).trans rfl
@[simp] theorem atI_1 (a b : D) (ds : List D) : atI (a :: b :: ds) 1 = some b := (atI_nat _ 1).trans rfl
@[simp] theorem atI_2 (a b c : D) (ds : List D) : atI (a :: b :: c :: ds) 2 = some c := (atI_nat _ 2).trans rfl
@[simp] theorem atI_3 (a b c d : D) (ds : List D) : atI (a :: b :: c :: d :: ds) 3 = some d := (atI_nat _ 3).trans rfl
@[simp] theorem atI_4 (a b c d e : D) (ds : List D) : atI (a :: b :: c :: d :: e :: ds) 4 = some e := (atI_nat _ 4).trans rfl
@[simp] theorem atI_5 (a b c d e f : D) (ds : List D) : atI (a :: b :: c :: d :: e :: f :: ds) 5 = some f := (atI_nat _ 5).trans rfl
@[simp] theorem e_lenL (M : List MO) (ds : List D) : dLen M (.lst ds) = some (.int ds.length) := Eq.trans rfl rfl
@[simp] theorem e_lenT (M : List MO) (ds : List D) : dLen M (.tup ds) = some (.int ds.length) := Eq.trans rfl rfl
@[simp] theorem e_lenR (M : List MO) (k : Nat) : dLen M (.ref k) = (listD M (.ref k)).map fun ds => .int ds.length := Eq.trans rfl rfl
@[simp] theorem e_lenS (M : List MO) (x : Str) : dLen M (.str x) = if x.length ≤ sizeLine then some (.int x.length) else none := Eq.trans rfl rfl
@[simp] theorem e_intI (M : List MO) (i : Int) : dInt M (.int i) = some (.int i) := Eq.trans rfl rfl
@[simp] theorem e_intB (M : List MO) (b : Bool) : dInt M (.bl b) = some (.int (if b then 1 else 0)) := Eq.trans rfl rfl
@[simp] theorem e_str (M : List MO) (i : Int) : dStr M (.int i) = if i.natAbs.log2 < 1920 then some (.str (toString i)) else none := Eq.trans rfl rfl
@[simp] theorem e_min2 (M : List MO) (i j : Int) : dMin2 M (.int i) (.int j) = some (.int (if j < i then j else i)) := Eq.trans rfl rfl
@[simp] theorem e_max2 (M : List MO) (i j : Int) : dMax2 M (.int i) (.int j) = some (.int (if i < j then j else i)) := Eq.trans rfl rfl
@[simp] theorem e_isi_ii (M : List MO) (i : Int) : dIsi "int" M (.int i) = some (.bl true) := Eq.trans rfl rfl
@[simp] theorem e_isi_ib (M : List MO) (i : Int) : dIsi "bool" M (.int i) = some (.bl false) := Eq.trans rfl rfl
@[simp] theorem e_isi_ll (M : List MO) (ds : List D) : dIsi "list" M (.lst ds) = some (.bl true) := Eq.trans rfl rfl
@[simp] theorem e_isi_tt (M : List MO) (ds : List D) : dIsi "tuple" M (.tup ds) = some (.bl true) := Eq.trans rfl rfl
@[simp] theorem e_isi_ss (M : List MO) (ds : Str) : dIsi "str" M (.str ds) = some (.bl true) := Eq.trans rfl rfl
@[simp] theorem e_isi_is (M : List MO) (i : Int) : dIsi "str" M (.int i) = some (.bl false) := Eq.trans rfl rfl
@[simp] theorem e_isiT_l (M : List MO) (ds : List D) : dIsiT ["list", "tuple"] M (.lst ds) = some (.bl true) := Eq.trans rfl rfl
@[simp] theorem e_isiT_t (M : List MO) (ds : List D) : dIsiT ["list", "tuple"] M (.tup ds) = some (.bl true) := Eq.trans rfl rfl
theorem toVs_ints (is : List Int) : toVs (is.map D.int) = some (is.map V.int) := by
  induction is with
  | nil => rfl
  | cons i is ih => simp [toVs, toV, ih]
theorem inV_ints (i : Int) (is : List Int) : inV (V.int i) (is.map V.int) = decide (i ∈ is) := by
  induction is with
  | nil => rfl
  | cons j is ih =>
    have e : eqV (V.int j) (V.int i) = decide (j = i) := Eq.trans rfl rfl
    rw [List.map_cons]
    unfold inV at ih ⊢
    rw [List.any_cons, ih, e]
    by_cases h : j = i
    · subst h
      simp
    · have h' : ¬ i = j := fun e => h e.symm
      simp [h, h']
@[simp] theorem e_inL (M : List MO) (i : Int) (is : List Int) : dIn M (.int i) (.lst (is.map D.int)) = some (.bl (decide (i ∈ is))) := by
  simp [dIn, inP, toV, toVs_ints, inV_ints]
@[simp] theorem e_inT (M : List MO) (i : Int) (is : List Int) : dIn M (.int i) (.tup (is.map D.int)) = some (.bl (decide (i ∈ is))) := by
  simp [dIn, inP, toV, toVs_ints, inV_ints]
@[simp] theorem e_niL (M : List MO) (i : Int) (is : List Int) : dNotIn M (.int i) (.lst (is.map D.int)) = some (.bl (!decide (i ∈ is))) := by
  simp [dNotIn, inP, toV, toVs_ints, inV_ints]
@[simp] theorem e_niT (M : List MO) (i : Int) (is : List Int) : dNotIn M (.int i) (.tup (is.map D.int)) = some (.bl (!decide (i ∈ is))) := by
  simp [dNotIn, inP, toV, toVs_ints, inV_ints]
end Bk
namespace Bk
open PySem PySem.Spec PyProof.Rows L2
theorem mulOk_l {i : Int} (j : Int) (h1 : -(2 ^ 64) < i) (h2 : i < 2 ^ 64) : mulOk i j = true := by
  simp only [mulOk, Bool.or_eq_true, Bool.and_eq_true, decide_eq_true_eq]
  omega
theorem mulOk_r (i : Int) {j : Int} (h1 : -(2 ^ 64) < j) (h2 : j < 2 ^ 64) : mulOk i j = true := by
  simp only [mulOk, Bool.or_eq_true, Bool.and_eq_true, decide_eq_true_eq]
  omega
theorem mulOk_m (x y : Int) {n : Int} (h0 : 0 < n) (h : n ≤ 2 ^ 63) : mulOk (x % n) y = true := by
  have a := Int.emod_nonneg x (by omega : n ≠ 0)
  have b := Int.emod_lt_of_pos x h0
  exact mulOk_l y (by omega) (by omega)
end Bk

set_option Elab.async false
set_option linter.all false
set_option maxRecDepth 100000
set_option maxHeartbeats 2000000
namespace Bk
open PySem PySem.Spec PyProof.Rows L2
/-! ### calls that lend nothing -/
theorem lendK_nil : ∀ {ds : List D}, belows 0 ds = true → lendK ds = []
  | [], _ => rfl
  | d :: ds, h => by
    simp only [belows, Bool.and_eq_true] at h
    cases d with
    | ref k => simp [below] at h
    | _ =>
      have ih := lendK_nil h.2
      simpa [lendK] using ih
theorem lendA_nil : ∀ {m : Nat} {ds : List D}, belows 0 ds = true → lendA m ds = ds
  | _, [], _ => rfl
  | m, d :: ds, h => by
    simp only [belows, Bool.and_eq_true] at h
    cases d with
    | ref k => simp [below] at h
    | _ => simp [lendA, lendA_nil h.2]
theorem flatArgs_of : ∀ {ds : List D}, belows 0 ds = true → flatArgs ds = true
  | [], _ => rfl
  | d :: ds, h => by
    simp only [belows, Bool.and_eq_true] at h
    cases d with
    | ref k => simp [below] at h
    | _ => simp [flatArgs, flatArgs_of h.2, h.1]
theorem backD_flat {n : Nat} {d : D} (h : below 0 d = true) : backD [] n d = some d := by
  cases d with
  | ref k => simp [below] at h
  | _ => simp [backD, h]
theorem c_flat {F : List D → List MO → R D} {ds : List D} {d : D} (h : F ds [] = .ok d []) (M : List MO) (ha : belows 0 ds = true) (hd : below 0 d = true) : callF F ds M = .ok d M := by
  simp [callF, lendK_nil ha, getAll, flatArgs_of ha, lentOk, lendA_nil ha, h, backD_flat hd, setAll]
theorem c_flatO {F : List D → List MO → R D} {ds es : List D} (h : F ds [] = .ok (.ref 0) [.lst es]) (M : List MO) (ha : belows 0 ds = true) (hd : belows 0 es = true) : callF F ds M = .ok (.ref M.length) (M ++ [.lst es]) := by
  simp [callF, lendK_nil ha, getAll, flatArgs_of ha, lentOk, lendA_nil ha, h, backD, setAll, belowO, hd]
/-! ### numbers in a row -/
def intR (lo : Int) : Nat → List Int
  | 0 => []
  | n + 1 => lo :: intR (lo + 1) n
theorem rngL_int : ∀ (n : Nat) (lo : Int), rngL lo n = (intR lo n).map D.int
  | 0, _ => rfl
  | n + 1, lo => by simp [rngL, intR, rngL_int n]
@[simp] theorem intR_length : ∀ (n : Nat) (lo : Int), (intR lo n).length = n
  | 0, _ => rfl
  | n + 1, lo => by simp [intR, intR_length n]
theorem mem_intR : ∀ {n : Nat} {lo i : Int}, i ∈ intR lo n ↔ lo ≤ i ∧ i < lo + n
  | 0, lo, i => by simp [intR]; try omega
  | n + 1, lo, i => by
    simp only [intR, List.mem_cons, mem_intR]
    omega
/-! ### lists made by comprehensions -/
theorem lcL_map {gg : GG} {ge : GE} {Γ : Env} {M : List MO} {f : D → D} : ∀ (ds acc : List D), acc.length + ds.length ≤ sizeLine → (∀ d ∈ ds, ∃ Γ1, gg d Γ = some Γ1 ∧ ge Γ1 M = .ok (f d) M) → gLcL gg gYes ge Γ ds acc M = .ok (acc ++ ds.map f) M
  | [], acc, _, _ => by simp [gLcL]
  | d :: ds, acc, h, hf => by
    obtain ⟨Γ1, h1, h2⟩ := hf d (by simp)
    simp only [List.length_cons] at h
    have ih := lcL_map (gg := gg) (ge := ge) (Γ := Γ) (M := M) (f := f) ds (acc ++ [f d]) (by simp; omega) fun e he => hf e (by simp [he])
    have q : acc.length < sizeLine := by omega
    simp [gLcL, h1, h2, q, ih]
/-! ### walks -/
theorem forL_cons {gg : GG} {b : GS} {d : D} {ds : List D} {Γ Γ1 Γ2 : Env} {M M2 : List MO} (h1 : gg d Γ = some Γ1) (h2 : b Γ1 M = .nx Γ2 M2) : gForL gg b (d :: ds) Γ M = gForL gg b ds Γ2 M2 := by simp [h1, h2]
theorem inR_of {i : Int} (h1 : -(2 ^ 62) ≤ i) (h2 : i < 2 ^ 62) : inR i = true := by simp [inR]; omega
@[simp] theorem append_run (M : List MO) (ds : List D) (y : D) : mAppend M ds y = if ds.length < sizeLine then some (ds ++ [y], .non) else none := rfl
theorem cutD_upto {ds : List D} {n : Nat} : cutD ds none (some (n : Int)) = ds.take n := by
  unfold cutD
  rw [HT.sIx_none, HT.sIx_nat]
  simp
end Bk
namespace Bk
end Bk

set_option Elab.async false
set_option linter.all false
set_option maxRecDepth 100000
set_option maxHeartbeats 2000000
namespace Bk
open PySem PySem.Spec PyProof.Rows L2
/-! ### zip of two lists or tuples of any kind -/
def Izz (K : PySem.W.Frag) (S1 S2 : Src) : It :=
  ⟨fun n H => ∃ (xs ys : List V) (x y : V), S1.here K H xs ∧ S2.here K H ys ∧ xs[n]? = some x ∧ ys[n]? = some y, fun n H v H' => ∃ T x y, v = .ref T ∧ H T = none ∧ H' = upd H T (.tup [x, y]) ∧ (∀ xs, S1.here K H xs → xs[n]? = some x) ∧ ∀ ys, S2.here K H ys → ys[n]? = some y, fun n H => ∃ xs ys : List V, S1.here K H xs ∧ S2.here K H ys ∧ min xs.length ys.length = n⟩
theorem turn_zz {P : Program} {w : World} {K : PySem.W.Frag} {elts : List Expr} {kk : Nat} {tpos : Pos} (S1 S2 : Src) (N : Nat) (lt1 : S1.addr < N) (lt2 : S2.addr < N) :
    Turn P w K (.Tuple elts kk tpos) (Izz K S1 S2) [N + 4, N + 2, N + 3, N, N + 1] (N + 4) (fun n h => IsZip h (N + 4) (N + 2) (N + 3) .none ∧ IsTupOf2 h (N + 2) (.ref N) (.ref (N + 1)) ∧ (∃ a1 a2, IsTupOf2 h (N + 3) a1 a2) ∧ S1.it h N n ∧ S2.it h (N + 1) n) where
  mem := List.mem_cons_self
  obj := fun n h st b hb => by
    obtain ⟨hz, hTI, ⟨x, y, hTO⟩, h1, h2⟩ := st
    have e' : b = N + 4 ∨ b = N + 2 ∨ b = N + 3 ∨ b = N ∨ b = N + 1 := by simpa using hb
    rcases e' with q | q | q | q | q
    · rw [q]; exact ⟨_, hz, fun v q => nomatch q⟩
    · rw [q]; exact ⟨_, hTI, fun v q => nomatch q⟩
    · rw [q]; exact ⟨_, hTO, fun v q => nomatch q⟩
    · rw [q]; exact Src.it_obj h1
    · rw [q]; exact Src.it_obj h2
  keep := fun n h h' st k => by
    obtain ⟨hz, hTI, ⟨x, y, hTO⟩, h1, h2⟩ := st
    exact ⟨k _ (by simp) _ hz, k _ (by simp) _ hTI, ⟨x, y, k _ (by simp) _ hTO⟩, Src.it_at h1 fun o q => k _ (by simp) o q, Src.it_at h2 fun o q => k _ (by simp) o q⟩
  item := by
    intro X hP hw hK hc n pins s σ H E I hf st hg
    subst hP hw hK
    obtain ⟨xs, ys, x, y, hqx, hqy, hx, hy⟩ := hg
    obtain ⟨hz, hTI, hTO, h1, h2⟩ := st
    obtain ⟨its1, rv1, har1⟩ := Src.inv I hqx
    obtain ⟨its2, rv2, har2⟩ := Src.inv I hqy
    obtain ⟨u1, hu1, ru1⟩ := rv1.get hx
    obtain ⟨u2, hu2, ru2⟩ := rv2.get hy
    have hh : X.A.in1.handled = none := I.ok.hd hc
    have Wk := WalksT.zipD2 (prog := X.prog) (w := X.w) (A := X.A) (zip_sep2 (N := N) (fp1 := [S1.addr]) (fp2 := [S2.addr]) (fun b hb => by rw [List.mem_singleton.mp hb]; exact lt1) (fun b hb => by rw [List.mem_singleton.mp hb]; exact lt2))
      (Src.draws hh S1 N (Nat.ne_of_lt lt1) its1.toArray) (Src.draws hh S2 (N + 1) (by have q : S2.addr ≠ N + 1 := Nat.ne_of_lt (Nat.lt_succ_of_lt lt2); exact q) its2.toArray)
    have ln1 : n < its1.toArray.size := by
      have := (List.getElem?_eq_some_iff.mp hu1).1
      simpa using this
    have ln2 : n < its2.toArray.size := by
      have := (List.getElem?_eq_some_iff.mp hu2).1
      simpa using this
    refine Wk.item n s _ E (by omega) ⟨hz, hTI, hTO, ⟨h1, har1⟩, ⟨h2, har2⟩⟩ fun T vals h' tk hP hT hTup hMid hk => ⟨_, rfl, Wk.go elts kk tpos n T _ _ _ hMid fun h2' hSt hk2 => ?_⟩
    obtain ⟨x1, x2, p1, p2, hvals⟩ := hP
    subst hvals
    have ex1 : x1 = u1 := by
      have q : its1.toArray[n]? = some u1 := by simpa using hu1
      rw [p1] at q
      exact Option.some.inj q
    have ex2 : x2 = u2 := by
      have q : its2.toArray[n]? = some u2 := by simpa using hu2
      rw [p2] at q
      exact Option.some.inj q
    subst ex1 ex2
    have out := Wk.apart n T _ hMid
    have tup2 : h2'.IsTuple T #[x1, x2] := hTup.at fun o q => hk2 T o out q
    have new : ObjOk X.prog X.w (upd H T (.tup [x, y])) h2' T (.tup [x, y]) :=
      ⟨by show 2 ≤ sizeLine; decide, [x1, x2], .cons ru1 (.cons ru2 .nil), tup2⟩
    have sub : ∀ c, c ∉ [N + 4, N + 2, N + 3, N, N + 1] → c ∉ [N + 4, N + 3, N, N + 1] := fun c hc q => hc (by
      have e' : c = N + 4 ∨ c = N + 3 ∨ c = N ∨ c = N + 1 := by simpa using q
      rcases e' with z | z | z | z <;> simp [z])
    have J := I.turnedNew (t' := tk) (ch := [N + 4, N + 2, N + 3, N, N + 1]) (fun b ob hb q => hk2 b ob (sub b hb) (hk b ob (sub b hb) q)) hf hT new
    refine ⟨.ref T, _, J, rfl, ⟨T, x, y, rfl, I.hok.fresh hT, rfl, fun ys' hy' => by rw [Src.inj I hy' hqx]; exact hx, fun ys' hy' => by rw [Src.inj I hy' hqy]; exact hy⟩, ?_, fun b hb => ?_⟩
    · obtain ⟨g1, g2, g3, ⟨g4, _⟩, ⟨g5, _⟩⟩ := hSt
      exact ⟨g1, g2, g3, g4, g5⟩
    · have hb' : b < s.heap.objs.size := by
        have e' : b = N + 4 ∨ b = N + 2 ∨ b = N + 3 ∨ b = N ∨ b = N + 1 := by simpa using hb
        rcases e' with q | q | q | q | q
        · rw [q]; exact Heap.lt_size hz
        · rw [q]; exact Heap.lt_size hTI
        · rw [q]; obtain ⟨_, _, q'⟩ := hTO; exact Heap.lt_size q'
        · rw [q]; obtain ⟨_, q', _⟩ := Src.it_obj h1; exact Heap.lt_size q'
        · rw [q]; obtain ⟨_, q', _⟩ := Src.it_obj h2; exact Heap.lt_size q'
      rw [upd_ne (Nat.ne_of_lt (Nat.lt_of_lt_of_le hb' hT))]
      exact (hf b hb).1
  done := by
    intro X hP hw hK hc n pins s σ H E I hf st hg
    subst hP hw hK
    obtain ⟨xs, ys, hqx, hqy, hl⟩ := hg
    obtain ⟨hz, hTI, hTO, h1, h2⟩ := st
    obtain ⟨its1, rv1, har1⟩ := Src.inv I hqx
    obtain ⟨its2, rv2, har2⟩ := Src.inv I hqy
    have hh : X.A.in1.handled = none := I.ok.hd hc
    have Wk := WalksT.zipD2 (prog := X.prog) (w := X.w) (A := X.A) (zip_sep2 (N := N) (fp1 := [S1.addr]) (fp2 := [S2.addr]) (fun b hb => by rw [List.mem_singleton.mp hb]; exact lt1) (fun b hb => by rw [List.mem_singleton.mp hb]; exact lt2))
      (Src.draws hh S1 N (Nat.ne_of_lt lt1) its1.toArray) (Src.draws hh S2 (N + 1) (by have q : S2.addr ≠ N + 1 := Nat.ne_of_lt (Nat.lt_succ_of_lt lt2); exact q) its2.toArray)
    have en : min its1.toArray.size its2.toArray.size = n := by rw [List.size_toArray, List.size_toArray, ← rv1.length, ← rv2.length]; exact hl
    rw [en] at Wk
    have sub : ∀ c, c ∉ [N + 4, N + 2, N + 3, N, N + 1] → c ∉ [N + 4, N + 3, N, N + 1] := fun c hc q => hc (by
      have e' : c = N + 4 ∨ c = N + 3 ∨ c = N ∨ c = N + 1 := by simpa using q
      rcases e' with z | z | z | z <;> simp [z])
    exact Wk.done s _ E ⟨hz, hTI, hTO, ⟨h1, har1⟩, ⟨h2, har2⟩⟩ fun h' tk hk => ⟨rfl, I.turnedL (t' := tk) (ch := [N + 4, N + 2, N + 3, N, N + 1]) (fun b ob hb q => hk b ob (sub b hb) q) hf⟩
  self := fun A n s Q E st h => wpAny_pyIter_zip st.1 h
theorem itr_zz {K : PySem.W.Frag} {Z : Hp} {ι : Nat → Addr} {n : Nat} {S1 S2 : Src} {xs ys : List V} {ds es : List D} (s1 : S1.here K Z xs) (s2 : S2.here K Z ys) (r1 : Rps K Z ι n ds xs) (r2 : Rps K Z ι n es ys) : ItR K (Izz K S1 S2) (zipL ds es) Z ι n := by
  intro i H' Z' ι' M' hz hi hn hr _
  have sH : S1.here K H' xs := here_sub (fun a o h => hr.sub _ _ (hz _ _ h)) s1
  have sK : S2.here K H' ys := here_sub (fun a o h => hr.sub _ _ (hz _ _ h)) s2
  refine ⟨fun hl => ⟨xs, ys, sH, sK, by rw [← r1.length, ← r2.length, ← zipL_len]; exact hl⟩, fun d hd => ?_⟩
  obtain ⟨d0, e0, h1, h2, rfl⟩ := zipL_get ds es i d hd
  obtain ⟨v, hv, rv⟩ := r1.get h1
  obtain ⟨u, hu, ru⟩ := r2.get h2
  refine ⟨⟨xs, ys, v, u, sH, sK, hv, hu⟩, fun x H2 hy => ?_⟩
  obtain ⟨T, x', y', rfl, hT, rfl, hx, hy⟩ := hy
  have ex : xs[i]? = some x' := hx _ sH
  rw [hv] at ex
  cases ex
  have ey : ys[i]? = some y' := hy _ sK
  rw [hu] at ey
  cases ey
  obtain ⟨q1, q2⟩ := hr.frozen (o := .tup [v, u]) hT
  refine ⟨_, q2, q1, .tup (.inl (.inl upd_same)) (.cons ?_ (.cons ?_ .nil))⟩
  · exact Rp.ext (Rp.mono hz hi hn _ _ rv) q2
  · exact Rp.ext (Rp.mono hz hi hn _ _ ru) q2
section
variable {X : Cx} {C : CT} {W : WX} {e e2 : Expr} {ga gb : GE} {p pos tpos : Pos} {elts : List Expr} {kk : Nat}
theorem qi_zip (hg : Gl X "zip") (hm : X.mg "zip" = none) (ha : QE X C W e ga) (hb : QE X C W e2 gb) (hs : starEach [e, e2] X.env = (false, eval e X.env) :: starEach [e2] X.env := by rfl) (hs2 : starEach [e2] X.env = (false, eval e2 X.env) :: starEach [] X.env := by rfl)
    (hpl : (backTo pos (starEach [e2] X.env)).any (·.1) = false := by rfl) : QI X C W (.Tuple elts kk tpos) (.Call (.Name "zip" p) [e, e2] [] pos) (gZip ga gb) := by
  obtain ⟨ta, pa, qa⟩ := ha
  obtain ⟨tb, pb, qb⟩ := hb
  refine ⟨fun σ H R => ta σ H fun v H1 => tb σ H1 fun u H2 => ∃ (S1 S2 : Src) (xs ys : List V), v = .ref S1.addr ∧ u = .ref S2.addr ∧ S1.here X.K H2 xs ∧ S2.here X.K H2 ys ∧ R (Izz X.K S1 S2) H2, ⟨fun pins s σ H R I h => ?_⟩,
    fun σ H Z ι Γ M Q sl hr h => qa σ H Z ι Γ M _ sl hr (Post.bind h fun x M1 v H1 Z1 ι1 e1 hr1 r1 h1 => qb σ H1 Z1 ι1 Γ M1 _ (sl.ext e1) hr1 (h1.bind fun y M2 u H2 Z2 ι2 e2 hr2 r2 h2 => ?_))⟩
  · refine Call_ (ld_blt I hg hm boot_zip (PyProof.Rows.callWith_type1 (thn ((pa_cons pa (pa_cons pb pa_nil hs2) hs).run pos pins s σ H (fun vs H1 => ∃ v u, vs = [v, u] ∧ ∃ (S1 S2 : Src) (xs ys : List V), v = .ref S1.addr ∧ u = .ref S2.addr ∧ S1.here X.K H1 xs ∧ S2.here X.K H1 ys ∧ R (Izz X.K S1 S2) H1) I ?_) fun us s1 hh => ?_) hs hpl))
    · have hmono : (fun x H1 => tb σ H1 fun y H2 => tNil σ H2 fun ys H3 => ∃ v u, x :: y :: ys = [v, u] ∧ ∃ (S1 S2 : Src) (xs zs : List V), v = .ref S1.addr ∧ u = .ref S2.addr ∧ S1.here X.K H3 xs ∧ S2.here X.K H3 zs ∧ R (Izz X.K S1 S2) H3) =
          fun (v : V) (H1 : Hp) => tb σ H1 fun u H2 => ∃ (S1 S2 : Src) (xs ys : List V), v = .ref S1.addr ∧ u = .ref S2.addr ∧ S1.here X.K H2 xs ∧ S2.here X.K H2 ys ∧ R (Izz X.K S1 S2) H2 := by
        funext x H1
        congr 1
        funext y H2
        apply propext
        constructor
        · rintro ⟨v, u, ev, q⟩
          cases ev
          exact q
        · intro q
          exact ⟨x, y, rfl, q⟩
      show ta σ H fun x H1 => tb σ H1 fun y H2 => tNil σ H2 fun ys H3 => ∃ v u, x :: y :: ys = [v, u] ∧ ∃ (S1 S2 : Src) (xs zs : List V), v = .ref S1.addr ∧ u = .ref S2.addr ∧ S1.here X.K H3 xs ∧ S2.here X.K H3 zs ∧ R (Izz X.K S1 S2) H3
      rw [hmono]
      exact h
    · obtain ⟨vs, H1, J, r1, v, u, rfl, S1, S2, xs, ys, rfl, rfl, hq1, hq2, q⟩ := hh
      obtain ⟨u1, u2, rfl, ru, ru2⟩ := Vals.two r1
      cases ru
      cases ru2
      obtain ⟨its1, rv1, har1⟩ := Src.inv J hq1
      obtain ⟨its2, rv2, har2⟩ := Src.inv J hq2
      refine zip_begins2 (S1.begins its1.toArray) (S2.begins its2.toArray) har1 har2 fun h' hz hTI hTO hi1 hi2 hsz hk => wpAny_pyIter_zip hz ?_
      have J2 : Inv X pins σ H1 { s1 with heap := h' } := J.kept (t' := s1.toks) hk
      refine ⟨s1.heap.objs.size + 4, [s1.heap.objs.size + 4, s1.heap.objs.size + 2, s1.heap.objs.size + 3, s1.heap.objs.size, s1.heap.objs.size + 1], _, _, H1, rfl, J2, turn_zz S1 S2 s1.heap.objs.size (Src.arr_lt har1) (Src.arr_lt har2), ⟨hz, hTI, ⟨_, _, hTO⟩, Src.start hi1, Src.start hi2⟩, fun b hb => ?_, q⟩
      have e' : b = s1.heap.objs.size + 4 ∨ b = s1.heap.objs.size + 2 ∨ b = s1.heap.objs.size + 3 ∨ b = s1.heap.objs.size ∨ b = s1.heap.objs.size + 1 := by simpa using hb
      have le : s1.heap.objs.size ≤ b := by
        rcases e' with z | z | z | z | z
        · rw [z]; exact Nat.le_add_right _ _
        · rw [z]; exact Nat.le_add_right _ _
        · rw [z]; exact Nat.le_add_right _ _
        · rw [z]; exact Nat.le_refl _
        · rw [z]; exact Nat.le_add_right _ _
      exact J.fpOk le (J.hok.fresh le)
  · obtain ⟨items, hd, h3⟩ := Post.of_opR (γ := D) (δ := V) h2
    unfold zipO at hd
    cases es : seqD x with
    | none => rw [es] at hd; cases hd
    | some ds =>
      cases et : seqD y with
      | none => rw [es, et] at hd; cases hd
      | some dt =>
        rw [es, et] at hd
        cases hd
        obtain ⟨S1, xs, rfl, hS1, q1⟩ := src_of hr2.sub (r1.ext e2) es
        obtain ⟨S2, ys, rfl, hS2, q2⟩ := src_of hr2.sub r2 et
        exact ⟨S1, S2, xs, ys, rfl, rfl, here_sub hr2.sub hS1, here_sub hr2.sub hS2, h3 _ H2 Z2 ι2 .refl hr2 (itr_zz hS1 hS2 q1 q2)⟩
end
end Bk

set_option Elab.async false
set_option linter.all false
set_option maxRecDepth 100000
set_option maxHeartbeats 2000000
namespace Bk
open PySem PySem.Spec PyProof.Rows L2
open PySem.W (kdx_alive)
/-! ### list(zip(a, b)): the zip's tuples stay, so each turn makes a new one -/
section
variable {prog : Program} {w : World} {A : Around} {E : Value → Shared → Prop} {s : Shared} {z TI TO i1 i2 T : Addr} {fp1 fp2 : List Addr} {n1 n2 i : Nat} {P1 P2 : Nat → Value → Prop} {St1 St2 : Nat → Heap → Prop} {f : Bool} {oT : Obj}
end
end Bk

set_option Elab.async false
set_option linter.all false
set_option maxRecDepth 100000
set_option maxHeartbeats 4000000
namespace Bk
open PySem PySem.Spec PyProof.Rows L2
/-- tuples laid one after the other -/
inductive Laid : Hp → List (V × V) → List Addr → Hp → Prop
  | nil (H : Hp) : Laid H [] [] H
  | snoc {H H1 : Hp} {ps : List (V × V)} {Ts : List Addr} {T : Addr} {x y : V} : Laid H ps Ts H1 → H1 T = none → Laid H (ps ++ [(x, y)]) (Ts ++ [T]) (upd H1 T (.tup [x, y]))
section
variable {X : Cx} {pins : List (Addr × Obj)} {σ : L2.St} {S1 S2 : Src} {N Sx : Nat} {its1 its2 : List Value} {xs ys : List V} {A : Around} {H0 : Hp} {R : Result → Shared → Prop}
end
end Bk

set_option Elab.async false
set_option linter.all false
set_option maxRecDepth 100000
set_option maxHeartbeats 4000000
namespace Bk
open PySem PySem.Spec PyProof.Rows L2
theorem Laid.length {H H' : Hp} {ps : List (V × V)} {Ts : List Addr} (L : Laid H ps Ts H') : Ts.length = ps.length := by
  induction L with
  | nil => rfl
  | snoc _ _ ih => simp [ih]
section
variable {X : Cx} {pins : List (Addr × Obj)} {σ : L2.St} {S1 S2 : Src} {N : Nat} {its1 its2 : List Value} {xs ys : List V} {H : Hp}
end
theorem Laid.read {K : PySem.W.Frag} {H H' : Hp} {ps : List (V × V)} {Ts : List Addr} (L : Laid H ps Ts H') : ∀ {dps : List (D × D)} {Z : Hp} {ι : Nat → Addr} {M : List MO}, HR K H Z ι M → dps.length = ps.length → (∀ (i : Nat) (dp : D × D) (vp : V × V), dps[i]? = some dp → ps[i]? = some vp → Rp K Z ι M.length dp.1 vp.1 ∧ Rp K Z ι M.length dp.2 vp.2) →
    ∃ Z', HR K H' Z' ι M ∧ Ext H Z ι M.length H' Z' ι M.length ∧ Rps K Z' ι M.length (dps.map fun dp => .tup [dp.1, dp.2]) (Ts.map V.ref) := by
  induction L with
  | nil =>
    intro dps Z ι M hr hl h
    have : dps = [] := List.length_eq_zero_iff.mp hl
    subst this
    exact ⟨Z, hr, .refl, .nil⟩
  | @snoc H1 ps Ts T x y L hT ih =>
    intro dps Z ι M hr hl h
    rcases List.eq_nil_or_concat dps with e | ⟨ds, d, e⟩
    · subst e
      simp at hl
    · rw [List.concat_eq_append] at e
      subst e
      have hl' : ds.length = ps.length := by simpa using hl
      obtain ⟨Z1, hr1, e1, r1⟩ := ih hr hl' fun i dp vp a b => h i dp vp (by rw [List.getElem?_append_left (List.getElem?_eq_some_iff.mp a).1]; exact a) (by rw [List.getElem?_append_left (List.getElem?_eq_some_iff.mp b).1]; exact b)
      obtain ⟨q1, q2⟩ := h ds.length d (x, y) (by simp) (by rw [hl']; simp)
      obtain ⟨p1, p2⟩ := hr1.frozen (o := .tup [x, y]) hT
      refine ⟨_, p1, e1.trans p2 hr1.ali, ?_⟩
      rw [List.map_append, List.map_append]
      exact (r1.ext p2).append (.cons (.tup (.inl (.inl upd_same)) (.cons ((q1.ext e1).ext p2) (.cons ((q2.ext e1).ext p2) .nil))) .nil)
def gLzip (own : Bool) (ga gb : GE) : GE := fun Γ M => (ga Γ M).bind fun x M1 => (gb Γ M1).bind fun y M2 => (opR (zipO x y) M2).bind fun ds M3 => if ds.length ≤ sizeLine then (if own = true then .ok (.ref M3.length) (M3 ++ [.lst ds]) else .ok (.lst ds) M3) else .bad
section
variable {X : Cx} {C : CT} {W : WX} {e e2 : Expr} {ga gb : GE} {p p2 pos pos2 : Pos}
end
end Bk

set_option Elab.async false
set_option linter.all false
set_option maxRecDepth 100000
set_option maxHeartbeats 2000000
namespace Bk
open PySem PySem.Spec PyProof.Rows L2
/-! ### a, b = x, y -/
def gPar2 (i j : Nat) (gs : GA) : GS := fun Γ M => (gs Γ M).thenS Γ fun ds M1 => match ds with
  | [d, e] => .nx ((Γ.set i (some d)).set j (some e)) M1
  | _ => .bad
def gPar3 (i j l : Nat) (gs : GA) : GS := fun Γ M => (gs Γ M).thenS Γ fun ds M1 => match ds with
  | [d, e, f] => .nx (((Γ.set i (some d)).set j (some e)).set l (some f)) M1
  | _ => .bad
section
variable {X : Cx} {C : CT} {W : WX} {gs : GA}
theorem qs_par2 (i j : Nat) {x y : Str} {a b : Expr} {px py pt pos : Pos} {kt k2 : Nat} {pt2 : Pos} (hc : X.calm = true) (hN : X.N.Nodup) (ha : QA X C W [a, b] gs) (hij : i ≠ j := by decide) (hi : X.N[i]? = some x := by rfl) (hj : X.N[j]? = some y := by rfl)
    (hx : X.env.scope.names.lookup x = some .local := by rfl) (hy : X.env.scope.names.lookup y = some .local := by rfl)
    (hw : swappedStores [.Tuple [.Name x px, .Name y py] kt pt] (.Tuple [a, b] k2 pt2) X.env = pure (some [x, y]) := by rfl)
    (hs : swapsWithSole [.Tuple [.Name x px, .Name y py] kt pt] (.Tuple [a, b] k2 pt2) pos.line X.env = pure false := by rfl) :
    QS X C W (.Assign [.Tuple [.Name x px, .Name y py] kt pt] (.Tuple [a, b] k2 pt2) pos) (gPar2 i j gs) := by
  obtain ⟨ta, pa, qa⟩ := ha
  refine ⟨_, ps_par hc hN hi hj hij hx hy pa hw hs, fun Dd σ H Z ι Γ M sl hr h => qa σ H Z ι Γ M _ sl hr (PostS.bind h sl fun ds M1 vs H1 Z1 ι1 e1 hr1 r1 h1 => ?_)⟩
  match ds, h1, r1 with
  | [d, e], h1, r1 =>
    obtain ⟨v, u, rfl, q1, q2⟩ := rps2 r1
    exact ⟨v, u, rfl, h1 _ H1 Z1 ι1 .refl hr1 (((sl.ext e1).set i q1).set j q2)⟩
end
@[simp] theorem u_gPar2 (i j : Nat) (gs : GA) (Γ : Env) (M : List MO) : gPar2 i j gs Γ M = (gs Γ M).thenS Γ fun ds M1 => (match ds with
  | [d, e] => .nx ((Γ.set i (some d)).set j (some e)) M1
  | _ => .bad) := Eq.trans rfl rfl
@[simp] theorem u_gPar3 (i j l : Nat) (gs : GA) (Γ : Env) (M : List MO) : gPar3 i j l gs Γ M = (gs Γ M).thenS Γ fun ds M1 => (match ds with
  | [d, e, f] => .nx (((Γ.set i (some d)).set j (some e)).set l (some f)) M1
  | _ => .bad) := Eq.trans rfl rfl
@[simp] theorem u_gLzip (own : Bool) (ga gb : GE) (Γ : Env) (M : List MO) : gLzip own ga gb Γ M = (ga Γ M).bind fun x M1 => (gb Γ M1).bind fun y M2 => (opR (zipO x y) M2).bind fun ds M3 => if ds.length ≤ sizeLine then (if own = true then .ok (.ref M3.length) (M3 ++ [.lst ds]) else .ok (.lst ds) M3) else .bad := Eq.trans rfl rfl
end Bk

set_option Elab.async false
set_option linter.all false
set_option maxRecDepth 100000
set_option maxHeartbeats 4000000
namespace Bk
open PySem PySem.Spec PyProof.Rows L2
/-! ### tuple * int, any count up to a thousand -/
theorem tuple_mul1 (l : Addr) (items : Array Value) (n : Nat) (dd : Option Addr) (sl : Array (Option Value)) (u : Tok) :
    Meets (Builtin.«tuple.__mul__» ⟨[.ref l, .int 1 u], []⟩) (fun _ R s => s.heap.get? l = some { cls := .type "tuple", dict := dd, data := .seq items n, slots := sl } ∧ R (.ok (.ret (Value.ref l))) s) :=
  .of_wp fun prog w A R s h => by
    obtain ⟨hp, g, d, tk, os⟩ := s
    obtain ⟨hl, h⟩ := h
    have f1 := AutoSeq1.idx_int
    have c0 : (decide ((1 : Int) < -(2 ^ 63)) || decide ((1 : Int) ≥ 2 ^ 63)) = false := by decide
    have c1 : (items.isEmpty || (1 : Int) == 1) = true := by simp
    wp_walk using wpAny_loadPart' hl
    repeat (first
      | (refine wpAny_ite_false (decide_eq_false (by rw [c0]; exact Bool.false_ne_true)) ?_; wp_walk using wpAny_loadPart' hl)
      | (refine wpAny_ite_true (decide_eq_true c1) ?_; wp_walk using wpAny_loadPart' hl))
    exact ⟨_, rfl, h⟩
theorem tuple_mul0 (l : Addr) (items : Array Value) (n : Nat) (dd : Option Addr) (sl : Array (Option Value)) (x : Int) (u : Tok) (c0 : (decide (x < -(2 ^ 63)) || decide (x ≥ 2 ^ 63)) = false) (c1 : (items.isEmpty || x == 1) = false) (c2 : (decide (x ≤ 0) || items.isEmpty) = true) :
    Meets (Builtin.«tuple.__mul__» ⟨[.ref l, .int x u], []⟩) (fun _ R s => s.heap.get? l = some { cls := .type "tuple", dict := dd, data := .seq items n, slots := sl } ∧
      R (.ok (.ret (Value.ref s.heap.objs.size))) { s with heap := s.heap.push { cls := Value.type "tuple", data := Data.seq #[] }, toks := s.toks }) :=
  .of_wp fun prog w A R s h => by
    obtain ⟨hp, g, d, tk, os⟩ := s
    obtain ⟨hl, h⟩ := h
    have f1 := AutoSeq1.idx_int
    wp_walk using wpAny_loadPart' hl
    repeat (first
      | (refine wpAny_ite_false (decide_eq_false (by rw [c0]; exact Bool.false_ne_true)) ?_; wp_walk using wpAny_loadPart' hl)
      | (refine wpAny_ite_false (decide_eq_false (by rw [c1]; exact Bool.false_ne_true)) ?_; wp_walk using wpAny_loadPart' hl)
      | (refine wpAny_ite_true (decide_eq_true c2) ?_; wp_walk using wpAny_loadPart' hl))
    exact ⟨_, rfl, h⟩
def rRepTA (K : PySem.W.Frag) : R2 := fun x y H Q => ∃ l k xs, x = .ref l ∧ y = .int k ∧ SqT K H l xs ∧ xs ≠ [] ∧ -1000 ≤ k ∧ k ≤ 1000 ∧ xs.length ≤ 1000 ∧ (k = 1 → Q (.ref l) H) ∧ (k ≠ 1 → ∀ p, H p = none → Q (.ref p) (upd H p (.tup (List.replicate k.toNat xs).flatten)))
section
variable {X : Cx}
theorem op_repTA : OpR X (binaryOp .Mult) (rRepTA X.K) := by
  intro pins s σ H x y v u Q I rx ry h
  obtain ⟨l, k, xs, rfl, rfl, hT, hne, h0, h1, hz, q1, q⟩ := h
  by_cases h2 : 2 ≤ k
  · exact op_repT pins s σ H _ _ v u Q I rx ry ⟨l, k, xs, rfl, rfl, hT, hne, h2, h1, hz, q (by omega)⟩
  cases rx
  obtain ⟨t, rfl⟩ := ry
  obtain ⟨its, r, ⟨⟨cls, dd, data, sl⟩, ho, hc, n, hd⟩, hs⟩ := I.tuple hT
  simp only at hc hd
  subst hc hd
  have hle : its.length = xs.length := r.length.symm
  have hn : its ≠ [] := fun e => hne (List.eq_nil_of_length_eq_zero (by rw [← hle, e]; rfl))
  have hi : its.toArray.isEmpty = false := by
    cases its with
    | nil => exact absurd rfl hn
    | cons a b => rfl
  by_cases e1 : k = 1
  · subst e1
    exact wpAny_binaryOp_repeat_ref (T := "tuple") (U := "int") (by decide) ⟨_, ho, rfl⟩ (fun s' => typeIs_int s' 1 t) noFill_tuple_mul F.fills_int_mul F.slot_int_rmul repeat_tuple F.slot_int_index.lookup
      (call_meets F.slot_int_rmul (typeIs_int s 1 t) F.entry_int_rmul (F.args_int_rmul_2 _ _) (int_rmul_tuple 1 t l its.toArray n dd sl) ⟨ho, rfl, ⟨_, ho, rfl⟩, call_meets F.slot_tuple_mul ⟨_, ho, rfl⟩ F.entry_tuple_mul (F.args_tuple_mul_2 _ _) (tuple_mul1 l its.toArray n dd sl t) ⟨ho, ⟨.ref l, H, I, rfl, q1 rfl⟩⟩⟩)
  · have c0 : (decide (k < -(2 ^ 63)) || decide (k ≥ 2 ^ 63)) = false := by
      rw [decide_eq_false (by omega), decide_eq_false (by omega)] <;> rfl
    have c1 : (its.toArray.isEmpty || k == 1) = false := by
      rw [hi, Bool.false_or]; exact beq_eq_false_iff_ne.mpr e1
    have c2 : (decide (k ≤ 0) || its.toArray.isEmpty) = true := by
      rw [hi, Bool.or_false]; exact decide_eq_true (by omega)
    have z : (List.replicate k.toNat xs).flatten = [] := by
      have : k.toNat = 0 := by omega
      rw [this]; rfl
    rw [z] at q
    refine wpAny_binaryOp_repeat_ref (T := "tuple") (U := "int") (by decide) ⟨_, ho, rfl⟩ (fun s' => typeIs_int s' k t) noFill_tuple_mul F.fills_int_mul F.slot_int_rmul repeat_tuple F.slot_int_index.lookup
      (call_meets F.slot_int_rmul (typeIs_int s k t) F.entry_int_rmul (F.args_int_rmul_2 _ _) (int_rmul_tuple k t l its.toArray n dd sl) ⟨ho, rfl, ⟨_, ho, rfl⟩, call_meets F.slot_tuple_mul ⟨_, ho, rfl⟩ F.entry_tuple_mul (F.args_tuple_mul_2 _ _) (tuple_mul0 l its.toArray n dd sl k t c0 c1 c2) ⟨ho, ?_⟩⟩)
    exact ⟨.ref s.heap.objs.size, _, I.laid (t' := s.toks) (o := .tup []) (fun b ob q => Heap.get?_push_of_some _ q) (Nat.le_refl _) ⟨by decide, [], .nil, IsTup.new _ _⟩, rfl, q e1 _ (I.hok.fresh (Nat.le_refl _))⟩
def dMulT (M : List MO) (x : D) (y : D) : Option D := match x, y with
  | .tup ds, .int k => if (decide (ds ≠ []) && decide (-1000 ≤ k) && decide (k ≤ 1000) && decide (ds.length ≤ 1000)) = true then some (.tup (List.replicate k.toNat ds).flatten) else none
  | x, y => dMulA M x y
theorem op_mulT : OpR X (binaryOp .Mult) (fun x y H Q => rMulA X.K x y H Q ∨ rRepTA X.K x y H Q) := op_mulL.or op_repTA
theorem ok_mulT : Ok2 X (fun x y H Q => rMulA X.K x y H Q ∨ rRepTA X.K x y H Q) dMulT := fun x y H Z ι M dx dy d Q hr rx ry e q => by
  unfold dMulT at e
  split at e
  · rename_i ds k
    split at e
    · rename_i c
      cases e
      simp only [Bool.and_eq_true, decide_eq_true_eq] at c
      obtain ⟨⟨⟨c1, c2⟩, c3⟩, c4⟩ := c
      cases ry
      cases rx with
      | tup s r =>
        have r' := r.rep k.toNat
        refine .inr ⟨_, k, _, rfl, rfl, subT hr.sub s, fun z => c1 ?_, c2, c3, by rw [← r.length]; exact c4, fun e1 => ?_, fun _ => ?_⟩
        · have := r.length
          rw [z] at this
          exact List.eq_nil_of_length_eq_zero this
        · subst e1
          refine q.now hr (.tup s ?_)
          simpa using r
        · exact q.tup hr r'
    · cases e
  · exact .inl (ok_mulL x y H Z ι M dx dy d Q hr rx ry e q)
end
@[simp] theorem e_mulT (M : List MO) (d : D) (ds : List D) (k : Int) (h1 : -1000 ≤ k) (h2 : k ≤ 1000) (h3 : ds.length < 1000) : dMulT M (.tup (d :: ds)) (.int k) = some (.tup (List.replicate k.toNat (d :: ds)).flatten) := by
  have : (d :: ds).length ≤ 1000 := by rw [List.length_cons]; omega
  simp only [dMulT]
  rw [if_pos]
  simp [h1, h2]
  omega
@[simp] theorem e_mulTi (M : List MO) (i : Int) (y : D) : dMulT M (.int i) y = dMulA M (.int i) y := Eq.trans rfl rfl
@[simp] theorem e_mulTl (M : List MO) (ds : List D) (y : D) : dMulT M (.lst ds) y = dMulA M (.lst ds) y := Eq.trans rfl rfl
end Bk

set_option Elab.async false
set_option linter.all false
set_option maxRecDepth 100000
set_option maxHeartbeats 2000000
namespace Bk
open PySem PySem.Spec PyProof.Rows L2
theorem lcL_cons {gg : GG} {ge : GE} {d y : D} {ds acc : List D} {Γ Γ1 : Env} {M M2 : List MO} (h1 : gg d Γ = some Γ1) (h2 : ge Γ1 M = .ok y M2) (q : acc.length < sizeLine) : gLcL gg gYes ge Γ (d :: ds) acc M = gLcL gg gYes ge Γ ds (acc ++ [y]) M2 := by
  simp [gLcL, h1, h2, q]
theorem lcL_take {gg : GG} {gt : GT} {ge : GE} {d y : D} {ds acc : List D} {Γ Γ1 : Env} {M M1 M2 : List MO} (h1 : gg d Γ = some Γ1) (ht : gt Γ1 M = .ok true M1) (h2 : ge Γ1 M1 = .ok y M2) (q : acc.length < sizeLine) : gLcL gg gt ge Γ (d :: ds) acc M = gLcL gg gt ge Γ ds (acc ++ [y]) M2 := by
  simp [gLcL, h1, ht, h2, q]
theorem lcL_skip {gg : GG} {gt : GT} {ge : GE} {d : D} {ds acc : List D} {Γ Γ1 : Env} {M M1 : List MO} (h1 : gg d Γ = some Γ1) (ht : gt Γ1 M = .ok false M1) : gLcL gg gt ge Γ (d :: ds) acc M = gLcL gg gt ge Γ ds acc M1 := by
  simp [gLcL, h1, ht]
/-- a list made item by item -/
theorem lcL_run {α : Type} {gg : GG} {ge : GE} {Γ : Env} {M : List MO} (f : α → D) (g : α → D) : ∀ (xs : List α) (acc : List D), acc.length + xs.length ≤ sizeLine → (∀ x ∈ xs, ∃ Γ1, gg (f x) Γ = some Γ1 ∧ ge Γ1 M = .ok (g x) M) → gLcL gg gYes ge Γ (xs.map f) acc M = .ok (acc ++ xs.map g) M
  | [], acc, _, _ => by simp [gLcL]
  | x :: xs, acc, h, hf => by
    obtain ⟨Γ1, h1, h2⟩ := hf x (by simp)
    simp only [List.length_cons] at h
    have ih := lcL_run (gg := gg) (ge := ge) (Γ := Γ) (M := M) f g xs (acc ++ [g x]) (by simp; omega) fun e he => hf e (by simp [he])
    rw [List.map_cons, lcL_cons h1 h2 (by omega), ih]
    simp
/-- items let go by a test -/
theorem lcL_sel {α : Type} {gg : GG} {gt : GT} {ge : GE} {Γ : Env} {M : List MO} (f : α → D) (g : α → D) (c : α → Bool) : ∀ (xs : List α) (acc : List D), acc.length + xs.length ≤ sizeLine → (∀ x ∈ xs, ∃ Γ1, gg (f x) Γ = some Γ1 ∧ gt Γ1 M = .ok (c x) M ∧ (c x = true → ge Γ1 M = .ok (g x) M)) → gLcL gg gt ge Γ (xs.map f) acc M = .ok (acc ++ (xs.filter c).map g) M
  | [], acc, _, _ => by simp [gLcL]
  | x :: xs, acc, h, hf => by
    obtain ⟨Γ1, h1, h2, h3⟩ := hf x (by simp)
    simp only [List.length_cons] at h
    have hf' : ∀ y ∈ xs, ∃ Γ1, gg (f y) Γ = some Γ1 ∧ gt Γ1 M = .ok (c y) M ∧ (c y = true → ge Γ1 M = .ok (g y) M) := fun e he => hf e (by simp [he])
    cases e : c x with
    | true =>
      have ih := lcL_sel (gg := gg) (gt := gt) (ge := ge) (Γ := Γ) (M := M) f g c xs (acc ++ [g x]) (by simp; omega) hf'
      rw [List.map_cons, lcL_take h1 (by rw [h2, e]) (h3 e) (by omega), ih]
      simp [e]
    | false =>
      have ih := lcL_sel (gg := gg) (gt := gt) (ge := ge) (Γ := Γ) (M := M) f g c xs acc (by omega) hf'
      rw [List.map_cons, lcL_skip h1 (by rw [h2, e]), ih]
      simp [e]
end Bk

set_option Elab.async false
set_option linter.all false
set_option maxRecDepth 100000
set_option maxHeartbeats 2000000
namespace Bk
open PySem PySem.Spec PyProof.Rows L2
/-! ### objects of own classes: a cell of the store, its fields by name -/
def putD (f : Str) (d : D) : List (Str × D) → List (Str × D)
  | [] => [(f, d)]
  | (g, x) :: r => if g = f then (g, d) :: r else (g, x) :: putD f d r
section
variable {K : PySem.W.Frag} {H Z : Hp} {ι : Nat → Addr} {n : Nat}
end
section
variable {K : PySem.W.Frag} {H Z : Hp} {ι : Nat → Addr} {M : List MO}
/-- a cell's thing is changed -/
theorem HR.changeG (h : HR K H Z ι M) {j : Nat} {o' o : MO} {ho : HO} (hj : M[j]? = some o) (hd : o ≠ .dead) (hd' : o' ≠ .dead) (r : OR K (upd H (ι j) ho) Z ι M.length o' (ι j)) :
    HR K (upd H (ι j) ho) Z ι (M.set j o') ∧ Ext H Z ι M.length (upd H (ι j) ho) Z ι (M.set j o').length := by
  have lt : j < M.length := (List.getElem?_eq_some_iff.mp hj).1
  have ln : (M.set j o').length = M.length := List.length_set
  have zj : Z (ι j) = none := h.sep j _ hj hd
  have cs : ∀ {k : Nat} {u : MO}, (M.set j o')[k]? = some u → (k ≠ j ∧ M[k]? = some u) ∨ (k = j ∧ u = o') := fun {k u} e => by
    by_cases hk : k = j
    · subst hk
      rw [List.getElem?_set_self lt] at e
      exact .inr ⟨rfl, (Option.some.inj e).symm⟩
    · rw [List.getElem?_set_ne (Ne.symm hk)] at e
      exact .inl ⟨hk, e⟩
  have apart : ∀ {k : Nat} {u : MO}, k ≠ j → M[k]? = some u → u ≠ .dead → ι k ≠ ι j := fun {k u} hk e d z => hk (h.inj k j u _ e hj d hd z)
  refine ⟨⟨fun a u e => ?_, fun k hk => ?_, fun k u e d => ?_, fun a b o1 u e1 e2 d1 d2 e => ?_, fun k u e => ?_, fun k e => ?_⟩, fun _ _ e => e, fun _ _ => rfl, fun a u e z => ?_, fun k h1 h2 => absurd h2 (by rw [ln]; exact Nat.not_lt.mpr h1), by rw [ln]; exact Nat.le_refl _, fun _ _ e => .inl e⟩
  · rw [upd_ne (ne_of_none e zj)]
    exact h.sub _ _ e
  · rw [ln] at hk
    by_cases e : ι k = ι j
    · exact ⟨_, by rw [e, upd_same]⟩
    · rw [upd_ne e]
      exact h.ali k hk
  · rcases cs e with ⟨hk, e⟩ | ⟨rfl, rfl⟩
    · exact h.sep k u e d
    · exact zj
  · have live : ∀ {k : Nat} {u : MO}, (M.set j o')[k]? = some u → u ≠ .dead → ∃ u', M[k]? = some u' ∧ u' ≠ .dead := fun {k u} e d => by
      rcases cs e with ⟨_, e⟩ | ⟨rfl, rfl⟩
      · exact ⟨u, e, d⟩
      · exact ⟨_, hj, hd⟩
    obtain ⟨o1', e1', d1'⟩ := live e1 d1
    obtain ⟨u', e2', d2'⟩ := live e2 d2
    exact h.inj a b o1' u' e1' e2' d1' d2' e
  · rw [ln]
    rcases cs e with ⟨hk, e⟩ | ⟨rfl, rfl⟩
    · have q := h.obj k u e
      by_cases du : u = .dead
      · subst du
        trivial
      · exact OR.mono (fun _ _ z => z) (fun _ _ => rfl) (Nat.le_refl _) (fun o z => by rw [upd_ne (apart hk e du)]; exact z) q
    · exact r
  · rcases cs e with ⟨_, e⟩ | ⟨_, e⟩
    · exact h.ded k e
    · exact absurd e.symm hd'
  · rw [upd_ne (z j lt)]
    exact e
/-- a new thing of ours -/
theorem HR.ownedG (h : HR K H Z ι M) {p : Addr} {o' : MO} {ho : HO} (hp : H p = none) (hd' : o' ≠ .dead) (r : OR K (upd H p ho) Z (put ι M.length p) (M.length + 1) o' p) :
    HR K (upd H p ho) Z (put ι M.length p) (M ++ [o']) ∧ Ext H Z ι M.length (upd H p ho) Z (put ι M.length p) (M ++ [o']).length := by
  have zp : Z p = none := by
    cases e : Z p with
    | none => rfl
    | some u =>
      rw [h.sub _ _ e] at hp
      cases hp
  have ne : ∀ k, k < M.length → ι k ≠ p := fun k hk e => by
    obtain ⟨u, hu⟩ := h.ali k hk
    rw [e, hp] at hu
    cases hu
  have ii : ∀ k, k < M.length → (put ι M.length p) k = ι k := fun k hk => put_lt hk
  have il : (put ι M.length p) M.length = p := put_at
  have cs : ∀ {k : Nat} {u : MO}, (M ++ [o'])[k]? = some u → (k < M.length ∧ M[k]? = some u) ∨ (k = M.length ∧ u = o') := fun {k u} e => by
    by_cases hk : k < M.length
    · rw [List.getElem?_append_left hk] at e
      exact .inl ⟨hk, e⟩
    · rw [List.getElem?_append_right (Nat.le_of_not_lt hk)] at e
      by_cases hz : k - M.length = 0
      · rw [hz] at e
        exact .inr ⟨by omega, (Option.some.inj e).symm⟩
      · rw [List.getElem?_eq_none (by simp; omega)] at e
        cases e
  have ln : (M ++ [o']).length = M.length + 1 := by simp
  refine ⟨⟨fun a u e => ?_, fun k hk => ?_, fun k u e d => ?_, fun j k o u e1 e2 d1 d2 e => ?_, fun k u e => ?_, fun k e => ?_⟩, fun _ _ e => e, ii, fun a u e _ => ?_, fun k h1 h2 => ?_, by rw [ln]; omega, fun _ _ e => .inl e⟩
  · rw [upd_ne (ne_of_none e zp)]
    exact h.sub _ _ e
  · rw [ln] at hk
    by_cases hk' : k < M.length
    · rw [ii k hk', upd_ne (ne k hk')]
      exact h.ali k hk'
    · have : k = M.length := by omega
      subst this
      exact ⟨_, by rw [il, upd_same]⟩
  · rcases cs e with ⟨hk, e⟩ | ⟨rfl, rfl⟩
    · rw [ii k hk]
      exact h.sep k u e d
    · rw [il]
      exact zp
  · rcases cs e1 with ⟨hj, e1⟩ | ⟨rfl, rfl⟩ <;> rcases cs e2 with ⟨hk, e2⟩ | ⟨rfl, rfl⟩
    · rw [ii j hj, ii k hk] at e
      exact h.inj j k o u e1 e2 d1 d2 e
    · rw [ii j hj, il] at e
      exact absurd e (ne j hj)
    · rw [ii k hk, il] at e
      exact absurd e.symm (ne k hk)
    · rfl
  · rcases cs e with ⟨hk, e⟩ | ⟨rfl, rfl⟩
    · rw [ii k hk]
      exact OR.mono (fun _ _ z => z) ii (by rw [ln]; omega) (fun o z => by rw [upd_ne (ne k hk)]; exact z) (h.obj k u e)
    · rw [il, ln]
      exact r
  · rcases cs e with ⟨hk, e⟩ | ⟨_, e⟩
    · rw [ii k hk]
      exact h.ded k e
    · exact absurd e.symm hd'
  · rw [upd_ne (ne_of_none e hp)]
    exact e
  · rw [ln] at h2
    have : k = M.length := by omega
    subst this
    rw [il]
    exact hp
end
/-! ### what the rules of objects compute -/
def gFld (nm f : Str) (ge : GE) : GE := fun Γ M => (ge Γ M).bind fun x M1 => match x with
  | .ref k => match M1[k]? with
    | some (.obj nm' fs) => if nm' = nm then opR (fs.lookup f) M1 else .bad
    | _ => .bad
  | _ => .bad
def gSetF (nm f : Str) (ge go : GE) : GS := fun Γ M => (ge Γ M).thenS Γ fun d M1 => (go Γ M1).thenS Γ fun x M2 => match x with
  | .ref k => match M2[k]? with
    | some (.obj nm' fs) => if nm' = nm ∧ fs.length < 1000 then .nx Γ (M2.set k (.obj nm (putD f d fs))) else .bad
    | _ => .bad
  | _ => .bad
def isObj (nm m : Str) (M : List MO) : D → Bool
  | .ref k => match M[k]? with
    | some (.obj nm' fs) => decide (nm' = nm) && (fs.lookup m).isNone
    | _ => false
  | _ => false
def gMeth (nm m : Str) (n : Nat) (F : List D → List MO → R D) (go : GE) (ga : GA) : GE := fun Γ M => (go Γ M).bind fun x M1 => if isObj nm m M1 x = true then (ga Γ M1).bind fun ds M2 => if ds.length + 1 = n then callF F (x :: ds) M2 else .bad else .bad
def newR (m : Nat) : D → List MO → R D
  | .non, M => .ok (.ref m) M
  | _, _ => .bad
def gNew (nm : Str) (n : Nat) (F : List D → List MO → R D) (ga : GA) : GE := fun Γ M => (ga Γ M).bind fun ds M1 => if ds.length + 1 = n then (callF F (.ref M1.length :: ds) (M1 ++ [.obj nm []])).bind (newR M1.length) else .bad
/-- a list in a field will not be changed any more -/
def gFzF (i : Nat) (f : Str) : GS := fun Γ M => match Γ[i]? with
  | some (some (.ref k)) => match M[k]? with
    | some (.obj nm fs) => match fs.lookup f with
      | some (.ref j) => match M[j]? with
        | some (.lst ds) => .nx Γ ((M.set j .dead).set k (.obj nm (putD f (.lst ds) fs)))
        | _ => .bad
      | _ => .bad
    | _ => .bad
  | _ => .bad
section
variable {X : Cx} {C : CT} {W : WX} {e o : Expr} {nm f m x : Str} {ge go : GE} {gs : GA} {pos apos pos' p : Pos} {C0 : Addr} {es : List Expr}
variable {k n : Nat} {fa : Addr} {fd : FuncData} {ps : List Str} {F : List D → List MO → R D} {pl : Sem Bool}
end
/-! ### how they are worked out -/
@[simp] theorem u_gFld (nm f : Str) (ge : GE) (Γ : Env) (M : List MO) : gFld nm f ge Γ M = ((ge Γ M).bind fun x M1 => match x with
  | .ref k => match M1[k]? with
    | some (.obj nm' fs) => if nm' = nm then opR (fs.lookup f) M1 else .bad
    | _ => .bad
  | _ => .bad) := Eq.trans rfl rfl
@[simp] theorem u_gSetF (nm f : Str) (ge go : GE) (Γ : Env) (M : List MO) : gSetF nm f ge go Γ M = ((ge Γ M).thenS Γ fun d M1 => (go Γ M1).thenS Γ fun x M2 => match x with
  | .ref k => match M2[k]? with
    | some (.obj nm' fs) => if nm' = nm ∧ fs.length < 1000 then .nx Γ (M2.set k (.obj nm (putD f d fs))) else .bad
    | _ => .bad
  | _ => .bad) := Eq.trans rfl rfl
@[simp] theorem u_isObj (nm m : Str) (M : List MO) (k : Nat) : isObj nm m M (.ref k) = (match M[k]? with
    | some (.obj nm' fs) => decide (nm' = nm) && (fs.lookup m).isNone
    | _ => false) := Eq.trans rfl rfl
@[simp] theorem u_gMeth (nm m : Str) (n : Nat) (F : List D → List MO → R D) (go : GE) (ga : GA) (Γ : Env) (M : List MO) : gMeth nm m n F go ga Γ M = (go Γ M).bind fun x M1 => if isObj nm m M1 x = true then (ga Γ M1).bind fun ds M2 => if ds.length + 1 = n then callF F (x :: ds) M2 else .bad else .bad := Eq.trans rfl rfl
@[simp] theorem u_newR (m : Nat) (M : List MO) : newR m .non M = .ok (.ref m) M := Eq.trans rfl rfl
@[simp] theorem u_gNew (nm : Str) (n : Nat) (F : List D → List MO → R D) (ga : GA) (Γ : Env) (M : List MO) : gNew nm n F ga Γ M = (ga Γ M).bind fun ds M1 => if ds.length + 1 = n then (callF F (.ref M1.length :: ds) (M1 ++ [.obj nm []])).bind (newR M1.length) else .bad := Eq.trans rfl rfl
@[simp] theorem u_gFzF (i : Nat) (f : Str) (Γ : Env) (M : List MO) : gFzF i f Γ M = (match Γ[i]? with
  | some (some (.ref k)) => match M[k]? with
    | some (.obj nm fs) => match fs.lookup f with
      | some (.ref j) => match M[j]? with
        | some (.lst ds) => .nx Γ ((M.set j .dead).set k (.obj nm (putD f (.lst ds) fs)))
        | _ => .bad
      | _ => .bad
    | _ => .bad
  | _ => .bad) := Eq.trans rfl rfl
@[simp] theorem blo_obj (m : Nat) (nm : Str) (fs : List (Str × D)) : belowO m (.obj nm fs) = belows m (fs.map (·.2)) := Eq.trans rfl rfl
end Bk

set_option Elab.async false
set_option linter.all false
set_option maxRecDepth 100000
set_option maxHeartbeats 2000000
namespace Bk
open PySem PySem.Spec PyProof.Rows L2
/-! ### range down by ones -/
def rngDn (lo : Int) : Nat → List D
  | 0 => []
  | n + 1 => .int lo :: rngDn (lo - 1) n
theorem rngDn_get : ∀ (n : Nat) (lo : Int) (i : Nat) (d : D), (rngDn lo n)[i]? = some d → i < n ∧ d = .int (lo + (i : Nat) * (-1))
  | 0, _, _, _, h => by simp [rngDn] at h
  | n + 1, lo, 0, d, h => by
    simp [rngDn] at h
    exact ⟨Nat.succ_pos _, by rw [← h]; simp⟩
  | n + 1, lo, i + 1, d, h => by
    simp only [rngDn, List.getElem?_cons_succ] at h
    obtain ⟨h1, h2⟩ := rngDn_get n (lo - 1) i d h
    refine ⟨Nat.succ_lt_succ h1, ?_⟩
    rw [h2]
    congr 1
    push_cast
    omega
theorem rngDn_length : ∀ (n : Nat) (lo : Int), (rngDn lo n).length = n
  | 0, _ => rfl
  | n + 1, lo => by simp [rngDn, rngDn_length n]
def rng3 : List D → Option (List D)
  | [.int i, .int j, .int c] => if (inR i && inR j && decide (c = -1)) = true then some (rngDn i (i - j).toNat) else none
  | _ => none
def gRng3 (ga : GA) : GI := fun Γ M => (ga Γ M).bind fun ds M1 => opR (rng3 ds) M1
def gRev (ge : GE) : GI := fun Γ M => (ge Γ M).bind fun d M1 => opR ((seqD d).map List.reverse) M1
def mReverse : MF0 := fun ds => some (ds.reverse, .non)
def items1 (M : List MO) : List D → Option (List D)
  | [d] => itemsD M d
  | _ => none
def gListO (ga : GA) : GE := fun Γ M => (ga Γ M).bind fun xs M1 => match items1 M1 xs with
  | some ds => .ok (.ref M1.length) (M1 ++ [.lst ds])
  | none => .bad
section
variable {X : Cx} {C : CT} {W : WX} {tg e a b c : Expr} {g ga : GE} {gs : GA} {pos p : Pos}
theorem itr_c {K : PySem.W.Frag} {Z : Hp} {ι : Nat → Addr} {n : Nat} {lo : Int} {m : Nat} : ItR K (Itc lo (-1) m) (rngDn lo m) Z ι n := by
  intro i H' Z' ι' M' hz hi hn hr _
  refine ⟨fun hl => by rw [rngDn_length] at hl; exact Nat.le_of_eq hl, fun d hd => ?_⟩
  obtain ⟨h1, rfl⟩ := rngDn_get _ _ _ _ hd
  refine ⟨h1, fun x H2 hy => ?_⟩
  obtain ⟨rfl, rfl⟩ := hy
  exact ⟨Z', .refl, hr, .int _⟩
theorem qi_rng3 (hg : Gl X "range") (hm : X.mg "range" = none) (ha : QA X C W [a, b, c] gs)
    (hs : starEach [a, b, c] X.env = (false, eval a X.env) :: starEach [b, c] X.env := by rfl) (hpl : (backTo pos (starEach [b, c] X.env)).any (·.1) = false := by rfl) : QI X C W tg (.Call (.Name "range" p) [a, b, c] [] pos) (gRng3 gs) := by
  obtain ⟨ta, pa, qa⟩ := ha
  refine ⟨_, pi_range3 hg hm pa hs hpl, fun σ H Z ι Γ M Q sl hr h => qa σ H Z ι Γ M _ sl hr (h.bind fun x M1 v H1 Z1 ι1 e1 hr1 r1 h1 => ?_)⟩
  obtain ⟨ds, hd, h2⟩ := Post.of_opR (γ := D) (δ := V) h1
  unfold rng3 at hd
  split at hd
  · rename_i i j k
    cases r1 with
    | cons r rr =>
      cases r
      cases rr with
      | cons r2 rr =>
        cases r2
        cases rr with
        | cons r3 rr =>
          cases r3
          cases rr
          by_cases hj : (inR i && inR j && decide (k = -1)) = true
          · rw [if_pos hj] at hd
            cases hd
            simp only [inR, Bool.and_eq_true, decide_eq_true_eq] at hj
            obtain ⟨⟨h1', h2'⟩, h3'⟩ := hj
            subst h3'
            exact ⟨i, j, -1, _, rfl, RgC.neg h1'.1 h1'.2 h2'.1 h2'.2, h2 _ H1 Z1 ι1 .refl hr1 itr_c⟩
          · rw [if_neg hj] at hd
            cases hd
  · cases hd
end
@[simp] theorem u_gRng3 (ga : GA) (Γ : Env) (M : List MO) : gRng3 ga Γ M = (ga Γ M).bind fun ds M1 => opR (rng3 ds) M1 := Eq.trans rfl rfl
@[simp] theorem u_gRev (ge : GE) (Γ : Env) (M : List MO) : gRev ge Γ M = (ge Γ M).bind fun d M1 => opR ((seqD d).map List.reverse) M1 := Eq.trans rfl rfl
@[simp] theorem u_gListO (ga : GA) (Γ : Env) (M : List MO) : gListO ga Γ M = ((ga Γ M).bind fun xs M1 => match items1 M1 xs with
  | some ds => .ok (.ref M1.length) (M1 ++ [.lst ds])
  | none => .bad) := Eq.trans rfl rfl
@[simp] theorem u_items1 (M : List MO) (d : D) : items1 M [d] = itemsD M d := Eq.trans rfl rfl
@[simp] theorem u_rng3 (i j : Int) : rng3 [.int i, .int j, .int (-1)] = if (inR i && inR j) = true then some (rngDn i (i - j).toNat) else none := by
  show (if (inR i && inR j && decide ((-1 : Int) = -1)) = true then _ else _) = _
  simp
@[simp] theorem u_reverse (ds : List D) : mReverse ds = some (ds.reverse, .non) := Eq.trans rfl rfl
end Bk

set_option Elab.async false
set_option linter.all false
set_option maxRecDepth 100000
set_option maxHeartbeats 2000000
namespace Bk
open PySem PySem.Spec PyProof.Rows L2
theorem units65 {k : Nat} {A : Around} (r : Room k A) : A.units + 65 < cLine := by have := r.un; omega
/-! ### t >= u -/
def rGeT (K : PySem.W.Frag) : R2 := fun x y H Q => ∃ (a b : Addr) (ns ms : List Int), x = .ref a ∧ y = .ref b ∧ SqT K H a (ns.map V.int) ∧ SqT K H b (ms.map V.int) ∧
  Q (.bl (Ob.lexAt (fun j => decide (ns.getD j 0 = ms.getD j 0)) (fun j => decide (ms.getD j 0 ≤ ns.getD j 0)) (decide (ns.length ≥ ms.length)) 0 (min ns.length ms.length))) H
theorem op_geT {X : Cx} (hu : X.A.units < cLine) : OpR X (compareOp .GtE) (rGeT X.K) := by
  intro pins s σ H x y v u Q I rx ry h
  obtain ⟨a, b, ns, ms, rfl, rfl, ha, hb, q⟩ := h
  cases rx
  cases ry
  obtain ⟨its, r1, p1, _⟩ := I.tuple ha
  obtain ⟨its2, r2, p2, _⟩ := I.tuple hb
  have i1 : IntsAre its ns := Vals.ints r1
  have i2 : IntsAre its2 ms := Vals.ints r2
  have e1 : its.toArray.size = ns.length := by rw [List.size_toArray]; exact i1.length
  have e2 : its2.toArray.size = ms.length := by rw [List.size_toArray]; exact i2.length
  have at1 : ∀ j (h1 : j < its.toArray.size), ∃ t, its.toArray[j] = .int (ns.getD j 0) t := fun j h1 => PyProof.Rows.IntsAre.int_at i1 _ _ (by simp at h1; simp [h1])
  have at2 : ∀ j (h1 : j < its2.toArray.size), ∃ t, its2.toArray[j] = .int (ms.getD j 0) t := fun j h1 => PyProof.Rows.IntsAre.int_at i2 _ _ (by simp at h1; simp [h1])
  have R := Ob.RcOp.tuples_ge (A := X.A) (s := s) (e := fun j => decide (ns.getD j 0 = ms.getD j 0)) (r := fun j => decide (ms.getD j 0 ≤ ns.getD j 0)) p1 p2 hu (fun j h1 h2 => by
    obtain ⟨t, et⟩ := at1 j h1
    obtain ⟨t', et'⟩ := at2 j h2
    rw [et, et']
    have z : (ns.getD j 0 == ms.getD j 0) = decide (ns.getD j 0 = ms.getD j 0) := by
      by_cases q : ns.getD j 0 = ms.getD j 0
      · rw [decide_eq_true q]; exact beq_iff_eq.mpr q
      · rw [decide_eq_false q]; exact beq_eq_false_iff_ne.mpr q
    rw [← z]
    exact SeqAt.EqAt.int_int _ _ _ _) (fun j h1 h2 _ => by
    obtain ⟨t, et⟩ := at1 j h1
    obtain ⟨t', et'⟩ := at2 j h2
    rw [et, et']
    exact Ob.RcOp.ge_int _ _ _ _)
  rw [e1, e2] at R
  have z : wpAny (model X.prog X.w) X.A (compareOp .GtE (.ref a) (.ref b)) (EP X pins σ Q) X.xe s := R X.prog X.w X.xe (EP X pins σ Q) ⟨.bl _, H, I, rfl, q⟩
  exact z
def intsL : List D → Option (List Int)
  | [] => some []
  | .int i :: ds => (intsL ds).map fun is => i :: is
  | _ => none
theorem intsL_map : ∀ is : List Int, intsL (is.map D.int) = some is
  | [] => rfl
  | i :: is => by
    show (intsL (is.map D.int)).map (fun is => i :: is) = _
    rw [intsL_map is]
    rfl
theorem intsL_run {K : PySem.W.Frag} {Z : Hp} {ι : Nat → Addr} {n : Nat} : ∀ {ds : List D} {vs : List V} {is : List Int}, Rps K Z ι n ds vs → intsL ds = some is → vs = is.map V.int
  | [], _, _, r, h => by cases r; cases h; rfl
  | d :: ds, _, _, r, h => by
    cases r with
    | cons r rs =>
      cases r with
      | int i =>
        have h' : (intsL ds).map (fun is => i :: is) = some _ := h
        cases e : intsL ds with
        | none => rw [e] at h'; cases h'
        | some js =>
          rw [e] at h'
          cases h'
          rw [List.map_cons, intsL_run rs e]
      | _ => cases h
def geI (ns ms : List Int) : Bool := Ob.lexAt (fun j => decide (ns.getD j 0 = ms.getD j 0)) (fun j => decide (ms.getD j 0 ≤ ns.getD j 0)) (decide (ns.length ≥ ms.length)) 0 (min ns.length ms.length)
def dGeA (M : List MO) (x y : D) : Option D := match x, y with
  | .tup xs, .tup ys => match intsL xs, intsL ys with
    | some ns, some ms => some (.bl (geI ns ms))
    | _, _ => none
  | x, y => dGe M x y
section
variable {X : Cx}
theorem op_geA (hu : X.A.units < cLine) : OpR X (compareOp .GtE) (fun x y H Q => rGeT X.K x y H Q ∨ rI0 (fun i j => .bl (decide (j ≤ i))) x y H Q) := (op_geT hu).or op_ge
theorem ok_geA : Ok2 X (fun x y H Q => rGeT X.K x y H Q ∨ rI0 (fun i j => .bl (decide (j ≤ i))) x y H Q) dGeA := fun x y H Z ι M dx dy d Q hr rx ry e q => by
  unfold dGeA at e
  split at e
  · rename_i xs ys
    cases e1 : intsL xs with
    | none => rw [e1] at e; cases e
    | some ns =>
      cases e2 : intsL ys with
      | none => rw [e1, e2] at e; cases e
      | some ms =>
        rw [e1, e2] at e
        cases e
        cases rx with
        | tup s1 r1 =>
          cases ry with
          | tup s2 r2 =>
            have w1 := intsL_run r1 e1
            have w2 := intsL_run r2 e2
            subst w1 w2
            exact .inl ⟨_, _, ns, ms, rfl, rfl, subT hr.sub s1, subT hr.sub s2, q.now hr (.bl _)⟩
  · exact .inr (ok_ge x y H Z ι M dx dy d Q hr rx ry e q)
end
/-! ### x in l, items of any depth -/
section
variable {X : Cx}
end
/-! ### l.index(x) -/
def dIndex (M : List MO) (x y : D) : Option D := match toP (deref M x), toP (deref M y) with
  | some (.list ps), some q => if (SeqAt.shaped (.list ps) && SeqAt.shaped q) = true then (ps.findIdx? fun z => PyData.eqv z q).map fun j => .int (j : Nat) else none
  | _, _ => none
def gIndex (go ge : GE) : GE := fun Γ M => (go Γ M).bind fun x M1 => if isListD M1 x = true then (ge Γ M1).bind fun y M2 => opR (dIndex M2 x y) M2 else .bad
section
variable {X : Cx} {C : CT} {W : WX}
end
@[simp] theorem u_gIndex (go ge : GE) (Γ : Env) (M : List MO) : gIndex go ge Γ M = (go Γ M).bind fun x M1 => if isListD M1 x = true then (ge Γ M1).bind fun y M2 => opR (dIndex M2 x y) M2 else .bad := Eq.trans rfl rfl
@[simp] theorem e_geA (M : List MO) (i j : Int) : dGeA M (.int i) (.int j) = some (.bl (decide (j ≤ i))) := Eq.trans rfl rfl
theorem e_geT (M : List MO) (ns ms : List Int) : dGeA M (.tup (ns.map D.int)) (.tup (ms.map D.int)) = some (.bl (geI ns ms)) := by
  show (match intsL (ns.map D.int), intsL (ms.map D.int) with
    | some ns, some ms => some (D.bl (geI ns ms))
    | _, _ => none) = _
  rw [intsL_map, intsL_map]
/-- the first place that differs tells -/
theorem lexAt_diff {e r : Nat → Bool} {z : Bool} {j : Nat} (hd : e j = false) : ∀ (k i : Nat), i ≤ j → j < i + k → (∀ m, i ≤ m → m < j → e m = true) → Ob.lexAt e r z i k = r j
  | 0, i, h1, h2, _ => by omega
  | k + 1, i, h1, h2, h3 => by
    rw [Ob.lexAt_succ]
    by_cases q : i = j
    · subst q
      rw [hd]
      simp
    · rw [h3 i (Nat.le_refl _) (by omega), if_pos rfl]
      exact lexAt_diff hd k (i + 1) (by omega) (by omega) fun m a b => h3 m (by omega) b
theorem geI_less {ns ms : List Int} {j : Nat} (h1 : j < ns.length) (h2 : j < ms.length) (he : ∀ m, m < j → ns.getD m 0 = ms.getD m 0) (hl : ns.getD j 0 < ms.getD j 0) : geI ns ms = false := by
  unfold geI
  rw [lexAt_diff (j := j) (by simp only [decide_eq_false_iff_not]; omega) _ _ (Nat.zero_le _) (by omega) (fun m _ hm => by simpa using he m hm)]
  simp only [decide_eq_false_iff_not]
  omega
end Bk

set_option Elab.async false
set_option linter.all false
set_option maxRecDepth 100000
set_option maxHeartbeats 2000000
namespace Bk
open PySem PySem.Spec PyProof.Rows L2
/-! ### abs -/
def dAbs (_ : List MO) : D → Option D
  | .int i => some (.int (if i < 0 then -i else i))
  | _ => none
/-! ### sorted, ints -/
def insI (x : Int) : List Int → List Int
  | [] => [x]
  | y :: ys => if x ≤ y then x :: y :: ys else y :: insI x ys
def srtI : List Int → List Int
  | [] => []
  | x :: xs => insI x (srtI xs)
theorem insI_perm (x : Int) : ∀ l : List Int, (insI x l).Perm (x :: l)
  | [] => .refl _
  | y :: ys => by
    unfold insI
    split
    · exact .refl _
    · exact ((insI_perm x ys).cons y).trans (.swap x y ys)
theorem srtI_perm : ∀ l : List Int, (srtI l).Perm l
  | [] => .refl _
  | x :: xs => (insI_perm x _).trans ((srtI_perm xs).cons x)
theorem insI_ord {x : Int} : ∀ {l : List Int}, l.Pairwise (· ≤ ·) → (insI x l).Pairwise (· ≤ ·)
  | [], _ => by simp [insI]
  | y :: ys, h => by
    obtain ⟨h1, h2⟩ := List.pairwise_cons.mp h
    unfold insI
    split
    · rename_i c
      refine List.pairwise_cons.mpr ⟨fun z hz => ?_, h⟩
      rcases List.mem_cons.mp hz with rfl | hz
      · exact c
      · exact Int.le_trans c (h1 z hz)
    · rename_i c
      refine List.pairwise_cons.mpr ⟨fun z hz => ?_, insI_ord h2⟩
      rcases List.mem_cons.mp ((insI_perm x ys).mem_iff.mp hz) with rfl | hz
      · omega
      · exact h1 z hz
theorem srtI_ord : ∀ l : List Int, (srtI l).Pairwise (· ≤ ·)
  | [] => .nil
  | x :: xs => insI_ord (srtI_ord xs)
theorem ord_one : ∀ {l m : List Int}, l.Perm m → l.Pairwise (· ≤ ·) → m.Pairwise (· ≤ ·) → l = m
  | [], m, p, _, _ => (List.perm_nil.mp p.symm).symm
  | x :: l, [], p, _, _ => absurd (List.perm_nil.mp p) (by simp)
  | x :: l, y :: m, p, h, h' => by
    obtain ⟨a1, a2⟩ := List.pairwise_cons.mp h
    obtain ⟨b1, b2⟩ := List.pairwise_cons.mp h'
    have e : x = y := by
      rcases List.mem_cons.mp (p.mem_iff.mp (List.mem_cons_self ..)) with q | q
      · exact q
      · rcases List.mem_cons.mp (p.mem_iff.mpr (List.mem_cons_self ..)) with r | r
        · exact r.symm
        · have := a1 y r
          have := b1 x q
          omega
    subst e
    rw [ord_one (List.Perm.cons_inv p) a2 b2]
def dSortR := ofInts fun is => some (.lst ((srtI is).reverse.map D.int))
def mClear : MF0 := fun _ => some ([], .non)
/-- a method of a list that reads it, with one argument -/
def gRd1 (f : List MO → D → D → Option D) (go ge : GE) : GE := fun Γ M => (go Γ M).bind fun x M1 => if isListD M1 x = true then (ge Γ M1).bind fun y M2 => opR (f M2 x y) M2 else .bad
def dRevL (M : List MO) (x : D) : Option D := (listD M x).map fun ds => .lst ds.reverse
def gRevL (ge : GE) : GE := fun Γ M => (ge Γ M).bind fun x M1 => opR (dRevL M1 x) M1
def gSortR (ge : GE) : GE := fun Γ M => (ge Γ M).bind fun x M1 => opR (dSortR M1 x) M1
section
variable {X : Cx} {C : CT} {W : WX} {e o : Expr} {g ge go : GE}
theorem ok_abs : Ok1 X (fun x H Q => ∃ i, [x] = [.int i] ∧ Q (.int (if i < 0 then -i else i)) H) dAbs := fun x H Z ι M dx d Q hr rx e q => by
  cases rx with
  | int i =>
    cases e
    exact ⟨i, rfl, q.now hr (.int _)⟩
  | _ => cases e
theorem qe_sortR {p cp pos kp : Pos} (hg : Gl X "sorted") (hm : X.mg "sorted" = none) (hv : bootBuiltins "sorted" = some (.builtin "sorted")) (he : QE X C W e g) (hs : starEach [e] X.env = (false, eval e X.env) :: starEach [] X.env := by rfl)
    (h1 : backTo pos (starEach [e] X.env) = (false, eval e X.env) :: backTo pos (starEach [] X.env) := by rfl) (h2 : (backTo pos (starEach [e] X.env)).any (·.1) = false := by rfl)
    (h3 : (backToKw pos (keywordEach [⟨some "reverse", .Constant (.bool true) 0 cp, kp⟩] X.env)).all (·.1.isSome) = true := by rfl) (h4 : (backToKw pos (keywordEach [⟨some "reverse", .Constant (.bool true) 0 cp, kp⟩] X.env)).any (·.1.isNone) = false := by rfl)
    (h5 : (backToKw pos (keywordEach [⟨some "reverse", .Constant (.bool true) 0 cp, kp⟩] X.env)).filterMap (·.1) = [Str.ofString "reverse"] := by rfl) :
    QE X C W (.Call (.Name "sorted" p) [e] [⟨some "reverse", .Constant (.bool true) 0 cp, kp⟩] pos) (gSortR g) := by
  obtain ⟨te, pe, qe⟩ := he
  refine ⟨_, pe_callBK (cr_sortedRev (b := true)) hg hm hv (pa_cons pe pa_nil hs) (pk_cons pe_bl pk_nil) (by decide) (by decide) h1 h2 h3 h4 h5, fun σ H Z ι Γ M Q sl hr h => qe σ H Z ι Γ M _ sl hr (h.bind fun x M1 v H1 Z1 ι1 e1 hr1 r1 h1 => ?_)⟩
  obtain ⟨d, hd, h2⟩ := Post.of_opR (γ := D) (δ := V) h1
  obtain ⟨a, is, rfl, s, e2⟩ := ofInts_run hr1 r1 hd
  cases e2
  refine ⟨a, is, rfl, rfl, s, fun ns' p h1 h2' hp => ?_⟩
  have o : ns'.Pairwise (· ≥ ·) := h2'
  have e : ns'.reverse = srtI is := ord_one ((List.reverse_perm ns').trans (h1.trans (srtI_perm is).symm)) (List.pairwise_reverse.mpr o) (srtI_ord is)
  have e' : ns' = (srtI is).reverse := by rw [← e, List.reverse_reverse]
  rw [e']
  exact After.lst (X := X) (M := M1) (Q := Q) (fun v H' Z' e' hr' r' => h2 v H' Z' ι1 e' hr' r') hr1 (rps_ints _) p hp
end
@[simp] theorem u_gRd1 (f : List MO → D → D → Option D) (go ge : GE) (Γ : Env) (M : List MO) : gRd1 f go ge Γ M = (go Γ M).bind fun x M1 => if isListD M1 x = true then (ge Γ M1).bind fun y M2 => opR (f M2 x y) M2 else .bad := Eq.trans rfl rfl
@[simp] theorem u_gRevL (ge : GE) (Γ : Env) (M : List MO) : gRevL ge Γ M = (ge Γ M).bind fun x M1 => opR (dRevL M1 x) M1 := Eq.trans rfl rfl
@[simp] theorem u_gSortR (ge : GE) (Γ : Env) (M : List MO) : gSortR ge Γ M = (ge Γ M).bind fun x M1 => opR (dSortR M1 x) M1 := Eq.trans rfl rfl
@[simp] theorem e_abs (M : List MO) (i : Int) : dAbs M (.int i) = some (.int (if i < 0 then -i else i)) := Eq.trans rfl rfl
theorem e_sortR (M : List MO) (is : List Int) : dSortR M (.lst (is.map D.int)) = some (.lst ((srtI is).reverse.map D.int)) := by
  simp only [dSortR, ofInts, listD, Option.bind_some, intsD_map]
@[simp] theorem e_revL (M : List MO) (ds : List D) : dRevL M (.lst ds) = some (.lst ds.reverse) := Eq.trans rfl rfl
@[simp] theorem e_clear (ds : List D) : mClear ds = some ([], .non) := Eq.trans rfl rfl
end Bk

set_option Elab.async false
set_option linter.all false
set_option maxRecDepth 100000
set_option maxHeartbeats 2000000
namespace Bk
open PySem PySem.Spec PyProof.Rows L2
/-! ### defs that work on the caller's whole store: things within things go in and come back -/
def finW : RS → R D
  | .rt d M' => .ok d M'
  | .nx _ M' => .ok .non M'
  | .exc c d _ M' => .exc c d M'
  | _ => .bad
def runW (n : Nat) (g : GS) (ds : List D) (M : List MO) : R D := finW (g (ds.map some ++ List.replicate (n - ds.length) none) M)
def callW (F : List D → List MO → R D) (ds : List D) (M : List MO) : R D := F ds M
def gCallW (n : Nat) (F : List D → List MO → R D) (ga : GA) : GE := fun Γ M => (ga Γ M).bind fun ds M1 => if ds.length = n then callW F ds M1 else .bad
def gCallWK (n : Nat) (F : List D → List MO → R D) (is : List Nat) (ga gk : GA) : GE := fun Γ M => (ga Γ M).bind fun ds M1 => (gk Γ M1).bind fun es M2 => if (pick (ds ++ es) is).length = n then callW F (pick (ds ++ es) is) M2 else .bad
section
variable {K : PySem.W.Frag} {C : CT} {H Z : Hp} {ι : Nat → Addr} {M : List MO} {E : XK} {Q : VK}
end
section
variable {P : Program} {w : World} {K : PySem.W.Frag} {mg : Str → Option Value} {base : Heap} {C : CT}
end
section
variable {X : Cx} {C : CT} {W : WX} {k : Nat} {f : Addr} {fd : FuncData} {ps : List Str} {F : List D → List MO → R D} {x : Str} {p pos : Pos} {e : Expr} {es : List Expr} {gs : GA}
variable {kws : List Keyword} {gk : GA} {ks : List Str} {is : List Nat} {np : Nat}
end
@[simp] theorem u_gCallW (n : Nat) (F : List D → List MO → R D) (ga : GA) (Γ : Env) (M : List MO) : gCallW n F ga Γ M = (ga Γ M).bind fun ds M1 => if ds.length = n then callW F ds M1 else .bad := Eq.trans rfl rfl
@[simp] theorem u_gCallWK (n : Nat) (F : List D → List MO → R D) (is : List Nat) (ga gk : GA) (Γ : Env) (M : List MO) : gCallWK n F is ga gk Γ M = (ga Γ M).bind fun ds M1 => (gk Γ M1).bind fun es M2 => if (pick (ds ++ es) is).length = n then callW F (pick (ds ++ es) is) M2 else .bad := Eq.trans rfl rfl
@[simp] theorem fw_rt (d : D) (M : List MO) : finW (.rt d M) = .ok d M := Eq.trans rfl rfl
@[simp] theorem fw_nx (Γ : Env) (M : List MO) : finW (.nx Γ M) = .ok .non M := Eq.trans rfl rfl
@[simp] theorem fw_ex (c : Nat) (d : D) (Γ : Env) (M : List MO) : finW (.exc c d Γ M) = .exc c d M := Eq.trans rfl rfl
end Bk

set_option Elab.async false
set_option linter.all false
set_option maxRecDepth 100000
set_option maxHeartbeats 2000000
namespace Bk
open PySem PySem.Spec PyProof.Rows L2
/-! ### keys -/
mutual
/-- the key that a tree is -/
def keyD : D → Option NestedKey
  | .non => some .none
  | .int i => some (.num i)
  | .tup ds => (keysD ds).map .tup
  | .ptu ds => (keysD ds).map .tup
  | _ => none
def keysD : List D → Option (List NestedKey)
  | [] => some []
  | d :: ds => match keyD d, keysD ds with
    | some k, some ks => some (k :: ks)
    | _, _ => none
end
section
variable {K : PySem.W.Frag} {H Z : Hp} {ι : Nat → Addr} {n : Nat}
mutual
theorem keyD_run (hz : Sub Z H) : ∀ (d : D) (v : V) (k : NestedKey), Rp K Z ι n d v → keyD d = some k → KeyV K H k v
  | .non, _, _, h, e => by cases h; cases e; exact .non
  | .bl _, _, _, _, e => by cases e
  | .int i, _, _, h, e => by cases h; cases e; exact .int i
  | .str _, _, _, _, e => by cases e
  | .tup ds, _, _, h, e => by
    cases h with
    | tup s r =>
      have e' : (keysD ds).map NestedKey.tup = some _ := e
      cases e2 : keysD ds with
      | none => rw [e2] at e'; cases e'
      | some ks =>
        rw [e2] at e'
        cases e'
        exact .tup (subT hz s) (keysD_run hz ds _ ks r e2)
  | .lst _, _, _, _, e => by cases e
  | .ref _, _, _, _, e => by cases e
  | .dct _ _, _, _, _, e => by cases e
  | .ptu ds, _, _, h, e => by
    cases h with
    | ptu s r =>
      have e' : (keysD ds).map NestedKey.tup = some _ := e
      cases e2 : keysD ds with
      | none => rw [e2] at e'; cases e'
      | some ks =>
        rw [e2] at e'
        cases e'
        exact .tup (subT hz s.sq) (keysD_run hz ds _ ks r e2)
theorem keysD_run (hz : Sub Z H) : ∀ (ds : List D) (vs : List V) (ks : List NestedKey), Rps K Z ι n ds vs → keysD ds = some ks → KeyVs K H ks vs
  | [], _, _, h, e => by cases h; cases e; exact .nil
  | d :: ds, _, _, h, e => by
    cases h with
    | cons r s =>
      have e' : (match keyD d, keysD ds with
        | some k, some ks => some (k :: ks)
        | _, _ => none) = some _ := e
      cases e1 : keyD d with
      | none => rw [e1] at e'; cases e'
      | some k =>
        cases e2 : keysD ds with
        | none => rw [e1, e2] at e'; cases e'
        | some ks =>
          rw [e1, e2] at e'
          cases e'
          exact .cons (keyD_run hz d _ k r e1) (keysD_run hz ds _ ks s e2)
end
end
section
variable {X : Cx} {pins : List (Addr × Obj)} {σ : L2.St} {H : Hp} {s : Shared}
mutual
theorem KeyV.is (I : Inv X pins σ H s) : ∀ (k : NestedKey) (v : V) (u : Value), KeyV X.K H k v → RelV v u → NestedIs s.heap k u
  | .none, _, _, h, r => by
    cases h
    have r' : _ = Value.none := r
    rw [r']
    exact .none
  | .num i, _, _, h, r => by
    cases h
    obtain ⟨t, rfl⟩ := r
    exact .int i t
  | .text _, _, _, h, _ => by cases h
  | .tup ks, _, _, h, r => by
    cases h with
    | tup sq kv =>
      have r' : _ = Value.ref _ := r
      rw [r']
      obtain ⟨its, rv, ⟨o, ho, hc, m, hd⟩, _⟩ := I.tuple sq
      exact .tup ho hc hd (by simpa using KeyVs.is I ks _ _ kv rv)
theorem KeyVs.is (I : Inv X pins σ H s) : ∀ (ks : List NestedKey) (vs : List V) (us : List Value), KeyVs X.K H ks vs → Vals vs us → NestedAll s.heap ks us
  | [], _, _, h, r => by
    cases h
    cases r
    exact .nil
  | k :: ks, _, _, h, r => by
    cases h with
    | cons h1 h2 =>
      cases r with
      | cons r1 r2 => exact .cons (KeyV.is I k _ _ h1 r1) (KeyVs.is I ks _ _ h2 r2)
end
abbrev NK (X : Cx) := nestedKind X.prog X.w
/-- a dict as the library tells of it -/
theorem Ents.trip (I : Inv X pins σ H s) : ∀ {nks : List NestedKey} {ks vs : List V} {es : List DictEntry}, Ents X.K H nks ks vs es → AllRef ks →
    ∃ xs : List (NestedKey × Addr × Value), es = xs.map (entryOfKey (NK X)) ∧ xs.map (·.1) = nks ∧ (∀ x ∈ xs, (NK X).is s.heap x.1 x.2.1) ∧ xs.length = vs.length ∧ ∀ (i : Nat) (v : V), vs[i]? = some v → ∃ x, xs[i]? = some x ∧ RelV v x.2.2
  | _, _, _, _, .nil, _ => ⟨[], rfl, rfl, by simp, rfl, by simp⟩
  | _, _, _, _, .cons (k := k) (y := y) (ku := ku) (v := v) (u := u) (hs := hs) a ry d h r t, hr => by
    obtain ⟨xs, e1, e2, e3, e4, e5⟩ := Ents.trip I t fun x hx => hr x (List.mem_cons_of_mem _ hx)
    obtain ⟨b, rfl⟩ := hr y (List.mem_cons_self)
    obtain rfl : ku = Value.ref b := ry
    refine ⟨(k, b, u) :: xs, ?_, by simp [e2], fun x hx => ?_, by simp [e4], fun i w hw => ?_⟩
    · rw [List.map_cons, ← e1]
      congr 1
      show (⟨hs, .ref b, u⟩ : DictEntry) = ⟨k.hash X.w, .ref b, u⟩
      rw [h X.w]
    · rcases List.mem_cons.mp hx with rfl | hx
      · exact ⟨KeyV.is I k _ _ a rfl, d⟩
      · exact e3 x hx
    · cases i with
      | zero =>
        have : v = w := by simpa using hw
        subst this
        exact ⟨(k, b, u), rfl, r⟩
      | succ i =>
        obtain ⟨x, hx, rx⟩ := e5 i w (by simpa using hw)
        exact ⟨x, by simpa using hx, rx⟩
theorem ExD.of (I : Inv X pins σ H s) {a : Addr} {nks : List NestedKey} {ks vs : List V} (h : ExD X.K H a nks ks vs) (hrf : AllRef ks) :
    ∃ xs : List (NestedKey × Addr × Value), s.heap.DictOfH (NK X) a xs ∧ xs.map (·.1) = nks ∧ xs.length = vs.length ∧ ∀ (i : Nat) (v : V), vs[i]? = some v → ∃ x, xs[i]? = some x ∧ RelV v x.2.2 := by
  obtain ⟨es, ep, h1, h2, h3, h4, h5⟩ := h
  obtain ⟨xs, e1, e2, e3, e4, e5⟩ := Ents.trip I h5 hrf
  obtain ⟨⟨o, ho, hx, hd⟩, _, _⟩ := I.hok a _ h1
  exact ⟨xs, ⟨o, es, ep, ho, hx, hd, e1, e3, by rw [e2]; exact h4⟩, e2, e4, e5⟩
theorem atKey_at {xs : List (NestedKey × Addr × Value)} (hn : (xs.map (·.1)).Nodup) {i : Nat} {x : NestedKey × Addr × Value} (h : xs[i]? = some x) : atKey xs x.1 = some x.2 := by
  induction xs generalizing i with
  | nil => simp at h
  | cons y ys ih =>
    rw [List.map_cons, List.nodup_cons] at hn
    unfold atKey
    rw [List.find?_cons]
    cases i with
    | zero =>
      have : y = x := by simpa using h
      subst this
      simp
    | succ i =>
      have h' : ys[i]? = some x := by simpa using h
      have ne : y.1 ≠ x.1 := fun e => hn.1 (by rw [e]; exact List.mem_map.mpr ⟨x, List.mem_of_getElem? h', rfl⟩)
      simp only [decide_eq_false ne]
      exact ih hn.2 h'
theorem atKey_none {xs : List (NestedKey × Addr × Value)} {k : NestedKey} (h : k ∉ xs.map (·.1)) : atKey xs k = none := by
  unfold atKey
  rw [Option.map_eq_none_iff, List.find?_eq_none]
  intro x hx
  simp only [decide_eq_true_eq]
  exact fun e => h (e ▸ List.mem_map.mpr ⟨x, hx, rfl⟩)
end
theorem Ents.keys {K : PySem.W.Frag} {Z : Hp} : ∀ {nks : List NestedKey} {ks vs : List V} {es : List DictEntry}, Ents K Z nks ks vs es → KeyVs K Z nks ks ∧ ∃ us, Vals ks us
  | _, _, _, _, .nil => ⟨.nil, [], .nil⟩
  | _, _, _, _, .cons (ku := ku) a ry d h r t => by
    obtain ⟨h1, us, h2⟩ := Ents.keys t
    exact ⟨.cons a h1, ku :: us, .cons ry h2⟩
theorem ExD.keys {X : Cx} {pins : List (Addr × Obj)} {σ : L2.St} {H : Hp} {s : Shared} (I : Inv X pins σ H s) {a : Addr} {nks nks' : List NestedKey} {ks vs : List V} (h : ExD X.K H a nks ks vs) (h' : KeyVs X.K H nks' ks) : nks = nks' := by
  obtain ⟨es, ep, h1, h2, h3, h4, h5⟩ := h
  obtain ⟨k1, us, k2⟩ := h5.keys
  exact NestedAll.inj _ _ _ (KeyVs.is I _ _ _ k1 k2) (KeyVs.is I _ _ _ h' k2)
def posK (k : NestedKey) : List NestedKey → Option Nat
  | [] => none
  | x :: xs => if x = k then some 0 else (posK k xs).map (· + 1)
theorem posK_at {k : NestedKey} : ∀ {xs : List NestedKey} {i : Nat}, posK k xs = some i → xs[i]? = some k
  | [], _, h => by cases h
  | x :: xs, i, h => by
    unfold posK at h
    by_cases e : x = k
    · rw [if_pos e] at h
      cases h
      rw [e]
      rfl
    · rw [if_neg e] at h
      cases p : posK k xs with
      | none => rw [p] at h; cases h
      | some j =>
        rw [p] at h
        cases h
        simpa using posK_at p
theorem posK_none {k : NestedKey} : ∀ {xs : List NestedKey}, posK k xs = none → k ∉ xs
  | [], _ => by simp
  | x :: xs, h => by
    unfold posK at h
    by_cases e : x = k
    · rw [if_pos e] at h; cases h
    · rw [if_neg e] at h
      cases p : posK k xs with
      | some j => rw [p] at h; cases h
      | none =>
        intro m
        rcases List.mem_cons.mp m with z | z
        · exact e z.symm
        · exact posK_none p z
/-! ### d[k] -/
theorem room8 {k : Nat} {A : Around} (hr : Room k A) : A.units + 1 + 8 < cLine := by have := hr.un; omega
def isTup : D → Bool
  | .tup _ => true
  | .ptu _ => true
  | _ => false
/-- the place of a key, and the value there -/
def lookD (ks vs : List D) (y : D) : Option (Option D) := match keysD ks, keyD y with
  | some nks, some k => if (ks.all isTup && isTup y && decide (k.depth ≤ 8)) = true then some ((posK k nks).bind fun i => vs[i]?) else none
  | _, _ => none
/-- a dict, frozen or ours -/
def dctD (M : List MO) : D → Option (List D × List D)
  | .dct ks vs => some (ks, vs)
  | .ref k => match M[k]? with
    | some (.dct ks vs) => some (ks, vs)
    | _ => none
  | _ => none
section
variable {X : Cx}
theorem tups_ref {Z : Hp} {ι : Nat → Addr} {n : Nat} : ∀ {ks : List D} {kx : List V}, Rps X.K Z ι n ks kx → ks.all isTup = true → AllRef kx
  | [], _, h, _ => by cases h; intro x hx; cases hx
  | d :: ks, _, h, e => by
    cases h with
    | cons r s =>
      rw [List.all_cons, Bool.and_eq_true] at e
      intro x hx
      rcases List.mem_cons.mp hx with rfl | hx
      · cases r with
        | tup _ _ => exact ⟨_, rfl⟩
        | ptu _ _ => exact ⟨_, rfl⟩
        | _ => cases e.1
      · exact tups_ref s e.2 x hx
end
end Bk

set_option Elab.async false
set_option linter.all false
set_option maxRecDepth 100000
set_option maxHeartbeats 2000000
namespace Bk
open PySem PySem.Spec PyProof.Rows L2
/-! ### d[k] = v for a dict that is being made -/
section
variable {K : PySem.W.Frag} {Z Z' : Hp}
mutual
theorem KeyV.map (ht : ∀ (a : Addr) (xs : List V), SqT K Z a xs → SqT K Z' a xs) : ∀ (k : NestedKey) (v : V), KeyV K Z k v → KeyV K Z' k v
  | .none, _, h => by cases h; exact .non
  | .num i, _, h => by cases h; exact .int i
  | .text x, _, h => by cases h
  | .tup ks, _, h => by
    cases h with
    | tup s r => exact .tup (ht _ _ s) (KeyVs.map ht ks _ r)
theorem KeyVs.map (ht : ∀ (a : Addr) (xs : List V), SqT K Z a xs → SqT K Z' a xs) : ∀ (ks : List NestedKey) (vs : List V), KeyVs K Z ks vs → KeyVs K Z' ks vs
  | [], _, h => by cases h; exact .nil
  | k :: ks, _, h => by
    cases h with
    | cons r s => exact .cons (KeyV.map ht k _ r) (KeyVs.map ht ks _ s)
end
mutual
/-- no text in a key: its hash is the same in every world -/
theorem KeyV.free : ∀ (k : NestedKey) (v : V), KeyV K Z k v → ∀ w w' : World, k.hash w = k.hash w'
  | .none, _, _, _, _ => rfl
  | .num _, _, _, _, _ => rfl
  | .text _, _, h, _, _ => by cases h
  | .tup ks, _, h, w, w' => by
    cases h with
    | tup s r =>
      unfold NestedKey.hash
      rw [KeyVs.free ks _ r w w']
theorem KeyVs.free : ∀ (ks : List NestedKey) (vs : List V), KeyVs K Z ks vs → ∀ w w' : World, NestedKey.hashes w ks = NestedKey.hashes w' ks
  | [], _, _, _, _ => rfl
  | k :: ks, _, h, w, w' => by
    cases h with
    | cons r s =>
      unfold NestedKey.hashes
      rw [KeyV.free k _ r w w', KeyVs.free ks _ s w w']
end
theorem Ents.map (ht : ∀ (a : Addr) (xs : List V), SqT K Z a xs → SqT K Z' a xs) : ∀ {ks : List NestedKey} {kv vs : List V} {es : List DictEntry}, Ents K Z ks kv vs es → Ents K Z' ks kv vs es
  | _, _, _, _, .nil => .nil
  | _, _, _, _, .cons a y b c d e => .cons (KeyV.map ht _ _ a) y b c d (Ents.map ht e)
theorem Ents.snoc {k : NestedKey} {y : V} {ku : Value} {z : V} {r : Value} {hs : Int} (hk : KeyV K Z k y) (hy : RelV y ku) (hd : k.depth ≤ 8) (hh : ∀ w : World, hs = k.hash w) (hr : RelV z r) : ∀ {nks : List NestedKey} {ks vs : List V} {es : List DictEntry}, Ents K Z nks ks vs es →
    Ents K Z (nks ++ [k]) (ks ++ [y]) (vs ++ [z]) (es ++ [⟨hs, ku, r⟩])
  | _, _, _, _, .nil => .cons hk hy hd hh hr .nil
  | _, _, _, _, .cons a y b c d e => .cons a y b c d (Ents.snoc hk hy hd hh hr e)
/-- another value at a place -/
def setV (r : Value) : Nat → List DictEntry → List DictEntry
  | _, [] => []
  | 0, e :: es => ⟨e.hash, e.key, r⟩ :: es
  | i + 1, e :: es => e :: setV r i es
theorem Ents.setv {z : V} {r : Value} (hr : RelV z r) : ∀ (i : Nat) {nks : List NestedKey} {ks vs : List V} {es : List DictEntry}, Ents K Z nks ks vs es → Ents K Z nks ks (vs.set i z) (setV r i es)
  | i, _, _, _, _, .nil => by
    have : (([] : List V).set i z) = [] := rfl
    rw [this]
    cases i <;> exact .nil
  | 0, _, _, _, _, .cons a y b c d e => .cons a y b c hr e
  | i + 1, _, _, _, _, .cons a y b c d e => .cons a y b c d (Ents.setv hr i e)
end
theorem put_old {X : Cx} {k : NestedKey} {r : Value} : ∀ {xs : List (NestedKey × Addr × Value)} {i : Nat}, (xs.map (·.1)).Nodup → (xs.map (·.1))[i]? = some k → (xs.map (putAt k r)).map (entryOfKey (NK X)) = setV r i (xs.map (entryOfKey (NK X)))
  | [], i, _, h => by simp at h
  | x :: xs, 0, hn, h => by
    have e : x.1 = k := by simpa using h
    rw [List.map_cons, List.nodup_cons] at hn
    have rest : xs.map (putAt k r) = xs := by
      conv => rhs; rw [← List.map_id xs]
      apply List.map_congr_left
      intro y hy
      have : y.1 ≠ k := fun z => hn.1 (by rw [e, ← z]; exact List.mem_map.mpr ⟨y, hy, rfl⟩)
      unfold putAt
      rw [if_neg this]
      rfl
    rw [List.map_cons, rest, List.map_cons, List.map_cons]
    unfold putAt setV
    rw [if_pos e]
    rfl
  | x :: xs, i + 1, hn, h => by
    rw [List.map_cons, List.nodup_cons] at hn
    have h' : (xs.map (·.1))[i]? = some k := by simpa using h
    have ne : x.1 ≠ k := fun z => hn.1 (by rw [z]; exact List.mem_of_getElem? h')
    have ih := put_old (X := X) (r := r) hn.2 h'
    rw [List.map_cons, List.map_cons, ih]
    unfold putAt
    rw [if_neg ne]
    rfl
section
variable {X : Cx} {pins : List (Addr × Obj)} {σ : L2.St} {H : Hp} {s : Shared}
end
end Bk

set_option Elab.async false
set_option linter.all false
set_option maxRecDepth 100000
set_option maxHeartbeats 2000000
namespace Bk
open PySem PySem.Spec PyProof.Rows L2
/-! ### {k: v for t in it}, keys nested tuples: the dict in the making is an object of its own -/
section
variable {X : Cx} {kx vx tg iter : Expr} {ifs : List Expr} {scope : Scope} {own : List (Str × Nat)} {pos : Pos} {wi : TI} {g : TG} {tt : TT} {tk tv : TE}
end
end Bk

set_option Elab.async false
set_option linter.all false
set_option maxRecDepth 100000
set_option maxHeartbeats 2000000
namespace Bk
open PySem PySem.Spec PyProof.Rows L2
/-! ### dict comprehensions, as trees -/
/-- d[k] = v -/
def putKV (ks vs : List D) (k v : D) : Option (List D × List D) := match keysD ks, keyD k with
  | some nks, some nk => if (isTup k && decide (nk.depth ≤ 8) && decide (vs.length < sizeLine)) = true then (match posK nk nks with
    | some i => some (ks, vs.set i v)
    | none => some (ks ++ [k], vs ++ [v])) else none
  | _, _ => none
def gDcL (gg : GG) (gt : GT) (gk gv : GE) (Γ : Env) : List D → List D → List D → List MO → R D
  | [], ks, vs, M => .ok (.dct ks vs) M
  | d :: ds, ks, vs, M => match gg d Γ with
    | none => .bad
    | some Γ1 => (gt Γ1 M).only fun b M1 => if b = true then (gk Γ1 M1).only fun k M2 => (gv Γ1 M2).only fun v M3 => match putKV ks vs k v with
        | some r => gDcL gg gt gk gv Γ ds r.1 r.2 M3
        | none => .bad
      else gDcL gg gt gk gv Γ ds ks vs M1
def gDc (gi : GI) (gg : GG) (gt : GT) (gk gv : GE) (own : List Nat) : GE := fun Γ M => (gi Γ M).bind fun ds M1 => gDcL gg gt gk gv (forget Γ own) ds [] [] M1
/-- a dict that is being made, as it stands -/
def DI (K : PySem.W.Frag) (H Z : Hp) (ι : Nat → Addr) (n : Nat) (p : Addr) (ks vs : List D) : Prop :=
  ∃ (es : Array DictEntry) (ep : Nat) (nks : List NestedKey) (kx xs : List V), H p = some (dnO p es ep) ∧ Ents K Z nks kx xs es.toList ∧ nks.Nodup ∧ Rps K Z ι n ks kx ∧ Rps K Z ι n vs xs ∧ keysD ks = some nks ∧ kx.length ≤ sizeLine ∧ kx.length = xs.length ∧ AllRef kx
theorem DI.ext {K : PySem.W.Frag} {H Z H1 Z1 : Hp} {ι ι1 : Nat → Addr} {n n1 : Nat} {p : Addr} {ks vs : List D} (h : DI K H Z ι n p ks vs) (od : Odd Z ι n p) (e : Ext H Z ι n H1 Z1 ι1 n1) : DI K H1 Z1 ι1 n1 p ks vs := by
  obtain ⟨es, ep, nks, kx, xs, h1, h2, h3, h4, h5, h6, h7, h8, h9⟩ := h
  exact ⟨es, ep, nks, kx, xs, (od.ext h1 e).2, h2.sub e.zz, h3, h4.ext e, h5.ext e, h6, h7, h8, h9⟩
section
variable {X : Cx} {C : CT} {W : WX}
end
end Bk

set_option Elab.async false
set_option linter.all false
set_option maxRecDepth 100000
set_option maxHeartbeats 2000000
namespace Bk
open PySem PySem.Spec PyProof.Rows L2
/-! ### for k in d -/
section
variable {P : Program} {w : World} {K : PySem.W.Frag} {tg : Expr} {d : Addr} {es : Array DictEntry} {ep : Nat} {kx : List V}
end
def dKeys : D → Option (List D)
  | .dct ks _ => some ks
  | _ => none
def gKeysI (ge : GE) : GI := fun Γ M => (ge Γ M).bind fun d M1 => opR (dKeys d) M1
@[simp] theorem u_gKeysI (ge : GE) (Γ : Env) (M : List MO) : gKeysI ge Γ M = (ge Γ M).bind fun d M1 => opR (dKeys d) M1 := Eq.trans rfl rfl
@[simp] theorem e_keys (ks vs : List D) : dKeys (.dct ks vs) = some ks := Eq.trans rfl rfl
end Bk

set_option Elab.async false
set_option linter.all false
set_option maxRecDepth 100000
set_option maxHeartbeats 2000000
namespace Bk
open PySem PySem.Spec PyProof.Rows L2
/-! ### len(d) -/
theorem ents_len {K : PySem.W.Frag} {Z : Hp} : ∀ {nks : List NestedKey} {ks vs : List V} {es : List DictEntry}, Ents K Z nks ks vs es → ks.length = vs.length
  | _, _, _, _, .nil => rfl
  | _, _, _, _, .cons _ _ _ _ _ t => by rw [List.length_cons, List.length_cons, ents_len t]
def dLenN (M : List MO) (x : D) : Option D := match dctD M x with
  | some p => some (.int (p.2.length : Nat))
  | none => dLen M x
@[simp] theorem e_lenN (M : List MO) (ks vs : List D) : dLenN M (.dct ks vs) = some (.int (vs.length : Nat)) := Eq.trans rfl rfl
end Bk

set_option Elab.async false
set_option linter.all false
set_option maxRecDepth 100000
set_option maxHeartbeats 2000000
namespace Bk
open PySem PySem.Spec PyProof.Rows L2
/-! ### for v in d.values() -/
section
variable {P : Program} {w : World} {K : PySem.W.Frag} {tg : Expr} {d : Addr} {es : Array DictEntry} {ep : Nat} {xs : List V}
end
def dVals : D → Option (List D)
  | .dct _ vs => some vs
  | _ => none
def gValsI (ge : GE) : GI := fun Γ M => (ge Γ M).bind fun d M1 => opR (dVals d) M1
@[simp] theorem u_gValsI (ge : GE) (Γ : Env) (M : List MO) : gValsI ge Γ M = (ge Γ M).bind fun d M1 => opR (dVals d) M1 := Eq.trans rfl rfl
@[simp] theorem e_vals (ks vs : List D) : dVals (.dct ks vs) = some vs := Eq.trans rfl rfl
end Bk

set_option Elab.async false
set_option linter.all false
set_option maxRecDepth 100000
set_option maxHeartbeats 2000000
namespace Bk
open PySem PySem.Spec PyProof.Rows L2
/-! ### for k, v in d.items() -/
section
variable {P : Program} {w : World} {K : PySem.W.Frag} {d : Addr} {es : Array DictEntry} {ep : Nat} {kx xs : List V}
end
def pairsD (ks vs : List D) : List D := (ks.zip vs).map fun p => .tup [p.1, p.2]
def dItems : D → Option (List D)
  | .dct ks vs => some (pairsD ks vs)
  | _ => none
def gItemsI (ge : GE) : GI := fun Γ M => (ge Γ M).bind fun d M1 => opR (dItems d) M1
@[simp] theorem u_gItemsI (ge : GE) (Γ : Env) (M : List MO) : gItemsI ge Γ M = (ge Γ M).bind fun d M1 => opR (dItems d) M1 := Eq.trans rfl rfl
@[simp] theorem e_items (ks vs : List D) : dItems (.dct ks vs) = some (pairsD ks vs) := Eq.trans rfl rfl
end Bk

set_option Elab.async false
set_option linter.all false
set_option maxRecDepth 100000
set_option maxHeartbeats 2000000
namespace Bk
open PySem PySem.Spec PyProof.Rows L2
/-! ### d.get(k, x) -/
def dGetN (M : List MO) (x y z : D) : Option D := match dctD M x with
  | some p => (lookD p.1 p.2 y).map fun o => o.getD z
  | none => none
def isDct (M : List MO) (d : D) : Bool := match dctD M d with
  | some p => p.1.all isTup
  | none => false
def gGetN (go gk gx : GE) : GE := fun Γ M => (go Γ M).bind fun x M1 => if isDct M1 x = true then (gk Γ M1).bind fun y M2 => (gx Γ M2).bind fun z M3 => opR (dGetN M3 x y z) M3 else .bad
@[simp] theorem u_gGetN (go gk gx : GE) (Γ : Env) (M : List MO) : gGetN go gk gx Γ M = (go Γ M).bind fun x M1 => if isDct M1 x = true then (gk Γ M1).bind fun y M2 => (gx Γ M2).bind fun z M3 => opR (dGetN M3 x y z) M3 else .bad := Eq.trans rfl rfl
end Bk

set_option Elab.async false
set_option linter.all false
set_option maxRecDepth 100000
set_option maxHeartbeats 4000000
namespace Bk
open PySem PySem.Spec PyProof.Rows L2
/-! ### {k: v for t in it for t1 in it1} -/
section
variable {prog : Program} {w : World} {A : Around} {R : Result → Shared → Prop} {s : Shared} {kx vx t0 i0 t1 i1 : Expr} {ifs0 ifs1 : List Expr} {scope : Scope} {pos : Pos} {it : Value} {D : Addr} {env : PySem.Env}
end
section
variable {X : Cx} {kx vx tg iter tg1 iter1 : Expr} {ifs ifs1 : List Expr} {scope : Scope} {own : List (Str × Nat)} {vs1 : List Nat} {pos : Pos} {wi wi1 : TI} {g g1 : TG} {tt tt1 : TT} {tk tv : TE}
end
end Bk

set_option Elab.async false
set_option linter.all false
set_option maxRecDepth 100000
set_option maxHeartbeats 4000000
namespace Bk
open PySem PySem.Spec PyProof.Rows L2
/-! ### {k: v for t in it for t1 in it1}, as trees -/
def gDcI (gg : GG) (gt : GT) (gk gv : GE) (Γ : Env) : List D → List D → List D → List MO → R (List D × List D)
  | [], ks, vs, M => .ok (ks, vs) M
  | d :: ds, ks, vs, M => match gg d Γ with
    | none => .bad
    | some Γ1 => (gt Γ1 M).only fun b M1 => if b = true then (gk Γ1 M1).only fun k M2 => (gv Γ1 M2).only fun v M3 => match putKV ks vs k v with
        | some r => gDcI gg gt gk gv Γ ds r.1 r.2 M3
        | none => .bad
      else gDcI gg gt gk gv Γ ds ks vs M1
def gDcO (gg : GG) (gt : GT) (gi1 : GI) (gg1 : GG) (gt1 : GT) (gk gv : GE) (vs1 : List Nat) (Γ : Env) : List D → List D → List D → List MO → R D
  | [], ks, vs, M => .ok (.dct ks vs) M
  | d :: ds, ks, vs, M => match gg d Γ with
    | none => .bad
    | some Γ1 => (gt Γ1 M).only fun b M1 => if b = true then (gi1 Γ1 M1).only fun ds1 M2 => (gDcI gg1 gt1 gk gv (forget Γ1 vs1) ds1 ks vs M2).only fun r M3 => gDcO gg gt gi1 gg1 gt1 gk gv vs1 Γ ds r.1 r.2 M3
      else gDcO gg gt gi1 gg1 gt1 gk gv vs1 Γ ds ks vs M1
def gDc2 (gi : GI) (gg : GG) (gt : GT) (gi1 : GI) (gg1 : GG) (gt1 : GT) (gk gv : GE) (own vs1 : List Nat) : GE := fun Γ M => (gi Γ M).bind fun ds M1 => gDcO gg gt gi1 gg1 gt1 gk gv vs1 (forget Γ own) ds [] [] M1
section
variable {X : Cx} {C : CT} {W : WX}
section
variable {kx vx tg iter tg1 iter1 : Expr} {ifs ifs1 : List Expr} {scope : Scope} {own : List (Str × Nat)} {pos spos py : Pos} {gi gi1 : GI} {gg gg1 : GG} {gt gt1 : GT} {gk gv : GE} {is is1 ixs vs1 : List Nat}
end
end
@[simp] theorem u_gDc2 (gi : GI) (gg : GG) (gt : GT) (gi1 : GI) (gg1 : GG) (gt1 : GT) (gk gv : GE) (own vs1 : List Nat) (Γ : Env) (M : List MO) : gDc2 gi gg gt gi1 gg1 gt1 gk gv own vs1 Γ M = (gi Γ M).bind fun ds M1 => gDcO gg gt gi1 gg1 gt1 gk gv vs1 (forget Γ own) ds [] [] M1 := Eq.trans rfl rfl
@[simp] theorem u_gDc (gi : GI) (gg : GG) (gt : GT) (gk gv : GE) (own : List Nat) (Γ : Env) (M : List MO) : gDc gi gg gt gk gv own Γ M = (gi Γ M).bind fun ds M1 => gDcL gg gt gk gv (forget Γ own) ds [] [] M1 := Eq.trans rfl rfl
end Bk

set_option Elab.async false
set_option linter.all false
set_option maxRecDepth 100000
set_option maxHeartbeats 4000000
namespace Bk
open PySem PySem.Spec PyProof.Rows L2
/-! ### sum(d.values()) -/
def gSumV (ge : GE) : GE := fun Γ M => (ge Γ M).bind fun d M1 => opR (match d with
  | .dct _ vs => (intsD vs).map fun is => .int is.sum
  | _ => none) M1
@[simp] theorem u_gSumV (ge : GE) (Γ : Env) (M : List MO) : gSumV ge Γ M = (ge Γ M).bind fun d M1 => opR (match d with
  | .dct _ vs => (intsD vs).map fun is => .int is.sum
  | _ => none) M1 := Eq.trans rfl rfl
end Bk

set_option Elab.async false
set_option linter.all false
set_option maxRecDepth 100000
set_option maxHeartbeats 4000000
namespace Bk
open PySem PySem.Spec PyProof.Rows L2
/-! ### a new thing of ours, from a thing that is neither frozen nor ours -/
section
variable {K : PySem.W.Frag} {H Z : Hp} {ι : Nat → Addr} {M : List MO} {p : Addr}
end
/-! ### dict displays -/
section
variable {X : Cx} {C : CT} {W : WX} {pos : Pos}
def gDct0 : GE := fun _ M => .ok (.dct [] []) M
def gDct0O : GE := fun _ M => .ok (.ref M.length) (M ++ [.dct [] []])
def gDki0O : GE := fun _ M => .ok (.ref M.length) (M ++ [.dki []])
theorem ref_new {K : PySem.W.Frag} {Z : Hp} {ι : Nat → Addr} {M : List MO} {p : Addr} {o : MO} : Rp K Z (put ι M.length p) (M ++ [o]).length (.ref M.length) (.ref p) := by
  have q : Rp K Z (put ι M.length p) (M ++ [o]).length (.ref M.length) (.ref (put ι M.length p M.length)) := .ref (by simp)
  rw [put_at] at q
  exact q
theorem qe_dki0O : QE X C W (.Dict [] [] pos) gDki0O := ⟨_, pe_dnewK, fun σ H Z ι Γ M Q sl hr h p hp => by
  obtain ⟨hr1, e1⟩ := hr.ownedG (o' := .dki []) (ho := .dK []) hp (by simp) ⟨[], upd_same, rfl, .nil⟩
  exact h _ _ _ _ e1 hr1 ref_new⟩
def okKey (k : D) : Bool := isTup k && match keyD k with
  | some nk => decide (nk.depth ≤ 8)
  | none => false
def gDisp1 (ga gb : GE) : GE := fun Γ M => (ga Γ M).bind fun k M1 => (gb Γ M1).bind fun v M2 => if okKey k = true then .ok (.dct [k] [v]) M2 else .bad
def gDisp1O (ga gb : GE) : GE := fun Γ M => (ga Γ M).bind fun k M1 => (gb Γ M1).bind fun v M2 => if okKey k = true then .ok (.ref M2.length) (M2 ++ [.dct [k] [v]]) else .bad
@[simp] theorem u_gDct0 (Γ : Env) (M : List MO) : gDct0 Γ M = .ok (.dct [] []) M := Eq.trans rfl rfl
@[simp] theorem u_gDct0O (Γ : Env) (M : List MO) : gDct0O Γ M = .ok (.ref M.length) (M ++ [.dct [] []]) := Eq.trans rfl rfl
@[simp] theorem u_gDki0O (Γ : Env) (M : List MO) : gDki0O Γ M = .ok (.ref M.length) (M ++ [.dki []]) := Eq.trans rfl rfl
@[simp] theorem u_gDisp1 (ga gb : GE) (Γ : Env) (M : List MO) : gDisp1 ga gb Γ M = (ga Γ M).bind fun k M1 => (gb Γ M1).bind fun v M2 => if okKey k = true then .ok (.dct [k] [v]) M2 else .bad := Eq.trans rfl rfl
@[simp] theorem u_gDisp1O (ga gb : GE) (Γ : Env) (M : List MO) : gDisp1O ga gb Γ M = (ga Γ M).bind fun k M1 => (gb Γ M1).bind fun v M2 => if okKey k = true then .ok (.ref M2.length) (M2 ++ [.dct [k] [v]]) else .bad := Eq.trans rfl rfl
end
end Bk

set_option Elab.async false
set_option linter.all false
set_option maxRecDepth 100000
set_option maxHeartbeats 4000000
namespace Bk
open PySem PySem.Spec PyProof.Rows L2
/-! ### tuples that are known to have no dict -/
section
variable {X : Cx} {C : CT} {W : WX} {pos : Pos}
def gTup0P : GE := fun _ M => .ok (.ptu []) M
theorem After.ptu {H Z : Hp} {ι : Nat → Addr} {M : List MO} {ds : List D} {Q : VK} {xs : List V} (h : After X H Z ι M (.ptu ds) Q) (hr : HR X.K H Z ι M) (r : Rps X.K Z ι M.length ds xs) : ∀ (p : Addr) (o : Obj), H p = none → o.dict = none → Q (.ref p) (upd H p (.frz o (.tup xs))) := fun p o hp ho => by
  obtain ⟨h1, e1⟩ := hr.frozen (o := .frz o (.tup xs)) hp
  exact h _ _ _ e1 h1 (.ptu ⟨o, upd_same, ho⟩ (r.ext e1))
end
/-! ### sorted, pairs of ints -/
def duoD (p : Int × Int) : D := .tup [.int p.1, .int p.2]
def pairsOf : List D → Option (List (Int × Int))
  | [] => some []
  | .tup [.int a, .int b] :: ds => (pairsOf ds).map ((a, b) :: ·)
  | _ => none
@[simp] theorem pairsOf_map (ps : List (Int × Int)) : pairsOf (ps.map duoD) = some ps := by
  induction ps with
  | nil => rfl
  | cons p ps ih => simp [pairsOf, duoD] at ih ⊢; exact ih
section
variable {X : Cx}
end
@[simp] theorem u_gTup0P (Γ : Env) (M : List MO) : gTup0P Γ M = .ok (.ptu []) M := Eq.trans rfl rfl
end Bk

set_option Elab.async false
set_option linter.all false
set_option maxRecDepth 100000
set_option maxHeartbeats 4000000
namespace Bk
open PySem PySem.Spec PyProof.Rows L2
/-! ### dicts of ours with whole numbers as keys -/
def kiGet : List (Int × D) → Int → Option D
  | [], _ => none
  | p :: r, i => if p.1 = i then some p.2 else kiGet r i
def kiHas : List (Int × D) → Int → Bool
  | [], _ => false
  | p :: r, i => decide (p.1 = i) || kiHas r i
def kiRep : List (Int × D) → Int → D → List (Int × D)
  | [], _, _ => []
  | p :: r, i, d => (if p.1 = i then (p.1, d) else p) :: kiRep r i d
def kiPut (kvs : List (Int × D)) (i : Int) (d : D) : List (Int × D) := if kiHas kvs i = true then kiRep kvs i d else kvs ++ [(i, d)]
/-- the entries as they stand -/
inductive KiR (K : PySem.W.Frag) (Z : Hp) (ι : Nat → Addr) (n : Nat) : List (Int × D) → List (L2.Key × V) → Prop
  | nil : KiR K Z ι n [] []
  | cons {i : Int} {d : D} {v : V} {ks : List (Int × D)} {gs : List (L2.Key × V)} : Rp K Z ι n d v → KiR K Z ι n ks gs → KiR K Z ι n ((i, d) :: ks) ((Sum.inl i, v) :: gs)
section
variable {K : PySem.W.Frag} {Z : Hp} {ι : Nat → Addr} {n : Nat}
theorem KiR.of : ∀ {ks : List (Int × D)} {gs : List (L2.Key × V)}, gs.map (·.1) = ks.map (fun p => Sum.inl p.1) → Rps K Z ι n (ks.map (·.2)) (gs.map (·.2)) → KiR K Z ι n ks gs
  | [], [], _, _ => .nil
  | [], g :: gs, h, _ => by simp at h
  | k :: ks, [], h, _ => by simp at h
  | (i, d) :: ks, (j, v) :: gs, h, r => by
    simp only [List.map_cons, List.cons.injEq] at h
    obtain ⟨rfl, h2⟩ := h
    simp only [List.map_cons] at r
    cases r with
    | cons r1 r2 => exact .cons r1 (KiR.of h2 r2)
theorem KiR.back : ∀ {ks : List (Int × D)} {gs : List (L2.Key × V)}, KiR K Z ι n ks gs → gs.map (·.1) = ks.map (fun p => Sum.inl p.1) ∧ Rps K Z ι n (ks.map (·.2)) (gs.map (·.2)) ∧ Rps K Z ι n (ks.map fun p => .int p.1) (gs.map fun p => kV p.1) ∧ ks.length = gs.length
  | _, _, .nil => ⟨rfl, .nil, .nil, rfl⟩
  | _, _, .cons r s => by
    obtain ⟨a, b, c, d⟩ := s.back
    exact ⟨by simp [a], .cons r b, .cons (.int _) c, by simp [d]⟩
theorem KiR.get (i : Int) : ∀ {ks : List (Int × D)} {gs : List (L2.Key × V)}, KiR K Z ι n ks gs → (match kiGet ks i with
    | some d => ∃ v, valV gs (Sum.inl i) = some v ∧ Rp K Z ι n d v
    | none => valV gs (Sum.inl i) = none)
  | _, _, .nil => rfl
  | _, _, .cons (i := j) (d := d) (v := v) r s => by
    by_cases e : j = i
    · subst e
      simp only [kiGet, if_true]
      exact ⟨v, valV_pos rfl, r⟩
    · have ne : ¬ ((Sum.inl j : L2.Key) = Sum.inl i) := fun z => e (Sum.inl.inj z)
      simp only [kiGet, if_neg e]
      have ih := s.get i
      rw [valV_neg (p := ((Sum.inl j : L2.Key), v)) ne]
      exact ih
theorem KiR.has (i : Int) : ∀ {ks : List (Int × D)} {gs : List (L2.Key × V)}, KiR K Z ι n ks gs → (gs.any fun kv => decide (kv.1 = Sum.inl i)) = kiHas ks i
  | _, _, .nil => rfl
  | _, _, .cons (i := j) r s => by
    rw [List.any_cons, s.has i]
    have : (decide ((Sum.inl j : L2.Key) = Sum.inl i)) = decide (j = i) := by
      rw [decide_eq_decide]
      exact ⟨fun z => Sum.inl.inj z, fun z => by rw [z]⟩
    rw [this]
    rfl
theorem KiR.rep (i : Int) {d : D} {v : V} (rv : Rp K Z ι n d v) : ∀ {ks : List (Int × D)} {gs : List (L2.Key × V)}, KiR K Z ι n ks gs → KiR K Z ι n (kiRep ks i d) (gs.map fun kv => if kv.1 = Sum.inl i then (kv.1, v) else kv)
  | _, _, .nil => .nil
  | _, _, .cons (i := j) (v := w) r s => by
    have ih := s.rep i rv
    by_cases e : j = i
    · subst e
      simp only [kiRep, List.map_cons, if_true]
      exact .cons rv ih
    · have ne : ¬ ((Sum.inl j : L2.Key) = Sum.inl i) := fun z => e (Sum.inl.inj z)
      simp only [kiRep, List.map_cons, if_neg e, if_neg ne]
      exact .cons r ih
theorem KiR.snoc {i : Int} {d : D} {v : V} (rv : Rp K Z ι n d v) : ∀ {ks : List (Int × D)} {gs : List (L2.Key × V)}, KiR K Z ι n ks gs → KiR K Z ι n (ks ++ [(i, d)]) (gs ++ [(Sum.inl i, v)])
  | _, _, .nil => .cons rv .nil
  | _, _, .cons r s => .cons r (s.snoc rv)
theorem KiR.put (i : Int) {d : D} {v : V} (rv : Rp K Z ι n d v) {ks : List (Int × D)} {gs : List (L2.Key × V)} (h : KiR K Z ι n ks gs) : KiR K Z ι n (kiPut ks i d) (putK gs (Sum.inl i) v) := by
  unfold kiPut putK
  rw [h.has i]
  by_cases c : kiHas ks i = true
  · rw [if_pos c, if_pos c]
    exact h.rep i rv
  · rw [if_neg c, if_neg c]
    exact h.snoc rv
def kiMerge (kvs more : List (Int × D)) : List (Int × D) := more.foldl (fun acc p => kiPut acc p.1 p.2) kvs
theorem KiR.mono {Z' : Hp} {ι' : Nat → Addr} {n' : Nat} (hz : Sub Z Z') (hi : ∀ k, k < n → ι' k = ι k) (hn : n ≤ n') : ∀ {ks : List (Int × D)} {gs : List (L2.Key × V)}, KiR K Z ι n ks gs → KiR K Z' ι' n' ks gs
  | _, _, .nil => .nil
  | _, _, .cons r s => .cons (Rp.mono hz hi hn _ _ r) (s.mono hz hi hn)
end
/-! ### dict(t), t a tuple of pairs -/
section
variable {X : Cx}
end
end Bk

set_option Elab.async false
set_option linter.all false
set_option maxRecDepth 100000
set_option maxHeartbeats 4000000
namespace Bk
open PySem PySem.Spec PyProof.Rows L2
/-! ### dict(t) as a dict of ours -/
def kiOf : List D → Option (List (Int × D))
  | [] => some []
  | .tup [.int i, d] :: ds => (kiOf ds).map ((i, d) :: ·)
  | _ => none
@[simp] theorem kiOf_map (ps : List (Int × D)) : kiOf (ps.map fun p => .tup [.int p.1, p.2]) = some ps := by
  induction ps with
  | nil => rfl
  | cons p ps ih => simp [kiOf, ih]
def gDictT (ge : GE) : GE := fun Γ M => (ge Γ M).bind fun x M1 => match x with
  | .ptu ds => match kiOf ds with
    | some kvs => .ok (.ref M1.length) (M1 ++ [.dki (kiMerge [] kvs)])
    | none => .bad
  | _ => .bad
def gGetK (go gk gx : GE) : GE := fun Γ M => (go Γ M).bind fun x M1 => match x with
  | .ref k => match M1[k]? with
    | some (.dki _) => (gk Γ M1).bind fun y M2 => (gx Γ M2).bind fun z M3 => match y, M3[k]? with
      | .int i, some (.dki kvs) => .ok ((kiGet kvs i).getD z) M3
      | _, _ => .bad
    | _ => .bad
  | _ => .bad
section
variable {X : Cx} {C : CT} {W : WX}
theorem dki_there {H Z : Hp} {ι : Nat → Addr} {M : List MO} (hr : HR X.K H Z ι M) {k : Nat} {kvs : List (Int × D)} (h : M[k]? = some (.dki kvs)) : ∃ gs, H (ι k) = some (.dK gs) ∧ KiR X.K Z ι M.length kvs gs := by
  obtain ⟨gs, h1, h2, h3⟩ := hr.obj k _ h
  exact ⟨gs, h1, KiR.of h2 h3⟩
theorem qe_getK {o e e2 : Expr} {go gk gx : GE} {apos cpos : Pos} (hu : X.A.units + 1 < cLine) (ho : QE X C W o go) (hk : QE X C W e gk) (hx : QE X C W e2 gx) (m : M2 X o "get" apos e e2 cpos := by exact ⟨rfl, rfl, rfl, rfl⟩) :
    QE X C W (.Call (.Attribute o "get" apos) [e, e2] [] cpos) (gGetK go gk gx) := by
  obtain ⟨ta, pa, qa⟩ := ho
  obtain ⟨tb, pb, qb⟩ := hk
  obtain ⟨tc, pc, qc⟩ := hx
  refine ⟨_, pe_dget2 hu pa pb pc m, fun σ H Z ι Γ M Q sl hr h => qa σ H Z ι Γ M _ sl hr (h.bind fun x M1 v H1 Z1 ι1 e1 hr1 r1 h1 => ?_)⟩
  cases r1 with
  | ref hk =>
    rename_i k
    simp only at h1
    cases ek : M1[k]? with
    | none => rw [ek] at h1; exact h1.elim
    | some o =>
      rw [ek] at h1
      cases o with
      | dki kvs =>
        obtain ⟨gs, d1, d2⟩ := dki_there hr1 ek
        refine ⟨_, rfl, .inl ⟨gs, .inl d1⟩, qb σ H1 Z1 ι1 Γ M1 _ (sl.ext e1) hr1 (Post.bind h1 fun y M2 u H2 Z2 ι2 e2 hr2 r2 h2 => qc σ H2 Z2 ι2 Γ M2 _ ((sl.ext e1).ext e2) hr2 (h2.bind fun z M3 uz H3 Z3 ι3 e3 hr3 r3 h3 => ?_))⟩
        have r2' := r2.ext e3
        cases r2' with
        | int i =>
          have h3 : Post X C W (rpE X.K) σ H3 Z3 ι3 M3 (match M3[k]? with
            | some (.dki kvs) => .ok ((kiGet kvs i).getD z) M3
            | _ => .bad) Q := by
            cases ek3 : M3[k]? with
            | none => rw [ek3] at h3; exact h3
            | some o3 => rw [ek3] at h3; cases o3 <;> exact h3
          cases ek3 : M3[k]? with
          | none => rw [ek3] at h3; exact h3.elim
          | some o3 =>
            rw [ek3] at h3
            cases o3 with
            | dki kvs3 =>
              obtain ⟨gs3, f1, f2⟩ := dki_there hr3 ek3
              have ei : ι3 k = ι1 k := (e3.ii k (Nat.lt_of_lt_of_le hk e2.ln)).trans (e2.ii k hk)
              rw [ei] at f1
              refine ⟨_, DGet.k (k := Sum.inl i) f1, ?_⟩
              have g := f2.get i
              have h4 : Post X C W (rpE X.K) σ H3 Z3 ι3 M3 (.ok ((kiGet kvs3 i).getD z) M3) Q := h3
              generalize kiGet kvs3 i = og at g h4
              cases og with
              | none =>
                have g : valV gs3 (Sum.inl i) = none := g
                rw [g]
                exact h4 _ H3 Z3 ι3 .refl hr3 r3
              | some d =>
                obtain ⟨w, g1, g2⟩ := g
                rw [g1]
                exact h4 _ H3 Z3 ι3 .refl hr3 g2
            | _ => exact h3.elim
        | _ => exact h3.elim
      | _ => exact h1.elim
  | _ => exact h1.elim
/-! ### d[k] = v -/
theorem PSet.or {t t' : TSet} (h : PSet X t) (h' : PSet X t') : PSet X (fun o i v H Q => t o i v H Q ∨ t' o i v H Q) := by
  intro pins s σ H o i v ov iv u Q I ro ri rv q
  rcases q with q | q
  · exact h pins s σ H o i v ov iv u Q I ro ri rv q
  · exact h' pins s σ H o i v ov iv u Q I ro ri rv q
def rSetN (K : PySem.W.Frag) : TSet := fun o i v H Q => ∃ (D b : Addr) (es : Array DictEntry) (ep : Nat) (nks nks' : List NestedKey) (ks vs : List V) (k : NestedKey), o = .ref D ∧ (D == sysModules) = false ∧ i = .ref b ∧ H D = some (dnO D es ep) ∧ AllRef ks ∧ ks.length ≤ sizeLine ∧ Ents K H nks ks vs es.toList ∧ nks.Nodup ∧ KeyVs K H nks' ks ∧ vs.length < sizeLine ∧ KeyV K H k (.ref b) ∧ k.depth ≤ 8 ∧
    ∀ (es' : Array DictEntry) (ep' : Nat) (r : Value) (hs : Int), RelV v r → (∀ w : World, hs = k.hash w) → nks = nks' → (match posK k nks with
      | some i => es'.toList = setV r i es.toList
      | none => es'.toList = es.toList ++ [⟨hs, .ref b, r⟩]) → Q (upd H D (dnO D es' ep'))
theorem set_dctN (hu : X.A.units + 1 + 8 < cLine) : PSet X (rSetN X.K) := by
  intro pins s σ H o i v ov iv u Q I ro ri rv q
  obtain ⟨D, b, es, ep, nks, nks', ks, vs, k, rfl, hs, rfl, hD, hrf, hl, he, hn, hkv, hz, hk, hd, hq⟩ := q
  have en : nks = nks' := ExD.keys I (a := D) (vs := vs) ⟨es, ep, hD, hs, hl, hn, he⟩ hkv
  obtain rfl : ov = Value.ref D := ro
  obtain rfl : iv = Value.ref b := ri
  obtain ⟨xs, e1, e2, e3, e4, e5⟩ := Ents.trip I he hrf
  obtain ⟨⟨o, ho, hx, hdat⟩, _, _⟩ := I.hok D _ hD
  have nd : (xs.map (·.1)).Nodup := by rw [e2]; exact hn
  have dd : s.heap.DictOfH (NK X) D xs := ⟨o, es, ep, ho, hx, hdat, e1, e3, nd⟩
  have hkey : (NK X).is s.heap k b := ⟨KeyV.is I k _ _ hk rfl, hd⟩
  refine wpAny_setItem_heap (show (NK X).room X.A.in1 from hu) hkey dd (fun h' dd' sb => ?_) (by omega)
  obtain ⟨o', es', ep', ho', hx', hdat', e1', _, _⟩ := dd'
  have ok : ObjOk X.prog X.w (upd H D (dnO D es' ep')) h' D (dnO D es' ep') := ⟨⟨o', ho', hx', hdat'⟩, ⟨o', ho'⟩, fun h1 h2 ⟨u, hu1, hu2, hu3⟩ hk => ⟨u, hk u hu1, hu2, hu3⟩⟩
  refine ⟨_, d_write I (by rw [hD]; exact True.intro) sb ⟨o', ho'⟩ ok, hq es' ep' u (k.hash X.w) rv (fun w => KeyV.free k _ hk X.w w) en ?_⟩
  cases p : posK k nks with
  | none =>
    have nk : k ∉ xs.map (·.1) := by rw [e2]; exact posK_none p
    rw [storedH_new (atKey_none nk), List.map_append, ← e1] at e1'
    exact e1'
  | some i =>
    have hi := posK_at p
    rw [← e2] at hi
    obtain ⟨x, hx1⟩ : ∃ x, xs[i]? = some x := by
      rw [List.getElem?_map] at hi
      cases hxx : xs[i]? with
      | none => rw [hxx] at hi; cases hi
      | some x => exact ⟨x, rfl⟩
    have kx : x.1 = k := by rw [List.getElem?_map, hx1] at hi; exact Option.some.inj hi
    have ak := atKey_at nd hx1
    rw [kx] at ak
    rw [storedH_old ak, put_old nd hi, ← e1] at e1'
    exact e1'
def rSetK : TSet := fun o i v H Q => ∃ (a : Addr) (kvs : List (L2.Key × V)) (k : L2.Key), o = .ref a ∧ i = kV k ∧ H a = some (.dK kvs) ∧ kvs.length < sizeLine ∧ Q (upd H a (.dK (putK kvs k v)))
theorem set_dctK (hu : X.A.units + 1 < cLine) : PSet X rSetK := by
  intro pins s σ H o i v ov iv u Q I ro ri rv q
  obtain ⟨a, kvs, k, rfl, rfl, hD, hz, hq⟩ := q
  obtain rfl : ov = Value.ref a := ro
  exact d_setItem hu I (DPut.k hD hz) ri rv fun s' I' => ⟨_, I', hq⟩
def setX (M : List MO) (o i v : D) : Option (List MO) := match o with
  | .ref k => match M[k]? with
    | some (.dct ks vs) => (putKV ks vs i v).bind fun r => if ks.all isTup = true then some (M.set k (.dct r.1 r.2)) else none
    | some (.dki kvs) => match i with
      | .int j => if kvs.length < sizeLine then some (M.set k (.dki (kiPut kvs j v))) else none
      | _ => none
    | _ => setR M o i v
  | _ => none
def gSetX (ge go gi : GE) : GS := fun Γ M => (ge Γ M).thenS Γ fun v M1 => (go Γ M1).thenS Γ fun o M2 => (gi Γ M2).thenS Γ fun i M3 => match setX M3 o i v with
  | some M4 => .nx Γ M4
  | none => .bad
theorem qs_setX {o i e : Expr} {go gi ge : GE} {pos spos : Pos} (hu : X.A.units + 1 + 8 < cLine) (he : QE X C W e ge) (ho : QE X C W o go) (hi : QE X C W i gi) (hs : swapsWithSole [Expr.Subscript o i spos] e pos.line X.env = pure false := by rfl) (hp : swappedStores [Expr.Subscript o i spos] e X.env = pure none := by rfl)
    (h1 : (assignEach [Expr.Subscript o i spos] X.env).map (·.2) = [assign (Expr.Subscript o i spos) X.env] := by rfl)
    (ha : ∀ v, assign (.Subscript o i spos) X.env v = (do let ov ← holding [v] (eval o X.env); let iv ← holding [v, ov] (eval i X.env); standAt spos; holding [v, ov, iv] (setItem ov iv v); release [v, ov, iv] []) := by intro _; rfl) :
    QS X C W (.Assign [.Subscript o i spos] e pos) (gSetX ge go gi) := by
  obtain ⟨te, pe, qe⟩ := he
  obtain ⟨to, po, qo⟩ := ho
  obtain ⟨ti, pi, qi⟩ := hi
  refine ⟨_, ps_asg pe (pg_sub po pi (PSet.or set_list (PSet.or (set_dctN hu) (set_dctK (by omega)))) ha) hs hp h1, fun Dd σ H Z ι Γ M sl hr h => qe σ H Z ι Γ M _ sl hr (PostS.bind h sl fun v M1 v' H1 Z1 ι1 e1 hr1 r1 h1 => qo σ H1 Z1 ι1 Γ M1 _ (sl.ext e1) hr1 (PostS.bind h1 (sl.ext e1) fun o M2 o' H2 Z2 ι2 e2 hr2 r2 h2 =>
    qi σ H2 Z2 ι2 Γ M2 _ ((sl.ext e1).ext e2) hr2 (PostS.bind h2 ((sl.ext e1).ext e2) fun i M3 i' H3 Z3 ι3 e3 hr3 r3 h3 => ?_)))⟩
  have ro := r2.ext e3
  have rv := (r1.ext e2).ext e3
  have sl3 := ((sl.ext e1).ext e2).ext e3
  cases es : setX M3 o i v with
  | none => rw [es] at h3; exact h3.elim
  | some M4 =>
    rw [es] at h3
    cases ro with
    | ref hk =>
      rename_i k
      unfold setX at es
      simp only at es
      have lists : setR M3 (.ref k) i v = some M4 → rSetL (.ref (ι3 k)) i' v' H3 (fun H' => Dd.nx σ H') := fun es => by
        unfold setR at es
        cases r3 with
        | int j =>
          simp only at es
          cases ek : M3[k]? with
          | none => rw [ek] at es; cases es
          | some u =>
            rw [ek] at es
            cases u with
            | lst ds =>
              simp only at es
              cases em : ixN ds.length j with
              | none => rw [em] at es; cases es
              | some m =>
                rw [em] at es
                cases es
                obtain ⟨xs, a1, a2⟩ := hr3.obj k _ ek
                obtain ⟨b1, b2⟩ := hr3.change ek (a2.set m rv)
                exact ⟨_, xs, j, m, rfl, rfl, a1, by rw [← a2.length]; exact em, h3 σ _ Z3 ι3 b2 b1 (sl3.ext b2)⟩
            | _ => cases es
        | _ => cases es
      cases ek : M3[k]? with
      | none => rw [ek] at es; exact .inl (lists es)
      | some u =>
        rw [ek] at es
        cases u with
        | dead => exact .inl (lists es)
        | lst ds => exact .inl (lists es)
        | obj nm fs => exact .inl (lists es)
        | dct ks vs =>
          simp only at es
          cases ep : putKV ks vs i v with
          | none => rw [ep] at es; cases es
          | some r =>
            rw [ep, Option.bind_some] at es
            by_cases ct : ks.all isTup = true
            · rw [if_pos ct] at es
              cases es
              refine .inr (.inl ?_)
              obtain ⟨nks, kx, xs, ⟨ens, eph, g1, g2, g3, g4, g5⟩, rk, rv0⟩ := hr3.obj k _ ek
              have hE : Ents X.K H3 nks kx xs ens.toList := g5.sub hr3.sub
              unfold putKV at ep
              cases e1' : keysD ks with
              | none => rw [e1'] at ep; cases ep
              | some nks' =>
                cases e2' : keyD i with
                | none => rw [e1', e2'] at ep; cases ep
                | some nk =>
                  rw [e1', e2'] at ep
                  simp only at ep
                  by_cases c : (isTup i && decide (nk.depth ≤ 8) && decide (vs.length < sizeLine)) = true
                  · rw [if_pos c] at ep
                    simp only [Bool.and_eq_true, decide_eq_true_eq] at c
                    obtain ⟨⟨c1, c2⟩, c3⟩ := c
                    have kvs' := keysD_run hr3.sub _ _ _ rk e1'
                    have kz := keyD_run (fun _ _ z => z) _ _ _ r3 e2'
                    have kh := keyD_run hr3.sub _ _ _ r3 e2'
                    have hrf := tups_ref rk ct
                    have hb : ∃ b, i' = .ref b := by
                      have : AllRef [i'] := tups_ref (X := X) (ks := [i]) (.cons r3 .nil) (by simp [c1])
                      exact this i' (by simp)
                    obtain ⟨b, rfl⟩ := hb
                    have hzv : vs.length = xs.length := rv0.length
                    refine ⟨ι3 k, b, ens, eph, nks, nks', kx, xs, nk, rfl, g2, rfl, g1, hrf, g3, hE, g4, kvs', by rw [← hzv]; exact c3, kh, c2, fun es' ep' rr' hs' hr' hf hsame hm => ?_⟩
                    subst hsame
                    have lkx := ents_len g5
                    cases q : posK nk nks with
                    | some m =>
                      rw [q] at ep hm
                      cases ep
                      have hm' : es'.toList = setV rr' m ens.toList := hm
                      obtain ⟨hr4, x4⟩ := hr3.changeG (o' := .dct ks (vs.set m v)) (ho := dnO (ι3 k) es' ep') ek (by simp) (by simp) ⟨nks, kx, xs.set m v', ⟨es', ep', upd_same, g2, g3, g4, by rw [hm']; exact g5.setv hr' m⟩, rk, rv0.set m rv⟩
                      exact h3 σ _ Z3 ι3 x4 hr4 (sl3.ext x4)
                    | none =>
                      rw [q] at ep hm
                      cases ep
                      have hm' : es'.toList = ens.toList ++ [⟨hs', .ref b, rr'⟩] := hm
                      obtain ⟨hr4, x4⟩ := hr3.changeG (o' := .dct (ks ++ [i]) (vs ++ [v])) (ho := dnO (ι3 k) es' ep') ek (by simp) (by simp) ⟨nks ++ [nk], kx ++ [.ref b], xs ++ [v'], ⟨es', ep', upd_same, g2, by rw [List.length_append, List.length_singleton]; omega, by
                        rw [List.nodup_append]
                        refine ⟨g4, by simp, fun x hx y hy => ?_⟩
                        have : y = nk := by simpa using hy
                        rw [this]
                        exact fun z => posK_none q (z ▸ hx), by rw [hm']; exact g5.snoc kz rfl c2 hf hr'⟩, rk.append (.cons r3 .nil), rv0.append (.cons rv .nil)⟩
                      exact h3 σ _ Z3 ι3 x4 hr4 (sl3.ext x4)
                  · rw [if_neg c] at ep; cases ep
            · rw [if_neg ct] at es; cases es
        | dki kvs =>
          simp only at es
          cases r3 with
          | int j =>
            simp only at es
            by_cases c : kvs.length < sizeLine
            · rw [if_pos c] at es
              cases es
              obtain ⟨gs, g1, g2⟩ := dki_there hr3 ek
              have gp := g2.put j rv
              obtain ⟨b1, b2, b3, b4⟩ := gp.back
              obtain ⟨_, _, _, bl⟩ := g2.back
              obtain ⟨hr4, x4⟩ := hr3.changeG (o' := .dki (kiPut kvs j v)) (ho := .dK (putK gs (Sum.inl j) v')) ek (by simp) (by simp) ⟨_, upd_same, b1, b2⟩
              exact .inr (.inr ⟨_, gs, Sum.inl j, rfl, rfl, g1, by rw [← bl]; exact c, h3 σ _ Z3 ι3 x4 hr4 (sl3.ext x4)⟩)
            · rw [if_neg c] at es; cases es
          | _ => cases es
    | _ => cases es
end
end Bk

set_option Elab.async false
set_option linter.all false
set_option maxRecDepth 100000
set_option maxHeartbeats 4000000
namespace Bk
open PySem PySem.Spec PyProof.Rows L2
/-! ### methods on the whole store -/
def gMethW (nm m : Str) (n : Nat) (F : List D → List MO → R D) (go : GE) (ga : GA) : GE := fun Γ M => (go Γ M).bind fun x M1 => if isObj nm m M1 x = true then (ga Γ M1).bind fun ds M2 => if ds.length + 1 = n then callW F (x :: ds) M2 else .bad else .bad
section
variable {X : Cx} {C : CT} {W : WX} {e o : Expr} {nm f m x : Str} {ge go : GE} {gs : GA} {pos apos pos' p : Pos} {C0 : Addr} {es : List Expr}
variable {k n : Nat} {fa : Addr} {fd : FuncData} {ps : List Str} {F : List D → List MO → R D} {pl : Sem Bool}
end
@[simp] theorem u_gMethW (nm m : Str) (n : Nat) (F : List D → List MO → R D) (go : GE) (ga : GA) (Γ : Env) (M : List MO) : gMethW nm m n F go ga Γ M = (go Γ M).bind fun x M1 => if isObj nm m M1 x = true then (ga Γ M1).bind fun ds M2 => if ds.length + 1 = n then callW F (x :: ds) M2 else .bad else .bad := Eq.trans rfl rfl
/-! ### for k, v in d.items() of a dict of ours with whole numbers as keys; it is not used any more -/
def gItemsK (ge : GE) : GI := fun Γ M => (ge Γ M).bind fun x M1 => match x with
  | .ref k => match M1[k]? with
    | some (.dki kvs) => .ok (kvs.map fun p => .tup [.int p.1, p.2]) (M1.set k .dead)
    | _ => .bad
  | _ => .bad
@[simp] theorem u_gItemsK (ge : GE) (Γ : Env) (M : List MO) : gItemsK ge Γ M = (ge Γ M).bind fun x M1 => match x with
  | .ref k => match M1[k]? with
    | some (.dki kvs) => .ok (kvs.map fun p => .tup [.int p.1, p.2]) (M1.set k .dead)
    | _ => .bad
  | _ => .bad := Eq.trans rfl rfl
@[simp] theorem u_gDictT (ge : GE) (Γ : Env) (M : List MO) : gDictT ge Γ M = (ge Γ M).bind fun x M1 => match x with
  | .ptu ds => match kiOf ds with
    | some kvs => .ok (.ref M1.length) (M1 ++ [.dki (kiMerge [] kvs)])
    | none => .bad
  | _ => .bad := Eq.trans rfl rfl
@[simp] theorem u_gGetK (go gk gx : GE) (Γ : Env) (M : List MO) : gGetK go gk gx Γ M = (go Γ M).bind fun x M1 => match x with
  | .ref k => match M1[k]? with
    | some (.dki _) => (gk Γ M1).bind fun y M2 => (gx Γ M2).bind fun z M3 => match y, M3[k]? with
      | .int i, some (.dki kvs) => .ok ((kiGet kvs i).getD z) M3
      | _, _ => .bad
    | _ => .bad
  | _ => .bad := Eq.trans rfl rfl
@[simp] theorem u_gSetX (ge go gi : GE) (Γ : Env) (M : List MO) : gSetX ge go gi Γ M = (ge Γ M).thenS Γ fun v M1 => (go Γ M1).thenS Γ fun o M2 => (gi Γ M2).thenS Γ fun i M3 => match setX M3 o i v with
  | some M4 => .nx Γ M4
  | none => .bad := Eq.trans rfl rfl
end Bk

set_option Elab.async false
set_option linter.all false
set_option maxRecDepth 100000
set_option maxHeartbeats 4000000
namespace Bk
open PySem PySem.Spec PyProof.Rows L2
theorem room7 {k : Nat} {A : Around} (hr : Room k A) : A.units + 8 < cLine := by have := hr.un; omega
theorem room6 {k : Nat} {A : Around} (hr : Room k A) : A.units + 1 < cLine := by have := hr.un; omega
@[simp] theorem rr_ptu (m : Nat) (M : List MO) (ds : List D) : retR m M (.ptu ds) = if belows m ds = true then .ok (.ptu ds) (M.take m) else .bad := Eq.trans rfl rfl
@[simp] theorem rr_dct (m : Nat) (M : List MO) (ks vs : List D) : retR m M (.dct ks vs) = if (belows m ks && belows m vs) = true then .ok (.dct ks vs) (M.take m) else .bad := Eq.trans rfl rfl
@[simp] theorem bl_ptu (m : Nat) (ds : List D) : below m (.ptu ds) = belows m ds := Eq.trans rfl rfl
@[simp] theorem bl_dct (m : Nat) (ks vs : List D) : below m (.dct ks vs) = (belows m ks && belows m vs) := Eq.trans rfl rfl
@[simp] theorem blo_dct (m : Nat) (ks vs : List D) : belowO m (.dct ks vs) = (belows m ks && belows m vs) := Eq.trans rfl rfl
@[simp] theorem blo_dki (m : Nat) (kvs : List (Int × D)) : belowO m (.dki kvs) = belows m (kvs.map (·.2)) := Eq.trans rfl rfl
@[simp] theorem it_ptu (M : List MO) (ds : List D) : itemsD M (.ptu ds) = some ds := Eq.trans rfl rfl
@[simp] theorem e_lenNd (M : List MO) (ks vs : List D) : dLenN M (.dct ks vs) = some (.int (vs.length : Nat)) := Eq.trans rfl rfl
@[simp] theorem dn_dct (M : List MO) (ks vs : List D) : dctD M (.dct ks vs) = some (ks, vs) := Eq.trans rfl rfl
@[simp] theorem u_runW (n : Nat) (g : GS) (ds : List D) (M : List MO) : runW n g ds M = finW (g (ds.map some ++ List.replicate (n - ds.length) none) M) := Eq.trans rfl rfl
@[simp] theorem u_callW (F : List D → List MO → R D) (ds : List D) (M : List MO) : callW F ds M = F ds M := Eq.trans rfl rfl
@[simp] theorem seqD_p (ds : List D) : seqD (.ptu ds) = some ds := Eq.trans rfl rfl
end Bk

set_option Elab.async false
set_option linter.all false
set_option maxRecDepth 100000
set_option maxHeartbeats 4000000
namespace Bk
open PySem PySem.Spec PyProof.Rows L2
/-! ### a, b = a list -/
def gToL (gs : GGs) : GG := fun d Γ => match d with
  | .lst ds => gs ds Γ
  | _ => none
section
variable {X : Cx} {es : List Expr} {gs : GGs} {is : List Nat} {pos : Pos}
end
@[simp] theorem u_gToL (gs : GGs) (ds : List D) (Γ : Env) : gToL gs (.lst ds) Γ = gs ds Γ := Eq.trans rfl rfl
end Bk

set_option Elab.async false
set_option linter.all false
set_option maxRecDepth 100000
set_option maxHeartbeats 4000000
namespace Bk
open PySem PySem.Spec PyProof.Rows L2
/-! ### {"a": "b", "c": "d"}[e] -/
def gStrM (a b c d : Str) (ge : GE) : GE := fun Γ M => (ge Γ M).bind fun x M1 => match x with
  | .str s => if s = a then .ok (.str b) M1 else if s = c then .ok (.str d) M1 else .bad
  | _ => .bad
section
variable {X : Cx} {C : CT} {W : WX} {e : Expr} {ge : GE} {pos dp p1 p2 p3 p4 : Pos}
@[simp] theorem u_gStrM (a b c d : Str) (ge : GE) (Γ : Env) (M : List MO) : gStrM a b c d ge Γ M = (ge Γ M).bind fun x M1 => match x with
  | .str s => if s = a then .ok (.str b) M1 else if s = c then .ok (.str d) M1 else .bad
  | _ => .bad := Eq.trans rfl rfl
end
end Bk

set_option Elab.async false
set_option linter.all false
set_option maxRecDepth 100000
set_option maxHeartbeats 2000000
namespace Bk
open PySem PySem.Spec PyProof.Rows L2
/-! ### t < u, t > u of tuples of ints; sorted of a list of them -/
theorem canLay_ints : ∀ is : List Int, toPs (is.map D.int) = some (is.map PyData.int)
  | [] => rfl
  | i :: is => by simp [toPs, toP, canLay_ints is]
theorem toP_ints (is : List Int) : toP (.tup (is.map D.int)) = some (.tuple (is.map .int)) := by simp [toP, canLay_ints is]
theorem alike_tups (a b : List Int) : PySem.W.alike (.tuple (a.map .int)) (.tuple (b.map .int)) = true := by
  rw [PySem.W.alike]
  exact PySem.W.alike_ints a b
theorem depth_tups (a : List Int) : (PyData.tuple (a.map .int)).depth = 1 := by
  simp [PyData.depth, PySem.W.depth_ints a]
theorem lt_tups (a b : List Int) : PySem.W.dataLt (.tuple (a.map .int)) (.tuple (b.map .int)) = decide (a < b) := by
  rw [PySem.W.dataLt_tuple]
  exact PySem.W.dataLt_ints a b
theorem intsL_is : ∀ {ds : List D} {is : List Int}, intsL ds = some is → ds = is.map D.int
  | [], _, h => by cases h; rfl
  | d :: ds, is, h => by
    cases d with
    | int i =>
      have h' : (intsL ds).map (fun is => i :: is) = some is := h
      cases e : intsL ds with
      | none => rw [e] at h'; cases h'
      | some js =>
        rw [e] at h'
        cases h'
        rw [List.map_cons, ← intsL_is e]
    | _ => cases h
def dLtA (M : List MO) (x y : D) : Option D := match x, y with
  | .tup xs, .tup ys => match intsL xs, intsL ys with
    | some ns, some ms => some (.bl (decide (ns < ms)))
    | _, _ => none
  | x, y => dLt M x y
def dGtA (M : List MO) (x y : D) : Option D := match x, y with
  | .tup xs, .tup ys => match intsL xs, intsL ys with
    | some ns, some ms => some (.bl (decide (ms < ns)))
    | _, _ => none
  | x, y => dGt M x y
def rGtD (K : PySem.W.Frag) : R2 := fun x y H Q => ∃ ns ms : List Int, Dp K H x (.tuple (ns.map .int)) ∧ Dp K H y (.tuple (ms.map .int)) ∧ Q (.bl (decide (ms < ns))) H
section
variable {X : Cx}
theorem op_gtD (hu : X.A.units + 65 < cLine) : OpR X (compareOp .Gt) (rGtD X.K) := by
  intro pins s σ H x y v u Q I rx ry h
  obtain ⟨ns, ms, h1, h2, q⟩ := h
  obtain ⟨as, r1⟩ := Dp.reads I _ _ _ h1 rx
  obtain ⟨bs, r2⟩ := Dp.reads I _ _ _ h2 ry
  refine PySem.W.gt_data r1 r2 (alike_tups ns ms) (by simp) (by rw [depth_tups, depth_tups]; omega) ?_
  rw [lt_tups]
  exact ⟨.bl _, H, I, rfl, q⟩
theorem op_gtA (hu : X.A.units + 65 < cLine) : OpR X (compareOp .Gt) (fun x y H Q => rGtD X.K x y H Q ∨ rI0 (fun i j => .bl (decide (j < i))) x y H Q) := (op_gtD hu).or op_gt
theorem ok_gtA : Ok2 X (fun x y H Q => rGtD X.K x y H Q ∨ rI0 (fun i j => .bl (decide (j < i))) x y H Q) dGtA := fun x y H Z ι M dx dy d Q hr rx ry e q => by
  unfold dGtA at e
  split at e
  · rename_i xs ys
    cases e1 : intsL xs with
    | none => rw [e1] at e; cases e
    | some ns =>
      cases e2 : intsL ys with
      | none => rw [e1, e2] at e; cases e
      | some ms =>
        rw [e1, e2] at e
        cases e
        have w1 := intsL_is e1
        have w2 := intsL_is e2
        subst w1 w2
        exact .inl ⟨ns, ms, toP_dp hr.sub _ _ _ rx (toP_ints ns), toP_dp hr.sub _ _ _ ry (toP_ints ms), q.now hr (.bl _)⟩
  · exact .inr (ok_gt x y H Z ι M dx dy d Q hr rx ry e q)
end
@[simp] theorem e_ltA_i (M : List MO) (i j : Int) : dLtA M (.int i) (.int j) = some (.bl (decide (i < j))) := Eq.trans rfl rfl
@[simp] theorem e_gtA_i (M : List MO) (i j : Int) : dGtA M (.int i) (.int j) = some (.bl (decide (j < i))) := Eq.trans rfl rfl
theorem room70 {k : Nat} {A : Around} (hr : Room k A) : A.units + 70 < cLine := by have := hr.un; omega
/-! sorted -/
abbrev tupI (is : List Int) : D := .tup (is.map D.int)
def rowsL : List D → Option (List (List Int))
  | [] => some []
  | .tup xs :: ds => match intsL xs with
    | some is => (rowsL ds).map fun rs => is :: rs
    | none => none
  | _ => none
theorem rowsL_map : ∀ rs : List (List Int), rowsL (rs.map tupI) = some rs
  | [] => rfl
  | r :: rs => by
    show (match intsL (r.map D.int) with
    | some is => (rowsL (rs.map tupI)).map fun rs => is :: rs
    | none => none) = _
    rw [intsL_map, rowsL_map rs]
    rfl
theorem rowsL_is : ∀ {ds : List D} {rs : List (List Int)}, rowsL ds = some rs → ds = rs.map tupI
  | [], _, h => by cases h; rfl
  | d :: ds, rs, h => by
    cases d with
    | tup xs =>
      have h' : (match intsL xs with
        | some is => (rowsL ds).map fun rs => is :: rs
        | none => none) = some rs := h
      cases e : intsL xs with
      | none => rw [e] at h'; cases h'
      | some is =>
        rw [e] at h'
        cases e2 : rowsL ds with
        | none => rw [e2] at h'; cases h'
        | some qs =>
          rw [e2] at h'
          cases h'
          rw [List.map_cons, ← rowsL_is e2]
          show D.tup xs :: ds = D.tup (is.map D.int) :: ds
          rw [← intsL_is e]
    | _ => cases h
def leR (p q : List Int) : Bool := decide (p ≤ q)
def srtR (rs : List (List Int)) : List (List Int) := rs.mergeSort leR
def srtOk (rs : List (List Int)) : Bool := decide (rs.length ≤ 1) || rs.all fun r => decide (r ≠ [])
theorem leR_data : PySem.W.dataLe false (fun b : List Int => .tuple (b.map .int)) = leR := by
  funext p q
  show (!PySem.W.dataLt (.tuple (q.map .int)) (.tuple (p.map .int))) = _
  rw [lt_tups]
  unfold leR
  by_cases h : q < p
  · have h' : ¬ p ≤ q := fun r => List.not_lt.mpr r h
    simp [h, h']
  · have h' : p ≤ q := List.not_lt.mp h
    simp [h, h']
section
variable {X : Cx}
theorem one_sorts {prog : Program} {w : World} {A : Around} {s : Shared} {v : Value} {r : List Int} {as : List Addr} (rd : Reads s.heap v (.tuple (r.map .int)) as) (hu : A.units + 65 < cLine) : PySem.W.SortsAt prog w A s (PySem.W.dataKind s.heap [.tuple (r.map .int)]) [v] := by
  have hal : PySem.W.AllAlike [PyData.tuple (r.map .int)] := fun d hd d' hd' => by
    rw [List.mem_singleton.mp hd, List.mem_singleton.mp hd']
    exact alike_tups r r
  refine ⟨fun u hu => ?_, PyProof.Rows.general', ?_, fun h2 => absurd h2 (by simp)⟩
  · rw [List.mem_singleton.mp hu]
    exact ⟨_, PySem.W.dataKind_some hal (List.mem_singleton.mpr rfl) rd⟩
  · intro E x y a b Q ha hb hq
    obtain ⟨d, as, hd, ra, rfl⟩ := PySem.W.dataKind_inv ha
    obtain ⟨d', as', hd', rb, rfl⟩ := PySem.W.dataKind_inv hb
    rw [List.mem_singleton.mp hd] at ra hq
    rw [List.mem_singleton.mp hd'] at rb hq
    have e : keyLt' general' x y = oneLt' false x y := rfl
    rw [e]
    exact PySem.W.oneLt_alike (fun h => by cases h) ra rb (alike_tups r r) (by simp) (by rw [depth_tups]; omega) hq
end
end Bk

set_option Elab.async false
set_option linter.all false
set_option maxRecDepth 100000
set_option maxHeartbeats 2000000
namespace Bk
open PySem PySem.Spec PyProof.Rows L2
/-! ### sum of a tuple of ints -/
def dSumT (M : List MO) (d : D) : Option D := match d with
  | .tup xs => (intsL xs).map fun is => .int is.sum
  | d => dSum M d
section
variable {X : Cx}
end
@[simp] theorem e_sumT_l (M : List MO) (l : List D) : dSumT M (.lst l) = dSum M (.lst l) := Eq.trans rfl rfl
@[simp] theorem e_sumT_r (M : List MO) (k : Nat) : dSumT M (.ref k) = dSum M (.ref k) := Eq.trans rfl rfl
end Bk

set_option Elab.async false
set_option linter.all false
set_option maxRecDepth 100000
set_option maxHeartbeats 2000000
namespace Bk
open PySem PySem.Spec PyProof.Rows L2
/-! ### a chain of three comparisons, as a test -/
def gChain3 (f f' f'' : List MO → D → D → Option D) (ga gb gc gd : GE) : GE := fun Γ M => (ga Γ M).bind fun x M1 => (gb Γ M1).bind fun y M2 => (opR (f M2 x y) M2).bind fun k M3 => match k with
  | .bl c => if c = true then (gc Γ M3).bind fun z M4 => (opR (f' M4 y z) M4).bind fun k' M5 => match k' with
      | .bl c' => if c' = true then (gd Γ M5).bind fun w M6 => opR (f'' M6 z w) M6 else .ok (.bl false) M5
      | _ => .bad
    else .ok (.bl false) M3
  | _ => .bad
@[simp] theorem u_gChain3 (f f' f'' : List MO → D → D → Option D) (ga gb gc gd : GE) (Γ : Env) (M : List MO) : gChain3 f f' f'' ga gb gc gd Γ M = ((ga Γ M).bind fun x M1 => (gb Γ M1).bind fun y M2 => (opR (f M2 x y) M2).bind fun k M3 => match k with
  | .bl c => if c = true then (gc Γ M3).bind fun z M4 => (opR (f' M4 y z) M4).bind fun k' M5 => match k' with
      | .bl c' => if c' = true then (gd Γ M5).bind fun w M6 => opR (f'' M6 z w) M6 else .ok (.bl false) M5
      | _ => .bad
    else .ok (.bl false) M3
  | _ => .bad) := Eq.trans rfl rfl
section
variable {X : Cx} {C : CT} {W : WX}
variable {a b c d : Expr} {ga gb gc gd : GE} {pos : Pos} {f f' f'' : List MO → D → D → Option D}
end
end Bk

set_option Elab.async false
set_option linter.all false
set_option maxRecDepth 100000
set_option maxHeartbeats 2000000
namespace Bk
open PySem PySem.Spec PyProof.Rows L2 HT
/-! ### t[::-1] of a tuple -/
section
variable {prog : Program} {w : World} {A : Around} {E : Value → Shared → Prop} {s : Shared}
theorem places_rev (n : Nat) : Builtin.Slice.slicePlaces ((n : Int) - 1) (-1) (-1) = n := by
  unfold Builtin.Slice.slicePlaces
  have h1 : ¬ ((-1 : Int) > 0) := by decide
  have h2 : (-(-1) : Int) = 1 := rfl
  rw [if_neg h1, h2, Int.ediv_one]
  split <;> omega
theorem adjust_rev (n : Nat) : Builtin.Slice.sliceAdjust none none (-1) (n : Int) = ((n : Int) - 1, -1) := by
  unfold Builtin.Slice.sliceAdjust
  rfl
theorem applied_rev {sl : Addr} {vs : Value} {n : Nat} {Q : Int × Int × Nat → Shared → Prop} (hs : s.heap.IsSliceOf sl .none .none vs) (ps : IsPart vs (some (-1)))
    (h : Q ((n : Int) - 1, -1, n) s) : wpAny (model prog w) A (Builtin.Slice.sliceApplied (.ref sl) (pure (n : Int))) Q E s := by
  obtain ⟨os, hos, hcs, hds⟩ := id hs
  unfold Builtin.Slice.sliceApplied Builtin.Slice.sliceFields
  refine wpAny_bind (wpAny_bind (wpAny_field hos hds (x := .none) rfl (wpAny_bind (wpAny_field hos hds (x := .none) rfl (wpAny_bind (wpAny_field hos hds (x := vs) rfl (wpAny_pure ?_)))))))
  refine wpAny_bind (slicePart_ ps ?_)
  show wpAny _ _ (if ((-1 : Int) == 0) = true then _ else _) _ _ s
  rw [if_neg (by decide)]
  refine wpAny_bind (slicePart_ .none (wpAny_bind (slicePart_ .none (wpAny_bind (wpAny_pure ?_)))))
  show wpAny _ _ (match Builtin.Slice.sliceAdjust none none (-1) (n : Int) with | (lo, hi) => pure (lo, (-1 : Int), Builtin.Slice.slicePlaces lo hi (-1))) _ _ s
  rw [adjust_rev n]
  show wpAny _ _ (pure ((n : Int) - 1, (-1 : Int), Builtin.Slice.slicePlaces ((n : Int) - 1) (-1) (-1))) _ _ s
  rw [places_rev]
  exact wpAny_pure h
theorem pick_rev (xs : Array Value) : ((List.range xs.size).filterMap fun (m : Nat) => xs[((xs.size : Int) - 1 + (m : Int) * (-1)).toNat]?).toArray = xs.toList.reverse.toArray := by
  have e : ∀ n : Nat, n = xs.size → (List.range n).filterMap (fun (m : Nat) => xs[((n : Int) - 1 + (m : Int) * (-1)).toNat]?) = ((List.range n).map (fun k => n - 1 - k)).filterMap (xs[·]?) := fun n hn => by
    rw [List.filterMap_map]
    congr 1
    funext m
    have : ((n : Int) - 1 + (m : Int) * (-1)).toNat = n - 1 - m := by omega
    rw [this]
    rfl
  rw [e xs.size rfl, PySem.W.krv_range, List.filterMap_reverse, PySem.W.krv_all]
theorem getItem_tuple_rev {t sl : Addr} {items : Array Value} {vs : Value} {Q : Value → Shared → Prop} (ht : IsTup s.heap t items) (hs : s.heap.IsSliceOf sl .none .none vs) (ps : IsPart vs (some (-1)))
    (h : Q (.ref s.heap.objs.size) { s with heap := s.heap.push { cls := .type "tuple", data := .seq items.toList.reverse.toArray } })
    (hsz : items.size ≤ sizeLine) : wpAny (model prog w) A (getItem (.ref t) (.ref sl)) Q E s := by
  have htake : sizeOk (.seq items.toList.reverse.toArray) := by
    show items.toList.reverse.toArray.size ≤ sizeLine
    rw [List.size_toArray, List.length_reverse, Array.length_toList]
    exact hsz
  obtain ⟨os, hos, hcs, hds⟩ := id hs
  have hTs : s.TypeIs (.ref sl) "slice" := ⟨os, hos, hcs⟩
  unfold getItem
  try with_reducible refine wpAny_holding ?_
  first | refine wpAny_bind (wpAny_pure ?_) | skip
  refine wpAny_bind (wpAny_sequenceKey ht.typeIs (by decide) ?_)
  refine wpAny_bind (wpAny_callSpecial?_slot (name := Str.ofString "__getitem__") ht.typeIs PyProof.Rows.slot_tuple_getitem
    (wpAny_call_entry PyProof.Rows.slot_tuple_getitem ht.typeIs entry_tuple_getitem ?_ (args_tuple_getitem _ _)))
  show wpAny _ _ (Builtin.Tuple.tupleItemsOf (.ref t) >>= _) _ _ s
  refine wpAny_bind (tupleItemsOf_ ht ?_)
  refine wpAny_bind (wpAny_typeOf hTs ?_)
  rw [if_pos (by decide)]
  refine wpAny_bind (applied_rev hs ps ?_)
  have hno : ¬ ((((items.size : Int) - 1) == 0 && (-1 : Int) == 1 && items.size == items.size) = true) := by
    intro q
    rw [Bool.and_eq_true, Bool.and_eq_true] at q
    exact absurd q.1.2 (by decide)
  show wpAny _ _ (if (((items.size : Int) - 1) == 0 && (-1 : Int) == 1 && items.size == items.size) = true then _ else _) _ _ s
  rw [if_neg hno, pick_rev]
  first
    | exact wpAny_bind (m := Builtin.Tuple.tupleExact _) (wpAny_newObj_type (wpAny_pure ⟨_, rfl, wpAny_pure h⟩) htake)
    | exact wpAny_bind (m := Builtin.Tuple.tupleExact _) (wpAny_newObj_type (wpAny_bind (wpAny_pure (wpAny_pure ⟨_, rfl, wpAny_pure h⟩))) htake)
    | exact wpAny_bind (wpAny_bind (m := Builtin.Tuple.tupleExact _) (wpAny_newObj_type (wpAny_pure (wpAny_pure ⟨_, rfl, wpAny_pure h⟩)) htake))
    | exact wpAny_bind (wpAny_bind (m := Builtin.Tuple.tupleExact _) (wpAny_newObj_type (wpAny_pure ⟨_, rfl, wpAny_pure h⟩) htake))
end
def dRevA (M : List MO) (x : D) : Option D := match x with
  | .tup ds => some (.tup ds.reverse)
  | x => dRevL M x
def gRevA (ge : GE) : GE := fun Γ M => (ge Γ M).bind fun x M1 => opR (dRevA M1 x) M1
@[simp] theorem u_gRevA (ge : GE) (Γ : Env) (M : List MO) : gRevA ge Γ M = (ge Γ M).bind fun x M1 => opR (dRevA M1 x) M1 := Eq.trans rfl rfl
@[simp] theorem e_revAt (M : List MO) (ds : List D) : dRevA M (.tup ds) = some (.tup ds.reverse) := Eq.trans rfl rfl
@[simp] theorem e_revAl (M : List MO) (ds : List D) : dRevA M (.lst ds) = some (.lst ds.reverse) := Eq.trans rfl rfl
section
variable {X : Cx} {C : CT} {W : WX} {e : Expr} {g : GE}
def tRevA (K : PySem.W.Frag) (te : TE) : TE := fun σ H Q => te σ H fun x H1 => ∃ a xs, x = .ref a ∧
  ((SqL K H1 a xs ∧ ∀ p, H1 p = none → Q (.ref p) (upd H1 p (.lst xs.reverse))) ∨ (SqT K H1 a xs ∧ ∀ p, H1 p = none → Q (.ref p) (upd H1 p (.tup xs.reverse))))
theorem pe_revA2 {te : TE} {k : Nat} {p1 p2 p3 pos : Pos} (he : PE X e te) : PE X (.Subscript e (.Slice none none (some (.UnaryOp .USub (.Constant (.int 1) k p1) p2)) p3) pos) (tRevA X.K te) := by
  refine ⟨fun pins s σ H Q I h => ?_⟩
  refine Subscript_ (thn (he.run pins s σ H _ I h) fun v s1 ⟨x, H1, I1, r1, q1⟩ => ?_)
  obtain ⟨a, xs, ex, hx⟩ := q1
  subst ex
  cases r1
  have hst : PO X (some (.UnaryOp .USub (.Constant (.int 1) k p1) p2)) (tPart (tUn (rU fun i => .int (-i)) (tC (.int 1)))) := po_some (pe_un un_neg pe_int)
  refine wpAny_Slice (thn (po_none.run pins s1 σ H1 (fun o H2 => o = none ∧ H2 = H1) I1 ⟨rfl, rfl⟩) fun vl s2 ⟨l, H2, I2, pl, el, e2⟩ => ?_)
  subst el e2
  refine thn (po_none.run pins s2 σ H2 (fun o H3 => o = none ∧ H3 = H2) I2 ⟨rfl, rfl⟩) fun vu s3 ⟨u, H3, I3, pu, eu, e3⟩ => ?_
  subst eu e3
  refine thn (hst.run pins s3 σ H3 (fun o H4 => o = some (-1) ∧ H4 = H3) I3 ⟨1, rfl, -1, rfl, rfl, rfl⟩) fun vs s4 ⟨o, H4, I4, ps, eo, e4⟩ => ?_
  subst eo e4
  have I5 : Inv X pins σ H4 { s4 with heap := s4.heap.push { cls := .type "slice", data := .fields #[vl, vu, vs] } } := I4.kept (t' := s4.toks) fun b ob q => Heap.get?_push_of_some _ q
  show wpAny (model X.prog X.w) X.A (subscriptTail e (.Slice none none (some (.UnaryOp .USub (.Constant (.int 1) k p1) p2)) p3) (.ref a) (.ref s4.heap.objs.size)) (EP X pins σ Q) X.xe { s4 with heap := s4.heap.push { cls := .type "slice", data := .fields #[vl, vu, vs] } }
  rcases hx with ⟨hx, q⟩ | ⟨hx, q⟩
  · obtain ⟨its, r, ht, hz⟩ := I5.list hx
    have hlen := r.length
    refine tail_any (ops := [.ref a, .ref s4.heap.objs.size]) ht.isList.typeIs (PySem.slot_list_getitem.lookup) ?_ (by with_unfolding_all rfl)
    refine wpAny_getItem_list_slice ht.isList (Heap.IsSliceOf.new _ vl vu vs) pl pu ps (by decide) ?_ (by rw [List.size_toArray]; omega)
    rw [PySem.W.krv_pick]
    refine ⟨.ref _, _, I5.laid (t' := s4.toks) (o := .lst xs.reverse) (fun b ob q => Heap.get?_push_of_some _ q) (Nat.le_refl _) ?_, rfl, q _ (I5.hok.fresh (Nat.le_refl _))⟩
    exact ⟨by rw [List.length_reverse]; exact hz, _, 0, r.reverse, Heap.get?_push_size _ rfl⟩
  · obtain ⟨its, r, ht, hz⟩ := I5.tuple hx
    have hlen := r.length
    cases pl
    cases pu
    refine tail_any (ops := [.ref a, .ref s4.heap.objs.size]) ht.typeIs (PyProof.Rows.slot_tuple_getitem.lookup) ?_ (by with_unfolding_all rfl)
    refine getItem_tuple_rev ht (Heap.IsSliceOf.new _ .none .none vs) ps ?_ (by rw [List.size_toArray]; omega)
    refine ⟨.ref _, _, I5.laid (t' := s4.toks) (o := .tup xs.reverse) (fun b ob q => Heap.get?_push_of_some _ q) (Nat.le_refl _) ?_, rfl, q _ (I5.hok.fresh (Nat.le_refl _))⟩
    exact ⟨by rw [List.length_reverse]; exact hz, _, r.reverse, IsTup.new _ _⟩
theorem qe_revA {k : Nat} {p1 p2 p3 pos : Pos} (he : QE X C W e g) : QE X C W (.Subscript e (.Slice none none (some (.UnaryOp .USub (.Constant (.int 1) k p1) p2)) p3) pos) (gRevA g) := by
  obtain ⟨te, pe, qe⟩ := he
  refine ⟨_, pe_revA2 pe, fun σ H Z ι Γ M Q sl hr h => qe σ H Z ι Γ M _ sl hr (h.bind fun x M1 v H1 Z1 ι1 e1 hr1 r1 h1 => ?_)⟩
  obtain ⟨d, hd, h2⟩ := Post.of_opR (γ := D) (δ := V) h1
  have lst : dRevL M1 x = some d → ∃ a xs, v = .ref a ∧
      ((SqL X.K H1 a xs ∧ ∀ p, H1 p = none → Q (.ref p) (upd H1 p (.lst xs.reverse))) ∨ (SqT X.K H1 a xs ∧ ∀ p, H1 p = none → Q (.ref p) (upd H1 p (.tup xs.reverse)))) := fun hd => by
    unfold dRevL at hd
    cases e3 : listD M1 x with
    | none => rw [e3] at hd; cases hd
    | some ds =>
      rw [e3] at hd
      cases hd
      obtain ⟨a, xs, rfl, s, r3⟩ := listD_run hr1 r1 e3
      exact ⟨a, xs, rfl, .inl ⟨s.sq, After.lst (X := X) (M := M1) (Q := Q) (fun v H' Z' e' hr' r' => h2 v H' Z' ι1 e' hr' r') hr1 r3.rev⟩⟩
  unfold dRevA at hd
  split at hd
  · rename_i ds
    cases hd
    obtain ⟨a, xs, rfl, s, r3⟩ := tupD_run hr1 r1 (ds := ds) rfl
    exact ⟨a, xs, rfl, .inr ⟨s, After.tup (X := X) (M := M1) (Q := Q) (fun v H' Z' e' hr' r' => h2 v H' Z' ι1 e' hr' r') hr1 r3.rev⟩⟩
  · exact lst hd
end
end Bk

set_option Elab.async false
set_option linter.all false
set_option maxRecDepth 100000
set_option maxHeartbeats 2000000
namespace Bk
open PySem PySem.Spec PyProof.Rows L2
/-! ### the lists within a list are left as they are from now on -/
def frz1 : D → List MO → Option (D × List MO)
  | .ref k, M => match M[k]? with
    | some (.lst es) => some (.lst es, M.set k .dead)
    | _ => none
  | d, M => some (d, M)
def frzI : List D → List MO → Option (List D × List MO)
  | [], M => some ([], M)
  | d :: ds, M => (frz1 d M).bind fun p => (frzI ds p.2).map fun q => (p.1 :: q.1, q.2)
def gFzI (i : Nat) : GS := fun Γ M => match Γ[i]? with
  | some (some (.lst ds)) => match frzI ds M with
    | some p => .nx (Γ.set i (some (.lst p.1))) p.2
    | none => .bad
  | _ => .bad
@[simp] theorem u_gFzI (i : Nat) (Γ : Env) (M : List MO) : gFzI i Γ M = (match Γ[i]? with
  | some (some (.lst ds)) => match frzI ds M with
    | some p => .nx (Γ.set i (some (.lst p.1))) p.2
    | none => .bad
  | _ => .bad) := Eq.trans rfl rfl
section
variable {K : PySem.W.Frag} {H Z : Hp} {ι : Nat → Addr} {M M' : List MO}
end
section
variable {X : Cx} {C : CT} {W : WX} {st : Stmt} {g : GS}
end
end Bk

set_option Elab.async false
set_option linter.all false
set_option maxRecDepth 100000
set_option maxHeartbeats 2000000
namespace Bk
open PySem PySem.Spec PyProof.Rows L2
/-! ### xs * k as a list of ours -/
def repO (ds : Option (List D)) (y : D) (M : List MO) : R D := match ds, y with
  | some ds, .int k => if (decide (k < 2 ^ 63) && decide (-(2 ^ 63) ≤ k) && decide (ds.length * k.toNat ≤ sizeLine)) = true then .ok (.ref M.length) (M ++ [.lst (List.replicate k.toNat ds).flatten]) else .bad
  | _, _ => .bad
def gRepO (ga gb : GE) : GE := fun Γ M => (ga Γ M).bind fun x M1 => (gb Γ M1).bind fun y M2 => repO (listD M2 x) y M2
@[simp] theorem u_gRepO (ga gb : GE) (Γ : Env) (M : List MO) : gRepO ga gb Γ M = ((ga Γ M).bind fun x M1 => (gb Γ M1).bind fun y M2 => repO (listD M2 x) y M2) := Eq.trans rfl rfl
section
variable {X : Cx} {C : CT} {W : WX} {a b : Expr} {ga gb : GE} {pos : Pos}
end
end Bk

set_option Elab.async false
set_option linter.all false
set_option maxRecDepth 100000
set_option maxHeartbeats 4000000
namespace Bk
open PySem PySem.Spec PyProof.Rows L2 Srt SrtO SrtR
/-! ### sorted(t, reverse=True) of a tuple of ints -/
section
variable {prog : Program} {w : World} {A : Around} {E : Value → Shared → Prop} {s : Shared}
end
section
variable {X : Cx}
end
def dSortRT (M : List MO) : D → Option D
  | .tup ds => (intsD ds).map fun is => .lst ((srtI is).reverse.map D.int)
  | x => dSortR M x
def gSortRT (ge : GE) : GE := fun Γ M => (ge Γ M).bind fun x M1 => opR (dSortRT M1 x) M1
@[simp] theorem u_gSortRT (ge : GE) (Γ : Env) (M : List MO) : gSortRT ge Γ M = (ge Γ M).bind fun x M1 => opR (dSortRT M1 x) M1 := Eq.trans rfl rfl
section
variable {X : Cx} {C : CT} {W : WX} {e : Expr} {g : GE}
end
end Bk

set_option Elab.async false
set_option linter.all false
set_option maxRecDepth 100000
set_option maxHeartbeats 2000000
namespace Bk
open PySem PySem.Spec PyProof.Rows L2
/-! ### a list of ours that comes back from a call, and will not be changed -/
def fzD (d : D) (M : List MO) : R D := match d with
  | .ref k => match M[k]? with
    | some (.lst ds) => .ok (.lst ds) (M.set k .dead)
    | _ => .bad
  | d => .ok d M
def gFzE (ge : GE) : GE := fun Γ M => (ge Γ M).bind fzD
@[simp] theorem u_gFzE (ge : GE) (Γ : Env) (M : List MO) : gFzE ge Γ M = (ge Γ M).bind fzD := Eq.trans rfl rfl
theorem fzD_ref {k : Nat} {M : List MO} {ds : List D} (h : M[k]? = some (.lst ds)) : fzD (.ref k) M = .ok (.lst ds) (M.set k .dead) := by simp only [fzD, h]
section
variable {X : Cx} {C : CT} {W : WX} {e : Expr} {ge : GE}
theorem qe_fz (ha : QE X C W e ge) : QE X C W e (gFzE ge) := by
  obtain ⟨ta, pa, qa⟩ := ha
  refine ⟨ta, pa, fun σ H Z ι Γ M Q sl hr h => qa σ H Z ι Γ M Q sl hr (Post.bind h fun x M1 v H1 Z1 ι1 e1 hr1 r1 h1 => ?_)⟩
  cases x with
  | ref k =>
    simp only [fzD] at h1
    cases e2 : M1[k]? with
    | none => rw [e2] at h1; exact h1.elim
    | some u =>
      rw [e2] at h1
      cases u with
      | lst ds =>
        obtain ⟨xs, r, hr2, x1, rp⟩ := hr1.freeze e2
        cases r1
        exact h1 _ H1 _ ι1 x1 hr2 rp
      | _ => exact h1.elim
  | _ => exact h1 v H1 Z1 ι1 .refl hr1 r1
end
end Bk

set_option Elab.async false
set_option linter.all false
set_option maxRecDepth 100000
set_option maxHeartbeats 2000000
namespace Bk
open PySem PySem.Spec PyProof.Rows L2
/-! ### a loop over a list of ours, read anew at each turn -/
def gForN (gg : GG) (body : GS) (k : Nat) : Nat → Nat → GS
  | 0, _ => gBad
  | n + 1, i => fun Γ M => match M[k]? with
    | some (.lst ds) => match ds[i]? with
      | some d => optS (gg d Γ) fun Γ1 => (body Γ1 M).turn (gForN gg body k n (i + 1))
      | none => .nx Γ M
    | _ => .bad
def gForO (ge : GE) (gg : GG) (body : GS) (n : Nat) : GS := fun Γ M => (ge Γ M).thenS Γ fun d M1 => match d with
  | .ref k => gForN gg body k n 0 Γ M1
  | _ => .bad
@[simp] theorem u_gForO (ge : GE) (gg : GG) (body : GS) (n : Nat) (Γ : Env) (M : List MO) : gForO ge gg body n Γ M = ((ge Γ M).thenS Γ fun d M1 => match d with
  | .ref k => gForN gg body k n 0 Γ M1
  | _ => .bad) := Eq.trans rfl rfl
section
variable {X : Cx} {C : CT} {W : WX} {tg : Expr} {ge : GE} {gg : GG} {g : GS} {pos : Pos}
/-! ### a slice as a list of ours -/
def slO (ds : Option (List D)) (lo hi : Option Int) (M : List MO) : R D := match ds with
  | some ds => .ok (.ref M.length) (M ++ [.lst (cutD ds lo hi)])
  | none => .bad
def gSlO (ge : GE) (lo hi : GO) : GE := fun Γ M => (ge Γ M).bind fun x M1 => (lo Γ M1).bind fun a M2 => (hi Γ M2).bind fun b M3 => slO (listD M3 x) a b M3
@[simp] theorem u_gSlO (ge : GE) (lo hi : GO) (Γ : Env) (M : List MO) : gSlO ge lo hi Γ M = ((ge Γ M).bind fun x M1 => (lo Γ M1).bind fun a M2 => (hi Γ M2).bind fun b M3 => slO (listD M3 x) a b M3) := Eq.trans rfl rfl
@[simp] theorem slO_some (ds : List D) (lo hi : Option Int) (M : List MO) : slO (some ds) lo hi M = .ok (.ref M.length) (M ++ [.lst (cutD ds lo hi)]) := Eq.trans rfl rfl
end
end Bk

set_option Elab.async false
set_option linter.all false
set_option maxRecDepth 100000
set_option maxHeartbeats 4000000
namespace Bk
open PySem PySem.Spec PyProof.Rows L2
/-! ### sets of tuples of ints: sorted(set(xs)) -/
/-- each row once -/
def uniqR : List (List Int) → List (List Int)
  | [] => []
  | r :: rs => if r ∈ rs then uniqR rs else r :: uniqR rs
theorem mem_uniqR : ∀ {rs : List (List Int)} {r : List Int}, r ∈ uniqR rs ↔ r ∈ rs
  | [], r => Iff.rfl
  | q :: rs, r => by
    unfold uniqR
    by_cases h : q ∈ rs
    · rw [if_pos h, mem_uniqR, List.mem_cons]
      exact ⟨.inr, fun z => z.elim (fun e => e ▸ h) id⟩
    · rw [if_neg h, List.mem_cons, List.mem_cons, mem_uniqR]
theorem uniqR_nodup : ∀ rs : List (List Int), (uniqR rs).Nodup
  | [] => .nil
  | q :: rs => by
    unfold uniqR
    by_cases h : q ∈ rs
    · rw [if_pos h]; exact uniqR_nodup rs
    · rw [if_neg h]
      exact List.nodup_cons.mpr ⟨fun z => h (mem_uniqR.mp z), uniqR_nodup rs⟩
theorem leR_trans (a b c : List Int) (h1 : leR a b = true) (h2 : leR b c = true) : leR a c = true := by
  unfold leR at *
  simp only [decide_eq_true_eq] at *
  exact List.le_trans h1 h2
theorem leR_total (a b : List Int) : (leR a b || leR b a) = true := by
  unfold leR
  rcases List.le_total a b with h | h
  · simp [h]
  · simp [h]
theorem leR_anti {a b : List Int} (h1 : leR a b = true) (h2 : leR b a = true) : a = b := by
  unfold leR at *
  simp only [decide_eq_true_eq] at *
  exact List.le_antisymm h1 h2
theorem sorted_one : ∀ {xs ys : List (List Int)}, xs.Perm ys → xs.Pairwise (fun a b => leR a b = true) → ys.Pairwise (fun a b => leR a b = true) → xs = ys
  | [], ys, p, _, _ => by rw [List.nil_perm.mp p]
  | x :: xs, [], p, _, _ => by simp at p
  | x :: xs, y :: ys, p, h1, h2 => by
    have e : x = y := by
      have hx : x ∈ y :: ys := p.mem_iff.mp (by simp)
      have hy : y ∈ x :: xs := p.mem_iff.mpr (by simp)
      rcases List.mem_cons.mp hx with e | e
      · exact e
      · rcases List.mem_cons.mp hy with e' | e'
        · exact e'.symm
        · exact leR_anti ((List.pairwise_cons.mp h1).1 y e') ((List.pairwise_cons.mp h2).1 x e)
    subst e
    rw [sorted_one (List.Perm.cons_inv p) (List.pairwise_cons.mp h1).2 (List.pairwise_cons.mp h2).2]
theorem srtR_up (rs : List (List Int)) : (srtR rs).Pairwise (fun a b => leR a b = true) := List.pairwise_mergeSort leR_trans leR_total rs
theorem srtR_perm {rs qs : List (List Int)} (h : rs.Perm qs) : srtR rs = srtR qs :=
  sorted_one (((List.mergeSort_perm rs leR).trans h).trans (List.mergeSort_perm qs leR).symm) (srtR_up rs) (srtR_up qs)
theorem srtOk_perm {rs qs : List (List Int)} (h : rs.Perm qs) (hk : srtOk qs = true) : srtOk rs = true := by
  unfold srtOk at *
  rw [Bool.or_eq_true] at *
  rcases hk with z | z
  · left
    rw [h.length_eq]
    exact z
  · right
    rw [List.all_eq_true] at *
    exact fun r hr => z r (h.mem_iff.mp hr)
section
variable {prog : Program} {w : World} {A : Around} {E : Value → Shared → Prop} {s : Shared}
theorem sorts_tups {vs : List Value} {rs : List (List Int)} (er : PySem.W.EachIs (fun v (b : List Int) => ∃ as, Reads s.heap v (.tuple (b.map .int)) as) vs rs) (hk : srtOk rs = true) (hu : A.units + 65 < cLine) :
    PySem.W.SortsAt prog w A s (PySem.W.dataKind s.heap (rs.map fun b : List Int => PyData.tuple (b.map .int))) vs := by
  have hal : PySem.W.AllAlike (rs.map fun b => PyData.tuple (b.map .int)) := PySem.W.AllAlike.of fun b b' => alike_tups b b'
  by_cases c : rs.all (fun r => decide (r ≠ [])) = true
  · have sb : PySem.W.Sortable (rs.map fun b => PyData.tuple (b.map .int)) := .inl fun d hd => by
      obtain ⟨b, hb, rfl⟩ := List.mem_map.mp hd
      have := List.all_eq_true.mp c b hb
      cases b with
      | nil => simp at this
      | cons x b => exact ⟨_, _, rfl⟩
    refine PySem.W.SortsAt.data (PySem.W.each_map (R := fun v d => ∃ as, Reads s.heap v d as) (fun b : List Int => PyData.tuple (b.map .int)) er) hal sb fun d hd => ?_
    obtain ⟨b, hb, rfl⟩ := List.mem_map.mp hd
    rw [depth_tups]
    omega
  · have hz : rs.length ≤ 1 := by
      unfold srtOk at hk
      rw [Bool.or_eq_true] at hk
      rcases hk with hk | hk
      · simpa using hk
      · exact absurd hk c
    rcases rs with _ | ⟨r, _ | ⟨r2, rs⟩⟩
    · exact absurd (by simp) c
    · cases er with
      | cons r1 r2 =>
        cases r2
        obtain ⟨as, rd⟩ := r1
        exact one_sorts rd hu
    · simp at hz
variable {a : Addr} {L : List (Addr × List Int)} {es : Array (Int × Value)} {ep : Nat} {t : SetTable}
theorem sorted_setD {Q : Value → Shared → Prop} (R : SetTR prog w s.heap a L es ep t) (hh : A.handled = none) (hk : srtOk (L.map (·.2)) = true) (hu : A.units + 70 < cLine) (hrd : ∀ q ∈ L, ∃ as, Reads s.heap (.ref q.1) (.tuple (q.2.map .int)) as)
    (hQ : ∀ s' p (out : List Value) (c : Nat) (L1 : List (Addr × List Int)), (∀ b o, s.heap.get? b = some o → s'.heap.get? b = some o) → s'.gens = s.gens → s'.os = s.os → s.heap.objs.size ≤ p →
      s'.heap.get? p = some (seqObj "list" out.toArray c) → L1.Perm L → PySem.W.EachIs (fun v (b : List Int) => ∃ q ∈ L, v = Value.ref q.1 ∧ q.2 = b) out (srtR (L1.map (·.2))) → Q (.ref p) s') :
    wpAny (model prog w) A (call (.builtin "sorted") [.ref a]) Q E s := by
  obtain ⟨o, ho, hex, hd⟩ := R.ob
  have hsz := R.size
  have hfew := R.few
  refine Calls.call_function_entry kind_sorted plain_sorted entry_sorted (args_sorted1 _) ?_
  unfold Builtin.«sorted»
  refine wpAny_bind (m := checkCount "sorted" 1 1 _) (wpAny_pure ?_)
  refine wpAny_bind (collect_set (A := A.in1) hh ⟨o, ho, hex.1, hd⟩ R.fits (by unfold scanBound; omega) R.tab.ris R.led fun s1 vs k1 hz g1 o1 pm => ?_)
  have hes : es.toList.map (·.2) = L.map fun q => Value.ref q.1 := by
    rw [R.rows]
    unfold rowsOf
    rw [List.map_map] <;> rfl
  rw [hes] at pm
  have ord : ∀ vs : List Value, (∀ v ∈ vs, ∃ q ∈ L, v = Value.ref q.1) → ∃ L1 : List (Addr × List Int), vs = L1.map (fun q => Value.ref q.1) ∧ ∀ q ∈ L1, q ∈ L := by
    intro vs
    induction vs with
    | nil => intro _; exact ⟨[], rfl, fun q hq => (by cases hq)⟩
    | cons v vs ih =>
      intro hv
      obtain ⟨q, hq, e⟩ := hv v List.mem_cons_self
      obtain ⟨L1, e1, hs⟩ := ih fun u hu => hv u (List.mem_cons_of_mem _ hu)
      refine ⟨q :: L1, by rw [List.map_cons, e, e1], fun r hr => ?_⟩
      rcases List.mem_cons.mp hr with z | z
      · rw [z]; exact hq
      · exact hs r z
  have one : ∀ q ∈ L, ∀ r ∈ L, q.1 = r.1 → q = r := fun q hq r hr e => by
    have a1 := R.tup q hq
    have a2 := R.tup r hr
    rw [e] at a1
    have e2 : q.2 = r.2 := a1.inj a2
    exact Prod.ext e e2
  have perm_of : ∀ L1 : List (Addr × List Int), (∀ q ∈ L1, q ∈ L) → (L1.map (fun q => Value.ref q.1)).Perm (L.map fun q => Value.ref q.1) → L1.Perm L := by
    intro L1 hs pm1
    have nL : L.Nodup := nodup_of_map R.nd
    have nref : (L.map fun q => Value.ref q.1).Nodup := by
      refine List.pairwise_map.mpr (List.Pairwise.imp_of_mem (fun {q r} hq hr hne e => ?_) nL)
      injection e with e
      exact hne (one q hq r hr e)
    have n1 : L1.Nodup := nodup_of_map (pm1.nodup_iff.mpr nref)
    refine (List.perm_ext_iff_of_nodup n1 nL).mpr fun q => ⟨hs q, fun hq => ?_⟩
    have hm : Value.ref q.1 ∈ L1.map (fun q => Value.ref q.1) := pm1.mem_iff.mpr (List.mem_map.mpr ⟨q, hq, rfl⟩)
    obtain ⟨r, hr, e⟩ := List.mem_map.mp hm
    injection e with e
    rw [← one r (hs r hr) q hq e]
    exact hr
  have hvl : vs.length < 64 := by rw [pm.length_eq, List.length_map]; exact hfew
  obtain ⟨L1, e1, hs1⟩ := ord vs fun v hv => by
    obtain ⟨q, hq, e⟩ := List.mem_map.mp (pm.mem_iff.mp hv)
    exact ⟨q, hq, e.symm⟩
  have p1 : L1.Perm L := perm_of L1 hs1 (by rw [← e1]; exact pm)
  refine wpAny_bind (wpAny_newList ?_ (by rw [sizeLine_eq]; omega))
  have hoL : (s1.heap.push (seqObj "list" vs.toArray 0)).get? s1.heap.objs.size = some (seqObj "list" vs.toArray 0) := Heap.get?_push_size _ rfl
  have each : ∀ {Rr : Value → List Int → Prop} (L2 : List (Addr × List Int)), (∀ q ∈ L2, Rr (.ref q.1) q.2) → PySem.W.EachIs Rr (L2.map fun q => Value.ref q.1) (L2.map (·.2)) := by
    intro Rr L2
    induction L2 with
    | nil => intro _; exact .nil
    | cons q L2 ih => intro h; exact .cons (h q List.mem_cons_self) (ih fun r hr => h r (List.mem_cons_of_mem _ hr))
  have er : PySem.W.EachIs (fun v (b : List Int) => ∃ as, Reads (PySem.W.sortingHeap (s1.heap.push (seqObj "list" vs.toArray 0)) s1.heap.objs.size vs) v (.tuple (b.map .int)) as) vs (L1.map (·.2)) := by
    rw [e1]
    refine each L1 fun q hq => ?_
    obtain ⟨as, rd⟩ := hrd q (hs1 q hq)
    exact ⟨as, PyProof.Rows.Reads.keeps (fun b u e => by
      have e2 := k1 b u e
      exact PySem.W.sortingHeap_old (Nat.ne_of_lt (Heap.lt_size e2)) (Heap.get?_push_of_some _ e2)) rd⟩
  have en : PySem.W.EachIs (fun v (b : List Int) => ∃ q ∈ L, v = Value.ref q.1 ∧ q.2 = b) vs (L1.map (·.2)) := by
    rw [e1]
    exact each L1 fun q hq => ⟨q, hs1 q hq, rfl, rfl⟩
  have hal : PySem.W.AllAlike ((L1.map (·.2)).map fun b => PyData.tuple (b.map .int)) := PySem.W.AllAlike.of fun b b' => alike_tups b b'
  have S := sorts_tups (prog := prog) (w := w) (A := A.in1.in1) (s := { s1 with heap := PySem.W.sortingHeap (s1.heap.push (seqObj "list" vs.toArray 0)) s1.heap.objs.size vs }) er (srtOk_perm (p1.map _) hk) (by show A.units + 2 + 65 < cLine; omega)
  have sv := PySem.W.sortVals_data (h' := PySem.W.sortingHeap (s1.heap.push (seqObj "list" vs.toArray 0)) s1.heap.objs.size vs) (enc := fun b : List Int => PyData.tuple (b.map .int)) false en er hal
  rw [leR_data] at sv
  refine wpAny_bind (wpAny_holding (wpAny_call_entry (s := { s1 with heap := s1.heap.push (seqObj "list" vs.toArray 0) }) slot_list_sort ⟨_, hoL, rfl⟩ entry_list_sort (PySem.W.list_sort_vals hoL S (by rw [sizeLine_eq]; omega) ⟨.none, rfl, ?_⟩) (args_list_sort _)))
  generalize ho2 : PySem.W.sortVals (PySem.W.dataKind (PySem.W.sortingHeap (s1.heap.push (seqObj "list" vs.toArray 0)) s1.heap.objs.size vs) ((L1.map (·.2)).map fun b : List Int => PyData.tuple (b.map .int))) false vs vs = out at sv ⊢
  obtain ⟨c, hc⟩ := sortedHeap_at (vs := vs) (out := out.toArray) hoL
  refine wpAny_pure ⟨_, rfl, hQ _ s1.heap.objs.size out c L1 (fun b u e => ?_) g1 o1 hz hc p1 sv⟩
  have q := k1 b u e
  have hlt := Heap.lt_size q
  show (sortedHeap (s1.heap.push (seqObj "list" vs.toArray 0)) s1.heap.objs.size vs out.toArray).get? b = some u
  rw [sortedHeap_old (Nat.ne_of_lt hlt) (by rw [size_push']; exact Nat.lt_succ_of_lt hlt)]
  exact Heap.get?_push_of_some _ q
end
end Bk

set_option Elab.async false
set_option linter.all false
set_option maxRecDepth 100000
set_option maxHeartbeats 4000000
namespace Bk
open PySem PySem.Spec PyProof.Rows L2
/-! ### sorted(set(xs)), the rule -/
theorem each_ex {L : List (Addr × List Int)} : ∀ {out : List Value} {rows : List (List Int)}, PySem.W.EachIs (fun v (b : List Int) => ∃ q ∈ L, v = Value.ref q.1 ∧ q.2 = b) out rows →
    ∃ L' : List (Addr × List Int), out = L'.map (fun q => Value.ref q.1) ∧ L'.map (·.2) = rows ∧ ∀ q ∈ L', q ∈ L
  | _, _, .nil => ⟨[], rfl, rfl, fun q hq => by cases hq⟩
  | _, _, .cons ⟨q, hq, e1, e2⟩ t => by
    obtain ⟨L', a1, a2, a3⟩ := each_ex t
    refine ⟨q :: L', by rw [List.map_cons, e1, a1], by rw [List.map_cons, e2, a2], fun r hr => ?_⟩
    rcases List.mem_cons.mp hr with z | z
    · rw [z]; exact hq
    · exact a3 r z
theorem dpAll_ints {K : PySem.W.Frag} {H : Hp} : ∀ is : List Int, DpAll K H (is.map V.int) (is.map PyData.int)
  | [] => .nil
  | i :: is => .cons (.int i) (dpAll_ints is)
def rSortS (K : PySem.W.Frag) (P : Program) (w : World) : List V → Hp → VK → Prop := fun vs H Q => ∃ (a : Addr) (L : List (Addr × List Int)), vs = [V.ref a] ∧ H a = some (SetTO P w a L) ∧ (∀ p ∈ L, SqT K H p.1 (p.2.map V.int)) ∧
  ((L.map (·.2)).Nodup → srtOk (L.map (·.2)) = true ∧ ∀ (L' : List (Addr × List Int)) (p : Addr), (∀ q ∈ L', q ∈ L) → L'.map (·.2) = srtR (L.map (·.2)) → H p = none → Q (.ref p) (upd H p (.lst (L'.map fun q => V.ref q.1))))
section
variable {X : Cx}
theorem cr_sortS (hc : X.calm = true) (hu : X.A.units + 70 < cLine) : CallR X (.builtin "sorted") (rSortS X.K X.prog X.w) := by
  intro pins s σ H vs us Q I r h
  obtain ⟨a, L, rfl, ha, hk, q⟩ := h
  have R0 : SetT0 X.prog X.w s.heap a L := (I.hok a _ ha).1
  obtain ⟨es, ep, t, R⟩ := R0.full fun p hp => I.isT (hk p hp)
  obtain ⟨hok, q⟩ := q R.nd
  rw [Vals.ref1 r]
  refine sorted_setD R (I.ok.hd hc) hok hu (fun p hp => ?_) fun s' p out c L1 k g o hp hg pm eo => ?_
  · exact Dp.reads I _ _ _ (Dp.tup (hk p hp) (dpAll_ints p.2)) (show RelV (V.ref p.1) (Value.ref p.1) from rfl)
  obtain ⟨L', e1, e2, e3⟩ := each_ex eo
  have hfew := R.few
  have hlen : (L'.map fun q => V.ref q.1).length ≤ sizeLine := by
    have e4 := congrArg List.length e2
    rw [List.length_map] at e4
    rw [List.length_map, e4, sizeLine_eq]
    unfold srtR
    rw [List.length_mergeSort, List.length_map, pm.length_eq]
    omega
  have hn : H p = none := I.hok.fresh hp
  have hv : Vals (L'.map fun q => V.ref q.1) out := by rw [e1]; exact vals_of_refs L'
  have J : Inv X pins σ (upd H p (.lst (L'.map fun q => V.ref q.1))) { s with heap := s'.heap, gens := s'.gens, drawn := s'.drawn, toks := s'.toks } :=
    I.call (ch := []) (Un.laid k hp hn) (I.hok.laid k hp ⟨hlen, out, c, hv, hg⟩) (by rw [g]; exact I.bare) (fun _ z => nomatch z)
  have e : s' = { s with heap := s'.heap, gens := s'.gens, drawn := s'.drawn, toks := s'.toks } := by
    cases s'
    cases s
    cases o
    rfl
  rw [e]
  exact ⟨.ref p, _, J, rfl, q L' p e3 (e2.trans (srtR_perm (pm.map _))) hn⟩
end
/-! what the layer says -/
def dSortS (M : List MO) (d : D) : Option D := ((listD M d).bind rowsL).bind fun rs => if (decide (rs.length < 64) && srtOk (uniqR rs)) = true then some (.lst ((srtR (uniqR rs)).map tupI)) else none
def gSortS (ge : GE) : GE := fun Γ M => (ge Γ M).bind fun d M1 => opR (dSortS M1 d) M1
@[simp] theorem u_gSortS (ge : GE) (Γ : Env) (M : List MO) : gSortS ge Γ M = ((ge Γ M).bind fun d M1 => opR (dSortS M1 d) M1) := Eq.trans rfl rfl
theorem e_sortS (M : List MO) {rs : List (List Int)} (hl : rs.length < 64) (hk : srtOk (uniqR rs) = true) : dSortS M (.lst (rs.map fun is => D.tup (is.map D.int))) = some (.lst ((srtR (uniqR rs)).map tupI)) := by
  have : rowsL (rs.map fun is => D.tup (is.map D.int)) = some rs := rowsL_map rs
  simp [dSortS, listD, this, hl, hk]
theorem rps_intV {K : PySem.W.Frag} {Z : Hp} {ι : Nat → Addr} {n : Nat} : ∀ {is : List Int} {xs : List V}, Rps K Z ι n (is.map D.int) xs → xs = is.map V.int
  | [], _, h => by cases h; rfl
  | i :: is, _, h => by
    cases h with
    | cons h1 h2 =>
      cases h1
      rw [rps_intV h2]
      rfl
theorem rows_ks {K : PySem.W.Frag} {Z : Hp} {ι : Nat → Addr} {n : Nat} : ∀ {rs : List (List Int)} {xs : List V}, Rps K Z ι n (rs.map tupI) xs → ∃ ks : List (Addr × List Int), xs = ks.map (fun p => V.ref p.1) ∧ ks.map (·.2) = rs ∧ ∀ p ∈ ks, Rp K Z ι n (tupI p.2) (.ref p.1)
  | [], _, h => by cases h; exact ⟨[], rfl, rfl, fun p hp => by cases hp⟩
  | r :: rs, _, h => by
    cases h with
    | cons h1 h2 =>
      obtain ⟨ks, e1, e2, e3⟩ := rows_ks h2
      have ex : ∀ {v : V}, Rp K Z ι n (tupI r) v → ∃ a, v = V.ref a := fun h => by
        cases h with
        | tup s r => exact ⟨_, rfl⟩
      obtain ⟨a, rfl⟩ := ex h1
      refine ⟨(a, r) :: ks, by rw [e1]; rfl, by rw [← e2]; rfl, fun p hp => ?_⟩
      rcases List.mem_cons.mp hp with z | z
      · rw [z]; exact h1
      · exact e3 p z
theorem tupI_sq {K : PySem.W.Frag} {H Z : Hp} {ι : Nat → Addr} {n : Nat} {r : List Int} {a : Addr} (hz : Sub Z H) (h : Rp K Z ι n (tupI r) (.ref a)) : SqT K H a (r.map V.int) := by
  cases h with
  | tup s rr =>
    have e := rps_intV rr
    subst e
    exact subT hz s
theorem rps_rows {K : PySem.W.Frag} {Z : Hp} {ι : Nat → Addr} {n : Nat} : ∀ {L' : List (Addr × List Int)}, (∀ p ∈ L', Rp K Z ι n (tupI p.2) (.ref p.1)) → Rps K Z ι n ((L'.map (·.2)).map tupI) (L'.map fun p => V.ref p.1)
  | [], _ => .nil
  | p :: L', h => .cons (h p (by simp)) (rps_rows fun q hq => h q (by simp [hq]))
section
variable {X : Cx} {C : CT} {W : WX} {a : Expr} {ge : GE} {p p2 pos q : Pos}
theorem qe_sortS (hc : X.calm = true) (hu : X.A.units + 70 < cLine) (hg : Gl X "sorted") (hm : X.mg "sorted" = none) (hg2 : Gl X "set") (hm2 : X.mg "set" = none) (ha : QE X C W a ge)
    (na : starEach [a] X.env = (false, eval a X.env) :: starEach [] X.env := by rfl) (nb : starEach [Expr.Call (.Name "set" p2) [a] [] q] X.env = (false, eval (.Call (.Name "set" p2) [a] [] q) X.env) :: starEach [] X.env := by rfl) :
    QE X C W (.Call (.Name "sorted" p) [.Call (.Name "set" p2) [a] [] q] [] pos) (gSortS ge) := by
  obtain ⟨ta, pa, qa⟩ := ha
  have ps := pe_callTy (p := p2) (pos := q) (cr_setOfT hc (by omega)) hg2 hm2 (by decide +kernel) (pa_cons pa pa_nil na) (by decide) (by decide) na
  refine ⟨_, pe_callB (cr_sortS hc hu) hg hm (by decide +kernel) (pa_cons ps pa_nil nb) (by decide) (by decide) nb, fun σ H Z ι Γ M Q sl hr h => ?_⟩
  refine qa σ H Z ι Γ M _ sl hr (Post.bind h fun x M1 v H1 Z1 ι1 e1 hr1 r1 h1 => ?_)
  obtain ⟨d, hd, h2⟩ := Post.of_opR (γ := D) (δ := V) h1
  unfold dSortS at hd
  cases el : listD M1 x with
  | none => rw [el] at hd; cases hd
  | some ds =>
    rw [el, Option.bind_some] at hd
    cases er : rowsL ds with
    | none => rw [er] at hd; cases hd
    | some rs =>
      rw [er, Option.bind_some] at hd
      by_cases c : (decide (rs.length < 64) && srtOk (uniqR rs)) = true
      · rw [if_pos c] at hd
        cases hd
        simp only [Bool.and_eq_true, decide_eq_true_eq] at c
        obtain ⟨l, xs, rfl, ex, rp⟩ := listD_run hr1 r1 el
        have eds := rowsL_is er
        subst eds
        obtain ⟨ks, rfl, e2, e3⟩ := rows_ks rp
        have hks : ks.length = rs.length := by rw [← e2, List.length_map]
        refine ⟨l, ks, rfl, ex.sq, fun p hp => tupI_sq hr1.sub (e3 p hp), by rw [hks]; exact c.1, fun b L hb hs1 hs2 => ?_⟩
        have od : Odd Z1 ι1 M1.length b := .new hr1 hb
        have hrb : HR X.K (upd H1 b (SetTO X.prog X.w b L)) Z1 ι1 M1 := hr1.odd od
        have xb : Ext H1 Z1 ι1 M1.length (upd H1 b (SetTO X.prog X.w b L)) Z1 ι1 M1.length := (Ext.refl).touch hb
        refine ⟨b, L, rfl, upd_same, fun p hp => tupI_sq hrb.sub (e3 p (hs1 p hp)), fun nd => ?_⟩
        have pm : (L.map (·.2)).Perm (uniqR rs) := by
          refine (List.perm_ext_iff_of_nodup nd (uniqR_nodup rs)).mpr fun r => ?_
          rw [mem_uniqR, ← e2]
          constructor
          · intro hr
            obtain ⟨p, hp, rfl⟩ := List.mem_map.mp hr
            exact List.mem_map.mpr ⟨p, hs1 p hp, rfl⟩
          · intro hr
            obtain ⟨p, hp, rfl⟩ := List.mem_map.mp hr
            exact hs2 p hp
        refine ⟨srtOk_perm pm c.2, fun L' p' hL' eL' hp' => ?_⟩
        obtain ⟨hr3, x3⟩ := hrb.frozen (o := .lst (L'.map fun q => V.ref q.1)) hp'
        have rp' : Rps X.K Z1 ι1 M1.length ((srtR (uniqR rs)).map tupI) (L'.map fun p => V.ref p.1) := by
          rw [← srtR_perm pm, ← eL']
          exact rps_rows fun q hq => e3 q (hs1 q (hL' q hq))
        exact h2 _ _ _ _ (xb.trans x3 hrb.ali) hr3 (.lst (.inl (.inl upd_same)) (rp'.ext x3))
      · rw [if_neg c] at hd
        cases hd
end
end Bk

set_option Elab.async false
set_option linter.all false
set_option maxRecDepth 100000
set_option maxHeartbeats 4000000
namespace Bk
open PySem PySem.Spec PyProof.Rows L2 PpSet
/-! ### a set comprehension of tuples of ints, and how many they are -/
section
variable {X : Cx} {pins : List (Addr × Obj)} {σ : St} {H : Hp} {s : Shared}
end
end Bk

set_option Elab.async false
set_option linter.all false
set_option maxRecDepth 100000
set_option maxHeartbeats 4000000
namespace Bk
open PySem PySem.Spec PyProof.Rows L2 PpSet
/-! ### len({e for x in xs if ..}), e a tuple of ints -/
def rowD : D → Option (List Int)
  | .tup xs => intsL xs
  | _ => none
def gScL (gg : GG) (gt : GT) (ge : GE) (Γ0 : Env) : List D → List (List Int) → List MO → R (List (List Int))
  | [], rs, M => .ok rs M
  | d :: ds, rs, M => match gg d Γ0 with
    | none => .bad
    | some Γ1 => (gt Γ1 M).only fun k M1 => if k = true then (ge Γ1 M1).only fun y M2 => match rowD y with
        | some r => if rs.length + 1 < 64 then gScL gg gt ge Γ0 ds (rs ++ [r]) M2 else .bad
        | none => .bad
      else gScL gg gt ge Γ0 ds rs M1
def gLenSc (gi : GI) (gg : GG) (gt : GT) (ge : GE) (vs : List Nat) : GE := fun Γ M => (gi Γ M).bind fun ds M1 => (gScL gg gt ge (forget Γ vs) ds [] M1).bind fun rs M2 => .ok (.int ((uniqR rs).length : Nat)) M2
@[simp] theorem u_gLenSc (gi : GI) (gg : GG) (gt : GT) (ge : GE) (vs : List Nat) (Γ : Env) (M : List MO) : gLenSc gi gg gt ge vs Γ M = ((gi Γ M).bind fun ds M1 => (gScL gg gt ge (forget Γ vs) ds [] M1).bind fun rs M2 => .ok (.int ((uniqR rs).length : Nat)) M2) := Eq.trans rfl rfl
@[simp] theorem scL_nil (gg : GG) (gt : GT) (ge : GE) (Γ0 : Env) (rs : List (List Int)) (M : List MO) : gScL gg gt ge Γ0 [] rs M = .ok rs M := by simp [gScL]
section
variable {X : Cx} {C : CT} {W : WX}
variable {elt tg iter : Expr} {ifs : List Expr} {scope : Scope} {own : List (Str × Nat)} {p q pos : Pos} {gi : GI} {gg : GG} {gt : GT} {ge : GE} {is ixs : List Nat}
end
end Bk

set_option Elab.async false
set_option linter.all false
set_option maxRecDepth 100000
set_option maxHeartbeats 4000000
namespace Bk
open PySem PySem.Spec PyProof.Rows L2
/-! ### attributes stored at once, objects whose fields are ours, keys of a dict of ours, defs that call themselves -/
section
variable {X : Cx} {C : CT} {W : WX} {e o : Expr} {es : List Expr} {nm f m x : Str} {ge go : GE} {gs : GA} {pos apos pos' p : Pos} {C0 : Addr}
abbrev HHs := List D → Env → List MO → Option (List MO)
def gSetFs (ge : GE) (hs : HHs) : GS := fun Γ M => (ge Γ M).thenS Γ fun d M1 => match d with
  | .tup ds => match hs ds Γ M1 with
    | some M2 => .nx Γ M2
    | none => .bad
  | _ => .bad
/-! C(e, ..), the fields may be ours -/
def gNewW (nm : Str) (n : Nat) (F : List D → List MO → R D) (ga : GA) : GE := fun Γ M => (ga Γ M).bind fun ds M1 => if ds.length + 1 = n then (callW F (.ref M1.length :: ds) (M1 ++ [.obj nm []])).bind (newR M1.length) else .bad
variable {k n : Nat} {fa : Addr} {fd : FuncData} {ps : List Str} {F : List D → List MO → R D}
end
/-! a key that is not in a dict -/
section
variable {X : Cx}
end
theorem fnQ_bad {P : Program} {w : World} {K : PySem.W.Frag} {mg : Str → Option Value} {base : Heap} {C : CT} {k : Nat} {f : Addr} {fd : FuncData} {ps : List Str} : FnQ P w K mg base C k f fd ps (fun _ _ => .bad) :=
  ⟨fun _ _ _ _ _ _ _ _ _ _ _ _ _ _ _ _ _ _ _ _ _ h => h.elim⟩
@[simp] theorem u_gSetFs (ge : GE) (hs : HHs) (Γ : Env) (M : List MO) : gSetFs ge hs Γ M = ((ge Γ M).thenS Γ fun d M1 => match d with
  | .tup ds => match hs ds Γ M1 with
    | some M2 => .nx Γ M2
    | none => .bad
  | _ => .bad) := Eq.trans rfl rfl
@[simp] theorem u_gNewW (nm : Str) (n : Nat) (F : List D → List MO → R D) (ga : GA) (Γ : Env) (M : List MO) : gNewW nm n F ga Γ M = ((ga Γ M).bind fun ds M1 => if ds.length + 1 = n then (callW F (.ref M1.length :: ds) (M1 ++ [.obj nm []])).bind (newR M1.length) else .bad) := Eq.trans rfl rfl
end Bk

set_option Elab.async false
set_option linter.all false
set_option maxRecDepth 100000
set_option maxHeartbeats 4000000
namespace Bk
open PySem PySem.Spec PyProof.Rows L2
/-! ### len(set(xs)) of tuples of ints -/
def dLenSet (M : List MO) (d : D) : Option D := ((listD M d).bind rowsL).bind fun rs => if rs.length < 64 then some (.int ((uniqR rs).length : Nat)) else none
def gLenSet (ge : GE) : GE := fun Γ M => (ge Γ M).bind fun d M1 => opR (dLenSet M1 d) M1
@[simp] theorem u_gLenSet (ge : GE) (Γ : Env) (M : List MO) : gLenSet ge Γ M = ((ge Γ M).bind fun d M1 => opR (dLenSet M1 d) M1) := Eq.trans rfl rfl
section
variable {X : Cx} {C : CT} {W : WX} {a : Expr} {ge : GE} {p p2 pos q : Pos}
end
end Bk

set_option Elab.async false
set_option linter.all false
set_option maxRecDepth 100000
set_option maxHeartbeats 4000000
namespace Bk
open PySem PySem.Spec PyProof.Rows L2
open PySem.Sem (wp)
/-! ### zip(.., strict=True) of two iterators, its step -/
abbrev IsZS (h : Heap) (z TI TO : Addr) (f0 : Value) (f1 : Bool) : Prop :=
  h.get? z = some { cls := .type "zip", dict := none, data := .fields #[f0, .bool f1, .bool true, .ref TI, .ref TO], slots := #[] }
section
variable {prog : Program} {w : World} {A : Around} {E : Value → Shared → Prop} {s : Shared} {z TI TO i1 i2 : Addr} {fp1 fp2 : List Addr} {n1 n2 n i : Nat} {P1 P2 P : Nat → Value → Prop} {St1 St2 St : Nat → Heap → Prop} {a1 a2 : Value}
theorem alive_wp {a : Addr} {o : Obj} {Q : Option Obj → Shared → Prop} (ho : s.heap.get? a = some o) (h : Q (some o) s) : wpAny (model prog w) A (loadIfAlive a) Q E s := by
  have h' : Q (s.heap.get? a) s := by rw [ho]; exact h
  exact fun _ _ _ => h'
theorem nextOrEnd_item {it : Addr} {fp : List Addr} {Q : Option Value → Shared → Prop} (D : Draws prog w A it fp n P St) (hlt : i < n) (st : St i s.heap)
    (hQ : ∀ x h' tk, P i x → St (i + 1) h' → Heap.SameBut it s.heap h' → Q (some x) { s with heap := h', toks := tk }) : wpAny (model prog w) A (Builtin.SmallTypes.nextOrEnd (.ref it)) Q E s := by
  unfold Builtin.SmallTypes.nextOrEnd
  exact wpAny_bind (wpAny_attempt (D.item i s _ _ hlt st fun x h' tk a b c => wpAny_pure (hQ x h' tk a b c)))
theorem nextOrEnd_done {it : Addr} {fp : List Addr} {Q : Option Value → Shared → Prop} (D : Draws prog w A it fp n P St) (st : St n s.heap)
    (hQ : ∀ h', Heap.ExtBut it s.heap h' → Q none { s with heap := h' }) : wpAny (model prog w) A (Builtin.SmallTypes.nextOrEnd (.ref it)) Q E s := by
  unfold Builtin.SmallTypes.nextOrEnd
  refine wpAny_bind (wpAny_attempt (D.done s _ _ st fun h' e hb he => ?_))
  obtain ⟨o, ho, hc⟩ := he
  exact wpAny_bind (wpAny_isInstance (T := "StopIteration") (b := true) ⟨o, ho, hc⟩ isSubtype_stop (wpAny_pure (hQ h' hb)))
theorem stop_wp {α : Type} {Q : α → Shared → Prop} (hh : A.handled = none) (hE : ∀ h' e, (∀ c o, s.heap.get? c = some o → h'.get? c = some o) → (∃ o, h'.get? e = some o ∧ o.cls = .type "StopIteration") → E (.ref e) { s with heap := h' }) :
    wpAny (model prog w) A (Builtin.SmallTypes.stopIteration : Sem α) Q E s := by
  unfold Builtin.SmallTypes.stopIteration
  refine wpAny_bind ?_
  simp only [newExc, newTuple]
  refine wpAny_bind (wpAny_newObj_type ?_ (by size_fits))
  refine wpAny_bind (m := firstArgMember _ _) (wpAny_of_eq (a := Value.none) (by first | rfl | (simp only [firstArgMember]; rfl)) ?_)
  refine wpAny_newObj_type ?_ (by size_fits)
  simp only [raiseNew]
  refine wpAny_bind (wpAny_handled ?_)
  rw [hh]
  refine wpAny_bind (wpAny_pure (wpAny_throw ?_))
  exact hE _ _ (fun c o e => Heap.get?_push_of_some _ (Heap.get?_push_of_some _ e)) ⟨_, Heap.get?_push_size _ rfl, rfl⟩
theorem zS_free {f0 : Value} {f : Bool} {Q : Value → Shared → Prop} (hfree : ∀ {Q : Bool → Shared → Prop} {E : Value → Shared → Prop}, Q true s → wpAny (model prog w) A (Builtin.SmallTypes.ownedTupleIsFree (.ref z)) Q E s) (S : ZipSep2 z TI TO i1 i2 fp1 fp2) (D1 : Draws prog w A i1 fp1 n1 P1 St1) (D2 : Draws prog w A i2 fp2 n2 P2 St2)
    (hz : IsZS s.heap z TI TO f0 f) (hTI : IsTupOf2 s.heap TI (.ref i1) (.ref i2)) (hTO : IsTupOf2 s.heap TO a1 a2) (st1 : St1 i s.heap) (st2 : St2 i s.heap) (hlt1 : i < n1) (hlt2 : i < n2)
    (hQ : ∀ x1 x2 h' tk, P1 i x1 → P2 i x2 → IsZS h' z TI TO (rawInt s.heap.objs.size) false → IsTupOf2 h' TO x1 x2 → St1 (i + 1) h' → St2 (i + 1) h' → IsTupOf2 h' s.heap.objs.size x1 x2 → h'.objs.size = s.heap.objs.size + 1 →
      (∀ c o, c ≠ z → c ≠ TO → c ≠ i1 → c ≠ i2 → s.heap.get? c = some o → h'.get? c = some o) → Q (.ref s.heap.objs.size) { s with heap := h', toks := tk }) :
    wpAny (model prog w) A (Builtin.«zip.__next__» ⟨[.ref z], []⟩) (fun fin s' => ∃ v, fin = .done (.ret v) ∧ Q v s') E s := by
  obtain ⟨hp, g, d, tk0, os⟩ := s
  show wpAny _ _ (field (.ref z) 2 >>= _) _ _ _
  refine wpAny_bind (wpAny_field hz rfl (x := .bool true) rfl ?_)
  show wpAny _ _ (field (.ref z) 3 >>= _) _ _ _
  refine wpAny_bind (wpAny_field hz rfl (x := .ref TI) rfl ?_)
  refine wpAny_bind (wpAny_seqItems hTI rfl ?_)
  show wpAny _ _ (Builtin.SmallTypes.ownedTupleIsFree (.ref z) >>= _) _ _ _
  refine wpAny_bind (hfree ?_)
  simp only [if_true]
  refine wpAny_bind (wpAny_rule ?_)
  refine wpAny_bind (wpAny_field hz rfl (x := .ref TO) rfl ?_)
  refine wpAny_bind (wpAny_setField_rec hz (by simp) fun g0 hz0 hs0 => ?_)
  replace hz0 : IsZS g0 z TI TO .ellipsis f := hz0
  replace hs0 : Heap.SameBut z hp g0 := hs0
  refine wpAny_bind ?_
  simp only [List.zipIdx_cons, List.zipIdx_nil, List.forIn_cons, List.forIn_nil]
  refine wpAny_bind (wpAny_bind (wpAny_onRaise ?_))
  show wpAny _ _ (Builtin.SmallTypes.nextOrEnd (.ref i1)) _ _ ⟨g0, g, d, tk0, os⟩
  refine nextOrEnd_item D1 hlt1 (D1.over st1 hs0 S.zf1) fun x1 p1 tk1 hx1 sn1 hp1 => ?_
  replace hp1 : Heap.SameBut i1 g0 p1 := hp1
  have hU1 : IsTupOf2 p1 TO a1 a2 := hp1.extBut _ _ S.Ti1 (hs0.extBut _ _ S.TOz hTO)
  refine wpAny_bind (wpAny_seqItems (s := ⟨p1, g, d, tk1, os⟩) hU1 rfl ?_)
  refine wpAny_bind (updateSeq_IsTupOf2 (s := ⟨p1, g, d, tk1, os⟩) hU1 fun g1 hT1 hs1 => ?_)
  replace hT1 : IsTupOf2 g1 TO x1 a2 := hT1
  replace hs1 : Heap.SameBut TO p1 g1 := hs1
  refine wpAny_bind (wpAny_letGo (wpAny_pure ?_))
  refine wpAny_bind (wpAny_bind (wpAny_onRaise ?_))
  show wpAny _ _ (Builtin.SmallTypes.nextOrEnd (.ref i2)) _ _ ⟨g1, g, d, tk1, os⟩
  refine nextOrEnd_item D2 hlt2 (D2.over (D2.over (D2.over st2 hs0 S.zf2) hp1 S.sep1_2) hs1 S.Tf2) fun x2 p2 tk2 hx2 sn2 hp2 => ?_
  replace hp2 : Heap.SameBut i2 g1 p2 := hp2
  have hU2 : IsTupOf2 p2 TO x1 a2 := hp2.extBut _ _ S.Ti2 hT1
  refine wpAny_bind (wpAny_seqItems (s := ⟨p2, g, d, tk2, os⟩) hU2 rfl ?_)
  refine wpAny_bind (updateSeq_IsTupOf2 (s := ⟨p2, g, d, tk2, os⟩) hU2 fun g2 hT2 hs2 => ?_)
  replace hT2 : IsTupOf2 g2 TO x1 x2 := hT2
  replace hs2 : Heap.SameBut TO p2 g2 := hs2
  refine wpAny_bind (wpAny_letGo (wpAny_pure (wpAny_pure ?_)))
  refine wpAny_bind (wpAny_seqItems (s := ⟨g2, g, d, tk2, os⟩) hT2 rfl ?_)
  refine wpAny_bind (wpAny_newTuple ?_)
  have hsz : g2.objs.size = hp.objs.size := by rw [hs2.1, hp2.1, hs1.1, hp1.1, hs0.1]
  have hzz : IsZS g2 z TI TO .ellipsis f := (hs2.extBut _ _ S.TOz.symm (hp2.extBut _ _ S.zi2 (hs1.extBut _ _ S.TOz.symm (hp1.extBut _ _ S.zi1 hz0))))
  have hkk : ∀ c o, c ≠ z → c ≠ TO → c ≠ i1 → c ≠ i2 → hp.get? c = some o → g2.get? c = some o := fun c o cz cT c1 c2 e =>
    (hs2.extBut _ _ cT (hp2.extBut _ _ c2 (hs1.extBut _ _ cT (hp1.extBut _ _ c1 (hs0.extBut _ _ cz e)))))
  have hj1 : St1 (i + 1) g2 := (D1.over (D1.over (D1.over sn1 hs1 S.Tf1) hp2 S.sep2_1) hs2 S.Tf1)
  have hj2 : St2 (i + 1) g2 := (D2.over sn2 hs2 S.Tf2)
  have hzlt : z < g2.objs.size := Heap.lt_size hzz
  show wpAny _ _ (Builtin.SmallTypes.ownedTupleHandOut (.ref z) (.ref g2.objs.size) >>= _) _ _ ⟨g2.push { cls := .type "tuple", data := .seq #[x1, x2] }, g, d, tk2, os⟩
  refine wpAny_bind ?_
  unfold Builtin.SmallTypes.ownedTupleHandOut
  have hz₆ : IsZS (g2.push { cls := .type "tuple", data := .seq #[x1, x2] }) z TI TO .ellipsis f := Heap.get?_push_of_some _ hzz
  refine wpAny_bind (wpAny_setField_rec hz₆ (by simp) fun h₇ hz₇ hs₇ => ?_)
  replace hz₇ : IsZS h₇ z TI TO (rawInt g2.objs.size) f := hz₇
  refine wpAny_setField_rec hz₇ (by simp) fun h₈ hz₈ hs₈ => ?_
  replace hz₈ : IsZS h₈ z TI TO (rawInt g2.objs.size) false := hz₈
  replace hs₇ : Heap.SameBut z (g2.push { cls := .type "tuple", data := .seq #[x1, x2] }) h₇ := hs₇
  replace hs₈ : Heap.SameBut z h₇ h₈ := hs₈
  have up : ∀ c o, c ≠ z → g2.get? c = some o → h₈.get? c = some o := fun c o c1 e => hs₈.extBut _ _ c1 (hs₇.extBut _ _ c1 (Heap.get?_push_of_some _ e))
  have hT₈ : IsTupOf2 h₈ g2.objs.size x1 x2 := hs₈.extBut _ _ (Nat.ne_of_gt hzlt) (hs₇.extBut _ _ (Nat.ne_of_gt hzlt) (Heap.get?_push_size _ rfl))
  have hz8 : h₈.objs.size = g2.objs.size + 1 := by rw [hs₈.1, hs₇.1, Heap.size_push]
  rw [hsz] at hz₈ hT₈ hz8
  refine wpAny_pure ⟨_, rfl, ?_⟩
  show Q (.ref g2.objs.size) ⟨h₈, g, d, tk2, os⟩
  rw [hsz]
  exact hQ x1 x2 h₈ tk2 hx1 hx2 hz₈ (up _ _ S.TOz hT2) (D1.frame _ _ _ hj1 fun b hb o e => up b o (fun q => S.zf1 (q ▸ hb)) e) (D2.frame _ _ _ hj2 fun b hb o e => up b o (fun q => S.zf2 (q ▸ hb)) e) hT₈ hz8 fun c o cz cT c1 c2 e => up c o cz (hkk c o cz cT c1 c2 e)
theorem zS_held {T : Addr} {f : Bool} {oT : Obj} {Q : Value → Shared → Prop} (S : ZipSep2 z TI TO i1 i2 fp1 fp2) (D1 : Draws prog w A i1 fp1 n1 P1 St1) (D2 : Draws prog w A i2 fp2 n2 P2 St2)
    (hz : IsZS s.heap z TI TO (rawInt T) f) (hT : s.heap.get? T = some oT) (hTI : IsTupOf2 s.heap TI (.ref i1) (.ref i2)) (st1 : St1 i s.heap) (st2 : St2 i s.heap) (hlt1 : i < n1) (hlt2 : i < n2)
    (hQ : ∀ x1 x2 h' tk, P1 i x1 → P2 i x2 → IsZS h' z TI TO (rawInt T) true → St1 (i + 1) h' → St2 (i + 1) h' → IsTupOf2 h' s.heap.objs.size x1 x2 → h'.objs.size = s.heap.objs.size + 1 →
      (∀ c o, c ≠ z → c ≠ i1 → c ≠ i2 → s.heap.get? c = some o → h'.get? c = some o) → Q (.ref s.heap.objs.size) { s with heap := h', toks := tk }) :
    wpAny (model prog w) A (Builtin.«zip.__next__» ⟨[.ref z], []⟩) (fun fin s' => ∃ v, fin = .done (.ret v) ∧ Q v s') E s := by
  obtain ⟨hp, g, d, tk0, os⟩ := s
  show wpAny _ _ (field (.ref z) 2 >>= _) _ _ _
  refine wpAny_bind (wpAny_field hz rfl (x := .bool true) rfl ?_)
  show wpAny _ _ (field (.ref z) 3 >>= _) _ _ _
  refine wpAny_bind (wpAny_field hz rfl (x := .ref TI) rfl ?_)
  refine wpAny_bind (wpAny_seqItems hTI rfl ?_)
  show wpAny _ _ (Builtin.SmallTypes.ownedTupleIsFree (.ref z) >>= _) _ _ _
  have held : ∀ {Q : Bool → Shared → Prop} {E : Value → Shared → Prop}, (∀ h', IsZS h' z TI TO (rawInt T) true → Heap.SameBut z hp h' → Q false ⟨h', g, d, tk0, os⟩) → wpAny (model prog w) A (Builtin.SmallTypes.ownedTupleIsFree (.ref z)) Q E ⟨hp, g, d, tk0, os⟩ := fun {Q E} h => by
    unfold Builtin.SmallTypes.ownedTupleIsFree
    refine wpAny_bind (wpAny_field hz rfl (x := rawInt T) rfl ?_)
    show wpAny _ _ (loadIfAlive ((T : Int).toNat) >>= _) _ _ _
    rw [Int.toNat_natCast]
    refine wpAny_bind (alive_wp hT ?_)
    simp only [Option.isNone_some, Bool.false_eq_true, if_false]
    refine wpAny_bind (wpAny_field hz rfl (x := .bool f) rfl ?_)
    cases f with
    | true =>
      rw [if_neg (show ¬ ((Value.bool true != Value.bool true) = true) from Bool.false_ne_true)]
      exact wpAny_pure (h hp hz (Heap.SameBut.refl _ _))
    | false =>
      rw [if_pos (show (Value.bool false != Value.bool true) = true from rfl)]
      exact wpAny_bind (wpAny_setField_rec hz (by simp) fun h₁ hz₁ hs₁ => wpAny_pure (h h₁ hz₁ hs₁))
  refine wpAny_bind (held fun g0 hz0 hs0 => ?_)
  simp only [Bool.false_eq_true, if_false]
  refine wpAny_bind ?_
  rw [← Array.forIn_toList]
  simp only [List.forIn_cons, List.forIn_nil]
  refine wpAny_bind (wpAny_bind (wpAny_holding ?_))
  show wpAny _ _ (Builtin.SmallTypes.nextOrEnd (.ref i1)) _ _ ⟨g0, g, d, tk0, os⟩
  refine nextOrEnd_item D1 hlt1 (D1.over st1 hs0 S.zf1) fun x1 p1 tk1 hx1 sn1 hp1 => ?_
  replace hp1 : Heap.SameBut i1 g0 p1 := hp1
  refine wpAny_pure ?_
  refine wpAny_bind (wpAny_bind (wpAny_holding ?_))
  show wpAny _ _ (Builtin.SmallTypes.nextOrEnd (.ref i2)) _ _ ⟨p1, g, d, tk1, os⟩
  refine nextOrEnd_item D2 hlt2 (D2.over (D2.over st2 hs0 S.zf2) hp1 S.sep1_2) fun x2 p2 tk2 hx2 sn2 hp2 => ?_
  replace hp2 : Heap.SameBut i2 p1 p2 := hp2
  refine wpAny_pure (wpAny_pure ?_)
  show wpAny _ _ (newTuple [x1, x2] >>= _) _ _ ⟨p2, g, d, tk2, os⟩
  refine wpAny_bind (wpAny_newTuple ?_)
  have hsz : p2.objs.size = hp.objs.size := by rw [hp2.1, hp1.1, hs0.1]
  have hzz : IsZS p2 z TI TO (rawInt T) true := hp2.extBut _ _ S.zi2 (hp1.extBut _ _ S.zi1 hz0)
  have hk : ∀ c o, c ≠ z → c ≠ i1 → c ≠ i2 → hp.get? c = some o → p2.get? c = some o := fun c o cz c1 c2 e => hp2.extBut _ _ c2 (hp1.extBut _ _ c1 (hs0.extBut _ _ cz e))
  have hj1 : St1 (i + 1) p2 := D1.over sn1 hp2 S.sep2_1
  refine wpAny_pure ⟨_, rfl, ?_⟩
  show Q (.ref p2.objs.size) _
  have hpp : IsTupOf2 (p2.push { cls := .type "tuple", data := .seq #[x1, x2] }) p2.objs.size x1 x2 := Heap.get?_push_size _ rfl
  have hz4 : (p2.push { cls := .type "tuple", data := .seq #[x1, x2] }).objs.size = p2.objs.size + 1 := Heap.size_push ..
  rw [hsz] at hpp hz4 ⊢
  exact hQ x1 x2 _ tk2 hx1 hx2 (Heap.get?_push_of_some _ hzz) (D1.frame _ _ _ hj1 fun b hb o e => Heap.get?_push_of_some _ e) (D2.frame _ _ _ sn2 fun b hb o e => Heap.get?_push_of_some _ e) hpp hz4 fun c o cz c1 c2 e => Heap.get?_push_of_some _ (hk c o cz c1 c2 e)
/-- both have ended -/
theorem zS_end {f0 : Value} {f : Bool} {Q : Fin → Shared → Prop} (hh : A.handled = none) (S : ZipSep2 z TI TO i1 i2 fp1 fp2) (D1 : Draws prog w A i1 fp1 n P1 St1) (D2 : Draws prog w A i2 fp2 n P2 St2)
    (hz : IsZS s.heap z TI TO f0 f) (hf : (∀ {Q : Bool → Shared → Prop} {E : Value → Shared → Prop}, Q true s → wpAny (model prog w) A (Builtin.SmallTypes.ownedTupleIsFree (.ref z)) Q E s) ∨ ∃ (T : Addr) (oT : Obj), f0 = rawInt T ∧ s.heap.get? T = some oT) (hTI : IsTupOf2 s.heap TI (.ref i1) (.ref i2)) (hTO : IsTupOf2 s.heap TO a1 a2) (st1 : St1 n s.heap) (st2 : St2 n s.heap)
    (hE : ∀ h' tk e, (∀ c o, c ≠ z → c ≠ TO → c ≠ i1 → c ≠ i2 → s.heap.get? c = some o → h'.get? c = some o) → (∃ o, h'.get? e = some o ∧ o.cls = .type "StopIteration") → E (.ref e) { s with heap := h', toks := tk }) :
    wpAny (model prog w) A (Builtin.«zip.__next__» ⟨[.ref z], []⟩) Q E s := by
  obtain ⟨hp, g, d, tk0, os⟩ := s
  show wpAny _ _ (field (.ref z) 2 >>= _) _ _ _
  refine wpAny_bind (wpAny_field hz rfl (x := .bool true) rfl ?_)
  show wpAny _ _ (field (.ref z) 3 >>= _) _ _ _
  refine wpAny_bind (wpAny_field hz rfl (x := .ref TI) rfl ?_)
  refine wpAny_bind (wpAny_seqItems hTI rfl ?_)
  show wpAny _ _ (Builtin.SmallTypes.ownedTupleIsFree (.ref z) >>= _) _ _ _
  rcases hf with hfree | ⟨T, oT, rfl, hT⟩
  · refine wpAny_bind (hfree ?_)
    simp only [if_true]
    refine wpAny_bind (wpAny_rule ?_)
    refine wpAny_bind (wpAny_field hz rfl (x := .ref TO) rfl ?_)
    refine wpAny_bind (wpAny_setField_rec hz (by simp) fun g0 hz0 hs0 => ?_)
    replace hz0 : IsZS g0 z TI TO .ellipsis f := hz0
    replace hs0 : Heap.SameBut z hp g0 := hs0
    refine wpAny_bind ?_
    simp only [List.zipIdx_cons, List.zipIdx_nil, List.forIn_cons, List.forIn_nil]
    refine wpAny_bind (wpAny_bind (wpAny_onRaise ?_))
    show wpAny _ _ (Builtin.SmallTypes.nextOrEnd (.ref i1)) _ _ ⟨g0, g, d, tk0, os⟩
    refine nextOrEnd_done D1 (D1.over st1 hs0 S.zf1) fun q hq => ?_
    replace hq : Heap.ExtBut i1 g0 q := hq
    have hzq : IsZS q z TI TO .ellipsis f := hq _ _ S.zi1 hz0
    refine wpAny_bind (wpAny_setField_rec (s := ⟨q, g, d, tk0, os⟩) hzq (by simp) fun q' hzq' hq' => ?_)
    replace hq' : Heap.SameBut z q q' := hq'
    refine wpAny_bind ?_
    show wpAny _ _ (forIn ((List.drop 1 [Value.ref i1, Value.ref i2]).zipIdx 1) PUnit.unit _ >>= _) _ _ _
    simp only [List.drop_succ_cons, List.drop_zero, List.zipIdx_cons, List.zipIdx_nil, List.forIn_cons, List.forIn_nil]
    refine wpAny_bind (wpAny_bind (wpAny_bind (nextOrEnd_done D2 (D2.over (D2.frame _ _ _ (D2.over st2 hs0 S.zf2) fun b hb o e => hq b o (fun x => S.sep1_2 (x ▸ hb)) e) hq' S.zf2) fun q2 hq2 => ?_)))
    replace hq2 : Heap.ExtBut i2 q' q2 := hq2
    simp only [Option.isSome_none, Bool.false_eq_true, if_false]
    refine wpAny_pure (wpAny_pure (wpAny_bind (wpAny_rule ?_)))
    refine stop_wp hh fun h3 e hk he => ?_
    exact hE h3 tk0 e (fun c o cz cT c1 c2 x => hk _ _ (hq2 _ _ c2 (hq'.extBut _ _ cz (hq _ _ c1 (hs0.extBut _ _ cz x))))) he
  · have held : ∀ {Q : Bool → Shared → Prop} {E : Value → Shared → Prop}, (∀ h', IsZS h' z TI TO (rawInt T) true → Heap.SameBut z hp h' → Q false ⟨h', g, d, tk0, os⟩) → wpAny (model prog w) A (Builtin.SmallTypes.ownedTupleIsFree (.ref z)) Q E ⟨hp, g, d, tk0, os⟩ := fun {Q E} h => by
      unfold Builtin.SmallTypes.ownedTupleIsFree
      refine wpAny_bind (wpAny_field hz rfl (x := rawInt T) rfl ?_)
      show wpAny _ _ (loadIfAlive ((T : Int).toNat) >>= _) _ _ _
      rw [Int.toNat_natCast]
      refine wpAny_bind (alive_wp hT ?_)
      simp only [Option.isNone_some, Bool.false_eq_true, if_false]
      refine wpAny_bind (wpAny_field hz rfl (x := .bool f) rfl ?_)
      cases f with
      | true =>
        rw [if_neg (show ¬ ((Value.bool true != Value.bool true) = true) from Bool.false_ne_true)]
        exact wpAny_pure (h hp hz (Heap.SameBut.refl _ _))
      | false =>
        rw [if_pos (show (Value.bool false != Value.bool true) = true from rfl)]
        exact wpAny_bind (wpAny_setField_rec hz (by simp) fun h₁ hz₁ hs₁ => wpAny_pure (h h₁ hz₁ hs₁))
    refine wpAny_bind (held fun g0 hz0 hs0 => ?_)
    simp only [Bool.false_eq_true, if_false]
    refine wpAny_bind ?_
    rw [← Array.forIn_toList]
    simp only [List.forIn_cons, List.forIn_nil]
    refine wpAny_bind (wpAny_bind (wpAny_holding ?_))
    show wpAny _ _ (Builtin.SmallTypes.nextOrEnd (.ref i1)) _ _ ⟨g0, g, d, tk0, os⟩
    refine nextOrEnd_done D1 (D1.over st1 hs0 S.zf1) fun q hq => ?_
    replace hq : Heap.ExtBut i1 g0 q := hq
    refine wpAny_bind ?_
    show wpAny _ _ (forIn ((List.drop 1 [Value.ref i1, Value.ref i2]).zipIdx 1) PUnit.unit _ >>= _) _ _ _
    simp only [List.drop_succ_cons, List.drop_zero, List.zipIdx_cons, List.zipIdx_nil, List.forIn_cons, List.forIn_nil]
    refine wpAny_bind (wpAny_bind (wpAny_bind (nextOrEnd_done D2 (D2.frame _ _ _ (D2.over st2 hs0 S.zf2) fun b hb o e => hq b o (fun x => S.sep1_2 (x ▸ hb)) e) fun q2 hq2 => ?_)))
    replace hq2 : Heap.ExtBut i2 q q2 := hq2
    simp only [Option.isSome_none, Bool.false_eq_true, if_false]
    refine wpAny_pure (wpAny_pure (wpAny_bind (wpAny_rule ?_)))
    refine stop_wp hh fun h3 e hk he => ?_
    exact hE h3 tk0 e (fun c o cz cT c1 c2 x => hk _ _ (hq2 _ _ c2 (hq _ _ c1 (hs0.extBut _ _ cz x)))) he
/-- the step, whatever has become of the tuple that was handed out -/
def ZFlag (f0 : Value) : Prop := f0 = .none ∨ ∃ T : Addr, f0 = rawInt T
theorem zS_cases {f0 : Value} {f : Bool} (hz : IsZS s.heap z TI TO f0 f) (hf : ZFlag f0) : (∀ {Q : Bool → Shared → Prop} {E : Value → Shared → Prop}, Q true s → wpAny (model prog w) A (Builtin.SmallTypes.ownedTupleIsFree (.ref z)) Q E s) ∨ ∃ (T : Addr) (oT : Obj), f0 = rawInt T ∧ s.heap.get? T = some oT := by
  rcases hf with rfl | ⟨T, rfl⟩
  · refine .inl fun {Q E} q => ?_
    unfold Builtin.SmallTypes.ownedTupleIsFree
    exact wpAny_bind (wpAny_field hz rfl (x := .none) rfl (wpAny_pure q))
  · cases hT : s.heap.get? T with
    | some oT => exact .inr ⟨T, oT, rfl, hT⟩
    | none =>
      refine .inl fun {Q E} q => ?_
      unfold Builtin.SmallTypes.ownedTupleIsFree
      refine wpAny_bind (wpAny_field hz rfl (x := rawInt T) rfl ?_)
      show wpAny _ _ (loadIfAlive ((T : Int).toNat) >>= _) _ _ _
      rw [Int.toNat_natCast]
      have dead : ∀ {Q : Option Obj → Shared → Prop} {E : Value → Shared → Prop}, Q none s → wpAny (model prog w) A (loadIfAlive T) Q E s := fun {Q E} h => by
        have h' : Q (s.heap.get? T) s := by rw [hT]; exact h
        exact fun _ _ _ => h'
      refine wpAny_bind (dead ?_)
      simp only [Option.isNone_none, if_true]
      exact wpAny_pure q
theorem zS_step {f0 : Value} {f : Bool} {Q : Value → Shared → Prop} (S : ZipSep2 z TI TO i1 i2 fp1 fp2) (D1 : Draws prog w A i1 fp1 n1 P1 St1) (D2 : Draws prog w A i2 fp2 n2 P2 St2)
    (hz : IsZS s.heap z TI TO f0 f) (hf : ZFlag f0) (hTI : IsTupOf2 s.heap TI (.ref i1) (.ref i2)) (hTO : IsTupOf2 s.heap TO a1 a2) (st1 : St1 i s.heap) (st2 : St2 i s.heap) (hlt1 : i < n1) (hlt2 : i < n2)
    (hQ : ∀ x1 x2 h' tk, P1 i x1 → P2 i x2 → (∃ f0 f, IsZS h' z TI TO f0 f ∧ ZFlag f0) → (∃ b1 b2, IsTupOf2 h' TO b1 b2) → St1 (i + 1) h' → St2 (i + 1) h' → IsTupOf2 h' s.heap.objs.size x1 x2 → h'.objs.size = s.heap.objs.size + 1 →
      (∀ c o, c ≠ z → c ≠ TO → c ≠ i1 → c ≠ i2 → s.heap.get? c = some o → h'.get? c = some o) → Q (.ref s.heap.objs.size) { s with heap := h', toks := tk }) :
    wpAny (model prog w) A (Builtin.«zip.__next__» ⟨[.ref z], []⟩) (fun fin s' => ∃ v, fin = .done (.ret v) ∧ Q v s') E s := by
  rcases zS_cases (A := A) (w := w) (prog := prog) hz hf with hfree | ⟨T, oT, rfl, hT⟩
  · exact zS_free hfree S D1 D2 hz hTI hTO st1 st2 hlt1 hlt2 fun x1 x2 h' tk p1 p2 b1 b2 d1 d2 b5 b6 b7 => hQ x1 x2 h' tk p1 p2 ⟨_, _, b1, .inr ⟨_, rfl⟩⟩ ⟨_, _, b2⟩ d1 d2 b5 b6 b7
  · exact zS_held S D1 D2 hz hT hTI st1 st2 hlt1 hlt2 fun x1 x2 h' tk p1 p2 b1 d1 d2 b5 b6 b7 => hQ x1 x2 h' tk p1 p2 ⟨_, _, b1, .inr ⟨_, rfl⟩⟩ ⟨_, _, b7 _ _ S.TOz S.Ti1 S.Ti2 hTO⟩ d1 d2 b5 b6 fun c o c1 c2 c3 c4 e => b7 c o c1 c3 c4 e
/-- the call -/
theorem typeCall_zS (a b : Value) : checkTypeCall "zip" ⟨[a, b], [("strict", .bool true)]⟩ = pure () := by kernel_rfl
theorem newCall_zS (a b : Value) : checkBuiltinCall "zip.__new__" ⟨[.type "zip", a, b], [("strict", .bool true)]⟩ = pure () := by kernel_rfl
theorem args_zS (obj a b : Value) : argsOk "object.__init__" ⟨[obj, a, b], [("strict", .bool true)]⟩ := by unfold argsOk; kernel_rfl
abbrev zsH (h : Heap) (o1 o2 : Obj) : Heap := (gzO2 h o1 o2).push { cls := .type "zip", data := .fields #[.none, .bool false, .bool true, .ref ((h.push o1).push o2).objs.size, .ref (gzT2 h o1 o2).objs.size] }
theorem meets_zS {v1 v2 : Value} {o1 o2 : Obj} {H1 H2 : Heap → Prop} (B1 : Begins v1 o1 H1) (B2 : Begins v2 o2 H2) :
    Meets (Builtin.«zip.__new__» ⟨[.type "zip", v1, v2], [("strict", .bool true)]⟩) (fun _ R s => (H1 s.heap ∧ H2 s.heap) ∧
      R (.ok (.ret (.ref (gzO2 s.heap o1 o2).objs.size))) { s with heap := zsH s.heap o1 o2 }) :=
  .of_wp fun prog w A R s h => by
    obtain ⟨hp, g, d, tk, os⟩ := s; obtain ⟨⟨h1, h2⟩, h⟩ := h
    have hsub := sub_zip
    have e1 : (("strict" : Str) != ("strict" : Str)) = false := by decide +kernel
    have q1 : ∀ {A' : Around} {E : Value → Shared → Prop} {Q : Value → Shared → Prop}, Q (.ref hp.objs.size) ⟨(hp.push o1), g, d, tk, os⟩ → wpAny (model prog w) A' (pyIter v1) Q E ⟨hp, g, d, tk, os⟩ :=
      fun q => B1.iter prog w _ _ ⟨hp, g, d, tk, os⟩ _ (B1.keeps _ _ h1 fun b o' e => e) q
    have q2 : ∀ {A' : Around} {E : Value → Shared → Prop} {Q : Value → Shared → Prop}, Q (.ref (hp.push o1).objs.size) ⟨((hp.push o1).push o2), g, d, tk, os⟩ → wpAny (model prog w) A' (pyIter v2) Q E ⟨(hp.push o1), g, d, tk, os⟩ :=
      fun q => B2.iter prog w _ _ ⟨(hp.push o1), g, d, tk, os⟩ _ (B2.keeps _ _ h2 fun b o' e => (Heap.get?_push_of_some _ e)) q
    wp_walk using q1, q2
    exact ⟨_, rfl, h⟩
theorem zS_begins {v1 v2 : Value} {o1 o2 : Obj} {H1 H2 : Heap → Prop} {Q : Value → Shared → Prop} (B1 : Begins v1 o1 H1) (B2 : Begins v2 o2 H2) (h1 : H1 s.heap) (h2 : H2 s.heap)
    (h : ∀ h', IsZS h' (s.heap.objs.size + 4) (s.heap.objs.size + 2) (s.heap.objs.size + 3) .none false → IsTupOf2 h' (s.heap.objs.size + 2) (.ref s.heap.objs.size) (.ref (s.heap.objs.size + 1)) →
      IsTupOf2 h' (s.heap.objs.size + 3) .none .none → h'.get? s.heap.objs.size = some o1 → h'.get? (s.heap.objs.size + 1) = some o2 → h'.objs.size = s.heap.objs.size + 5 →
      (∀ c o, s.heap.get? c = some o → h'.get? c = some o) → Q (.ref (s.heap.objs.size + 4)) { s with heap := h' }) :
    wpAny (model prog w) A (call (.type "zip") [v1, v2] [("strict", .bool true)]) Q E s := by
  refine callType_newKw F.called_zip (by decide) (typeCall_zS _ _) (newCall_zS _ _) (fun obj => args_zS obj _ _) F.entry_zip_new
    (meets_zS B1 B2) ⟨⟨h1, h2⟩, ?_⟩
  have z1 : (s.heap.push o1).objs.size = s.heap.objs.size + 1 := by rw [Heap.size_push]
  have z2 : ((s.heap.push o1).push o2).objs.size = s.heap.objs.size + 2 := by rw [Heap.size_push, z1]
  have zT : (gzT2 s.heap o1 o2).objs.size = s.heap.objs.size + 3 := by rw [Heap.size_push, z2]
  have zO : (gzO2 s.heap o1 o2).objs.size = s.heap.objs.size + 4 := by rw [Heap.size_push, zT]
  have zZ : (zsH s.heap o1 o2).objs.size = s.heap.objs.size + 5 := by rw [Heap.size_push, zO]
  have gZ : (zsH s.heap o1 o2).get? (gzO2 s.heap o1 o2).objs.size = some { cls := .type "zip", data := .fields #[.none, .bool false, .bool true, .ref ((s.heap.push o1).push o2).objs.size, .ref (gzT2 s.heap o1 o2).objs.size] } := Heap.get?_push_size _ rfl
  have gO : (zsH s.heap o1 o2).get? (gzT2 s.heap o1 o2).objs.size = some { cls := .type "tuple", data := .seq #[.none, .none] } := Heap.get?_push_of_some _ (Heap.get?_push_size _ rfl)
  have gT : (zsH s.heap o1 o2).get? ((s.heap.push o1).push o2).objs.size = some { cls := .type "tuple", data := .seq #[.ref s.heap.objs.size, .ref (s.heap.push o1).objs.size] } := Heap.get?_push_of_some _ (Heap.get?_push_of_some _ (Heap.get?_push_size _ rfl))
  have g1 : (zsH s.heap o1 o2).get? s.heap.objs.size = some o1 := Heap.get?_push_of_some _ (Heap.get?_push_of_some _ (Heap.get?_push_of_some _ (Heap.get?_push_of_some _ (Heap.get?_push_size _ B1.free))))
  have g2 : (zsH s.heap o1 o2).get? (s.heap.push o1).objs.size = some o2 := Heap.get?_push_of_some _ (Heap.get?_push_of_some _ (Heap.get?_push_of_some _ (Heap.get?_push_size _ B2.free)))
  rw [zO, zT, z2] at gZ
  rw [zT] at gO
  rw [z2, z1] at gT
  rw [z1] at g2
  show _ ∧ _
  rw [zO]
  exact ⟨⟨_, gZ, rfl⟩, h _ gZ gT gO g1 g2 zZ fun c o e => Heap.get?_push_of_some _ (Heap.get?_push_of_some _ (Heap.get?_push_of_some _ (Heap.get?_push_of_some _ (Heap.get?_push_of_some _ e))))⟩
theorem cw_type_kw {M : Model} {pos : Pos} {T : String} {args : List (Bool × Sem Value)} {kws : List (Option Str × Sem Value)} {Q : Value → Shared → Prop} (hplain : args.any (·.1) = false) (hkw : kws.any (·.1.isNone) = false)
    (h : wpAny M A (evalArgs (.type T) true args kws) (fun a s₁ => wpAny M A (call (.type T) a.pos a.kw) Q E s₁) E s) :
    wpAny M A (callWith pos (.type T) [] args kws) Q E s := by
  unfold callWith
  refine wpAny_bind (wpAny_holding (wpAny_mono h (fun a s₁ h₁ => wpAny_bind (wpAny_standAt ?_)) fun _ _ x => x))
  simp only [hplain, hkw, Bool.or_false]
  refine wpAny_bind (wpAny_pure ?_)
  exact wpAny_bind (wpAny_mono h₁ (fun r s₂ hr => wpAny_bind (wpAny_holding (wpAny_point (wpAny_pure hr)))) fun _ _ x => x)
end
end Bk

set_option Elab.async false
set_option linter.all false
set_option maxRecDepth 100000
set_option maxHeartbeats 4000000
namespace Bk
open PySem PySem.Spec PyProof.Rows L2
open PySem.Sem (wp)
/-! ### enumerate(zip(.., .., strict=True), k) -/
section
variable {prog : Program} {w : World} {A : Around} {E : Value → Shared → Prop} {s : Shared} {z TI TO i1 i2 : Addr} {fp1 fp2 : List Addr} {n1 n2 n i : Nat} {P1 P2 P : Nat → Value → Prop} {St1 St2 St : Nat → Heap → Prop} {a1 a2 : Value}
theorem nextOf_zS {f0 : Value} {f : Bool} {Q : Value → Shared → Prop} (S : ZipSep2 z TI TO i1 i2 fp1 fp2) (D1 : Draws prog w A.in1 i1 fp1 n1 P1 St1) (D2 : Draws prog w A.in1 i2 fp2 n2 P2 St2)
    (hz : IsZS s.heap z TI TO f0 f) (hf : ZFlag f0) (hTI : IsTupOf2 s.heap TI (.ref i1) (.ref i2)) (hTO : IsTupOf2 s.heap TO a1 a2) (st1 : St1 i s.heap) (st2 : St2 i s.heap) (hlt1 : i < n1) (hlt2 : i < n2)
    (hQ : ∀ x1 x2 h' tk, P1 i x1 → P2 i x2 → (∃ f0 f, IsZS h' z TI TO f0 f ∧ ZFlag f0) → (∃ b1 b2, IsTupOf2 h' TO b1 b2) → St1 (i + 1) h' → St2 (i + 1) h' → IsTupOf2 h' s.heap.objs.size x1 x2 → h'.objs.size = s.heap.objs.size + 1 →
      (∀ c o, c ≠ z → c ≠ TO → c ≠ i1 → c ≠ i2 → s.heap.get? c = some o → h'.get? c = some o) → Q (.ref s.heap.objs.size) { s with heap := h', toks := tk }) :
    wpAny (model prog w) A (Builtin.SmallTypes.nextOf (.ref z)) Q E s := by
  have hT : s.TypeIs (.ref z) "zip" := ⟨_, hz, rfl⟩
  unfold Builtin.SmallTypes.nextOf
  exact wpAny_bind (wpAny_callSpecial?_slot (name := Str.ofString "__next__") hT F.slot_zip_next
    (wpAny_call_entry F.slot_zip_next hT F.entry_zip_next
      (zS_step S D1 D2 hz hf hTI hTO st1 st2 hlt1 hlt2 fun x1 x2 h' tk y1 y2 b1 b2 d1 d2 b5 b6 b7 => wpAny_pure (hQ x1 x2 h' tk y1 y2 b1 b2 d1 d2 b5 b6 b7)) (F.args_zip_next_1 _)))
theorem nextOf_zS_end {f0 : Value} {f : Bool} {Q : Value → Shared → Prop} (hh : A.in1.handled = none) (S : ZipSep2 z TI TO i1 i2 fp1 fp2) (D1 : Draws prog w A.in1 i1 fp1 n P1 St1) (D2 : Draws prog w A.in1 i2 fp2 n P2 St2)
    (hz : IsZS s.heap z TI TO f0 f) (hf : ZFlag f0) (hTI : IsTupOf2 s.heap TI (.ref i1) (.ref i2)) (hTO : IsTupOf2 s.heap TO a1 a2) (st1 : St1 n s.heap) (st2 : St2 n s.heap)
    (hE : ∀ h' tk e, (∀ c o, c ≠ z → c ≠ TO → c ≠ i1 → c ≠ i2 → s.heap.get? c = some o → h'.get? c = some o) → (∃ o, h'.get? e = some o ∧ o.cls = .type "StopIteration") → E (.ref e) { s with heap := h', toks := tk }) :
    wpAny (model prog w) A (Builtin.SmallTypes.nextOf (.ref z)) Q E s := by
  have hT : s.TypeIs (.ref z) "zip" := ⟨_, hz, rfl⟩
  unfold Builtin.SmallTypes.nextOf
  exact wpAny_bind (wpAny_callSpecial?_slot (name := Str.ofString "__next__") hT F.slot_zip_next
    (wpAny_call_entry F.slot_zip_next hT F.entry_zip_next
      (zS_end hh S D1 D2 hz (zS_cases hz hf) hTI hTO st1 st2 hE) (F.args_zip_next_1 _)))
structure EnApart (e z TI TO i1 i2 : Addr) (fp1 fp2 : List Addr) : Prop where
  z : e ≠ z
  TI : e ≠ TI
  TO : e ≠ TO
  i1 : e ≠ i1
  i2 : e ≠ i2
  f1 : e ∉ fp1
  f2 : e ∉ fp2
theorem enumZ_body {e : Addr} {c : Int} {old : Value} {f0 : Value} {f : Bool} {Q : Value → Shared → Prop} (S : ZipSep2 z TI TO i1 i2 fp1 fp2) (V : EnApart e z TI TO i1 i2 fp1 fp2) (D1 : Draws prog w A.in1 i1 fp1 n1 P1 St1) (D2 : Draws prog w A.in1 i2 fp2 n2 P2 St2)
    (he : IsEnum s.heap e z c old) (hz : IsZS s.heap z TI TO f0 f) (hf : ZFlag f0) (hTI : IsTupOf2 s.heap TI (.ref i1) (.ref i2)) (hTO : IsTupOf2 s.heap TO a1 a2) (st1 : St1 i s.heap) (st2 : St2 i s.heap) (hlt1 : i < n1) (hlt2 : i < n2)
    (hQ : ∀ x1 x2 h1 tk1 h' tk, P1 i x1 → P2 i x2 → IsTupOf2 h1 s.heap.objs.size x1 x2 → h1.objs.size = s.heap.objs.size + 1 → (∀ b o, b ≠ z → b ≠ TO → b ≠ i1 → b ≠ i2 → s.heap.get? b = some o → h1.get? b = some o) →
      (∃ f0 f, IsZS h' z TI TO f0 f ∧ ZFlag f0) → IsTupOf2 h' TI (.ref i1) (.ref i2) → (∃ b1 b2, IsTupOf2 h' TO b1 b2) → St1 (i + 1) h' → St2 (i + 1) h' → IsEnumOut h' e z (c + 1) (.ref s.heap.objs.size) (s.heap.objs.size + 1) →
      h'.get? (s.heap.objs.size + 1) = some { cls := .type "tuple", data := .seq #[.int c tk, .ref s.heap.objs.size] } → h'.objs.size = s.heap.objs.size + 2 →
      (∀ b o, b ≠ e → h1.get? b = some o → h'.get? b = some o) → Q (.ref (s.heap.objs.size + 1)) { s with heap := h', toks := tk1 }) :
    wpAny (model prog w) A (Builtin.«enumerate.__next__» ⟨[.ref e], []⟩) (fun fin s' => ∃ v, fin = .done (.ret v) ∧ Q v s') E s := by
  obtain ⟨hp, g, d, tk₀, os⟩ := s
  show wpAny _ _ (field (.ref e) 2 >>= _) _ _ _
  refine wpAny_bind (wpAny_field he rfl (x := .ref z) rfl ?_)
  refine wpAny_bind (nextOf_zS S D1 D2 hz hf hTI hTO st1 st2 hlt1 hlt2 fun x1 x2 h₁ tk p1 p2 ⟨g0, g1, hz₁, hf₁⟩ ⟨b1, b2, hTO₁⟩ d1 d2 tup₁ sz₁ kp₁ => ?_)
  replace tup₁ : IsTupOf2 h₁ hp.objs.size x1 x2 := tup₁
  replace sz₁ : h₁.objs.size = hp.objs.size + 1 := sz₁
  have he₁ : IsEnum h₁ e z c old := kp₁ _ _ V.z V.TO V.i1 V.i2 he
  have hTI₁ : IsTupOf2 h₁ TI (.ref i1) (.ref i2) := kp₁ _ _ S.TIz S.TITO S.TIi1 S.TIi2 hTI
  show wpAny _ _ (field (.ref e) 3 >>= _) _ _ ⟨h₁, g, d, tk, os⟩
  refine wpAny_bind (wpAny_field he₁ rfl (x := rawInt c) rfl ?_)
  show wpAny _ _ (field (.ref e) 4 >>= _) _ _ ⟨h₁, g, d, tk, os⟩
  refine wpAny_bind (wpAny_field he₁ rfl (x := .none) rfl ?_)
  show wpAny _ _ (mkInt c >>= _) _ _ ⟨h₁, g, d, tk, os⟩
  refine wpAny_bind (wpAny_mkInt ?_)
  show wpAny _ _ (setField (.ref e) 3 (rawInt (c + 1)) >>= _) _ _ ⟨h₁, g, d, tk + 1, os⟩
  refine wpAny_bind (wpAny_setField_rec he₁ (by simp) fun h₂ he₂ hs₂ => ?_)
  replace hs₂ : Heap.SameBut e h₁ h₂ := hs₂
  replace he₂ : IsEnum h₂ e z (c + 1) old := he₂
  show wpAny _ _ (setField (.ref e) 4 .none >>= _) _ _ ⟨h₂, g, d, tk + 1, os⟩
  refine wpAny_bind (wpAny_setField_rec he₂ (by simp) fun h₃ he₃ hs₃ => ?_)
  replace hs₃ : Heap.SameBut e h₂ h₃ := hs₃
  replace he₃ : IsEnum h₃ e z (c + 1) old := he₃
  show wpAny _ _ (newTuple [.int c tk, .ref hp.objs.size] >>= _) _ _ ⟨h₃, g, d, tk + 1, os⟩
  refine wpAny_bind (wpAny_newTuple ?_)
  have he₄ : IsEnum (h₃.push { cls := .type "tuple", data := .seq #[.int c tk, .ref hp.objs.size] }) e z (c + 1) old := Heap.get?_push_of_some _ he₃
  generalize hh₄ : h₃.push { cls := .type "tuple", data := .seq #[.int c tk, .ref hp.objs.size] } = h₄ at he₄
  have hsz : h₃.objs.size = hp.objs.size + 1 := by rw [hs₃.1, hs₂.1, sz₁]
  have hel : e < hp.objs.size := Heap.lt_size he
  have ht₄ : h₄.get? (hp.objs.size + 1) = some { cls := .type "tuple", data := .seq #[.int c tk, .ref hp.objs.size] } := by rw [← hh₄, ← hsz]; exact Heap.get?_push_size _ rfl
  have hz₄ : h₄.objs.size = hp.objs.size + 2 := by rw [← hh₄, Heap.size_push, hsz]
  have k₄ : ∀ b o, b ≠ e → h₁.get? b = some o → h₄.get? b = some o := fun b o hbe hb => by
    rw [← hh₄]; exact Heap.get?_push_of_some _ (hs₃.extBut b o hbe (hs₂.extBut b o hbe hb))
  show wpAny _ _ (Builtin.SmallTypes.ownedTupleIsFree (.ref e) >>= _) _ _ ⟨h₄, g, d, tk + 1, os⟩
  rw [hsz]
  clear hh₄ he₃ hs₃ he₂ hs₂ he₁ hsz h₃ h₂
  refine wpAny_bind ?_
  unfold Builtin.SmallTypes.ownedTupleIsFree
  refine wpAny_bind (wpAny_field he₄ rfl (x := .none) rfl (wpAny_pure ?_))
  simp only [if_true]
  refine wpAny_bind (wpAny_rule ?_)
  refine wpAny_bind (wpAny_field he₄ rfl (x := old) rfl ?_)
  refine wpAny_bind (wpAny_setField_rec he₄ (by simp) fun h₅ he₅ hs₅ => ?_)
  replace hs₅ : Heap.SameBut e h₄ h₅ := hs₅
  replace he₅ : IsEnum h₅ e z (c + 1) (.ref hp.objs.size) := he₅
  show wpAny _ _ (Builtin.SmallTypes.ownedTupleHandOut (.ref e) (.ref (hp.objs.size + 1)) >>= _) _ _ ⟨h₅, g, d, tk + 1, os⟩
  refine wpAny_bind ?_
  unfold Builtin.SmallTypes.ownedTupleHandOut
  refine wpAny_bind (wpAny_setField_rec he₅ (by simp) fun h₆ he₆ hs₆ => ?_)
  replace hs₆ : Heap.SameBut e h₅ h₆ := hs₆
  replace he₆ : IsEnumOut h₆ e z (c + 1) (.ref hp.objs.size) (hp.objs.size + 1) := he₆
  refine wpAny_setField_rec he₆ (by simp) fun h₇ he₇ hs₇ => ?_
  replace hs₇ : Heap.SameBut e h₆ h₇ := hs₇
  replace he₇ : IsEnumOut h₇ e z (c + 1) (.ref hp.objs.size) (hp.objs.size + 1) := he₇
  have k₇ : ∀ b o, b ≠ e → h₄.get? b = some o → h₇.get? b = some o := fun b o hbe hb => hs₇.extBut b o hbe (hs₆.extBut b o hbe (hs₅.extBut b o hbe hb))
  have kk : ∀ b o, b ≠ e → h₁.get? b = some o → h₇.get? b = some o := fun b o hbe hb => k₇ b o hbe (k₄ b o hbe hb)
  refine wpAny_bind (wpAny_letGo (wpAny_pure ⟨_, rfl, hQ x1 x2 h₁ (tk + 1) h₇ tk p1 p2 tup₁ sz₁ kp₁ ⟨_, _, kk _ _ (Ne.symm V.z) hz₁, hf₁⟩ (kk _ _ (Ne.symm V.TI) hTI₁) ⟨_, _, kk _ _ (Ne.symm V.TO) hTO₁⟩ ?_ ?_ he₇ ?_ ?_ kk⟩))
  · exact D1.frame _ _ _ d1 fun b hb o y => kk b o (fun q => V.f1 (q ▸ hb)) y
  · exact D2.frame _ _ _ d2 fun b hb o y => kk b o (fun q => V.f2 (q ▸ hb)) y
  · exact k₇ _ _ (Nat.ne_of_gt (Nat.lt_succ_of_lt hel)) ht₄
  · rw [hs₇.1, hs₆.1, hs₅.1, hz₄]
theorem next_enumZ {e : Addr} {c : Int} {old : Value} {f0 : Value} {f : Bool} {Q : Option Value → Shared → Prop} (S : ZipSep2 z TI TO i1 i2 fp1 fp2) (V : EnApart e z TI TO i1 i2 fp1 fp2) (D1 : Draws prog w A.in1.in1 i1 fp1 n1 P1 St1) (D2 : Draws prog w A.in1.in1 i2 fp2 n2 P2 St2)
    (he : IsEnum s.heap e z c old) (hz : IsZS s.heap z TI TO f0 f) (hf : ZFlag f0) (hTI : IsTupOf2 s.heap TI (.ref i1) (.ref i2)) (hTO : IsTupOf2 s.heap TO a1 a2) (st1 : St1 i s.heap) (st2 : St2 i s.heap) (hlt1 : i < n1) (hlt2 : i < n2)
    (hQ : ∀ x1 x2 h1 tk1 h' tk, P1 i x1 → P2 i x2 → IsTupOf2 h1 s.heap.objs.size x1 x2 → h1.objs.size = s.heap.objs.size + 1 → (∀ b o, b ≠ z → b ≠ TO → b ≠ i1 → b ≠ i2 → s.heap.get? b = some o → h1.get? b = some o) →
      (∃ f0 f, IsZS h' z TI TO f0 f ∧ ZFlag f0) → IsTupOf2 h' TI (.ref i1) (.ref i2) → (∃ b1 b2, IsTupOf2 h' TO b1 b2) → St1 (i + 1) h' → St2 (i + 1) h' → IsEnumOut h' e z (c + 1) (.ref s.heap.objs.size) (s.heap.objs.size + 1) →
      h'.get? (s.heap.objs.size + 1) = some { cls := .type "tuple", data := .seq #[.int c tk, .ref s.heap.objs.size] } → h'.objs.size = s.heap.objs.size + 2 →
      (∀ b o, b ≠ e → h1.get? b = some o → h'.get? b = some o) → Q (some (.ref (s.heap.objs.size + 1))) { s with heap := h', toks := tk1 }) :
    wpAny (model prog w) A (pyNext (.ref e)) Q E s := by
  have hT : s.TypeIs (.ref e) "enumerate" := ⟨_, he, rfl⟩
  unfold pyNext
  exact wpAny_bind (wpAny_attempt (wpAny_callSpecial?_slot (name := Str.ofString "__next__") hT F.slot_enumerate_next
    (wpAny_call_entry F.slot_enumerate_next hT F.entry_enumerate_next
      (enumZ_body S V D1 D2 he hz hf hTI hTO st1 st2 hlt1 hlt2 fun x1 x2 h1 tk1 h' tk p1 p2 q1 q2 q3 q4 q5 q6 q7 q8 q9 q10 q11 q12 => wpAny_pure (hQ x1 x2 h1 tk1 h' tk p1 p2 q1 q2 q3 q4 q5 q6 q7 q8 q9 q10 q11 q12)) (F.args_enumerate_next_1 _))))
theorem end_enumZ {e : Addr} {c : Int} {old : Value} {f0 : Value} {f : Bool} {Q : Option Value → Shared → Prop} (hh : A.in1.in1.handled = none) (S : ZipSep2 z TI TO i1 i2 fp1 fp2) (D1 : Draws prog w A.in1.in1 i1 fp1 n P1 St1) (D2 : Draws prog w A.in1.in1 i2 fp2 n P2 St2)
    (he : IsEnum s.heap e z c old) (hz : IsZS s.heap z TI TO f0 f) (hf : ZFlag f0) (hTI : IsTupOf2 s.heap TI (.ref i1) (.ref i2)) (hTO : IsTupOf2 s.heap TO a1 a2) (st1 : St1 n s.heap) (st2 : St2 n s.heap)
    (hQ : ∀ h' tk, (∀ b o, b ≠ z → b ≠ TO → b ≠ i1 → b ≠ i2 → s.heap.get? b = some o → h'.get? b = some o) → Q none { s with heap := h', toks := tk }) : wpAny (model prog w) A (pyNext (.ref e)) Q E s := by
  have hT : s.TypeIs (.ref e) "enumerate" := ⟨_, he, rfl⟩
  unfold pyNext
  refine wpAny_bind (wpAny_attempt (wpAny_callSpecial?_slot (name := Str.ofString "__next__") hT F.slot_enumerate_next
    (wpAny_call_entry F.slot_enumerate_next hT F.entry_enumerate_next ?_ (F.args_enumerate_next_1 _))))
  show wpAny _ _ (field (.ref e) 2 >>= _) _ _ _
  refine wpAny_bind (wpAny_field he rfl (x := .ref z) rfl ?_)
  refine wpAny_bind (nextOf_zS_end hh S D1 D2 hz hf hTI hTO st1 st2 fun h' tk x hk hx' => ?_)
  obtain ⟨o, ho, hc⟩ := hx'
  refine wpAny_bind (wpAny_isInstance (T := "StopIteration") (b := true) ⟨o, ho, hc⟩ isSubtype_stop ?_)
  exact wpAny_pure (hQ _ _ hk)
end
end Bk

set_option Elab.async false
set_option linter.all false
set_option maxRecDepth 100000
set_option maxHeartbeats 4000000
namespace Bk
open PySem PySem.Spec PyProof.Rows L2
/-! ### enumerate(zip(.., .., strict=True), k), the rule -/
def Iez (K : PySem.W.Frag) (S1 S2 : Src) (k0 : Int) : It :=
  ⟨fun n H => ∃ (xs ys : List V) (x y : V), S1.here K H xs ∧ S2.here K H ys ∧ xs[n]? = some x ∧ ys[n]? = some y,
   fun n H v H' => ∃ T1 T2 x y, v = .ref T2 ∧ H T1 = none ∧ (upd H T1 (.tup [x, y])) T2 = none ∧ H' = upd (upd H T1 (.tup [x, y])) T2 (.tup [.int (k0 + (n : Nat)), .ref T1]) ∧ (∀ xs, S1.here K H xs → xs[n]? = some x) ∧ ∀ ys, S2.here K H ys → ys[n]? = some y,
   fun n H => ∃ xs ys : List V, S1.here K H xs ∧ S2.here K H ys ∧ xs.length = n ∧ ys.length = n⟩
theorem en_apart {N : Nat} {fp1 fp2 : List Addr} (h1 : ∀ b ∈ fp1, b < N) (h2 : ∀ b ∈ fp2, b < N) : EnApart (N + 5) (N + 4) (N + 2) (N + 3) N (N + 1) (N :: fp1) ((N + 1) :: fp2) :=
  ⟨show (N + 5 : Nat) ≠ N + 4 by omega, show (N + 5 : Nat) ≠ N + 2 by omega, show (N + 5 : Nat) ≠ N + 3 by omega, show (N + 5 : Nat) ≠ N by omega, show (N + 5 : Nat) ≠ N + 1 by omega, notIn_new (i := 0) h1 (by omega), notIn_new (i := 1) h2 (by omega)⟩
theorem turn_ez {P : Program} {w : World} {K : PySem.W.Frag} {elts : List Expr} {kk : Nat} {tpos : Pos} (S1 S2 : Src) (k0 : Int) (N : Nat) (lt1 : S1.addr < N) (lt2 : S2.addr < N) :
    Turn P w K (.Tuple elts kk tpos) (Iez K S1 S2 k0) [N + 5, N + 4, N + 2, N + 3, N, N + 1] (N + 5) (fun n h => (∃ old, IsEnum h (N + 5) (N + 4) (k0 + (n : Nat)) old) ∧ (∃ f0 f, IsZS h (N + 4) (N + 2) (N + 3) f0 f ∧ ZFlag f0) ∧ IsTupOf2 h (N + 2) (.ref N) (.ref (N + 1)) ∧ (∃ a1 a2, IsTupOf2 h (N + 3) a1 a2) ∧ S1.it h N n ∧ S2.it h (N + 1) n) where
  mem := List.mem_cons_self
  obj := fun n h st b hb => by
    obtain ⟨⟨old, he⟩, ⟨f0, f, hz, _⟩, hTI, ⟨x, y, hTO⟩, h1, h2⟩ := st
    have e' : b = N + 5 ∨ b = N + 4 ∨ b = N + 2 ∨ b = N + 3 ∨ b = N ∨ b = N + 1 := by simpa using hb
    rcases e' with q | q | q | q | q | q
    · rw [q]; exact ⟨_, he, fun v q => nomatch q⟩
    · rw [q]; exact ⟨_, hz, fun v q => nomatch q⟩
    · rw [q]; exact ⟨_, hTI, fun v q => nomatch q⟩
    · rw [q]; exact ⟨_, hTO, fun v q => nomatch q⟩
    · rw [q]; exact Src.it_obj h1
    · rw [q]; exact Src.it_obj h2
  keep := fun n h h' st k => by
    obtain ⟨⟨old, he⟩, ⟨f0, f, hz, hf⟩, hTI, ⟨x, y, hTO⟩, h1, h2⟩ := st
    exact ⟨⟨old, k _ (by simp) _ he⟩, ⟨f0, f, k _ (by simp) _ hz, hf⟩, k _ (by simp) _ hTI, ⟨x, y, k _ (by simp) _ hTO⟩, Src.it_at h1 fun o q => k _ (by simp) o q, Src.it_at h2 fun o q => k _ (by simp) o q⟩
  item := by
    intro X hP hw hK hc n pins s σ H E I hf st hg
    subst hP hw hK
    obtain ⟨xs, ys, x, y, hqx, hqy, hx, hy⟩ := hg
    obtain ⟨⟨old, he⟩, ⟨f0, f, hz, hfl⟩, hTI, ⟨a1, a2, hTO⟩, h1, h2⟩ := st
    obtain ⟨its1, rv1, har1⟩ := Src.inv I hqx
    obtain ⟨its2, rv2, har2⟩ := Src.inv I hqy
    obtain ⟨u1, hu1, ru1⟩ := rv1.get hx
    obtain ⟨u2, hu2, ru2⟩ := rv2.get hy
    have hh : X.A.in1.in1.handled = none := I.ok.hd hc
    have b1 : ∀ b ∈ [S1.addr], b < N := fun b hb => by rw [List.mem_singleton.mp hb]; exact lt1
    have b2 : ∀ b ∈ [S2.addr], b < N := fun b hb => by rw [List.mem_singleton.mp hb]; exact lt2
    have D1 := Src.draws (prog := X.prog) (w := X.w) (A := X.A.in1.in1) hh S1 N (Nat.ne_of_lt lt1) its1.toArray
    have D2 := Src.draws (prog := X.prog) (w := X.w) (A := X.A.in1.in1) hh S2 (N + 1) (by have q : S2.addr ≠ N + 1 := Nat.ne_of_lt (Nat.lt_succ_of_lt lt2); exact q) its2.toArray
    have ln1 : n < its1.toArray.size := by
      have := (List.getElem?_eq_some_iff.mp hu1).1
      simpa using this
    have ln2 : n < its2.toArray.size := by
      have := (List.getElem?_eq_some_iff.mp hu2).1
      simpa using this
    have hlt : N + 5 < s.heap.objs.size := Heap.lt_size he
    refine next_enumZ (zip_sep2 b1 b2) (en_apart b1 b2) D1 D2 he hz hfl hTI hTO ⟨h1, har1⟩ ⟨h2, har2⟩ ln1 ln2 fun x1 x2 g1 tk1 h' tk p1 p2 t1 s1 kp1 hz' hTI' hTO' d1 d2 ho T2 s2 kp2 => ?_
    have ex1 : x1 = u1 := by
      have q : its1.toArray[n]? = some u1 := by simpa using hu1
      rw [p1] at q
      exact Option.some.inj q
    have ex2 : x2 = u2 := by
      have q : its2.toArray[n]? = some u2 := by simpa using hu2
      rw [p2] at q
      exact Option.some.inj q
    subst ex1 ex2
    refine ⟨_, rfl, wpAny_letOwnedTupleGo_enum (s := { s with heap := h', toks := tk1 }) ho fun h2' he' sb => ?_⟩
    -- the tuple of zip
    have new1 : ObjOk X.prog X.w (upd H s.heap.objs.size (.tup [x, y])) g1 s.heap.objs.size (.tup [x, y]) :=
      ⟨by show 2 ≤ sizeLine; decide, [x1, x2], .cons ru1 (.cons ru2 .nil), ⟨_, t1, rfl, _, rfl⟩⟩
    have I1 := I.turnedNew (t' := tk1) (ch := [N + 5, N + 4, N + 2, N + 3, N, N + 1]) (fun b ob hb q => kp1 b ob (fun z => hb (by simp [z])) (fun z => hb (by simp [z])) (fun z => hb (by simp [z])) (fun z => hb (by simp [z])) q) hf (Nat.le_refl _) new1
    have sub6 : ∀ b ∈ [N + 5, N + 4, N + 2, N + 3, N, N + 1], b < s.heap.objs.size := fun b hb => by
      have e' : b = N + 5 ∨ b = N + 4 ∨ b = N + 2 ∨ b = N + 3 ∨ b = N ∨ b = N + 1 := by simpa using hb
      have lt : ∀ {m : Nat}, m ≤ N + 5 → m < s.heap.objs.size := fun h => Nat.lt_of_le_of_lt h hlt
      rcases e' with q | q | q | q | q | q
      · rw [q]; exact lt (Nat.le_refl _)
      · rw [q]; exact lt (by omega)
      · rw [q]; exact lt (by omega)
      · rw [q]; exact lt (by omega)
      · rw [q]; exact lt (by omega)
      · rw [q]; exact lt (by omega)
    have hf1 : ∀ b ∈ [N + 5], FpOk X pins (upd H s.heap.objs.size (.tup [x, y])) b := fun b hb => by
      have hb' : b = N + 5 := List.mem_singleton.mp hb
      obtain ⟨q0, q1⟩ := hf b (by rw [hb']; exact List.mem_cons_self)
      exact ⟨by rw [upd_ne (Nat.ne_of_lt (sub6 b (by rw [hb']; exact List.mem_cons_self)))]; exact q0, q1⟩
    have T2n : s.heap.objs.size + 1 ≠ N + 5 := by
      have := hlt
      intro q
      have q' : (s.heap.objs.size + 1 : Nat) = N + 5 := q
      omega
    have T2' : h2'.get? (s.heap.objs.size + 1) = some { cls := .type "tuple", data := .seq #[.int (k0 + (n : Nat)) tk, .ref s.heap.objs.size] } := (sb.2 _ T2n).trans T2
    have new2 : ObjOk X.prog X.w (upd (upd H s.heap.objs.size (.tup [x, y])) (s.heap.objs.size + 1) (.tup [.int (k0 + (n : Nat)), .ref s.heap.objs.size])) h2' (s.heap.objs.size + 1) (.tup [.int (k0 + (n : Nat)), .ref s.heap.objs.size]) :=
      ⟨by show 2 ≤ sizeLine; decide, [.int (k0 + (n : Nat)) tk, .ref s.heap.objs.size], .cons ⟨_, rfl⟩ (.cons rfl .nil), ⟨_, T2', rfl, _, rfl⟩⟩
    have I2 := I1.turnedNew (t' := tk1) (ch := [N + 5]) (fun b ob hb q => (sb.2 b (fun z => hb (by simp [z]))).trans (kp2 b ob (fun z => hb (by simp [z])) q)) hf1 (Nat.le_of_eq s1) new2
    have n1 : H s.heap.objs.size = none := I.hok.fresh (Nat.le_refl _)
    have n2 : (upd H s.heap.objs.size (.tup [x, y])) (s.heap.objs.size + 1) = none := I1.hok.fresh (Nat.le_of_eq s1)
    refine ⟨.ref (s.heap.objs.size + 1), _, I2, rfl, ⟨_, _, x, y, rfl, n1, n2, rfl, fun ys' hy' => by rw [Src.inj I hy' hqx]; exact hx, fun ys' hy' => by rw [Src.inj I hy' hqy]; exact hy⟩, ?_, fun b hb => ?_⟩
    · obtain ⟨g0, gf, gz, gfl⟩ := hz'
      obtain ⟨c1, c2, gTO⟩ := hTO'
      have up : ∀ b o, b ≠ N + 5 → h'.get? b = some o → h2'.get? b = some o := fun b o hb q => (sb.2 b hb).trans q
      refine ⟨⟨.ref s.heap.objs.size, ?_⟩, ⟨g0, gf, up _ _ (show (N + 4 : Nat) ≠ N + 5 by omega) gz, gfl⟩, up _ _ (show (N + 2 : Nat) ≠ N + 5 by omega) hTI', ⟨c1, c2, up _ _ (show (N + 3 : Nat) ≠ N + 5 by omega) gTO⟩, Src.it_at d1.1 fun o q => up _ o (show (N : Nat) ≠ N + 5 by omega) q, Src.it_at d2.1 fun o q => up _ o (show (N + 1 : Nat) ≠ N + 5 by omega) q⟩
      have e1 : k0 + ((n + 1 : Nat) : Int) = k0 + (n : Int) + 1 := by omega
      rw [e1]
      exact he'
    · have lb := sub6 b hb
      rw [upd_ne (Nat.ne_of_lt (Nat.lt_succ_of_lt lb)), upd_ne (Nat.ne_of_lt lb)]
      exact (hf b hb).1
  done := by
    intro X hP hw hK hc n pins s σ H E I hf st hg
    subst hP hw hK
    obtain ⟨xs, ys, hqx, hqy, hl1, hl2⟩ := hg
    obtain ⟨⟨old, he⟩, ⟨f0, f, hz, hfl⟩, hTI, ⟨a1, a2, hTO⟩, h1, h2⟩ := st
    obtain ⟨its1, rv1, har1⟩ := Src.inv I hqx
    obtain ⟨its2, rv2, har2⟩ := Src.inv I hqy
    have hh : X.A.in1.in1.handled = none := I.ok.hd hc
    have b1 : ∀ b ∈ [S1.addr], b < N := fun b hb => by rw [List.mem_singleton.mp hb]; exact lt1
    have b2 : ∀ b ∈ [S2.addr], b < N := fun b hb => by rw [List.mem_singleton.mp hb]; exact lt2
    have D1 := Src.draws (prog := X.prog) (w := X.w) (A := X.A.in1.in1) hh S1 N (Nat.ne_of_lt lt1) its1.toArray
    have D2 := Src.draws (prog := X.prog) (w := X.w) (A := X.A.in1.in1) hh S2 (N + 1) (by have q : S2.addr ≠ N + 1 := Nat.ne_of_lt (Nat.lt_succ_of_lt lt2); exact q) its2.toArray
    have e1 : its1.toArray.size = n := by rw [List.size_toArray, ← rv1.length]; exact hl1
    have e2 : its2.toArray.size = n := by rw [List.size_toArray, ← rv2.length]; exact hl2
    rw [e1] at D1
    rw [e2] at D2
    exact end_enumZ hh (zip_sep2 b1 b2) D1 D2 he hz hfl hTI hTO ⟨h1, har1⟩ ⟨h2, har2⟩ fun h' tk hk => ⟨rfl, I.turnedL (t' := tk) (ch := [N + 5, N + 4, N + 2, N + 3, N, N + 1]) (fun b ob hb q => hk b ob (fun z => hb (by simp [z])) (fun z => hb (by simp [z])) (fun z => hb (by simp [z])) (fun z => hb (by simp [z])) q) hf⟩
  self := fun A n s Q E st h => let ⟨⟨_, he⟩, _⟩ := st; wpAny_pyIter_enum he h
end Bk

set_option Elab.async false
set_option linter.all false
set_option maxRecDepth 100000
set_option maxHeartbeats 4000000
namespace Bk
open PySem PySem.Spec PyProof.Rows L2
/-! ### for i, (a, b) in enumerate(zip(.., .., strict=True), k) -/
theorem itr_ez {K : PySem.W.Frag} {Z : Hp} {ι : Nat → Addr} {n : Nat} {S1 S2 : Src} {xs ys : List V} {ds es : List D} {k : Int} (s1 : S1.here K Z xs) (s2 : S2.here K Z ys) (r1 : Rps K Z ι n ds xs) (r2 : Rps K Z ι n es ys) (hl : ds.length = es.length) : ItR K (Iez K S1 S2 k) (enumL k (zipL ds es)) Z ι n := by
  intro i H' Z' ι' M' hz hi hn hr _
  have sH : S1.here K H' xs := here_sub (fun a o h => hr.sub _ _ (hz _ _ h)) s1
  have sK : S2.here K H' ys := here_sub (fun a o h => hr.sub _ _ (hz _ _ h)) s2
  refine ⟨fun hl' => ⟨xs, ys, sH, sK, ?_, ?_⟩, fun d hd => ?_⟩
  · rw [← hl', enumL_len, zipL_len, ← hl, r1.length]; omega
  · rw [← hl', enumL_len, zipL_len, hl, r2.length]; omega
  obtain ⟨d0, h0, rfl⟩ := enumL_get _ k i d hd
  obtain ⟨d1, e1, h1, h2, rfl⟩ := zipL_get ds es i d0 h0
  obtain ⟨v, hv, rv⟩ := r1.get h1
  obtain ⟨u, hu, ru⟩ := r2.get h2
  refine ⟨⟨xs, ys, v, u, sH, sK, hv, hu⟩, fun x H2 hy => ?_⟩
  obtain ⟨T1, T2, x', y', rfl, hT1, hT2, rfl, hx, hy⟩ := hy
  have ex : xs[i]? = some x' := hx _ sH
  rw [hv] at ex
  cases ex
  have ey : ys[i]? = some y' := hy _ sK
  rw [hu] at ey
  cases ey
  obtain ⟨q1, q2⟩ := hr.frozen (o := .tup [v, u]) hT1
  obtain ⟨p1, p2⟩ := q1.frozen (o := .tup [.int (k + (i : Nat)), .ref T1]) hT2
  have q12 := q2.trans p2 q1.ali
  refine ⟨_, q12, p1, .tup (.inl (.inl upd_same)) (.cons (.int _) (.cons ?_ .nil))⟩
  have t1 : Rp K (upd Z' T1 (.tup [v, u])) ι' M'.length (.tup [d1, e1]) (.ref T1) := .tup (.inl (.inl upd_same)) (.cons (Rp.ext (Rp.mono hz hi hn _ _ rv) q2) (.cons (Rp.ext (Rp.mono hz hi hn _ _ ru) q2) .nil))
  exact t1.ext p2
def enumZO (x y : D) (k : Int) : Option (List D) := match seqD x, seqD y with
  | some ds, some es => if (decide (ds.length = es.length) && decide (-(2 ^ 63) ≤ k) && decide (k < 2 ^ 63)) = true then some (enumL k (zipL ds es)) else none
  | _, _ => none
def gEnumZ (ga gb : GE) (k : Int) : GI := fun Γ M => (ga Γ M).bind fun x M1 => (gb Γ M1).bind fun y M2 => opR (enumZO x y k) M2
@[simp] theorem u_gEnumZ (ga gb : GE) (k : Int) (Γ : Env) (M : List MO) : gEnumZ ga gb k Γ M = (ga Γ M).bind fun x M1 => (gb Γ M1).bind fun y M2 => opR (enumZO x y k) M2 := Eq.trans rfl rfl
section
open PySem.Sem (wp)
variable {prog : Program} {w : World} {A : Around} {E : Value → Shared → Prop} {s : Shared} {z TI TO : Addr} {f0 : Value} {f : Bool}
theorem iter_zS {Q : Value → Shared → Prop} (hz : IsZS s.heap z TI TO f0 f) (h : Q (.ref z) s) : wpAny (model prog w) A (pyIter (.ref z)) Q E s := by
  have hT : s.TypeIs (.ref z) "zip" := ⟨_, hz, rfl⟩
  refine wpAny_pyIter_slot hT F.slot_zip_iter (wpAny_call_entry F.slot_zip_iter hT F.entry_zip_iter ?_ (F.args_zip_iter_1 _))
  show wpAny _ _ (ret (.ref z)) _ _ s
  exact wpAny_pure ⟨_, rfl, "zip", _, hT, F.slot_zip_next.lookup, h⟩
theorem meets_enumZS (z TI TO : Addr) (f0 : Value) (f : Bool) (k : Int) (t : Tok) (hfit : Builtin.SmallTypes.fitsIndex k = true) :
    Meets (Builtin.«enumerate.__new__» ⟨[.type "enumerate", .ref z, .int k t], []⟩) (fun _ R s => IsZS s.heap z TI TO f0 f ∧
      R (.ok (.ret (.ref s.heap.objs.size))) { s with heap := s.heap.push { cls := .type "enumerate", data := .fields #[.none, .bool false, .ref z, rawInt k, .none, .none] } }) :=
  .of_wp fun prog w A R s h => by
    obtain ⟨hp, g, d, tk, os⟩ := s; obtain ⟨h1, h⟩ := h
    have hsub := sub_enumerate
    have hnf : (!Builtin.SmallTypes.fitsIndex k) = false := by rw [hfit]; rfl
    have q1 : ∀ {A' : Around} {E : Value → Shared → Prop} {Q : Value → Shared → Prop}, Q (.ref z) ⟨hp, g, d, tk, os⟩ → wpAny (model prog w) A' (pyIter (.ref z)) Q E ⟨hp, g, d, tk, os⟩ :=
      fun q => iter_zS (s := ⟨hp, g, d, tk, os⟩) h1 q
    wp_walk using q1
    refine wpAny_stack_any fun st => wpAny_pure ?_
    split
    · rename_i c _ _ _ _ _
      cases (c == Value.type "enumerate")
      · wp_walk using q1
        exact ⟨_, rfl, h⟩
      · wp_walk using q1
        exact ⟨_, rfl, h⟩
    · wp_walk using q1
      exact ⟨_, rfl, h⟩
theorem call_enumZS {k : Int} {t : Tok} {Q : Value → Shared → Prop} (hz : IsZS s.heap z TI TO f0 f) (hk0 : -(2 ^ 63) ≤ k) (hk1 : k < 2 ^ 63)
    (h : ∀ h', IsEnum h' s.heap.objs.size z k .none → (∀ b o, s.heap.get? b = some o → h'.get? b = some o) → Q (.ref s.heap.objs.size) { s with heap := h' }) :
    wpAny (model prog w) A (call (.type "enumerate") [.ref z, .int k t]) Q E s := by
  refine callType_new F.called_enumerate (by decide) (F.typeCall_enumerate_2 _ _) (F.newCall_enumerate_2 _ _) (fun obj => F.args_object_init_3 obj _ _) F.entry_enumerate_new
    (meets_enumZS z TI TO f0 f k t (fits_start hk0 hk1)) ⟨hz, ?_⟩
  have he : IsEnum (s.heap.push { cls := .type "enumerate", data := .fields #[.none, .bool false, .ref z, rawInt k, .none, .none] }) s.heap.objs.size z k .none := Heap.get?_push_size s.heap rfl
  exact ⟨⟨_, he, rfl⟩, h _ he fun b o x => Heap.get?_push_of_some _ x⟩
end
section
variable {X : Cx} {C : CT} {W : WX} {e e2 : Expr} {ga gb : GE} {p p2 pos zpos tpos cp kp ip : Pos} {elts : List Expr} {kk j j2 : Nat} {k : Int}
theorem qi_enumZ (hg : Gl X "enumerate") (hm : X.mg "enumerate" = none) (hg2 : Gl X "zip") (hm2 : X.mg "zip" = none) (ha : QE X C W e ga) (hb : QE X C W e2 gb)
    (hs : starEach [e, e2] X.env = (false, eval e X.env) :: starEach [e2] X.env := by rfl) (hs2 : starEach [e2] X.env = (false, eval e2 X.env) :: starEach [] X.env := by rfl)
    (hbt : backTo zpos (starEach [e, e2] X.env) = (false, eval e X.env) :: backTo zpos (starEach [e2] X.env) := by rfl) (hpl2 : (backTo zpos (starEach [e, e2] X.env)).any (·.1) = false := by rfl) :
    QI X C W (.Tuple elts kk tpos) (.Call (.Name "enumerate" p) [.Call (.Name "zip" p2) [e, e2] [⟨some "strict", .Constant (.bool true) j cp, kp⟩] zpos, .Constant (.int k) j2 ip] [] pos) (gEnumZ ga gb k) := by
  obtain ⟨ta, pa, qa⟩ := ha
  obtain ⟨tb, pb, qb⟩ := hb
  refine ⟨fun σ H R => ta σ H fun v H1 => tb σ H1 fun u H2 => ∃ (S1 S2 : Src) (xs ys : List V), v = .ref S1.addr ∧ u = .ref S2.addr ∧ S1.here X.K H2 xs ∧ S2.here X.K H2 ys ∧ -(2 ^ 63) ≤ k ∧ k < 2 ^ 63 ∧ R (Iez X.K S1 S2 k) H2, ⟨fun pins s σ H R I h => ?_⟩,
    fun σ H Z ι Γ M Q sl hr h => qa σ H Z ι Γ M _ sl hr (Post.bind h fun x M1 v H1 Z1 ι1 e1 hr1 r1 h1 => qb σ H1 Z1 ι1 Γ M1 _ (sl.ext e1) hr1 (h1.bind fun y M2 u H2 Z2 ι2 e2 hr2 r2 h2 => ?_))⟩
  · refine Call_ (ld_blt I hg hm boot_enumerate (PyProof.Rows.callWith_type1 ?_ (by rfl) (by rfl)))
    show wpAny _ _ (spliced ((false, eval (.Call (.Name "zip" p2) [e, e2] [⟨some "strict", .Constant (.bool true) j cp, kp⟩] zpos) X.env) :: backTo pos (starEach [.Constant (.int k) j2 ip] X.env))) _ _ s
    refine PySem.Calls.spliced_cons ?_
    refine wpAny_Call_Name_kw (ld_blt I hg2 hm2 boot_zip ?_)
    refine cw_type_kw hpl2 (by rfl) ?_
    rw [hbt]
    refine evalArgs_kwB (by rfl) ?_
    rw [← hbt]
    refine thn ((pa_cons pa (pa_cons pb pa_nil hs2) hs).run zpos pins s σ H (fun vs H1 => ∃ v u, vs = [v, u] ∧ ∃ (S1 S2 : Src) (xs ys : List V), v = .ref S1.addr ∧ u = .ref S2.addr ∧ S1.here X.K H1 xs ∧ S2.here X.K H1 ys ∧ -(2 ^ 63) ≤ k ∧ k < 2 ^ 63 ∧ R (Iez X.K S1 S2 k) H1) I ?_) fun us s1 hh => ?_
    · have hmono : (fun x H1 => tb σ H1 fun y H2 => tNil σ H2 fun ys H3 => ∃ v u, x :: y :: ys = [v, u] ∧ ∃ (S1 S2 : Src) (xs zs : List V), v = .ref S1.addr ∧ u = .ref S2.addr ∧ S1.here X.K H3 xs ∧ S2.here X.K H3 zs ∧ -(2 ^ 63) ≤ k ∧ k < 2 ^ 63 ∧ R (Iez X.K S1 S2 k) H3) =
          fun (v : V) (H1 : Hp) => tb σ H1 fun u H2 => ∃ (S1 S2 : Src) (xs ys : List V), v = .ref S1.addr ∧ u = .ref S2.addr ∧ S1.here X.K H2 xs ∧ S2.here X.K H2 ys ∧ -(2 ^ 63) ≤ k ∧ k < 2 ^ 63 ∧ R (Iez X.K S1 S2 k) H2 := by
        funext x H1
        congr 1
        funext y H2
        apply propext
        constructor
        · rintro ⟨v, u, ev, q⟩
          cases ev
          exact q
        · intro q
          exact ⟨x, y, rfl, q⟩
      show ta σ H fun x H1 => tb σ H1 fun y H2 => tNil σ H2 fun ys H3 => ∃ v u, x :: y :: ys = [v, u] ∧ ∃ (S1 S2 : Src) (xs zs : List V), v = .ref S1.addr ∧ u = .ref S2.addr ∧ S1.here X.K H3 xs ∧ S2.here X.K H3 zs ∧ -(2 ^ 63) ≤ k ∧ k < 2 ^ 63 ∧ R (Iez X.K S1 S2 k) H3
      rw [hmono]
      exact h
    · obtain ⟨vs, H1, J, r1, v, u, rfl, S1, S2, xs, ys, rfl, rfl, hq1, hq2, k1, k2, q⟩ := hh
      obtain ⟨u1, u2, rfl, ru, ru2⟩ := Vals.two r1
      cases ru
      cases ru2
      obtain ⟨its1, rv1, har1⟩ := Src.inv J hq1
      obtain ⟨its2, rv2, har2⟩ := Src.inv J hq2
      refine kws_cons (Constant_bool (kws_nil ?_))
      show wpAny _ _ (call (.type "zip") [.ref S1.addr, .ref S2.addr] [("strict", .bool true)]) _ _ s1
      refine zS_begins (S1.begins its1.toArray) (S2.begins its2.toArray) har1 har2 fun h' hz hTI hTO hi1 hi2 hsz hk => ?_
      have J2 : Inv X pins σ H1 { s1 with heap := h' } := J.kept (t' := s1.toks) hk
      show wpAny _ _ (spliced ((false, eval (.Constant (.int k) j2 ip) X.env) :: backTo pos (starEach [] X.env))) _ _ { s1 with heap := h' }
      refine PySem.Calls.spliced_cons (wpAny_Constant_int (PySem.Calls.spliced_nil ?_))
      refine call_enumZS (s := { s1 with heap := h', toks := s1.toks + 1 }) hz k1 k2 fun h2 he hk2 => wpAny_pyIter_enum he ?_
      have J3 : Inv X pins σ H1 { s1 with heap := h2, toks := s1.toks + 1 } := J2.kept (t' := s1.toks + 1) hk2
      replace he : IsEnum h2 h'.objs.size (s1.heap.objs.size + 4) k .none := he
      rw [hsz] at he
      have up : ∀ b o, h'.get? b = some o → h2.get? b = some o := hk2
      have fin : PIE X pins σ (.Tuple elts kk tpos) R (.ref (s1.heap.objs.size + 5)) { s1 with heap := h2, toks := s1.toks + 1 } := by
        refine ⟨s1.heap.objs.size + 5, [s1.heap.objs.size + 5, s1.heap.objs.size + 4, s1.heap.objs.size + 2, s1.heap.objs.size + 3, s1.heap.objs.size, s1.heap.objs.size + 1], _, _, H1, rfl, J3, turn_ez S1 S2 k s1.heap.objs.size (Src.arr_lt har1) (Src.arr_lt har2),
          ⟨⟨.none, by simpa using he⟩, ⟨_, _, up _ _ hz, .inl rfl⟩, up _ _ hTI, ⟨_, _, up _ _ hTO⟩, Src.start (up _ _ hi1), Src.start (up _ _ hi2)⟩, fun b hb => ?_, q⟩
        have e' : b = s1.heap.objs.size + 5 ∨ b = s1.heap.objs.size + 4 ∨ b = s1.heap.objs.size + 2 ∨ b = s1.heap.objs.size + 3 ∨ b = s1.heap.objs.size ∨ b = s1.heap.objs.size + 1 := by simpa using hb
        have le : s1.heap.objs.size ≤ b := by
          rcases e' with z | z | z | z | z | z
          · rw [z]; exact Nat.le_add_right _ _
          · rw [z]; exact Nat.le_add_right _ _
          · rw [z]; exact Nat.le_add_right _ _
          · rw [z]; exact Nat.le_add_right _ _
          · rw [z]; exact Nat.le_refl _
          · rw [z]; exact Nat.le_add_right _ _
        obtain ⟨c0, c1, c2, c3, c4, c5⟩ := J.fpOk le (J.hok.fresh le)
        exact ⟨c0, c1, c2, c3, c4, c5⟩
      rw [← hsz] at fin
      exact fin
  · obtain ⟨items, hd, h3⟩ := Post.of_opR (γ := D) (δ := V) h2
    unfold enumZO at hd
    cases es : seqD x with
    | none => rw [es] at hd; cases hd
    | some ds =>
      cases et : seqD y with
      | none => rw [es, et] at hd; cases hd
      | some dt =>
        rw [es, et] at hd
        simp only at hd
        by_cases c : (decide (ds.length = dt.length) && decide (-(2 ^ 63) ≤ k) && decide (k < 2 ^ 63)) = true
        · rw [if_pos c] at hd
          cases hd
          simp only [Bool.and_eq_true, decide_eq_true_eq] at c
          obtain ⟨S1, xs, rfl, hS1, q1⟩ := src_of hr2.sub (r1.ext e2) es
          obtain ⟨S2, ys, rfl, hS2, q2⟩ := src_of hr2.sub r2 et
          exact ⟨S1, S2, xs, ys, rfl, rfl, here_sub hr2.sub hS1, here_sub hr2.sub hS2, c.1.2, c.2, h3 _ H2 Z2 ι2 .refl hr2 (itr_ez hS1 hS2 q1 q2 c.1.1)⟩
        · rw [if_neg c] at hd
          cases hd
end
end Bk

set_option Elab.async false
set_option linter.all false
set_option maxRecDepth 100000
set_option maxHeartbeats 4000000
namespace Bk
open PySem PySem.Spec PyProof.Rows L2
/-! ### for a, b in zip(.., .., strict=True) -/
section
variable {prog : Program} {w : World} {A : Around} {E : Value → Shared → Prop} {s : Shared} {z TI TO i1 i2 : Addr} {fp1 fp2 : List Addr} {n1 n2 n i : Nat} {P1 P2 P : Nat → Value → Prop} {St1 St2 St : Nat → Heap → Prop} {a1 a2 : Value}
end
def zipSO (x y : D) : Option (List D) := match seqD x, seqD y with
  | some ds, some es => if ds.length = es.length then some (zipL ds es) else none
  | _, _ => none
def gZipS (ga gb : GE) : GI := fun Γ M => (ga Γ M).bind fun x M1 => (gb Γ M1).bind fun y M2 => opR (zipSO x y) M2
@[simp] theorem u_gZipS (ga gb : GE) (Γ : Env) (M : List MO) : gZipS ga gb Γ M = (ga Γ M).bind fun x M1 => (gb Γ M1).bind fun y M2 => opR (zipSO x y) M2 := Eq.trans rfl rfl
section
variable {X : Cx} {C : CT} {W : WX} {e e2 : Expr} {ga gb : GE} {p2 zpos tpos cp kp : Pos} {elts : List Expr} {kk j : Nat}
end
end Bk

set_option Elab.async false
set_option linter.all false
set_option maxRecDepth 100000
set_option maxHeartbeats 2000000
namespace Bk
open PySem PySem.Spec PyProof.Rows L2
/-! ### errors: classes of the program over ValueError, each with one attribute -/
section
variable {X : Cx} {C : CT} {W : WX} {B fI : Addr} {f x qual : Str} {fd : FuncData} {st : Stmt} {e : Expr} {ge : GE} {p pos pos1 : Pos}
/-- an error is raised -/
def gRaise (c : Nat) (ge : GE) : GS := fun Γ M => (ge Γ M).thenS Γ fun d M1 => .exc c d Γ M1
end
@[simp] theorem u_gRaise (c : Nat) (ge : GE) (Γ : Env) (M : List MO) : gRaise c ge Γ M = (ge Γ M).thenS Γ fun d M1 => .exc c d Γ M1 := rfl

/-! ### try -/
theorem Slots.unset {K : PySem.W.Frag} {Z : Hp} {ι : Nat → Addr} {n i : Nat} {Γ : Env} {σ : St} (s : Slots K Z ι n Γ σ) (o : Option V) : Slots K Z ι n (Γ.set i none) (σ.set i o) := by
  refine ⟨by rw [List.length_set, List.length_set]; exact s.1, fun j d h => ?_⟩
  by_cases hj : i = j
  · subst hj
    have lt : i < Γ.length := by
      have := (List.getElem?_eq_some_iff.mp h).1
      rw [List.length_set] at this
      exact this
    rw [List.getElem?_set_self lt] at h
    cases h
  · rw [List.getElem?_set_ne hj] at h ⊢
    exact s.2 j d h
/-- a clause: which classes it takes, the slot of its name, what it does with the error's attribute -/
structure Hd where
  is : Nat → Bool
  slot : Option Nat
  run : D → GS
def RS.noExc (r : RS) : RS := match r with
  | .exc _ _ _ _ => .bad
  | r => r
def RS.unset (i : Nat) (r : RS) : RS := match r with
  | .nx Γ M => .nx (Γ.set i none) M
  | .bk Γ M => .bk (Γ.set i none) M
  | .ct Γ M => .ct (Γ.set i none) M
  | r => r
def pickH : List Hd → Nat → D → GS
  | [], c, d => fun Γ M => .exc c d Γ M
  | h :: r, c, d => fun Γ M => if h.is c = true then (match h.slot with
      | none => (h.run d Γ M).noExc
      | some i => if i < Γ.length then ((h.run d (Γ.set i none) M).noExc).unset i else .bad) else pickH r c d Γ M
def RS.caught (m : Nat) (hs : List Hd) (r : RS) : RS := match r with
  | .exc c d Γ M => if c < m then pickH hs c d Γ M else .bad
  | r => r
def gTry (m : Nat) (body : GS) (hs : List Hd) : GS := fun Γ M => (body Γ M).caught m hs

/-- readings of the suites -/
abbrev TSx := Addr → Value → Option Addr → TS
def endsU (i : Nat) (Dd : Ends) : Ends := { nx := fun σ H => Dd.nx (σ.set i none) H, rt := Dd.rt, bk := fun σ H => Dd.bk (σ.set i none) H, ct := fun σ H => Dd.ct (σ.set i none) H }
section
variable {X : Cx} {body : List Stmt} {h0 : ExceptHandler} {hds : List ExceptHandler} {l : List (Value × Option Nat × TSx)} {pos : Pos} {tb : WX → TS} {Wo : WX}
end
end Bk

set_option Elab.async false
set_option linter.all false
set_option maxRecDepth 100000
set_option maxHeartbeats 2000000
namespace Bk
open PySem PySem.Spec PyProof.Rows L2
/-! ### try: the rule, and the readings of an error's attribute -/
section
variable {X : Cx} {C : CT} {W : WX} {H Z H1 Z1 : Hp} {ι ι1 : Nat → Addr} {M M1 : List MO} {Dd : Ends}
theorem ExcR.ext {n n' c : Nat} {d : D} {cls : Value} {dd : Option Addr} (x : ExcR X.K C H Z ι n c d cls dd) (e : Ext H Z ι n H1 Z1 ι1 n') : ExcR X.K C H1 Z1 ι1 n' c d cls dd := by
  obtain ⟨x1, a, v, x2, x3, x4⟩ := x
  exact ⟨x1, a, v, x2, e.zz _ _ x3, x4.ext e⟩
theorem PSs.weak {st : List Stmt} {t t' : TS} (h : PSs X st t) (hw : ∀ D σ H, t' D σ H → t D σ H) : PSs X st t' := ⟨fun pi s σ H D I q => h.run pi s σ H D I (hw D σ H q)⟩
theorem PostS.noExc {r : RS} (h : PostS X C W H Z ι M r.noExc Dd) : PostS X C noW H Z ι M r Dd := by
  cases r with
  | exc c d Γ M' => exact False.elim h
  | nx Γ M' => exact h
  | bk Γ M' => exact h
  | ct Γ M' => exact h
  | rt d M' => exact h
  | bad => exact h
theorem PostS.unset {r : RS} {i : Nat} (h : PostS X C W H Z ι M (r.unset i) Dd) : PostS X C W H Z ι M r (endsU i Dd) := by
  cases r with
  | nx Γ M' => exact fun σ' H' Z' ι' e hr sl => h _ H' Z' ι' e hr (sl.unset none)
  | bk Γ M' => exact fun σ' H' Z' ι' e hr sl => h _ H' Z' ι' e hr (sl.unset none)
  | ct Γ M' => exact fun σ' H' Z' ι' e hr sl => h _ H' Z' ι' e hr (sl.unset none)
  | rt d M' => exact h
  | exc c d Γ M' => exact h
  | bad => exact h
end
section
variable {X : Cx} {C : CT} {W : WX}
/-! expressions in a suite that read the error's attribute -/
variable {k i : Nat} {e e1 e2 : Expr} {es : List Expr} {g ga gb : D → GE} {gs : D → GA} {gt : D → GT} {pos np : Pos}
/-! suites -/
end
@[simp] theorem u_gTry (m : Nat) (b : GS) (hs : List Hd) (Γ : Env) (M : List MO) : gTry m b hs Γ M = (b Γ M).caught m hs := rfl
@[simp] theorem u_cExc (m : Nat) (hs : List Hd) (c : Nat) (d : D) (Γ : Env) (M : List MO) : (RS.exc c d Γ M).caught m hs = if c < m then pickH hs c d Γ M else .bad := rfl
@[simp] theorem u_cNx (m : Nat) (hs : List Hd) (Γ : Env) (M : List MO) : (RS.nx Γ M).caught m hs = .nx Γ M := rfl
@[simp] theorem u_cRt (m : Nat) (hs : List Hd) (d : D) (M : List MO) : (RS.rt d M).caught m hs = .rt d M := rfl
@[simp] theorem u_pickNil (c : Nat) (d : D) (Γ : Env) (M : List MO) : pickH [] c d Γ M = .exc c d Γ M := rfl
@[simp] theorem u_pickO (is : Nat → Bool) (g : D → GS) (r : List Hd) (c : Nat) (d : D) (Γ : Env) (M : List MO) : pickH (⟨is, none, g⟩ :: r) c d Γ M = if is c = true then (g d Γ M).noExc else pickH r c d Γ M := rfl
@[simp] theorem u_pickA (is : Nat → Bool) (i : Nat) (g : D → GS) (r : List Hd) (c : Nat) (d : D) (Γ : Env) (M : List MO) : pickH (⟨is, some i, g⟩ :: r) c d Γ M = if is c = true then (if i < Γ.length then ((g d (Γ.set i none) M).noExc).unset i else .bad) else pickH r c d Γ M := rfl
@[simp] theorem u_noNx (Γ : Env) (M : List MO) : (RS.nx Γ M).noExc = .nx Γ M := rfl
@[simp] theorem u_noRt (d : D) (M : List MO) : (RS.rt d M).noExc = .rt d M := rfl
@[simp] theorem u_unNx (i : Nat) (Γ : Env) (M : List MO) : (RS.nx Γ M).unset i = .nx (Γ.set i none) M := rfl
@[simp] theorem u_unRt (i : Nat) (d : D) (M : List MO) : (RS.rt d M).unset i = .rt d M := rfl
end Bk

set_option Elab.async false
set_option linter.all false
set_option maxRecDepth 100000
set_option maxHeartbeats 2000000
namespace Bk
open PySem PySem.Spec PyProof.Rows L2
/-! ### xs + ys as a list of ours; len(set(xs)) of ints -/
def gAddO (ga gb : GE) : GE := fun Γ M => (ga Γ M).bind fun x M1 => (gb Γ M1).bind fun y M2 => match listD M2 x, listD M2 y with
  | some a, some b => if a.length + b.length ≤ sizeLine then .ok (.ref M2.length) (M2 ++ [.lst (a ++ b)]) else .bad
  | _, _ => .bad
@[simp] theorem u_gAddO (ga gb : GE) (Γ : Env) (M : List MO) : gAddO ga gb Γ M = ((ga Γ M).bind fun x M1 => (gb Γ M1).bind fun y M2 => match listD M2 x, listD M2 y with
  | some a, some b => if a.length + b.length ≤ sizeLine then .ok (.ref M2.length) (M2 ++ [.lst (a ++ b)]) else .bad
  | _, _ => .bad) := Eq.trans rfl rfl
section
variable {X : Cx} {C : CT} {W : WX} {a b : Expr} {ga gb : GE} {pos : Pos}
end
def dupI (ns : List Int) : List Int := PyProof.Rows.firstMet (fun i => ns.getD i 0) ns.length
theorem dupI_nodup {ns : List Int} (h : ns.Nodup) : (dupI ns).length = ns.length := by
  have key : ∀ i, i ≤ ns.length → (PyProof.Rows.firstMet (fun i => ns.getD i 0) i).length = i := fun i => by
    induction i with
    | zero => intro _; rfl
    | succ i ih =>
      intro hi
      have ih := ih (by omega)
      rw [PyProof.Rows.firstMet_succ]
      have no : (PyProof.Rows.firstMet (fun i => ns.getD i 0) i).any (· == ns.getD i 0) = false := by
        rw [PyProof.Rows.firstMet_any, Bool.eq_false_iff]
        intro hc
        obtain ⟨x, hx, ex⟩ := List.any_eq_true.mp hc
        obtain ⟨j, hj, rfl⟩ := List.mem_map.mp hx
        have hj := List.mem_range.mp hj
        have ex : ns.getD j 0 = ns.getD i 0 := by simpa using ex
        have a1 : ns.getD j 0 = ns[j] := by simp [show j < ns.length by omega]
        have a2 : ns.getD i 0 = ns[i] := by simp [show i < ns.length by omega]
        rw [a1, a2] at ex
        exact List.pairwise_iff_getElem.mp h j i (by omega) (by omega) hj ex
      unfold PyProof.Rows.step_dedup
      rw [if_neg (by rw [no]; decide), List.length_append, ih]
      rfl
  exact key _ (Nat.le_refl _)
def dLenSetI (M : List MO) (d : D) : Option D := ((listD M d).bind intsD).bind fun ns => if ns.length < 1000 then some (.int ((dupI ns).length : Nat)) else none
def gLenSetI (ge : GE) : GE := fun Γ M => (ge Γ M).bind fun d M1 => opR (dLenSetI M1 d) M1
@[simp] theorem u_gLenSetI (ge : GE) (Γ : Env) (M : List MO) : gLenSetI ge Γ M = ((ge Γ M).bind fun d M1 => opR (dLenSetI M1 d) M1) := Eq.trans rfl rfl
theorem e_lenSetI (M : List MO) {ns : List Int} (hl : ns.length < 1000) : dLenSetI M (.lst (ns.map D.int)) = some (.int ((dupI ns).length : Nat)) := by
  simp [dLenSetI, listD, hl]
def tLenSetI (K : PySem.W.Frag) (ta : TE) : TE := fun σ H Q => ta σ H fun x H1 => ∃ (l : Addr) (ns : List Int), x = .ref l ∧ SqL K H1 l (ns.map V.int) ∧ ns.length < 1000 ∧ Q (.int ((dupI ns).length : Nat)) H1
section
variable {X : Cx} {C : CT} {W : WX} {a : Expr} {ge : GE} {p p2 pos q : Pos}
theorem pe_lenSetI {ta : TE} (hc : X.calm = true) (hg : Gl X "len") (hm : X.mg "len" = none) (hg2 : Gl X "set") (hm2 : X.mg "set" = none) (ha : PE X a ta)
    (na : starEach [a] X.env = (false, eval a X.env) :: starEach [] X.env := by rfl) : PE X (.Call (.Name "len" p) [.Call (.Name "set" p2) [a] [] q] [] pos) (tLenSetI X.K ta) := by
  refine ⟨fun pi s σ H Q I0 h => ?_⟩
  refine Call_ (ld_blt I0 hg hm boot_len ?_)
  refine PyProof.Rows.callWith_builtin1 (PyProof.Rows.args_cons ?go rfl) rfl rfl
  refine Call_ (ld_blt I0 hg2 hm2 boot_set ?_)
  refine PyProof.Rows.callWith_type1 (PyProof.Rows.args_cons (thn (ha.run pi s σ H _ I0 h) fun v0 s1 ⟨x0, H1, I1, r1, q1⟩ => PyProof.Rows.args_nil ?_) na) na rfl
  obtain ⟨l, ns, rfl, hq, h1, q1⟩ := q1
  cases r1
  obtain ⟨its, r, pl, hz⟩ := I1.list hq
  have hi : IntsAre its.toArray.toList ns := by simpa using intsAre_of r
  have hsz : its.toArray.size = ns.length := by rw [List.size_toArray, ← r.length, List.length_map]
  refine PySem.call_set_list (I1.ok.hd hc) pl.isList hi (by rw [hsz]; show ns.length + 1 < 4096; omega) fun h2 tk hS hk => ?_
  rw [hsz] at hS
  refine PyProof.Rows.args_nil ?_
  have lt := PyProof.Rows.firstMet_length_le (fun i => ns.getD i 0) ns.length
  obtain ⟨o, es, ep, t, ho, hex, hd, _, _, _, hf, hn⟩ := hS
  have I2 : Inv X pi σ H1 { s1 with heap := h2, toks := tk } := I1.kept fun b o e => hk b o (Heap.lt_size e) e
  exact call_len_set ho hex hd hf (by rw [hn]; omega) ⟨.int ((dupI ns).length : Nat), H1, I2.tok _, ⟨_, by rw [hn]; rfl⟩, q1⟩
theorem qe_lenSetI (hc : X.calm = true) (hg : Gl X "len") (hm : X.mg "len" = none) (hg2 : Gl X "set") (hm2 : X.mg "set" = none) (ha : QE X C W a ge)
    (na : starEach [a] X.env = (false, eval a X.env) :: starEach [] X.env := by rfl) : QE X C W (.Call (.Name "len" p) [.Call (.Name "set" p2) [a] [] q] [] pos) (gLenSetI ge) := by
  obtain ⟨ta, pa, qa⟩ := ha
  refine ⟨_, pe_lenSetI hc hg hm hg2 hm2 pa na, fun σ H Z ι Γ M Q sl hr h => qa σ H Z ι Γ M _ sl hr (Post.bind h fun x M1 v H1 Z1 ι1 e1 hr1 r1 h1 => ?_)⟩
  obtain ⟨d, hd, h2⟩ := Post.of_opR (γ := D) (δ := V) h1
  unfold dLenSetI at hd
  cases el : listD M1 x with
  | none => rw [el] at hd; cases hd
  | some ds =>
    rw [el, Option.bind_some] at hd
    cases er : intsD ds with
    | none => rw [er] at hd; cases hd
    | some ns =>
      rw [er, Option.bind_some] at hd
      by_cases c : ns.length < 1000
      · rw [if_pos c] at hd
        cases hd
        obtain ⟨l, xs, rfl, ex, rp⟩ := listD_run hr1 r1 el
        have ev := intsD_is rp er
        subst ev
        exact ⟨l, ns, rfl, ex.sq, c, h2 _ _ _ _ .refl hr1 (.int _)⟩
      · rw [if_neg c] at hd
        cases hd
end
end Bk

set_option Elab.async false
set_option linter.all false
set_option maxRecDepth 100000
set_option maxHeartbeats 2000000
namespace Bk
open PySem PySem.Spec PyProof.Rows L2
/-! ### a loop over enumerate(xs), xs a list of ours (read anew at each turn) or a frozen one -/
def gForEN (gg : GG) (body : GS) (k : Nat) : Nat → Nat → GS
  | 0, _ => gBad
  | n + 1, i => fun Γ M => match M[k]? with
    | some (.lst ds) => match ds[i]? with
      | some d => optS (gg (.tup [.int (0 + (i : Nat)), d]) Γ) fun Γ1 => (body Γ1 M).turn (gForEN gg body k n (i + 1))
      | none => if ds.length = i then .nx Γ M else .bad
    | _ => .bad
def gForE (ge : GE) (gg : GG) (body : GS) (n : Nat) : GS := fun Γ M => (ge Γ M).thenS Γ fun d M1 => match d with
  | .ref k => gForEN gg body k n 0 Γ M1
  | d => match seqD d with
    | some ds => gForL gg body (enumL 0 ds) Γ M1
    | none => .bad
@[simp] theorem u_gForE (ge : GE) (gg : GG) (body : GS) (n : Nat) (Γ : Env) (M : List MO) : gForE ge gg body n Γ M = ((ge Γ M).thenS Γ fun d M1 => match d with
  | .ref k => gForEN gg body k n 0 Γ M1
  | d => match seqD d with
    | some ds => gForL gg body (enumL 0 ds) Γ M1
    | none => .bad) := Eq.trans rfl rfl
section
variable {X : Cx} {C : CT} {W : WX} {e : Expr} {ge : GE} {gg : GG} {g : GS} {p pos tpos pos2 : Pos} {elts : List Expr} {kk : Nat}
end
end Bk

set_option Elab.async false
set_option linter.all false
set_option maxRecDepth 100000
set_option maxHeartbeats 2000000
namespace Bk
open PySem PySem.Spec PyProof.Rows L2
/-! ### a comprehension over a list of ours (read anew at each turn) or a frozen one -/
def gLcB (ge : GE) (gg : GG) (gt : GT) (gel : GE) (own : List Nat) : GE := fun Γ M => (ge Γ M).bind fun d M1 => match d with
  | .ref k => match M1[k]? with
    | some (.lst ds) => (gLcL gg gt gel (forget Γ own) ds [] M1).bind fun acc M2 => .ok (.lst acc) M2
    | _ => .bad
  | d => match seqD d with
    | some ds => (gLcL gg gt gel (forget Γ own) ds [] M1).bind fun acc M2 => .ok (.lst acc) M2
    | none => .bad
@[simp] theorem u_gLcB (ge : GE) (gg : GG) (gt : GT) (gel : GE) (own : List Nat) (Γ : Env) (M : List MO) : gLcB ge gg gt gel own Γ M = (ge Γ M).bind fun d M1 => match d with
  | .ref k => match M1[k]? with
    | some (.lst ds) => (gLcL gg gt gel (forget Γ own) ds [] M1).bind fun acc M2 => .ok (.lst acc) M2
    | _ => .bad
  | d => match seqD d with
    | some ds => (gLcL gg gt gel (forget Γ own) ds [] M1).bind fun acc M2 => .ok (.lst acc) M2
    | none => .bad := Eq.trans rfl rfl
section
variable {X : Cx} {C : CT} {W : WX} {elt tg iter : Expr} {ifs : List Expr} {scope : Scope} {own : List (Str × Nat)} {pos : Pos} {gi : GE} {gg : GG} {gt : GT} {ge : GE} {is ixs : List Nat}
end
end Bk

set_option Elab.async false
set_option linter.all false
set_option maxRecDepth 100000
set_option maxHeartbeats 2000000
namespace Bk
open PySem PySem.Spec PyProof.Rows L2
/-! ### max of a list of tuples of whole numbers -/
def maxR (r : List Int) (rs : List (List Int)) : List Int := rs.foldl (fun a y => if a < y then y else a) r
def dMaxT (M : List MO) (d : D) : Option D := ((listD M d).bind rowsL).bind fun rs => match rs with
  | [] => none
  | r :: rs => some (tupI (maxR r rs))
section
variable {X : Cx}
def dMaxB (M : List MO) (d : D) : Option D := match dMax M d with
  | some r => some r
  | none => dMaxT M d
end
@[simp] theorem e_maxB_i (M : List MO) {is : List Int} (h : is ≠ []) : dMaxB M (.lst (is.map D.int)) = some (.int (maxI is)) := by
  have : dMax M (.lst (is.map D.int)) = some (.int (maxI is)) := by
    simp only [dMax, ofInts, listD, Option.bind_some, intsD_map, if_neg h]
  simp only [dMaxB, this]
end Bk

set_option Elab.async false
set_option linter.all false
set_option maxRecDepth 100000
set_option maxHeartbeats 2000000
namespace Bk
open PySem PySem.Spec PyProof.Rows L2
/-! ### walks over lists of ours that stay as they are while they are walked, and over frozen ones -/
abbrev Wt := List (Nat × List D)
def wOk (w : Wt) (M : List MO) : Prop := ∀ p ∈ w, M[p.1]? = some (.lst p.2)
theorem wOk_nil (M : List MO) : wOk [] M := fun _ h => absurd h (by simp)
theorem wOk_one {k : Nat} {ds : List D} {M : List MO} : wOk [(k, ds)] M ↔ M[k]? = some (.lst ds) := ⟨fun h => h (k, ds) (by simp), fun h p hp => by
  have : p = (k, ds) := by simpa using hp
  rw [this]
  exact h⟩
theorem wOk_app {w w' : Wt} {M : List MO} (h : wOk (w ++ w') M) : wOk w M ∧ wOk w' M := ⟨fun p hp => h p (List.mem_append.mpr (.inl hp)), fun p hp => h p (List.mem_append.mpr (.inr hp))⟩
abbrev GJ := Env → List MO → R (List D × Wt)
def srcW (M : List MO) : D → Option (List D × Wt)
  | .lst ds => some (ds, [])
  | .tup ds => some (ds, [])
  | .ptu ds => some (ds, [])
  | .ref k => match M[k]? with
    | some (.lst ds) => some (ds, [(k, ds)])
    | _ => none
  | _ => none
@[simp] theorem srcW_lst (M : List MO) (ds : List D) : srcW M (.lst ds) = some (ds, []) := Eq.trans rfl rfl
@[simp] theorem srcW_tup (M : List MO) (ds : List D) : srcW M (.tup ds) = some (ds, []) := Eq.trans rfl rfl
@[simp] theorem srcW_ptu (M : List MO) (ds : List D) : srcW M (.ptu ds) = some (ds, []) := Eq.trans rfl rfl
theorem srcW_ref {M : List MO} {k : Nat} {ds : List D} (h : M[k]? = some (.lst ds)) : srcW M (.ref k) = some (ds, [(k, ds)]) := by simp only [srcW, h]
theorem srcW_ok {M : List MO} {d : D} {ds : List D} {w : Wt} (h : srcW M d = some (ds, w)) : wOk w M := by
  cases d with
  | ref k =>
    simp only [srcW] at h
    split at h
    · rename_i es e
      cases h
      exact wOk_one.mpr e
    · cases h
  | lst es => cases h; exact wOk_nil M
  | tup es => cases h; exact wOk_nil M
  | ptu es => cases h; exact wOk_nil M
  | _ => cases h
def SrcOk (K : PySem.W.Frag) (S : Src) (ds : List D) (w : Wt) (Z : Hp) (ι : Nat → Addr) (n : Nat) : Prop :=
  ∀ (H' Z' : Hp) (ι' : Nat → Addr) (M' : List MO), Sub Z Z' → (∀ k, k < n → ι' k = ι k) → n ≤ M'.length → HR K H' Z' ι' M' → wOk w M' → ∃ xs, S.here K H' xs ∧ Rps K Z' ι' M'.length ds xs
theorem srcOk_of {K : PySem.W.Frag} {H Z : Hp} {ι : Nat → Addr} {M : List MO} {d : D} {ds : List D} {w : Wt} {v : V} (hr : HR K H Z ι M) (r : Rp K Z ι M.length d v) (h : srcW M d = some (ds, w)) : ∃ (S : Src), v = .ref S.addr ∧ SrcOk K S ds w Z ι M.length := by
  cases r with
  | lst s r => cases h; exact ⟨.l _, rfl, fun H' Z' ι' M' hz hi hn hr' _ => ⟨_, (subL (fun a o q => hr'.sub _ _ (hz _ _ q)) s).sq, Rps.mono hz hi hn _ _ r⟩⟩
  | tup s r => cases h; exact ⟨.t _, rfl, fun H' Z' ι' M' hz hi hn hr' _ => ⟨_, subT (fun a o q => hr'.sub _ _ (hz _ _ q)) s, Rps.mono hz hi hn _ _ r⟩⟩
  | ptu s r => cases h; exact ⟨.t _, rfl, fun H' Z' ι' M' hz hi hn hr' _ => ⟨_, subT (fun a o q => hr'.sub _ _ (hz _ _ q)) s.sq, Rps.mono hz hi hn _ _ r⟩⟩
  | ref hk =>
    rename_i k
    simp only [srcW] at h
    split at h
    · rename_i es e
      cases h
      refine ⟨.l (ι k), rfl, fun H' Z' ι' M' hz hi hn hr' hw => ?_⟩
      obtain ⟨xs, e1, r⟩ := hr'.obj k _ (wOk_one.mp hw)
      rw [hi k hk] at e1
      exact ⟨xs, .of e1, r⟩
    · cases h
  | _ => cases h
theorem SrcOk.mono {K : PySem.W.Frag} {S : Src} {ds : List D} {w : Wt} {Z Z1 : Hp} {ι ι1 : Nat → Addr} {n n1 : Nat} (h : SrcOk K S ds w Z ι n) (hz : Sub Z Z1) (hi : ∀ k, k < n → ι1 k = ι k) (hn : n ≤ n1) : SrcOk K S ds w Z1 ι1 n1 :=
  fun H' Z' ι' M' a b c d e => h H' Z' ι' M' (fun x o q => a _ _ (hz _ _ q)) (fun k hk => (b k (Nat.lt_of_lt_of_le hk hn)).trans (hi k hk)) (Nat.le_trans hn c) d e
section
variable {K : PySem.W.Frag} {Z : Hp} {ι : Nat → Addr} {n : Nat} {S S1 S2 : Src} {ds es : List D} {w w' : Wt}
theorem itc_en {k : Int} (s : SrcOk K S ds w Z ι n) : ItC (wOk w) K (Ien K S k) (enumL k ds) Z ι n := by
  intro i H' Z' ι' M' hz hi hn hr hM
  obtain ⟨xs, sH, r⟩ := s H' Z' ι' M' hz hi hn hr hM
  refine ⟨fun hl => ⟨xs, sH, by rw [← r.length, ← enumL_len ds k]; exact hl⟩, fun d hd => ?_⟩
  obtain ⟨d0, h1, rfl⟩ := enumL_get ds k i d hd
  obtain ⟨v, hv, rv⟩ := r.get h1
  refine ⟨⟨xs, v, sH, hv⟩, fun x H2 hy => ?_⟩
  obtain ⟨T, x', rfl, hT, rfl, hx⟩ := hy
  have ex : xs[i]? = some x' := hx _ sH
  rw [hv] at ex
  cases ex
  obtain ⟨q1, q2⟩ := hr.frozen (o := .tup [.int (k + (i : Nat)), v]) hT
  exact ⟨_, q2, q1, .tup (.inl (.inl upd_same)) (.cons (.int _) (.cons (rv.ext q2) .nil))⟩
theorem itc_zz (s1 : SrcOk K S1 ds w Z ι n) (s2 : SrcOk K S2 es w' Z ι n) : ItC (wOk (w ++ w')) K (Izz K S1 S2) (zipL ds es) Z ι n := by
  intro i H' Z' ι' M' hz hi hn hr hM
  obtain ⟨hM1, hM2⟩ := wOk_app hM
  obtain ⟨xs, sH, r1⟩ := s1 H' Z' ι' M' hz hi hn hr hM1
  obtain ⟨ys, sK, r2⟩ := s2 H' Z' ι' M' hz hi hn hr hM2
  refine ⟨fun hl => ⟨xs, ys, sH, sK, by rw [← r1.length, ← r2.length, ← zipL_len]; exact hl⟩, fun d hd => ?_⟩
  obtain ⟨d0, e0, h1, h2, rfl⟩ := zipL_get ds es i d hd
  obtain ⟨v, hv, rv⟩ := r1.get h1
  obtain ⟨u, hu, ru⟩ := r2.get h2
  refine ⟨⟨xs, ys, v, u, sH, sK, hv, hu⟩, fun x H2 hy => ?_⟩
  obtain ⟨T, x', y', rfl, hT, rfl, hx, hy⟩ := hy
  have ex : xs[i]? = some x' := hx _ sH
  rw [hv] at ex
  cases ex
  have ey : ys[i]? = some y' := hy _ sK
  rw [hu] at ey
  cases ey
  obtain ⟨q1, q2⟩ := hr.frozen (o := .tup [v, u]) hT
  exact ⟨_, q2, q1, .tup (.inl (.inl upd_same)) (.cons (rv.ext q2) (.cons (ru.ext q2) .nil))⟩
end
abbrev rpJ (K : PySem.W.Frag) : RpK (List D × Wt) It := fun Z ι n iw J => ItC (wOk iw.2) K J iw.1 Z ι n
def QJ (X : Cx) (C : CT) (W : WX) (tg e : Expr) (g : GJ) : Prop := ∃ wi, PI X tg e wi ∧ ∀ (σ : St) (H Z : Hp) (ι : Nat → Addr) (Γ : Env) (M : List MO) (Q : It → Hp → Prop), Slots X.K Z ι M.length Γ σ → HR X.K H Z ι M → Post X C W (rpJ X.K) σ H Z ι M (g Γ M) Q → wi σ H Q
def gSeqJ (ge : GE) : GJ := fun Γ M => (ge Γ M).bind fun d M1 => opR (srcW M1 d) M1
def gEnumJ (ge : GE) : GJ := fun Γ M => (ge Γ M).bind fun d M1 => opR ((srcW M1 d).map fun p => (enumL 0 p.1, p.2)) M1
def gEnumKJ (ge gk : GE) : GJ := fun Γ M => (ge Γ M).bind fun d M1 => (gk Γ M1).bind fun k M2 => match k with
  | .int k => if decide (-(2 ^ 63) ≤ k) && decide (k < 2 ^ 63) then opR ((srcW M2 d).map fun p => (enumL k p.1, p.2)) M2 else .bad
  | _ => .bad
def zipW (M : List MO) (x y : D) : Option (List D × Wt) := match srcW M x, srcW M y with
  | some p, some q => some (zipL p.1 q.1, p.2 ++ q.2)
  | _, _ => none
def gZipJ (ga gb : GE) : GJ := fun Γ M => (ga Γ M).bind fun x M1 => (gb Γ M1).bind fun y M2 => opR (zipW M2 x y) M2
@[simp] theorem u_gSeqJ (ge : GE) (Γ : Env) (M : List MO) : gSeqJ ge Γ M = (ge Γ M).bind fun d M1 => opR (srcW M1 d) M1 := Eq.trans rfl rfl
@[simp] theorem u_gEnumJ (ge : GE) (Γ : Env) (M : List MO) : gEnumJ ge Γ M = (ge Γ M).bind fun d M1 => opR ((srcW M1 d).map fun p => (enumL 0 p.1, p.2)) M1 := Eq.trans rfl rfl
@[simp] theorem u_gEnumKJ (ge gk : GE) (Γ : Env) (M : List MO) : gEnumKJ ge gk Γ M = (ge Γ M).bind fun d M1 => (gk Γ M1).bind fun k M2 => match k with
  | .int k => if decide (-(2 ^ 63) ≤ k) && decide (k < 2 ^ 63) then opR ((srcW M2 d).map fun p => (enumL k p.1, p.2)) M2 else .bad
  | _ => .bad := Eq.trans rfl rfl
@[simp] theorem u_gZipJ (ga gb : GE) (Γ : Env) (M : List MO) : gZipJ ga gb Γ M = (ga Γ M).bind fun x M1 => (gb Γ M1).bind fun y M2 => opR (zipW M2 x y) M2 := Eq.trans rfl rfl
theorem zipW_some {M : List MO} {x y : D} {ds es : List D} {w w' : Wt} (h : srcW M x = some (ds, w)) (h' : srcW M y = some (es, w')) : zipW M x y = some (zipL ds es, w ++ w') := by unfold zipW; rw [h, h']
section
variable {X : Cx} {C : CT} {W : WX} {e e2 : Expr} {ge ga gb gk : GE} {p pos tpos : Pos} {elts : List Expr} {kk : Nat}
theorem pi_en1 {ta : TE} (hg : Gl X "enumerate") (hm : X.mg "enumerate" = none) (pa : PE X e ta) (hs : starEach [e] X.env = (false, eval e X.env) :: starEach [] X.env := by rfl) : PI X (.Tuple elts kk tpos) (.Call (.Name "enumerate" p) [e] [] pos)
    (fun σ H R => ta σ H fun v H1 => ∃ (S : Src) (xs : List V), v = .ref S.addr ∧ S.here X.K H1 xs ∧ R (Ien X.K S 0) H1) := ⟨fun pins s σ H R I h => by
  refine Call_ (ld_blt I hg hm boot_enumerate (PyProof.Rows.callWith_type1 (thn ((pa_cons pa pa_nil hs).run pos pins s σ H (fun vs H1 => ∃ v, vs = [v] ∧ ∃ (S : Src) (xs : List V), v = .ref S.addr ∧ S.here X.K H1 xs ∧ R (Ien X.K S 0) H1) I ?_) fun us s1 hh => ?_) hs rfl))
  · have hmono : (fun x H1 => tNil σ H1 fun xs H2 => ∃ v, x :: xs = [v] ∧ ∃ (S : Src) (ys : List V), v = .ref S.addr ∧ S.here X.K H2 ys ∧ R (Ien X.K S 0) H2) = fun (v : V) (H1 : Hp) => ∃ (S : Src) (xs : List V), v = .ref S.addr ∧ S.here X.K H1 xs ∧ R (Ien X.K S 0) H1 := by
      funext x H1
      apply propext
      constructor
      · rintro ⟨v, ev, q⟩
        cases ev
        exact q
      · intro q
        exact ⟨x, rfl, q⟩
    show ta σ H fun x H1 => tNil σ H1 fun xs H2 => ∃ v, x :: xs = [v] ∧ ∃ (S : Src) (ys : List V), v = .ref S.addr ∧ S.here X.K H2 ys ∧ R (Ien X.K S 0) H2
    rw [hmono]
    exact h
  · obtain ⟨vs, H1, J, r1, v, rfl, S, xs, rfl, hq, q⟩ := hh
    obtain ⟨u, rfl, ru⟩ := Vals.one r1
    cases ru
    obtain ⟨its, rv, har⟩ := Src.inv J hq
    refine call_enum1 (S.begins its.toArray) har fun h' he hit hk => wpAny_pyIter_enum he ?_
    have J2 : Inv X pins σ H1 { s1 with heap := h' } := J.kept (t' := s1.toks) hk
    refine ⟨s1.heap.objs.size + 1, [s1.heap.objs.size + 1, s1.heap.objs.size], _, _, H1, rfl, J2, turn_en S 0 (s1.heap.objs.size + 1) s1.heap.objs.size, ⟨⟨.none, by simpa using he⟩, Src.start hit, Nat.succ_ne_self _⟩, fun b hb => ?_, q⟩
    have le : s1.heap.objs.size ≤ b := by
      rcases List.mem_cons.mp hb with z | z
      · rw [z]; exact Nat.le_succ _
      · have z' : b = s1.heap.objs.size := by simpa using z
        rw [z']
        exact Nat.le_refl _
    exact J.fpOk le (J.hok.fresh le)⟩
theorem pi_zz {ta tb : TE} (hg : Gl X "zip") (hm : X.mg "zip" = none) (pa : PE X e ta) (pb : PE X e2 tb) (hs : starEach [e, e2] X.env = (false, eval e X.env) :: starEach [e2] X.env := by rfl) (hs2 : starEach [e2] X.env = (false, eval e2 X.env) :: starEach [] X.env := by rfl)
    (hpl : (backTo pos (starEach [e2] X.env)).any (·.1) = false := by rfl) : PI X (.Tuple elts kk tpos) (.Call (.Name "zip" p) [e, e2] [] pos)
    (fun σ H R => ta σ H fun v H1 => tb σ H1 fun u H2 => ∃ (S1 S2 : Src) (xs ys : List V), v = .ref S1.addr ∧ u = .ref S2.addr ∧ S1.here X.K H2 xs ∧ S2.here X.K H2 ys ∧ R (Izz X.K S1 S2) H2) := ⟨fun pins s σ H R I h => by
  refine Call_ (ld_blt I hg hm boot_zip (PyProof.Rows.callWith_type1 (thn ((pa_cons pa (pa_cons pb pa_nil hs2) hs).run pos pins s σ H (fun vs H1 => ∃ v u, vs = [v, u] ∧ ∃ (S1 S2 : Src) (xs ys : List V), v = .ref S1.addr ∧ u = .ref S2.addr ∧ S1.here X.K H1 xs ∧ S2.here X.K H1 ys ∧ R (Izz X.K S1 S2) H1) I ?_) fun us s1 hh => ?_) hs hpl))
  · have hmono : (fun x H1 => tb σ H1 fun y H2 => tNil σ H2 fun ys H3 => ∃ v u, x :: y :: ys = [v, u] ∧ ∃ (S1 S2 : Src) (xs zs : List V), v = .ref S1.addr ∧ u = .ref S2.addr ∧ S1.here X.K H3 xs ∧ S2.here X.K H3 zs ∧ R (Izz X.K S1 S2) H3) =
        fun (v : V) (H1 : Hp) => tb σ H1 fun u H2 => ∃ (S1 S2 : Src) (xs ys : List V), v = .ref S1.addr ∧ u = .ref S2.addr ∧ S1.here X.K H2 xs ∧ S2.here X.K H2 ys ∧ R (Izz X.K S1 S2) H2 := by
      funext x H1
      congr 1
      funext y H2
      apply propext
      constructor
      · rintro ⟨v, u, ev, q⟩
        cases ev
        exact q
      · intro q
        exact ⟨x, y, rfl, q⟩
    show ta σ H fun x H1 => tb σ H1 fun y H2 => tNil σ H2 fun ys H3 => ∃ v u, x :: y :: ys = [v, u] ∧ ∃ (S1 S2 : Src) (xs zs : List V), v = .ref S1.addr ∧ u = .ref S2.addr ∧ S1.here X.K H3 xs ∧ S2.here X.K H3 zs ∧ R (Izz X.K S1 S2) H3
    rw [hmono]
    exact h
  · obtain ⟨vs, H1, J, r1, v, u, rfl, S1, S2, xs, ys, rfl, rfl, hq1, hq2, q⟩ := hh
    obtain ⟨u1, u2, rfl, ru, ru2⟩ := Vals.two r1
    cases ru
    cases ru2
    obtain ⟨its1, rv1, har1⟩ := Src.inv J hq1
    obtain ⟨its2, rv2, har2⟩ := Src.inv J hq2
    refine zip_begins2 (S1.begins its1.toArray) (S2.begins its2.toArray) har1 har2 fun h' hz hTI hTO hi1 hi2 hsz hk => wpAny_pyIter_zip hz ?_
    have J2 : Inv X pins σ H1 { s1 with heap := h' } := J.kept (t' := s1.toks) hk
    refine ⟨s1.heap.objs.size + 4, [s1.heap.objs.size + 4, s1.heap.objs.size + 2, s1.heap.objs.size + 3, s1.heap.objs.size, s1.heap.objs.size + 1], _, _, H1, rfl, J2, turn_zz S1 S2 s1.heap.objs.size (Src.arr_lt har1) (Src.arr_lt har2), ⟨hz, hTI, ⟨_, _, hTO⟩, Src.start hi1, Src.start hi2⟩, fun b hb => ?_, q⟩
    have e' : b = s1.heap.objs.size + 4 ∨ b = s1.heap.objs.size + 2 ∨ b = s1.heap.objs.size + 3 ∨ b = s1.heap.objs.size ∨ b = s1.heap.objs.size + 1 := by simpa using hb
    have le : s1.heap.objs.size ≤ b := by
      rcases e' with z | z | z | z | z
      · rw [z]; exact Nat.le_add_right _ _
      · rw [z]; exact Nat.le_add_right _ _
      · rw [z]; exact Nat.le_add_right _ _
      · rw [z]; exact Nat.le_refl _
      · rw [z]; exact Nat.le_add_right _ _
    exact J.fpOk le (J.hok.fresh le)⟩
theorem qj_enum (hg : Gl X "enumerate") (hm : X.mg "enumerate" = none) (ha : QE X C W e ge) (hs : starEach [e] X.env = (false, eval e X.env) :: starEach [] X.env := by rfl) : QJ X C W (.Tuple elts kk tpos) (.Call (.Name "enumerate" p) [e] [] pos) (gEnumJ ge) := by
  obtain ⟨ta, pa, qa⟩ := ha
  refine ⟨_, pi_en1 hg hm pa hs, fun σ H Z ι Γ M Q sl hr h => qa σ H Z ι Γ M _ sl hr (Post.bind h fun x M1 v H1 Z1 ι1 e1 hr1 r1 h1 => ?_)⟩
  obtain ⟨iw, hd, h2⟩ := Post.of_opR (γ := D) (δ := V) h1
  obtain ⟨⟨ds, w⟩, hd1, rfl⟩ := Option.map_eq_some_iff.mp hd
  obtain ⟨S, rfl, s⟩ := srcOk_of hr1 r1 hd1
  obtain ⟨xs, hx, _⟩ := s H1 Z1 ι1 M1 (fun _ _ z => z) (fun _ _ => rfl) (Nat.le_refl _) hr1 (srcW_ok hd1)
  exact ⟨S, xs, rfl, hx, h2 _ H1 Z1 ι1 .refl hr1 (itc_en s)⟩
theorem qj_zip (hg : Gl X "zip") (hm : X.mg "zip" = none) (ha : QE X C W e ga) (hb : QE X C W e2 gb) (hs : starEach [e, e2] X.env = (false, eval e X.env) :: starEach [e2] X.env := by rfl) (hs2 : starEach [e2] X.env = (false, eval e2 X.env) :: starEach [] X.env := by rfl)
    (hpl : (backTo pos (starEach [e2] X.env)).any (·.1) = false := by rfl) : QJ X C W (.Tuple elts kk tpos) (.Call (.Name "zip" p) [e, e2] [] pos) (gZipJ ga gb) := by
  obtain ⟨ta, pa, qa⟩ := ha
  obtain ⟨tb, pb, qb⟩ := hb
  refine ⟨_, pi_zz hg hm pa pb hs hs2 hpl, fun σ H Z ι Γ M Q sl hr h => qa σ H Z ι Γ M _ sl hr (Post.bind h fun x M1 v H1 Z1 ι1 e1 hr1 r1 h1 => qb σ H1 Z1 ι1 Γ M1 _ (sl.ext e1) hr1 (h1.bind fun y M2 u H2 Z2 ι2 e2 hr2 r2 h2 => ?_))⟩
  obtain ⟨iw, hd, h3⟩ := Post.of_opR (γ := D) (δ := V) h2
  unfold zipW at hd
  split at hd
  · rename_i p q e1 e2'
    obtain ⟨ds, w⟩ := p
    obtain ⟨es, w'⟩ := q
    cases hd
    obtain ⟨S1, rfl, s1⟩ := srcOk_of hr2 (r1.ext e2) e1
    obtain ⟨S2, rfl, s2⟩ := srcOk_of hr2 r2 e2'
    obtain ⟨xs, hx, _⟩ := s1 H2 Z2 ι2 M2 (fun _ _ z => z) (fun _ _ => rfl) (Nat.le_refl _) hr2 (srcW_ok e1)
    obtain ⟨ys, hy, _⟩ := s2 H2 Z2 ι2 M2 (fun _ _ z => z) (fun _ _ => rfl) (Nat.le_refl _) hr2 (srcW_ok e2')
    exact ⟨S1, S2, xs, ys, rfl, rfl, hx, hy, h3 _ H2 Z2 ι2 .refl hr2 (itc_zz s1 s2)⟩
  · cases hd
end
/-! the loop -/
open Classical in
noncomputable def chkW (w : Wt) (M : List MO) (r : RS) : RS := if wOk w M then r else .bad
theorem chkW_t {w : Wt} {M : List MO} {r : RS} (h : wOk w M) : chkW w M r = r := by unfold chkW; rw [if_pos h]
theorem chkW_f {w : Wt} {M : List MO} {r : RS} (h : ¬ wOk w M) : chkW w M r = .bad := by unfold chkW; rw [if_neg h]
noncomputable def gForW (gg : GG) (body : GS) (w : Wt) : List D → GS
  | [] => fun Γ M => chkW w M (.nx Γ M)
  | d :: ds => fun Γ M => chkW w M (optS (gg d Γ) fun Γ1 => (body Γ1 M).turn (gForW gg body w ds))
noncomputable def gForJ (gj : GJ) (gg : GG) (body : GS) : GS := fun Γ M => (gj Γ M).thenS Γ fun iw M1 => gForW gg body iw.2 iw.1 Γ M1
@[simp] theorem u_gForJ (gj : GJ) (gg : GG) (body : GS) (Γ : Env) (M : List MO) : gForJ gj gg body Γ M = (gj Γ M).thenS Γ fun iw M1 => gForW gg body iw.2 iw.1 Γ M1 := Eq.trans rfl rfl
@[simp] theorem forW_nil (gg : GG) (body : GS) (ds : List D) (Γ : Env) (M : List MO) : gForW gg body [] ds Γ M = gForL gg body ds Γ M := by
  suffices h : gForW gg body [] ds = gForL gg body ds by rw [h]
  induction ds with
  | nil => funext Γ M; exact chkW_t (wOk_nil M)
  | cons d ds ih =>
    funext Γ M
    show chkW [] M (optS (gg d Γ) fun Γ1 => (body Γ1 M).turn (gForW gg body [] ds)) = _
    rw [chkW_t (wOk_nil M), ih]
    rfl
theorem forW_end {gg : GG} {body : GS} {w : Wt} {Γ : Env} {M : List MO} (h : wOk w M) : gForW gg body w [] Γ M = .nx Γ M := chkW_t h
theorem forW_turn {gg : GG} {body : GS} {w : Wt} {d : D} {ds : List D} {Γ Γ1 : Env} {M : List MO} (h : wOk w M) (hg : gg d Γ = some Γ1) : gForW gg body w (d :: ds) Γ M = (body Γ1 M).turn (gForW gg body w ds) := by
  show chkW w M (optS (gg d Γ) fun Γ1 => (body Γ1 M).turn (gForW gg body w ds)) = _
  rw [chkW_t h, hg]
  rfl
theorem forW_cons {gg : GG} {body : GS} {w : Wt} {d : D} {ds : List D} {Γ Γ1 Γ2 : Env} {M M2 : List MO} (h : wOk w M) (hg : gg d Γ = some Γ1) (hb : body Γ1 M = .nx Γ2 M2) : gForW gg body w (d :: ds) Γ M = gForW gg body w ds Γ2 M2 := by
  rw [forW_turn h hg, hb]
  rfl
section
variable {X : Cx} {C : CT} {W : WX} {tg : Expr} {gg : GG} {g : GS} {pos : Pos}
theorem qs_forJ {iter : Expr} {body : List Stmt} {gj : GJ} {is : List Nat} (hp : PassesOwn (model X.prog X.w) X.A X.env X.xe) (hc : X.calm = true) (hi : QJ X C W tg iter gj) (hg : QG X tg gg is) (hb : QSs X C W body g)
    (hs : ∀ x, foldedSetIterable iter X.env x = pure x := by intro _; rfl) : QS X C W (.For tg iter body [] pos) (gForJ gj gg g) := by
  obtain ⟨wi, pi, qi⟩ := hi
  obtain ⟨tg', pg, qg⟩ := hg
  obtain ⟨tb, pb, qb⟩ := hb
  refine ⟨_, ps_for hp hc pi pg pb hs, fun Dd σ H Z ι Γ M sl hr h => qi σ H Z ι Γ M _ sl hr (PostS.bind h sl fun iw M1 J H1 Z1 ι1 e1 hr1 rJ h1 => ?_)⟩
  obtain ⟨ds, w⟩ := iw
  refine ⟨fun i m σ' H' => ∃ (Z' : Hp) (ι' : Nat → Addr) (Γ' : Env) (M' : List MO), m = ds.length - i ∧ i ≤ ds.length ∧ Sub Z1 Z' ∧ (∀ k, k < M1.length → ι' k = ι1 k) ∧ M1.length ≤ M'.length ∧ HR X.K H' Z' ι' M' ∧ Slots X.K Z' ι' M'.length Γ' σ' ∧
    PostS X C W H' Z' ι' M' (gForW gg g w (ds.drop i) Γ' M') Dd, ⟨ds.length, Z1, ι1, Γ, M1, rfl, Nat.zero_le _, fun _ _ z => z, fun _ _ => rfl, Nat.le_refl _, hr1, sl.ext e1, h1⟩, ?_⟩
  rintro i m σ' H' ⟨Z', ι', Γ', M', em, hle, hz, hii, hn, hr', sl', hp'⟩
  by_cases hw : wOk w M'
  case neg =>
    exfalso
    cases ed : ds.drop i with
    | nil =>
      rw [ed] at hp'
      have hp' : PostS X C W H' Z' ι' M' (chkW w M' (.nx Γ' M')) Dd := hp'
      rw [chkW_f hw] at hp'
      exact hp'
    | cons d es =>
      rw [ed] at hp'
      have hp' : PostS X C W H' Z' ι' M' (chkW w M' (optS (gg d Γ') fun Γ1 => (g Γ1 M').turn (gForW gg g w es))) Dd := hp'
      rw [chkW_f hw] at hp'
      exact hp'
  obtain ⟨hstop, hgo⟩ := rJ i H' Z' ι' M' hz hii hn hr' hw
  by_cases hi : i < ds.length
  · refine .inr ?_
    have ed : ds.drop i = ds[i] :: ds.drop (i + 1) := List.drop_eq_getElem_cons hi
    obtain ⟨go, yl⟩ := hgo ds[i] (List.getElem?_eq_getElem hi)
    refine ⟨go, fun σ2 H2 => ∃ (Z2 : Hp) (ι2 : Nat → Addr) (Γ2 : Env) (M2 : List MO), Sub Z1 Z2 ∧ (∀ k, k < M1.length → ι2 k = ι1 k) ∧ M1.length ≤ M2.length ∧ HR X.K H2 Z2 ι2 M2 ∧ Slots X.K Z2 ι2 M2.length Γ2 σ2 ∧
      PostS X C W H2 Z2 ι2 M2 (gForW gg g w (ds.drop (i + 1)) Γ2 M2) Dd, fun σ2 H2 hN => ?_, fun x H2 hy => ?_⟩
    · obtain ⟨Z2, ι2, Γ2, M2, a1, a2, a3, a4, a5, a6⟩ := hN
      exact ⟨ds.length - (i + 1), by omega, Z2, ι2, Γ2, M2, rfl, by omega, a1, a2, a3, a4, a5, a6⟩
    · obtain ⟨Z2, e2, hr2, rx⟩ := yl x H2 hy
      rw [ed] at hp'
      have hp2 := PostS.shift hp' e2 hr2
      have hb : PostS X C W H2 Z2 ι' M' (chkW w M' (optS (gg ds[i] Γ') fun Γ1 => (g Γ1 M').turn (gForW gg g w (ds.drop (i + 1))))) Dd := hp2
      rw [chkW_t hw] at hb
      cases eg : gg ds[i] Γ' with
      | none =>
        rw [eg] at hb
        exact hb.elim
      | some Γ1 =>
        rw [eg] at hb
        exact qg x σ' H2 Z2 ι' M'.length ds[i] Γ' Γ1 _ hr2.sub (sl'.ext e2) rx eg fun σ3 s3 _ => qb _ σ3 H2 Z2 ι' Γ1 M' s3 hr2 (PostS.turn hb fun Γ4 M4 σ4 H4 Z4 ι4 e4 hr4 s4 h4 =>
          ⟨Z4, ι4, Γ4, M4, fun a o z => e4.zz _ _ (e2.zz _ _ (hz _ _ z)), fun k hk => (e4.ii k (Nat.lt_of_lt_of_le hk hn)).trans (hii k hk), Nat.le_trans hn e4.ln, hr4, s4, h4⟩)
  · refine .inl ⟨hstop (show ds.length = i by omega), ?_⟩
    rw [List.drop_eq_nil_of_le (Nat.le_of_not_lt hi)] at hp'
    have hp' : PostS X C W H' Z' ι' M' (chkW w M' (.nx Γ' M')) Dd := hp'
    rw [chkW_t hw] at hp'
    exact hp' σ' H' Z' ι' .refl hr' sl'
end
/-! the comprehension: what is within changes nothing -/
def gLcJ (gj : GJ) (gg : GG) (gt : GT) (gel : GE) (own : List Nat) : GE := fun Γ M => (gj Γ M).bind fun iw M1 => (gLcL gg gt gel (forget Γ own) iw.1 [] M1).bind fun acc M2 => .ok (.lst acc) M2
@[simp] theorem u_gLcJ (gj : GJ) (gg : GG) (gt : GT) (gel : GE) (own : List Nat) (Γ : Env) (M : List MO) : gLcJ gj gg gt gel own Γ M = (gj Γ M).bind fun iw M1 => (gLcL gg gt gel (forget Γ own) iw.1 [] M1).bind fun acc M2 => .ok (.lst acc) M2 := Eq.trans rfl rfl
section
variable {X : Cx} {C : CT} {W : WX} {elt tg iter : Expr} {ifs : List Expr} {scope : Scope} {own : List (Str × Nat)} {pos : Pos} {gj : GJ} {gg : GG} {gt : GT} {ge : GE} {is ixs : List Nat}
end
end Bk

set_option Elab.async false
set_option linter.all false
set_option maxRecDepth 100000
set_option maxHeartbeats 2000000
namespace Bk
open PySem PySem.Spec PyProof.Rows L2
/-! ### xs == [] and xs != [], whatever xs holds -/
section
variable {X : Cx}
end
/-! ### == of data that holds lists of ours at any depth -/
section
variable {K : PySem.W.Frag} {H Z : Hp} {ι : Nat → Addr} {M : List MO}
end
section
variable {X : Cx}
end
/-! ### a comprehension over a list of ours that stays as it is, looked at at each turn -/
open Classical in
noncomputable def chkR {α : Type} (w : Wt) (M : List MO) (r : R α) : R α := if wOk w M then r else .bad
theorem chkR_t {α : Type} {w : Wt} {M : List MO} {r : R α} (h : wOk w M) : chkR w M r = r := by unfold chkR; rw [if_pos h]
theorem chkR_f {α : Type} {w : Wt} {M : List MO} {r : R α} (h : ¬ wOk w M) : chkR w M r = .bad := by unfold chkR; rw [if_neg h]
noncomputable def gLcLW (gg : GG) (gt : GT) (ge : GE) (Γ : Env) (w : Wt) : List D → List D → List MO → R (List D)
  | [], acc => fun M => chkR w M (.ok acc M)
  | d :: ds, acc => fun M => chkR w M (match gg d Γ with
    | none => .bad
    | some Γ1 => (gt Γ1 M).only fun k M1 => if k = true then (ge Γ1 M1).only fun y M2 => if acc.length < sizeLine then gLcLW gg gt ge Γ w ds (acc ++ [y]) M2 else .bad
        else gLcLW gg gt ge Γ w ds acc M1)
@[simp] theorem lcLW_nil (gg : GG) (gt : GT) (ge : GE) (Γ : Env) (ds acc : List D) (M : List MO) : gLcLW gg gt ge Γ [] ds acc M = gLcL gg gt ge Γ ds acc M := by
  suffices h : ∀ (ds acc : List D) (M : List MO), gLcLW gg gt ge Γ [] ds acc M = gLcL gg gt ge Γ ds acc M from h ds acc M
  intro ds
  induction ds with
  | nil => intro acc M; exact chkR_t (wOk_nil M)
  | cons d ds ih =>
    intro acc M
    refine (chkR_t (wOk_nil M)).trans ?_
    unfold gLcL
    cases gg d Γ with
    | none => rfl
    | some Γ1 => simp only [ih]
noncomputable def gLcK (gj : GJ) (gg : GG) (gt : GT) (gel : GE) (own : List Nat) : GE := fun Γ M => (gj Γ M).bind fun iw M1 => (gLcLW gg gt gel (forget Γ own) iw.2 iw.1 [] M1).bind fun acc M2 => .ok (.lst acc) M2
@[simp] theorem u_gLcK (gj : GJ) (gg : GG) (gt : GT) (gel : GE) (own : List Nat) (Γ : Env) (M : List MO) : gLcK gj gg gt gel own Γ M = (gj Γ M).bind fun iw M1 => (gLcLW gg gt gel (forget Γ own) iw.2 iw.1 [] M1).bind fun acc M2 => .ok (.lst acc) M2 := Eq.trans rfl rfl
section
variable {X : Cx} {C : CT} {W : WX}
theorem gLcLW_run {w : Wt} {gg : GG} {gt : GT} {ge : GE} {is own : List Nat} {σ : St} {Γ0 : Env} {fin : List D → List MO → R D} {Q : VK} {J : It} {p : Addr}
    {ds : List D} {H0 Z0 : Hp} {ι0 : Nat → Addr} {M0 : List MO} (hsub : ∀ i ∈ is, i ∈ own) (sl : Slots X.K Z0 ι0 M0.length Γ0 (wipe σ own)) (rJ : ItC (wOk w) X.K J ds Z0 ι0 M0.length) (hp0 : H0 p = none) (hr0 : HR X.K H0 Z0 ι0 M0)
    (h : Post X C W (rpE X.K) σ H0 Z0 ι0 M0 ((gLcLW gg gt ge Γ0 w ds [] M0).bind fin) Q)
    (hfin : ∀ (acc : List D) (accV : List V) (M : List MO) (H Z : Hp) (ι : Nat → Addr), Ext H0 Z0 ι0 M0.length H Z ι M.length → HR X.K H Z ι M → Odd Z ι M.length p → H p = some (.lst accV) → Rps X.K Z ι M.length acc accV → Post X C W (rpE X.K) σ H0 Z0 ι0 M0 (fin acc M) Q → Q (.ref p) H) :
    ∃ Wv : Nat → Nat → Hp → Prop, (∃ m, Wv 0 m (upd H0 p (.lst []))) ∧ ∀ i m H, Wv i m H →
      (J.stop i H ∧ Q (.ref p) H) ∨ (J.go i H ∧ ∃ Nx : Hp → Prop, (∀ H', Nx H' → ∃ m', m' < m ∧ Wv (i + 1) m' H') ∧ ∀ x H', J.yld i H x H' → liftG X.K gg is x (wipe σ own) H' fun σ2 H2 => wipe σ2 own = wipe σ own ∧ liftT X.K X C noW gt σ2 H2 fun b H3 =>
        if b = true then liftE X.K X C noW ge σ2 H3 fun y H4 => ∃ acc, H4 p = some (.lst acc) ∧ acc.length < sizeLine ∧ Nx (upd H4 p (.lst (acc ++ [y]))) else Nx H3) := by
  let Inv' : Nat → Hp → Prop := fun i H => ∃ (Z : Hp) (ι : Nat → Addr) (M : List MO) (acc : List D) (accV : List V), Ext H0 Z0 ι0 M0.length H Z ι M.length ∧ HR X.K H Z ι M ∧ Odd Z ι M.length p ∧ H p = some (.lst accV) ∧ Rps X.K Z ι M.length acc accV ∧
    Post X C W (rpE X.K) σ H0 Z0 ι0 M0 ((gLcLW gg gt ge Γ0 w (ds.drop i) acc M).bind fin) Q
  have q0 : Odd Z0 ι0 M0.length p := .new hr0 hp0
  refine ⟨fun i m H => m = ds.length - i ∧ i ≤ ds.length ∧ Inv' i H, ⟨ds.length, rfl, Nat.zero_le _, Z0, ι0, M0, [], [], (Ext.refl).touch hp0, hr0.odd q0, q0, upd_same, .nil, h⟩, ?_⟩
  rintro i m H ⟨em, hle, Z, ι, M, acc, accV, e1, hr1, od, hp, ra, hpost⟩
  have cdM : wOk w M := by
    by_cases hw : wOk w M
    · exact hw
    · exfalso
      have z : gLcLW gg gt ge Γ0 w (ds.drop i) acc M = .bad := by
        cases ds.drop i <;> exact chkR_f hw
      rw [z] at hpost
      exact hpost
  obtain ⟨hstop, hgo⟩ := rJ i H Z ι M e1.zz e1.ii e1.ln hr1 cdM
  by_cases hi : i < ds.length
  · refine .inr ?_
    have ed : ds.drop i = ds[i] :: ds.drop (i + 1) := List.drop_eq_getElem_cons hi
    obtain ⟨go, yl⟩ := hgo ds[i] (List.getElem?_eq_getElem hi)
    refine ⟨go, Inv' (i + 1), fun H' hN => ⟨ds.length - (i + 1), by omega, rfl, by omega, hN⟩, fun x H2 hy => ?_⟩
    obtain ⟨Z2, e2, hr2, rx⟩ := yl x H2 hy
    obtain ⟨od2, hp2⟩ := od.ext hp e2
    have e12 := e1.trans e2 hr1.ali
    rw [ed] at hpost
    cases eg : gg ds[i] Γ0 with
    | none =>
      have z : gLcLW gg gt ge Γ0 w (ds[i] :: ds.drop (i + 1)) acc M = .bad := by
        refine (chkR_t cdM).trans ?_
        simp only [eg]
      rw [z] at hpost
      exact hpost.elim
    | some Γ1 =>
      have z : gLcLW gg gt ge Γ0 w (ds[i] :: ds.drop (i + 1)) acc M = ((gt Γ1 M).only fun k M1 => if k = true then (ge Γ1 M1).only fun y M2 => if acc.length < sizeLine then gLcLW gg gt ge Γ0 w (ds.drop (i + 1)) (acc ++ [y]) M2 else .bad
          else gLcLW gg gt ge Γ0 w (ds.drop (i + 1)) acc M1) := by
        refine (chkR_t cdM).trans ?_
        simp only [eg]
      rw [z] at hpost
      refine ⟨Z2, ι, M.length, ds[i], Γ0, Γ1, hr2.sub, sl.ext e12, rx, eg, fun σ2 s2 w2 => ⟨(w2 own hsub).trans (wipe_wipe own), Z2, ι, Γ1, M, s2, hr2, ?_⟩⟩
      cases et : gt Γ1 M with
      | bad => rw [et] at hpost; exact hpost.elim
      | exc c d M' => rw [et] at hpost; exact hpost.elim
      | ok k M3 =>
        rw [et] at hpost
        intro b H3 Z3 ι3 e3 hr3 hb
        have hb' : k = b := hb
        subst hb'
        obtain ⟨od3, hp3⟩ := od2.ext hp2 e3
        have e13 := e12.trans e3 hr2.ali
        have ra3 := (ra.ext e2).ext e3
        cases k with
        | false => exact ⟨Z3, ι3, M3, acc, accV, e13, hr3, od3, hp3, ra3, hpost⟩
        | true =>
          rw [if_pos rfl]
          refine ⟨Z3, ι3, Γ1, M3, s2.ext e3, hr3, ?_⟩
          have hpost2 : Post X C W (rpE X.K) σ H0 Z0 ι0 M0 (((ge Γ1 M3).only fun y M2 => if acc.length < sizeLine then gLcLW gg gt ge Γ0 w (ds.drop (i + 1)) (acc ++ [y]) M2 else .bad).bind fin) Q := hpost
          cases ee : ge Γ1 M3 with
          | bad => rw [ee] at hpost2; exact hpost2.elim
          | exc c d M' => rw [ee] at hpost2; exact hpost2.elim
          | ok y M4 =>
            rw [ee] at hpost2
            have hpost3 : Post X C W (rpE X.K) σ H0 Z0 ι0 M0 ((if acc.length < sizeLine then gLcLW gg gt ge Γ0 w (ds.drop (i + 1)) (acc ++ [y]) M4 else .bad).bind fin) Q := hpost2
            by_cases hz : acc.length < sizeLine
            · rw [if_pos hz] at hpost3
              intro v H4 Z4 ι4 e4 hr4 rv
              obtain ⟨od4, hp4⟩ := od3.ext hp3 e4
              have ra4 := ra3.ext e4
              exact ⟨accV, hp4, by rw [← ra4.length]; exact hz, Z4, ι4, M4, acc ++ [y], accV ++ [v], (e13.trans e4 hr3.ali).touch hp0, hr4.odd od4, od4, upd_same, ra4.append (.cons rv .nil), hpost3⟩
            · rw [if_neg hz] at hpost3
              exact hpost3.elim
  · refine .inl ⟨hstop (by omega), ?_⟩
    rw [List.drop_eq_nil_of_le (Nat.le_of_not_lt hi), show gLcLW gg gt ge Γ0 w [] acc M = .ok acc M from chkR_t cdM] at hpost
    exact hfin acc accV M H Z ι e1 hr1 od hp ra hpost

end
section
variable {X : Cx} {C : CT} {W : WX} {elt tg iter : Expr} {ifs : List Expr} {scope : Scope} {own : List (Str × Nat)} {pos : Pos} {gj : GJ} {gg : GG} {gt : GT} {ge : GE} {is ixs : List Nat}
theorem qe_lcK (hc : X.calm = true) (hN : X.N.Nodup) (hi : QJ X C W tg iter gj) (ok : BlkOk X.N X.env.scope scope own) (hg : Blk X scope fun Y => QG Y tg gg is) (ht : Blk X scope fun Y => QTs Y C noW ifs gt) (he : Blk X scope fun Y => QE Y C noW elt ge)
    (hix : ixs = own.map (·.2) := by rfl) (hsub : ∀ i ∈ is, i ∈ own.map (·.2) := by decide) (hs : ∀ x, foldedSetIterable iter X.env x = pure x := by intro _; rfl) : QE X C W (.ListComp elt [⟨tg, iter, ifs, 0⟩] scope pos) (gLcK gj gg gt ge ixs) := by
  subst hix
  obtain ⟨wi, pi, qi⟩ := hi
  exact ⟨_, pe_lc hc hN pi ok (blk_g hg) (blk_t ht) (blk_e he) hs, fun σ H Z ι Γ M Q sl hr h => qi σ H Z ι Γ M _ sl hr (h.bind fun iw M1 J H1 Z1 ι1 e1 hr1 rJ h1 => fun p hp =>
    gLcLW_run hsub (slots_wipe _ (sl.ext e1)) rJ hp hr1 h1 fun acc accV M' H' Z' ι' b1 b2 b3 b4 b5 b6 => fin_z hp b1 b2 b3 b4 b5 b6)⟩
end
end Bk

set_option Elab.async false
set_option linter.all false
set_option maxRecDepth 100000
set_option maxHeartbeats 4000000
namespace Bk
open PySem PySem.Spec PyProof.Rows L2
/-! ### C(k = v, ..), the fields may be ours -/
def gNewWK (nm : Str) (n : Nat) (F : List D → List MO → R D) (is : List Nat) (gk : GA) : GE := fun Γ M => (gk Γ M).bind fun ds M1 => if (pick (.ref M1.length :: ds) is).length = n then (callW F (pick (.ref M1.length :: ds) is) (M1 ++ [.obj nm []])).bind (newR M1.length) else .bad
section
variable {X : Cx} {C : CT} {W : WX} {nm x : Str} {pos p : Pos} {C0 : Addr} {k n : Nat} {fa : Addr} {fd : FuncData} {ps : List Str} {F : List D → List MO → R D} {kws : List Keyword} {gk : GA} {ks : List Str} {is : List Nat}
end
/-! ### list(range(a, b, -1)) -/
def gRg3L (gs : GA) : GE := fun Γ M => (gs Γ M).bind fun ds M1 => match rng3 ds with
  | some xs => if xs.length ≤ 2 ^ 24 then .ok (.lst xs) M1 else .bad
  | none => .bad
section
variable {X : Cx} {C : CT} {W : WX} {a b c : Expr} {gs : GA} {ta : TA} {p pos p2 pos2 : Pos}
end
@[simp] theorem u_gRg3L (gs : GA) (Γ : Env) (M : List MO) : gRg3L gs Γ M = ((gs Γ M).bind fun ds M1 => match rng3 ds with
  | some xs => if xs.length ≤ 2 ^ 24 then .ok (.lst xs) M1 else .bad
  | none => .bad) := Eq.trans rfl rfl
@[simp] theorem u_gNewWK (nm : Str) (n : Nat) (F : List D → List MO → R D) (is : List Nat) (gk : GA) (Γ : Env) (M : List MO) : gNewWK nm n F is gk Γ M = ((gk Γ M).bind fun ds M1 => if (pick (.ref M1.length :: ds) is).length = n then (callW F (pick (.ref M1.length :: ds) is) (M1 ++ [.obj nm []])).bind (newR M1.length) else .bad) := Eq.trans rfl rfl
end Bk

set_option Elab.async false
set_option linter.all false
set_option maxRecDepth 100000
set_option maxHeartbeats 2000000
namespace Bk
open PySem PySem.Spec PyProof.Rows L2
/-! ### min of a tuple of whole numbers -/
section
variable {X : Cx}
end
end Bk

set_option Elab.async false
set_option linter.all false
set_option maxRecDepth 100000
set_option maxHeartbeats 2000000
namespace Bk
open PySem PySem.Spec PyProof.Rows L2
/-! ### isinstance(x, C) of an object of the class itself -/
def gIsC (nm : Str) (ge : GE) : GE := fun Γ M => (ge Γ M).bind fun x M1 => match x with
  | .ref k => match M1[k]? with
    | some (.obj nm' _) => if nm' = nm then .ok (.bl true) M1 else .bad
    | _ => .bad
  | _ => .bad
@[simp] theorem u_gIsC (nm : Str) (ge : GE) (Γ : Env) (M : List MO) : gIsC nm ge Γ M = ((ge Γ M).bind fun x M1 => match x with
  | .ref k => match M1[k]? with
    | some (.obj nm' _) => if nm' = nm then .ok (.bl true) M1 else .bad
    | _ => .bad
  | _ => .bad) := Eq.trans rfl rfl
section
variable {X : Cx} {C : CT} {W : WX} {e : Expr} {ga : GE} {p pos q : Pos} {C0 : Addr} {nm TN : Str}
end
end Bk

set_option Elab.async false
set_option linter.all false
set_option maxRecDepth 100000
set_option maxHeartbeats 4000000
namespace Bk
open PySem PySem.Spec PyProof.Rows L2
/-! ### d.setdefault(k, x), keys that are tuples -/
def setdX (M : List MO) (x y z : D) : Option (D × List MO) := match x with
  | .ref k => match M[k]? with
    | some (.dct ks vs) => match keysD ks, keyD y with
      | some nks, some nk => if (ks.all isTup && isTup y && decide (nk.depth ≤ 8) && decide (vs.length < sizeLine)) = true then (match posK nk nks with
        | some i => (vs[i]?).map fun w => (w, M)
        | none => some (z, M.set k (.dct (ks ++ [y]) (vs ++ [z])))) else none
      | _, _ => none
    | _ => none
  | _ => none
def isDctR (M : List MO) (x : D) : Bool := match x with
  | .ref k => match M[k]? with
    | some (.dct _ _) => true
    | _ => false
  | _ => false
def gSetd (go gk gx : GE) : GE := fun Γ M => (go Γ M).bind fun x M1 => if isDctR M1 x = true then (gk Γ M1).bind fun y M2 => (gx Γ M2).bind fun z M3 => match setdX M3 x y z with
  | some r => .ok r.1 r.2
  | none => .bad else .bad
@[simp] theorem u_gSetd (go gk gx : GE) (Γ : Env) (M : List MO) : gSetd go gk gx Γ M = ((go Γ M).bind fun x M1 => if isDctR M1 x = true then (gk Γ M1).bind fun y M2 => (gx Γ M2).bind fun z M3 => match setdX M3 x y z with
  | some r => .ok r.1 r.2
  | none => .bad else .bad) := Eq.trans rfl rfl
end Bk

set_option Elab.async false
set_option linter.all false
set_option maxRecDepth 100000
set_option maxHeartbeats 4000000
namespace Bk
open PySem PySem.Spec PyProof.Rows L2
/-! ### for i, x in enumerate(xs, start=k) -/
section
variable {X : Cx} {C : CT} {W : WX} {e : Expr} {ge : GE} {p pos tpos cp kp : Pos} {elts : List Expr} {kk j : Nat} {k : Int}
end
end Bk

set_option Elab.async false
set_option linter.all false
set_option maxRecDepth 100000
set_option maxHeartbeats 2000000
namespace Bk
open PySem PySem.Spec PyProof.Rows L2
/-! ### y = [.. for x in xs], xs a list of ours that stays as it is, or a frozen one -/
section
variable {X : Cx} {C : CT} {W : WX} {elt tg iter : Expr} {ifs : List Expr} {scope : Scope} {own : List (Str × Nat)} {pos spos py : Pos} {gj : GJ} {gg : GG} {gt : GT} {ge : GE} {is ixs : List Nat}
end
end Bk

set_option Elab.async false
set_option linter.all false
set_option maxRecDepth 100000
set_option maxHeartbeats 2000000
namespace Bk
open PySem PySem.Spec PyProof.Rows L2
/-! ### max of a tuple of whole numbers -/
section
variable {X : Cx}
end
end Bk

set_option Elab.async false
set_option linter.all false
set_option maxRecDepth 100000
set_option maxHeartbeats 4000000
namespace Bk
open PySem PySem.Spec PyProof.Rows L2
/-! ### tuples that are known to have no dict: displays, (x,) + t, t.count(k) of ints -/
section
variable {X : Cx} {C : CT} {W : WX} {pos : Pos}
def gTupP (gs : GA) : GE := fun Γ M => (gs Γ M).bind fun ds M1 => if ds.length ≤ sizeLine then .ok (.ptu ds) M1 else .bad
@[simp] theorem u_gTupP (gs : GA) (Γ : Env) (M : List MO) : gTupP gs Γ M = (gs Γ M).bind fun ds M1 => if ds.length ≤ sizeLine then .ok (.ptu ds) M1 else .bad := Eq.trans rfl rfl
/-! t + u, t not empty -/
def dAddP (M : List MO) (x y : D) : Option D := match x, y with
  | .ptu (a :: as), .ptu b => if (a :: as).length + b.length ≤ sizeLine then some (.ptu ((a :: as) ++ b)) else none
  | _, _ => none
@[simp] theorem e_addP (M : List MO) (a : D) (as b : List D) : dAddP M (.ptu (a :: as)) (.ptu b) = if (a :: as).length + b.length ≤ sizeLine then some (.ptu ((a :: as) ++ b)) else none := Eq.trans rfl rfl
/-! t.count(k) -/
def gCntP (go ge : GE) : GE := fun Γ M => (go Γ M).bind fun x M1 => match x with
  | .ptu ds => (ge Γ M1).bind fun y M2 => opR (match intsD ds, y with
    | some is, .int k => some (D.int (is.count k : Nat))
    | _, _ => none) M2
  | _ => .bad
@[simp] theorem u_gCntP (go ge : GE) (Γ : Env) (M : List MO) : gCntP go ge Γ M = ((go Γ M).bind fun x M1 => match x with
  | .ptu ds => (ge Γ M1).bind fun y M2 => opR (match intsD ds, y with
    | some is, .int k => some (D.int (is.count k : Nat))
    | _, _ => none) M2
  | _ => .bad) := Eq.trans rfl rfl
/-! such a tuple as any tuple -/
def wkD : D → D
  | .ptu ds => .tup ds
  | d => d
@[simp] theorem wkD_p (ds : List D) : wkD (.ptu ds) = .tup ds := Eq.trans rfl rfl
@[simp] theorem wkD_t (ds : List D) : wkD (.tup ds) = .tup ds := Eq.trans rfl rfl
@[simp] theorem wkD_l (ds : List D) : wkD (.lst ds) = .lst ds := Eq.trans rfl rfl
@[simp] theorem wkD_r (k : Nat) : wkD (.ref k) = .ref k := Eq.trans rfl rfl
@[simp] theorem wkD_i (k : Int) : wkD (.int k) = .int k := Eq.trans rfl rfl
def gWk (ge : GE) : GE := fun Γ M => (ge Γ M).bind fun x M1 => .ok (wkD x) M1
@[simp] theorem u_gWk (ge : GE) (Γ : Env) (M : List MO) : gWk ge Γ M = (ge Γ M).bind fun x M1 => .ok (wkD x) M1 := Eq.trans rfl rfl
end
end Bk

set_option Elab.async false
set_option linter.all false
set_option maxRecDepth 100000
set_option maxHeartbeats 4000000
namespace Bk
open PySem PySem.Spec PyProof.Rows L2
/-! a key in a dict -/
section
variable {X : Cx}
end
end Bk

set_option Elab.async false
set_option linter.all false
set_option maxRecDepth 100000
set_option maxHeartbeats 4000000
namespace Bk
open PySem PySem.Spec PyProof.Rows L2 PpSet
/-! ### sorted({e for x in xs if ..}), e an int -/
section
variable {X : Cx} {pins : List (Addr × Obj)} {σ : St} {H : Hp} {s : Shared}
/-- {elt for target in iter if ..}, elt an int -/
def tSetI (X : Cx) (wi : TI) (g : TG) (tt : TT) (te : TE) (vs : List Nat) : TE := fun σ H Q => wi σ H fun J H1 => ∀ a, H1 a = none → ∃ Wv : Nat → Nat → Hp → Prop, (∃ m, Wv 0 m (upd H1 a (SetO X.w a (fun _ => false) 0))) ∧ ∀ i m H, Wv i m H →
  (J.stop i H ∧ Q (.ref a) H) ∨ (J.go i H ∧ ∃ Nx : Hp → Prop, (∀ H', Nx H' → ∃ m', m' < m ∧ Wv (i + 1) m' H') ∧ ∀ x H', J.yld i H x H' → g x (wipe σ vs) H' fun σ2 H2 => wipe σ2 vs = wipe σ vs ∧ tt σ2 H2 fun b H3 =>
    if b = true then te σ2 H3 fun y H4 => ∃ (k : Int) (S : Int → Bool) (n : Nat), y = .int k ∧ H4 a = some (SetO X.w a S n) ∧ n + 1 < scanBound ∧ Nx (upd H4 a (SetO X.w a (fun j => S j || decide (j = k)) (if S k = true then n else n + 1))) else Nx H3)
theorem pe_setI {elt tg iter : Expr} {ifs : List Expr} {scope : Scope} {own : List (Str × Nat)} {pos : Pos} {wi : TI} {g : TG} {tt : TT} {te : TE} (hc : X.calm = true) (hu : X.A.units + 8 < cLine) (hN : X.N.Nodup) (hi : PI X tg iter wi) (ok : BlkOk X.N X.env.scope scope own)
    (hg : Blk X scope fun Y => PG Y tg g) (ht : Blk X scope fun Y => PTs Y ifs tt) (he : Blk X scope fun Y => PE Y elt te) (hs : ∀ x, foldedSetIterable iter X.env x = pure x := by intro _; rfl) :
    PE X (.SetComp elt [⟨tg, iter, ifs, 0⟩] scope pos) (tSetI X wi g tt te (own.map (·.2))) := by
  refine ⟨fun pins s σ H Q I h => ?_⟩
  have free : ∀ y ∈ scope.names, y.2 = .free → ∃ c, X.env.cells.lookup y.1 = some c := fun y hy e => (ok.free y hy e).elim (fun k => I.ok.has _ (.inl k)) fun k => I.ok.has _ (.inr k)
  rw [eval_SetComp]
  refine wpAny_comprehension_free rfl hs (closure_ok free) ok.kind (fun y hy e => by rw [ok.uniq y hy, e]) (thn (hi.run pins s σ H _ I h) fun v0 t1 q1 => thn q1 fun w0 t2 q2 => ?_)
  obtain ⟨it, fp, tn, J, H2, rfl, I2, T, at2, fp2, q⟩ := q2
  refine newSet_ok (newEnv_comp ?_)
  have new2 : H2 t2.heap.objs.size = none := I2.hok.fresh (Nat.le_refl _)
  obtain ⟨Wv, ⟨m0, w0⟩, turn⟩ := q t2.heap.objs.size new2
  generalize ea : t2.heap.objs.size = a at new2 w0 turn ⊢
  generalize es3 : ({ t2 with heap := t2.heap.push { cls := .type "set", dict := none, data := .set #[] 0 (.fresh 0 0 (!X.w.params.followText "set-order")) } } : Shared) = t3
  have eh3 : t3.heap = t2.heap.push { cls := .type "set", dict := none, data := .set #[] 0 (.fresh 0 0 (!X.w.params.followText "set-order")) } := by rw [← es3]
  have old3 : ∀ b o, t2.heap.get? b = some o → t3.heap.get? b = some o := fun b o e => by rw [eh3]; exact Heap.get?_push_of_some _ e
  have I3 : Inv X pins σ (upd H2 a (SetO X.w a (fun _ => false) 0)) t3 := by
    have z : SetR X.w t3.heap a (fun _ => false) 0 := by rw [eh3, ← ea]; exact setR_fresh X.w
    have y := I2.laid (h' := t3.heap) (t' := t2.toks) old3 (Nat.le_of_eq ea) (setO_new z)
    rw [eh3] at y
    rw [← es3]
    exact y
  have fp3 : ∀ b ∈ fp, FpOk X pins (upd H2 a (SetO X.w a (fun _ => false) 0)) b ∧ b < t3.heap.objs.size := fun b hb => by
    obtain ⟨o, e, _⟩ := T.obj _ _ at2 b hb
    have lt := Heap.lt_size e
    exact ⟨⟨by rw [upd_ne (by rw [← ea]; exact Nat.ne_of_lt lt)]; exact (fp2 b hb).1, (fp2 b hb).2⟩, Heap.lt_size (old3 b o e)⟩
  have at3 : tn 0 t3.heap := T.keep _ _ _ at2 fun b _ o e => old3 b o e
  have I4 := block_start I3 ok hN fp3
  have pg := hg t3 (upd H2 a (SetO X.w a (fun _ => false) 0)) t3.heap.objs.size (cellsFrom (t3.heap.objs.size + 1) scope.names (cloFrom X.env.cells scope.names [])) fp
  have pt := ht t3 (upd H2 a (SetO X.w a (fun _ => false) 0)) t3.heap.objs.size (cellsFrom (t3.heap.objs.size + 1) scope.names (cloFrom X.env.cells scope.names [])) fp
  have pe := he t3 (upd H2 a (SetO X.w a (fun _ => false) 0)) t3.heap.objs.size (cellsFrom (t3.heap.objs.size + 1) scope.names (cloFrom X.env.cells scope.names [])) fp
  show codeAny _ _ (.compStart (.SetComp elt [⟨tg, iter, ifs, 0⟩] scope pos) 0 (.ref it) (.ref a) (compEnvC scope (cellsFrom (t3.heap.objs.size + 1) scope.names (cloFrom X.env.cells scope.names [])) t3.heap.objs.size X.env)) (compPost (model X.prog X.w) X.A X.xe none _ (.ref a) t3.heap.objs.size) { t3 with heap := pushCells (t3.heap.push { cls := .type "dict", data := .dict #[] }) scope.names }
  generalize ece : compEnvC scope (cellsFrom (t3.heap.objs.size + 1) scope.names (cloFrom X.env.cells scope.names [])) t3.heap.objs.size X.env = ce at I4 pg pt pe ⊢
  have el : ce.locals = t3.heap.objs.size := by subst ece; rfl
  generalize eH3 : upd H2 a (SetO X.w a (fun _ => false) 0) = H3 at I3 I4 pg pt pe w0 fp3
  generalize es4 : ({ t3 with heap := pushCells (t3.heap.push { cls := .type "dict", data := .dict #[] }) scope.names } : Shared) = t4 at I4 ⊢
  have at4 : tn 0 t4.heap := T.keep _ _ _ at3 fun b _ o e => by rw [← es4]; exact pushCells_keeps _ _ _ _ (Heap.get?_push_of_some _ e)
  have fpb : ∀ {σ' : St} {H' : Hp} {s' : Shared}, Inv (X.blk t3 H3 scope ce fp) [] σ' H' s' → (∀ b ∈ fp, H' b = none) → ∀ b ∈ fp, FpOk (X.blk t3 H3 scope ce fp) [] H' b := fun {σ' H' s'} I' hn b hb =>
    ⟨hn b hb, (I'.ok.exf b hb).1, I'.ok.exfs b hb, .inl hb, fun x c e => (I'.ok.exf b hb).2 x c e, fun p hp => absurd (show p ∈ ([] : List (Addr × Obj)) ++ [] from hp) (by simp)⟩
  refine (fun loop => codeAny_compStart_set loop (T.self X.A 0 _ _ _ at4 loop)) ?_
  refine compLoopS_any (fun n s' => ∃ i H', Inv (X.blk t3 H3 scope ce fp) [] (wipe σ (own.map (·.2))) H' s' ∧ tn i s'.heap ∧ (∀ b ∈ fp, H' b = none) ∧ Wv i n H') ?_ m0 ⟨0, H3, I4, at4, fun b hb => (fp3 b hb).1.1, w0⟩
  rintro n t5 ⟨i, H5, I5, at5, n5, w5⟩
  rcases turn i n H5 w5 with ⟨stop, qq⟩ | ⟨go, Nx, hNx, step⟩
  · refine thnF (T.done (X.blk t3 H3 scope ce fp) rfl rfl rfl hc i [] t5 _ H5 (fun _ _ => False) I5 (fpb I5 n5) at5 stop) fun r t6 ⟨hr, I6⟩ => ?_
    subst hr
    have I7 : Inv X pins σ H5 t6 := I3.call' (ch := fp) I6.os I6.base I6.hok I6.bare fun b hb => ⟨(fp3 b hb).1.2.2.2.1, (fp3 b hb).1.2.1, (fp3 b hb).1.2.2.2.2.1, (fp3 b hb).1.2.2.2.2.2⟩
    have nL : H5 t3.heap.objs.size = none := by
      have z : H5 ce.locals = none := I6.free
      rw [el] at z
      exact z
    obtain ⟨m, hm, _⟩ := I6.loc
    have hm : t6.heap.Ns ce.locals m := hm
    rw [el] at hm
    have f := I3.fpOk (Nat.le_refl _) nL
    refine ⟨m, hm, fun h'' sb => ?_⟩
    obtain ⟨f0, f1, f2, f3, f4, f5⟩ := f
    exact ⟨.ref a, H5, I7.turned (t' := t6.toks) (fun b o hb e => (sb.2 b hb).trans e) f0 f1 f3 f4 f5, rfl, qq⟩
  · refine thnF (T.item (X.blk t3 H3 scope ce fp) rfl rfl rfl hc i [] t5 _ H5 (fun _ _ => False) I5 (fpb I5 n5) at5 go) fun r t6 ⟨u, hr, h6⟩ => ?_
    subst hr
    refine thnF h6 fun _ t7 ⟨x, H7, I7, r7, y7, at7, n7⟩ => ?_
    refine thnF (pg.run _ t7 _ H7 x u _ (I7.pinned (fpb I7 n7) (T.obj _ _ at7)) r7 (step x H7 y7)) fun _ t8 ⟨σ8, H8, I8, hw8, q8⟩ => ?_
    refine thnF (pt.run _ t8 σ8 H8 _ I8 q8) fun b t9 ⟨H9, I9, q9⟩ => ?_
    have back : ∀ {s' : Shared} {H' : Hp}, Inv (X.blk t3 H3 scope ce fp) ([] ++ pinsAt fp t7.heap) σ8 H' s' → Nx H' → ∃ m, m < n ∧ ∃ i H', Inv (X.blk t3 H3 scope ce fp) [] (wipe σ (own.map (·.2))) H' s' ∧ tn i s'.heap ∧ (∀ b ∈ fp, H' b = none) ∧ Wv i m H' := fun {s' H'} I' nx => by
      have pin' : ∀ b ∈ fp, ∀ o, t7.heap.get? b = some o → s'.heap.get? b = some o ∧ H' b = none := fun b hb o e =>
        let z := I'.pin (b, o) (List.mem_append_right _ (List.mem_append_right _ (mem_pinsAt hb e)))
        ⟨z.1, z.2.1⟩
      obtain ⟨m', hm, w'⟩ := hNx H' nx
      refine ⟨m', hm, i + 1, H', (I'.unpinned (pins := [])).weak (by rw [← hw8, wipe_length]) (fun j v e => ?_), T.keep _ _ _ at7 fun b hb o e => (pin' b hb o e).1, fun b hb => ?_, w'⟩
      · rw [← hw8] at e
        exact (wipe_some e).1
      · obtain ⟨o, e, _⟩ := T.obj _ _ at7 b hb
        exact (pin' b hb o e).2
    cases b with
    | false =>
      simp only [Bool.false_eq_true, if_false] at q9 ⊢
      exact back I9 q9
    | true =>
      simp only [if_true] at q9 ⊢
      refine thnF (pe.run _ t9 σ8 H9 _ I9 q9) fun z t10 ⟨yv, H10, I10, r10, k, S, m, ey, ha, few, nx⟩ => ?_
      subst ey
      obtain ⟨tk, rfl⟩ := (show ∃ tk, z = Value.int k tk from r10)
      have R := setO_get (X := X.blk t3 H3 scope ce fp) I10 ha
      refine setR_add R few fun h' sb new => ?_
      have he : ∃ u, h'.get? a = some u := by
        have ⟨o, _, _, _, ho, _⟩ := new
        exact ⟨o, ho⟩
      exact back (I10.write (e := a) (t' := t10.toks + 1) (by rw [ha]; trivial) (.inl rfl) (fun b u hb hu => (sb.2 b hb).trans hu) he (setO_new new)) nx
end
def sciD : D → Option Int
  | .int i => some i
  | _ => none
theorem sciD_is {d : D} {r : Int} (h : sciD d = some r) : d = .int r := by
  cases d with
  | int i => cases h; rfl
  | _ => cases h
def insU (rs : List Int) (r : Int) : List Int := if r ∈ rs then rs else rs ++ [r]
theorem mem_insU (rs : List Int) (r x : Int) : x ∈ insU rs r ↔ x ∈ rs ∨ x = r := by
  unfold insU
  by_cases c : r ∈ rs
  · rw [if_pos c]
    exact ⟨.inl, fun z => z.elim id fun e => e ▸ c⟩
  · rw [if_neg c, List.mem_append, List.mem_singleton]
theorem insU_nodup {rs : List Int} (h : rs.Nodup) (r : Int) : (insU rs r).Nodup := by
  unfold insU
  by_cases c : r ∈ rs
  · rw [if_pos c]; exact h
  · rw [if_neg c]
    exact List.nodup_append.mpr ⟨h, by simp, fun a ha b hb e => c (by have : b = r := by simpa using hb
                                                                      rw [← this, ← e]; exact ha)⟩
theorem insU_len (rs : List Int) (r : Int) : (insU rs r).length ≤ rs.length + 1 := by
  unfold insU
  by_cases c : r ∈ rs
  · rw [if_pos c]; omega
  · rw [if_neg c]; simp
def gScI (gg : GG) (gt : GT) (ge : GE) (Γ0 : Env) : List D → List Int → List MO → R (List Int)
  | [], rs, M => .ok rs M
  | d :: ds, rs, M => match gg d Γ0 with
    | none => .bad
    | some Γ1 => (gt Γ1 M).only fun k M1 => if k = true then (ge Γ1 M1).only fun y M2 => match sciD y with
        | some r => if rs.length + 1 < 64 then gScI gg gt ge Γ0 ds (insU rs r) M2 else .bad
        | none => .bad
      else gScI gg gt ge Γ0 ds rs M1
def gSortSc (gi : GI) (gg : GG) (gt : GT) (ge : GE) (vs : List Nat) : GE := fun Γ M => (gi Γ M).bind fun ds M1 => (gScI gg gt ge (forget Γ vs) ds [] M1).bind fun rs M2 => .ok (.lst ((srtI rs).map D.int)) M2
@[simp] theorem u_gSortSc (gi : GI) (gg : GG) (gt : GT) (ge : GE) (vs : List Nat) (Γ : Env) (M : List MO) : gSortSc gi gg gt ge vs Γ M = ((gi Γ M).bind fun ds M1 => (gScI gg gt ge (forget Γ vs) ds [] M1).bind fun rs M2 => .ok (.lst ((srtI rs).map D.int)) M2) := Eq.trans rfl rfl
@[simp] theorem scI_nil (gg : GG) (gt : GT) (ge : GE) (Γ0 : Env) (rs : List Int) (M : List MO) : gScI gg gt ge Γ0 [] rs M = .ok rs M := by simp [gScI]
theorem scI_cons {gg : GG} {ge : GE} {d : D} {ds : List D} {rs : List Int} {r : Int} {Γ0 Γ1 : Env} {M M2 : List MO} (h1 : gg d Γ0 = some Γ1) (h2 : ge Γ1 M = .ok (.int r) M2) (q : rs.length + 1 < 64) : gScI gg gYes ge Γ0 (d :: ds) rs M = gScI gg gYes ge Γ0 ds (insU rs r) M2 := by
  conv => lhs; unfold gScI
  rw [h1]
  simp [gYes, R.only, h2, sciD, q]
section
variable {X : Cx} {C : CT} {W : WX}
theorem gScI_run {gg : GG} {gt : GT} {ge : GE} {is own : List Nat} {σ : St} {Γ0 : Env} {fin : List Int → List MO → R D} {Q : VK} {Qs : Hp → Prop} {J : It} {p : Addr}
    {ds : List D} {H0 Z0 : Hp} {ι0 : Nat → Addr} {M0 : List MO} (hsub : ∀ i ∈ is, i ∈ own) (sl : Slots X.K Z0 ι0 M0.length Γ0 (wipe σ own)) (rJ : ItR X.K J ds Z0 ι0 M0.length) (hp0 : H0 p = none) (hr0 : HR X.K H0 Z0 ι0 M0)
    (h : Post X C W (rpE X.K) σ H0 Z0 ι0 M0 ((gScI gg gt ge Γ0 ds [] M0).bind fin) Q)
    (hfin : ∀ (rs : List Int) (S : Int → Bool) (M : List MO) (H Z : Hp) (ι : Nat → Addr), Ext H0 Z0 ι0 M0.length H Z ι M.length → HR X.K H Z ι M → H p = some (SetO X.w p S rs.length) → (∀ k, S k = true ↔ k ∈ rs) → rs.Nodup → rs.length < 64 → Post X C W (rpE X.K) σ H0 Z0 ι0 M0 (fin rs M) Q → Qs H) :
    ∃ Wv : Nat → Nat → Hp → Prop, (∃ m, Wv 0 m (upd H0 p (SetO X.w p (fun _ => false) 0))) ∧ ∀ i m H, Wv i m H →
      (J.stop i H ∧ Qs H) ∨ (J.go i H ∧ ∃ Nx : Hp → Prop, (∀ H', Nx H' → ∃ m', m' < m ∧ Wv (i + 1) m' H') ∧ ∀ x H', J.yld i H x H' → liftG X.K gg is x (wipe σ own) H' fun σ2 H2 => wipe σ2 own = wipe σ own ∧ liftT X.K X C noW gt σ2 H2 fun b H3 =>
        if b = true then liftE X.K X C noW ge σ2 H3 fun y H4 => ∃ (k : Int) (S : Int → Bool) (n : Nat), y = .int k ∧ H4 p = some (SetO X.w p S n) ∧ n + 1 < scanBound ∧ Nx (upd H4 p (SetO X.w p (fun j => S j || decide (j = k)) (if S k = true then n else n + 1))) else Nx H3) := by
  let Inv' : Nat → Hp → Prop := fun i H => ∃ (Z : Hp) (ι : Nat → Addr) (M : List MO) (rs : List Int) (S : Int → Bool), Ext H0 Z0 ι0 M0.length H Z ι M.length ∧ HR X.K H Z ι M ∧ Odd Z ι M.length p ∧ H p = some (SetO X.w p S rs.length) ∧
    (∀ k, S k = true ↔ k ∈ rs) ∧ rs.Nodup ∧ rs.length < 64 ∧ Post X C W (rpE X.K) σ H0 Z0 ι0 M0 ((gScI gg gt ge Γ0 (ds.drop i) rs M).bind fin) Q
  have q0 : Odd Z0 ι0 M0.length p := .new hr0 hp0
  refine ⟨fun i m H => m = ds.length - i ∧ i ≤ ds.length ∧ Inv' i H, ⟨ds.length, rfl, Nat.zero_le _, Z0, ι0, M0, [], (fun _ => false), (Ext.refl).touch hp0, hr0.odd q0, q0, upd_same, fun k => (by simp), List.nodup_nil, by decide, h⟩, ?_⟩
  rintro i m H ⟨em, hle, Z, ι, M, rs, S, e1, hr1, od, hp, hm, hnd, hlt, hpost⟩
  obtain ⟨hstop, hgo⟩ := rJ i H Z ι M e1.zz e1.ii e1.ln hr1 trivial
  by_cases hi : i < ds.length
  · refine .inr ?_
    have ed : ds.drop i = ds[i] :: ds.drop (i + 1) := List.drop_eq_getElem_cons hi
    obtain ⟨go, yl⟩ := hgo ds[i] (List.getElem?_eq_getElem hi)
    refine ⟨go, Inv' (i + 1), fun H' hN => ⟨ds.length - (i + 1), by omega, rfl, by omega, hN⟩, fun x H2 hy => ?_⟩
    obtain ⟨Z2, e2, hr2, rx⟩ := yl x H2 hy
    obtain ⟨od2, hp2⟩ := od.ext hp e2
    have e12 := e1.trans e2 hr1.ali
    rw [ed] at hpost
    cases eg : gg ds[i] Γ0 with
    | none =>
      have z : gScI gg gt ge Γ0 (ds[i] :: ds.drop (i + 1)) rs M = .bad := by
        unfold gScI
        rw [eg]
      rw [z] at hpost
      exact hpost.elim
    | some Γ1 =>
      have z : gScI gg gt ge Γ0 (ds[i] :: ds.drop (i + 1)) rs M = ((gt Γ1 M).only fun k M1 => if k = true then (ge Γ1 M1).only fun y M2 => match sciD y with
          | some r => if rs.length + 1 < 64 then gScI gg gt ge Γ0 (ds.drop (i + 1)) (insU rs r) M2 else .bad
          | none => .bad
        else gScI gg gt ge Γ0 (ds.drop (i + 1)) rs M1) := by
        conv => lhs; unfold gScI
        rw [eg]
      rw [z] at hpost
      refine ⟨Z2, ι, M.length, ds[i], Γ0, Γ1, hr2.sub, sl.ext e12, rx, eg, fun σ2 s2 w2 => ⟨(w2 own hsub).trans (wipe_wipe own), Z2, ι, Γ1, M, s2, hr2, ?_⟩⟩
      cases et : gt Γ1 M with
      | bad => rw [et] at hpost; exact hpost.elim
      | exc c d M' => rw [et] at hpost; exact hpost.elim
      | ok k M3 =>
        rw [et] at hpost
        intro b H3 Z3 ι3 e3 hr3 hb
        have hb' : k = b := hb
        subst hb'
        obtain ⟨od3, hp3⟩ := od2.ext hp2 e3
        have e13 := e12.trans e3 hr2.ali
        cases k with
        | false => exact ⟨Z3, ι3, M3, rs, S, e13, hr3, od3, hp3, hm, hnd, hlt, hpost⟩
        | true =>
          rw [if_pos rfl]
          refine ⟨Z3, ι3, Γ1, M3, s2.ext e3, hr3, ?_⟩
          have hpost2 : Post X C W (rpE X.K) σ H0 Z0 ι0 M0 (((ge Γ1 M3).only fun y M2 => match sciD y with
              | some r => if rs.length + 1 < 64 then gScI gg gt ge Γ0 (ds.drop (i + 1)) (insU rs r) M2 else .bad
              | none => .bad).bind fin) Q := hpost
          cases ee : ge Γ1 M3 with
          | bad => rw [ee] at hpost2; exact hpost2.elim
          | exc c d M' => rw [ee] at hpost2; exact hpost2.elim
          | ok y M4 =>
            rw [ee] at hpost2
            have hpost3 : Post X C W (rpE X.K) σ H0 Z0 ι0 M0 ((match sciD y with
              | some r => if rs.length + 1 < 64 then gScI gg gt ge Γ0 (ds.drop (i + 1)) (insU rs r) M4 else .bad
              | none => .bad).bind fin) Q := hpost2
            cases ey : sciD y with
            | none => rw [ey] at hpost3; exact hpost3.elim
            | some r =>
              rw [ey] at hpost3
              have hpost4 : Post X C W (rpE X.K) σ H0 Z0 ι0 M0 ((if rs.length + 1 < 64 then gScI gg gt ge Γ0 (ds.drop (i + 1)) (insU rs r) M4 else .bad).bind fin) Q := hpost3
              by_cases hz : rs.length + 1 < 64
              · rw [if_pos hz] at hpost4
                have ey2 := sciD_is ey
                subst ey2
                intro v H4 Z4 ι4 e4 hr4 rv
                obtain ⟨od4, hp4⟩ := od3.ext hp3 e4
                cases rv with
                | int i =>
                  refine ⟨r, S, rs.length, rfl, hp4, by show rs.length + 1 < 4096; omega, ?_⟩
                  have mm : ∀ k, (S k || decide (k = r)) = true ↔ k ∈ insU rs r := fun k => by
                    rw [mem_insU, Bool.or_eq_true, hm k, decide_eq_true_eq]
                  have ln : (if S r = true then rs.length else rs.length + 1) = (insU rs r).length := by
                    unfold insU
                    by_cases c : r ∈ rs
                    · rw [if_pos c, if_pos ((hm r).mpr c)]
                    · rw [if_neg c, if_neg fun z => c ((hm r).mp z)]; simp
                  rw [ln]
                  exact ⟨Z4, ι4, M4, insU rs r, _, (e13.trans e4 hr3.ali).touch hp0, hr4.odd od4, od4, upd_same, mm, insU_nodup hnd r, by have := insU_len rs r; omega, hpost4⟩
              · rw [if_neg hz] at hpost4
                exact hpost4.elim
  · refine .inl ⟨hstop (by omega), ?_⟩
    rw [List.drop_eq_nil_of_le (Nat.le_of_not_lt hi)] at hpost
    have hpost : Post X C W (rpE X.K) σ H0 Z0 ι0 M0 (fin rs M) Q := by
      rw [scI_nil] at hpost
      exact hpost
    exact hfin rs S M H Z ι e1 hr1 hp hm hnd hlt hpost
variable {elt tg iter : Expr} {ifs : List Expr} {scope : Scope} {own : List (Str × Nat)} {p q pos : Pos} {gi : GI} {gg : GG} {gt : GT} {ge : GE} {is ixs : List Nat}
theorem qe_sortSc (hu : X.A.units + 8 < cLine) (hgl : Gl X "sorted") (hml : X.mg "sorted" = none) (hc : X.calm = true) (hN : X.N.Nodup) (hi : QI X C W tg iter gi) (ok : BlkOk X.N X.env.scope scope own)
    (hg : Blk X scope fun Y => QG Y tg gg is) (ht : Blk X scope fun Y => QTs Y C noW ifs gt) (he : Blk X scope fun Y => QE Y C noW elt ge) (hix : ixs = own.map (·.2) := by rfl) (hsub : ∀ i ∈ is, i ∈ own.map (·.2) := by decide) (hs : ∀ x, foldedSetIterable iter X.env x = pure x := by intro _; rfl)
    (nb : starEach [Expr.SetComp elt [⟨tg, iter, ifs, 0⟩] scope q] X.env = (false, eval (.SetComp elt [⟨tg, iter, ifs, 0⟩] scope q) X.env) :: starEach [] X.env := by rfl) :
    QE X C W (.Call (.Name "sorted" p) [.SetComp elt [⟨tg, iter, ifs, 0⟩] scope q] [] pos) (gSortSc gi gg gt ge ixs) := by
  subst hix
  obtain ⟨wi, pi, qi⟩ := hi
  refine ⟨_, pe_callB (cr_sortedSet hc) hgl hml (by decide +kernel) (pa_cons (pe_setI hc hu hN pi ok (blk_g hg) (blk_t ht) (blk_e he) hs) pa_nil nb) (by decide) (by decide) nb, fun σ H Z ι Γ M Q sl hr h => ?_⟩
  refine qi σ H Z ι Γ M _ sl hr (Post.bind h fun ds M1 J H1 Z1 ι1 e1 hr1 rJ h1 => fun a ha => ?_)
  refine gScI_run hsub (slots_wipe _ (sl.ext e1)) rJ ha hr1 h1 fun rs S M2 H2 Z2 ι2 e2 hr2 hp hm hnd hlt hf => ?_
  refine ⟨a, S, rs.length, rfl, hp, hlt, fun ns p' hs2 hm2 hl2 hp' => ?_⟩
  obtain ⟨hr3, x3⟩ := hr2.frozen (o := .lst (ns.map V.int)) hp'
  have en : ns = srtI rs := by
    have nn : ns.Nodup := hs2.imp fun h => by omega
    refine ord_one ?_ (hs2.imp fun h => by omega) (srtI_ord rs)
    exact ((List.perm_ext_iff_of_nodup nn hnd).mpr fun k => by rw [hm2, hm]).trans (srtI_perm rs).symm
  rw [← en] at hf
  exact hf _ _ _ _ (e2.trans x3 hr2.ali) hr3 (.lst (.inl (.inl upd_same)) ((Rps.of_ints ns).ext x3))
end
end Bk

set_option Elab.async false
set_option linter.all false
set_option maxRecDepth 100000
namespace My
open PySem PySem.Spec PyProof.Rows L2 Bk
noncomputable section
/-! ### the text -/
def topS (i : Nat) : Stmt := PySem.Challenge.pw_breakrows_k24_plans_tightened.main.body.getD i (.Pass ⟨0, 0, 0, 0⟩)
abbrev s_is_integer : Stmt := topS 8
theorem sc_is_integer : FnScope ["value"] ["value"] (defScope s_is_integer) := ⟨rfl, rfl, rfl, by decide +kernel, rfl, by decide +kernel, by decide +kernel⟩
abbrev s_is_at_least : Stmt := topS 9
theorem sc_is_at_least : FnScope ["value", "low"] ["value", "low"] (defScope s_is_at_least) := ⟨rfl, rfl, rfl, by decide +kernel, rfl, by decide +kernel, by decide +kernel⟩
abbrev s_is_between : Stmt := topS 10
theorem sc_is_between : FnScope ["value", "low", "high"] ["value", "low", "high"] (defScope s_is_between) := ⟨rfl, rfl, rfl, by decide +kernel, rfl, by decide +kernel, by decide +kernel⟩
abbrev s_is_day : Stmt := topS 11
theorem sc_is_day : FnScope ["value", "day"] ["value", "day"] (defScope s_is_day) := ⟨rfl, rfl, rfl, by decide +kernel, rfl, by decide +kernel, by decide +kernel⟩
abbrev s_are_numbers : Stmt := topS 12
theorem sc_are_numbers : FnScope ["value", "entry"] ["value"] (defScope s_are_numbers) := ⟨rfl, rfl, rfl, by decide +kernel, rfl, by decide +kernel, by decide +kernel⟩
abbrev s_require_calendar : Stmt := topS 13
theorem sc_require_calendar : FnScope ["calendar", "index", "entry"] ["calendar"] (defScope s_require_calendar) := ⟨rfl, rfl, rfl, by decide +kernel, rfl, by decide +kernel, by decide +kernel⟩
abbrev s_is_entries : Stmt := topS 16
theorem sc_is_entries : FnScope ["value"] ["value"] (defScope s_is_entries) := ⟨rfl, rfl, rfl, by decide +kernel, rfl, by decide +kernel, by decide +kernel⟩
abbrev s_is_row_of : Stmt := topS 17
theorem sc_is_row_of : FnScope ["value", "days", "entry"] ["value", "days"] (defScope s_is_row_of) := ⟨rfl, rfl, rfl, by decide +kernel, rfl, by decide +kernel, by decide +kernel⟩
abbrev s_require_rows : Stmt := topS 18
theorem sc_require_rows : FnScope ["plan", "days", "index", "row"] ["plan"] (defScope s_require_rows) := ⟨rfl, rfl, rfl, by decide +kernel, rfl, by decide +kernel, by decide +kernel⟩
abbrev s_require_beginning : Stmt := topS 19
theorem sc_require_beginning : FnScope ["plan", "past"] ["plan", "past"] (defScope s_require_beginning) := ⟨rfl, rfl, rfl, by decide +kernel, rfl, by decide +kernel, by decide +kernel⟩
abbrev s_is_allowed_row : Stmt := topS 20
theorem sc_is_allowed_row : FnScope ["calendar", "row", "returning", "gone", "day", "owned", "back", "number"] ["calendar", "row"] (defScope s_is_allowed_row) := ⟨rfl, rfl, rfl, by decide +kernel, rfl, by decide +kernel, by decide +kernel⟩
abbrev s_require_plan : Stmt := topS 21
theorem sc_require_plan : FnScope ["calendar", "plan", "index", "row"] ["calendar", "plan"] (defScope s_require_plan) := ⟨rfl, rfl, rfl, by decide +kernel, rfl, by decide +kernel, by decide +kernel⟩
abbrev s_check_plan : Stmt := topS 22
theorem sc_check_plan : FnScope ["calendar", "plan"] ["calendar", "plan"] (defScope s_check_plan) := ⟨rfl, rfl, rfl, by decide +kernel, rfl, by decide +kernel, by decide +kernel⟩
abbrev s_levels_behind : Stmt := topS 23
theorem sc_levels_behind : FnScope ["plan", "past", "level", "row"] ["plan", "past"] (defScope s_levels_behind) := ⟨rfl, rfl, rfl, by decide +kernel, rfl, by decide +kernel, by decide +kernel⟩
abbrev s_group : Stmt := topS 24
theorem sc_group : FnScope ["plan", "past", "found"] ["plan", "past"] (defScope s_group) := ⟨rfl, rfl, rfl, by decide +kernel, rfl, by decide +kernel, by decide +kernel⟩
abbrev s_tests_behind : Stmt := topS 25
theorem sc_tests_behind : FnScope ["plan", "past", "found", "numbers", "level", "least", "number"] ["plan", "past"] (defScope s_tests_behind) := ⟨rfl, rfl, rfl, by decide +kernel, rfl, by decide +kernel, by decide +kernel⟩
abbrev s_tests : Stmt := topS 26
theorem sc_tests : FnScope ["plan", "past"] ["plan", "past"] (defScope s_tests) := ⟨rfl, rfl, rfl, by decide +kernel, rfl, by decide +kernel, by decide +kernel⟩
abbrev s_tight_ends : Stmt := topS 27
theorem sc_tight_ends : FnScope ["rows", "day", "numbers", "found", "place", "part", "row", "end"] ["rows", "day"] (defScope s_tight_ends) := ⟨rfl, rfl, rfl, by decide +kernel, rfl, by decide +kernel, by decide +kernel⟩
abbrev s_tightened : Stmt := topS 28
theorem sc_tightened : FnScope ["plan"] ["plan"] (defScope s_tightened) := ⟨rfl, rfl, rfl, by decide +kernel, rfl, by decide +kernel, by decide +kernel⟩
abbrev s_law_mix : Stmt := topS 30
theorem sc_law_mix : FnScope ["_law_cell", "_law_turn", "_law_low"] ["_law_cell", "_law_turn"] (defScope s_law_mix) := ⟨rfl, rfl, rfl, by decide +kernel, rfl, by decide +kernel, by decide +kernel⟩
abbrev s_law_source : Stmt := topS 31
theorem sc_law_source : FnScope ["_law_cell"] ["_law_cell"] (defScope s_law_source) := ⟨rfl, rfl, rfl, by decide +kernel, rfl, by decide +kernel, by decide +kernel⟩
abbrev s_law_draw : Stmt := topS 32
theorem sc_law_draw : FnScope ["_law_source_here", "_law_limit", "_law_digit"] ["_law_source_here", "_law_limit"] (defScope s_law_draw) := ⟨rfl, rfl, rfl, by decide +kernel, rfl, by decide +kernel, by decide +kernel⟩
abbrev s_law_calendar : Stmt := topS 33
theorem sc_law_calendar : FnScope ["_law_source_here", "_law_days", "_law_most", "_law_found", "_law_day", "_law_back"] ["_law_source_here", "_law_days", "_law_most"] (defScope s_law_calendar) := ⟨rfl, rfl, rfl, by decide +kernel, rfl, by decide +kernel, by decide +kernel⟩
abbrev s_law_is_allowed : Stmt := topS 34
theorem sc_law_is_allowed : FnScope ["_law_calendar_here", "_law_row", "_law_day", "_law_gone", "_law_index", "_law_number", "_law_back"] ["_law_calendar_here", "_law_row"] (defScope s_law_is_allowed) := ⟨rfl, rfl, rfl, by decide +kernel, rfl, by decide +kernel, by decide +kernel⟩
abbrev s_law_rows : Stmt := topS 35
theorem sc_law_rows : FnScope ["_law_source_here", "_law_days", "_law_many", "_law_found", "_law_level", "_law_top", "_law_row", "_law_shared", "_law_day"] ["_law_source_here", "_law_days", "_law_many"] (defScope s_law_rows) := ⟨rfl, rfl, rfl, by decide +kernel, rfl, by decide +kernel, by decide +kernel⟩
abbrev s_law_levels : Stmt := topS 36
theorem sc_law_levels : FnScope ["_law_plan", "_law_past", "_law_level", "_law_row"] ["_law_plan", "_law_past"] (defScope s_law_levels) := ⟨rfl, rfl, rfl, by decide +kernel, rfl, by decide +kernel, by decide +kernel⟩
abbrev s_law_tight : Stmt := topS 37
theorem sc_law_tight : FnScope ["_law_plan", "_law_found", "_law_row", "_law_ranks", "_law_day", "_law_number", "_law_numbers", "_law_one"] ["_law_plan"] (defScope s_law_tight) := ⟨rfl, rfl, rfl, by decide +kernel, rfl, by decide +kernel, by decide +kernel⟩
abbrev s_law_groups_right : Stmt := topS 38
theorem sc_law_groups_right : FnScope ["_law_source_here", "_law_plan", "_law_told", "_law_turn", "_law_level", "_law_days", "_law_inside", "_law_asked", "_law_one"] ["_law_source_here", "_law_plan", "_law_told"] (defScope s_law_groups_right) := ⟨rfl, rfl, rfl, by decide +kernel, rfl, by decide +kernel, by decide +kernel⟩
abbrev s_law_is_right : Stmt := topS 39
theorem sc_law_is_right : FnScope ["_law_source_here", "_law_plan", "_law_kept", "_law_told", "_law_row", "_law_later", "_law_before", "_law_number"] ["_law_source_here"] (defScope s_law_is_right) := ⟨rfl, rfl, rfl, by decide +kernel, rfl, by decide +kernel, by decide +kernel⟩
abbrev s_law_calendar_right : Stmt := topS 40
theorem sc_law_calendar_right : FnScope ["_law_source_here", "_law_calendar_here", "_law_some", "_law_plan", "_law_turn", "_law_owned", "_law_back", "_law_row"] ["_law_source_here"] (defScope s_law_calendar_right) := ⟨rfl, rfl, rfl, by decide +kernel, rfl, by decide +kernel, by decide +kernel⟩
abbrev s_law : Stmt := topS 41
theorem sc_law : FnScope ["_law_script", "_law_cell", "_law_wide", "_law_long", "_law_source_here", "_law_one"] ["_law_script"] (defScope s_law) := ⟨rfl, rfl, rfl, by decide +kernel, rfl, by decide +kernel, by decide +kernel⟩
/-! ### what the bodies compute -/
def b_is_integer : GS := gRet (gAndV (gOp1 (dIsi "int") (gV 0)) (gOp1 dNot (gOp1 (dIsi "bool") (gV 0))))
def F_is_integer : List D → List MO → R D := runF 1 b_is_integer
def b_is_at_least : GS := gRet (gAndV (gCallF 1 F_is_integer (gCons (gV 0) (gNil))) (gOp2 dGe (gV 0) (gV 1)))
def F_is_at_least : List D → List MO → R D := runF 2 b_is_at_least
def b_is_between : GS := gRet (gAndV (gCallF 1 F_is_integer (gCons (gV 0) (gNil))) (gChain dLe dLe (gV 1) (gV 0) (gV 2)))
def F_is_between : List D → List MO → R D := runF 3 b_is_between
def b_is_day : GS := gSeq (gIf (gOrT (gNotT (gVal (gOp1 (dIsi "tuple") (gV 0)))) (gOrT (gVal (gOp2 dNeA (gCall (fn1 dLen) (gCons (gV 0) (gNil))) (gC (.int 2)))) (gNotT (gVal (gCallF 3 F_is_between (gCons (gOp2 dIx (gV 0) (gC (.int 0))) (gCons (gC (.int 0)) (gCons (gC (.int 12)) (gNil))))))))) (gRet (gC (.bl false))) (gPass)) (gRet (gOrV (gOp2 dIsN (gOp2 dIx (gV 0) (gC (.int 1))) (gC .non)) (gCallF 2 F_is_at_least (gCons (gOp2 dIx (gV 0) (gC (.int 1))) (gCons (gOp2 dAdd (gV 1) (gC (.int 1))) (gNil))))))
def F_is_day : List D → List MO → R D := runF 2 b_is_day
def le_are_numbers_1 : GE := gCallF 2 F_is_at_least (gCons (gV 1) (gCons (gC (.int 0)) (gNil)))
def b_are_numbers : GS := gRet (gAndV (gOp1 (dIsi "tuple") (gV 0)) (gCall (fn1 dAll) (gCons (gLc (gSeqI (gV 0)) (gTo 1) (gYes) (le_are_numbers_1) [1]) (gNil))))
def F_are_numbers : List D → List MO → R D := runF 2 b_are_numbers
def lb_require_calendar_1 : GS := gSeq (gIf (gNotT (gVal (gCallF 2 F_is_day (gCons (gV 2) (gCons (gOp2 dAdd (gV 1) (gC (.int 1))) (gNil)))))) (gBad) (gPass)) (gForget [1, 2])
def b_require_calendar : GS := gSeq (gIf (gOrT (gNotT (gVal (gOp1 (dIsiT ["list", "tuple"]) (gV 0)))) (gVal (gOp2 dGt (gCall (fn1 dLen) (gCons (gV 0) (gNil))) (gC (.int 100))))) (gBad) (gPass)) (gSeq (gSeq (gForget [1, 2]) (gFor (gEnum (gV 0)) (gToT (gToCons (gTo 1) (gToCons (gTo 2) (gToNil)))) (lb_require_calendar_1))) (gForget [1, 2]))
def F_require_calendar : List D → List MO → R D := runF 3 b_require_calendar
def b_is_entries : GS := gRet (gAndV (gOp1 (dIsiT ["list", "tuple"]) (gV 0)) (gChain dLe dLe (gC (.int 1)) (gCall (fn1 dLen) (gCons (gV 0) (gNil))) (gC (.int 1000))))
def F_is_entries : List D → List MO → R D := runF 1 b_is_entries
def le_is_row_of_1 : GE := gCallF 3 F_is_between (gCons (gV 2) (gCons (gC (.int 0)) (gCons (gC (.int 12)) (gNil))))
def b_is_row_of : GS := gSeq (gIf (gOrT (gNotT (gVal (gOp1 (dIsi "tuple") (gV 0)))) (gVal (gOp2 dNeA (gCall (fn1 dLen) (gCons (gV 0) (gNil))) (gV 1)))) (gRet (gC (.bl false))) (gPass)) (gRet (gCall (fn1 dAll) (gCons (gLc (gSeqI (gV 0)) (gTo 2) (gYes) (le_is_row_of_1) [2]) (gNil))))
def F_is_row_of : List D → List MO → R D := runF 3 b_is_row_of
def lb_require_rows_1 : GS := gSeq (gIf (gOrT (gNotT (gVal (gCallF 2 F_is_row_of (gCons (gV 3) (gCons (gV 1) (gNil)))))) (gAndT (gVal (gOp2 dGtA (gV 2) (gC (.int 0)))) (gVal (gOp2 dGeA (gV 3) (gOp2 dIx (gV 0) (gOp2 dSub (gV 2) (gC (.int 1)))))))) (gBad) (gPass)) (gForget [2, 3])
def b_require_rows : GS := gSeq (gIf (gNotT (gVal (gCallF 1 F_is_entries (gCons (gV 0) (gNil))))) (gBad) (gPass)) (gSeq (gAsg (gIfE (gAndT (gVal (gOp1 (dIsi "tuple") (gOp2 dIx (gV 0) (gC (.int 0))))) (gVal (gOp2 dLe (gCall (fn1 dLen) (gCons (gOp2 dIx (gV 0) (gC (.int 0))) (gNil))) (gC (.int 100))))) (gCall (fn1 dLen) (gCons (gOp2 dIx (gV 0) (gC (.int 0))) (gNil))) (gOp1 dNeg (gC (.int 1)))) (gTo 1)) (gSeq (gSeq (gForget [2, 3]) (gForJ (gEnumJ (gV 0)) (gToT (gToCons (gTo 2) (gToCons (gTo 3) (gToNil)))) (lb_require_rows_1))) (gForget [2, 3])))
def F_require_rows : List D → List MO → R D := runF 4 b_require_rows
def b_require_beginning : GS := gIf (gOrT (gNotT (gVal (gCallF 1 F_are_numbers (gCons (gV 1) (gNil))))) (gVal (gOp2 dGt (gCall (fn1 dLen) (gCons (gV 1) (gNil))) (gCall (fn1 dLen) (gCons (gOp2 dIx (gV 0) (gC (.int 0))) (gNil)))))) (gBad) (gPass)
def F_require_beginning : List D → List MO → R D := runF 2 b_require_beginning
def lb_is_allowed_row_1 : GS := gSeq (gAug 3 (fun i j => i - j) (gGetK (gV 2) (gV 4) (gC (.int 0)))) (gSeq (gIf (gVal (gOp2 dGt (gOp2 dAdd (gV 3) (gV 7)) (gV 5))) (gRet (gC (.bl false))) (gPass)) (gSeq (gAug 3 (fun i j => i + j) (gV 7)) (gSeq (gIf (gVal (gOp2 dNotN (gV 6) (gC .non))) (gSetX (gOp2 dAdd (gGetK (gV 2) (gV 6) (gC (.int 0))) (gV 7)) (gV 2) (gV 6)) (gPass)) (gForget [4, 5, 6, 7]))))
def b_is_allowed_row : GS := gSeq (gPar2 2 3 (gCons (gDki0O) (gCons (gC (.int 0)) (gNil)))) (gSeq (gSeq (gSeq (gForget [4, 5, 6, 7]) (gFor (gEnumZ (gV 0) (gV 1) 1) (gToT (gToCons (gTo 4) (gToCons (gToT (gToCons (gToT (gToCons (gTo 5) (gToCons (gTo 6) (gToNil)))) (gToCons (gTo 7) (gToNil)))) (gToNil)))) (lb_is_allowed_row_1))) (gForget [3, 4, 5, 6, 7])) (gRet (gC (.bl true))))
def F_is_allowed_row : List D → List MO → R D := runF 8 b_is_allowed_row
def lb_require_plan_1 : GS := gSeq (gIf (gOrT (gNotT (gVal (gCallF 2 F_is_row_of (gCons (gV 3) (gCons (gCall (fn1 dLen) (gCons (gV 0) (gNil))) (gNil)))))) (gNotT (gVal (gCallF 2 F_is_allowed_row (gCons (gV 0) (gCons (gV 3) (gNil))))))) (gBad) (gPass)) (gSeq (gIf (gAndT (gVal (gOp2 dGtA (gV 2) (gC (.int 0)))) (gVal (gOp2 dGeA (gV 3) (gOp2 dIx (gV 1) (gOp2 dSub (gV 2) (gC (.int 1))))))) (gBad) (gPass)) (gForget [2, 3]))
def b_require_plan : GS := gSeq (gIf (gNotT (gVal (gCallF 1 F_is_entries (gCons (gV 1) (gNil))))) (gBad) (gPass)) (gSeq (gSeq (gForget [2, 3]) (gForJ (gEnumJ (gV 1)) (gToT (gToCons (gTo 2) (gToCons (gTo 3) (gToNil)))) (lb_require_plan_1))) (gForget [2, 3]))
def F_require_plan : List D → List MO → R D := runF 4 b_require_plan
def b_check_plan : GS := gSeq (gExpr (gCallF 1 F_require_calendar (gCons (gV 0) (gNil)))) (gExpr (gCallF 2 F_require_plan (gCons (gV 0) (gCons (gV 1) (gNil)))))
def F_check_plan : List D → List MO → R D := runF 2 b_check_plan
def b_levels_behind : GS := gRet (gLcK (gEnumJ (gV 0)) (gToT (gToCons (gTo 2) (gToCons (gTo 3) (gToNil)))) (gVal (gOp2 dEqA (gSl (gV 3) (gNoO) (gO (gCall (fn1 dLen) (gCons (gV 1) (gNil))))) (gV 1))) (gV 2) [2, 3])
def F_levels_behind : List D → List MO → R D := runF 4 b_levels_behind
def b_group : GS := gSeq (gExpr (gCallF 1 F_require_rows (gCons (gV 0) (gNil)))) (gSeq (gExpr (gCallF 2 F_require_beginning (gCons (gV 0) (gCons (gV 1) (gNil))))) (gSeq (gAsg (gCallF 2 F_levels_behind (gCons (gV 0) (gCons (gV 1) (gNil)))) (gTo 2)) (gRet (gIfE (gVal (gOp2 dNeA (gV 2) (gLst (gNil)))) (gTup (gCons (gOp2 dIx (gV 2) (gC (.int 0))) (gCons (gOp2 dIx (gV 2) (gOp1 dNeg (gC (.int 1)))) (gNil)))) (gC .non)))))
def F_group : List D → List MO → R D := runF 3 b_group
def le_tests_behind_1 : GE := gOp2 dIx (gOp2 dIx (gV 0) (gV 4)) (gCall (fn1 dLen) (gCons (gV 1) (gNil)))
def le_tests_behind_3 : GE := gOp2 dAdd (gOp2 dIx (gV 2) (gC (.int 0))) (gCall (fn1 dLen) (gCons (gLc (gSeqI (gV 3)) (gTo 6) (gVal (gOp2 dGe (gV 6) (gV 5))) (gV 6) [6]) (gNil)))
def b_tests_behind : GS := gSeq (gAsg (gCallF 2 F_levels_behind (gCons (gV 0) (gCons (gV 1) (gNil)))) (gTo 2)) (gSeq (gIf (gVal (gOp2 dEqA (gV 2) (gLst (gNil)))) (gRet (gLst (gNil))) (gPass)) (gSeq (gAsg (gLc (gSeqI (gV 2)) (gTo 4) (gYes) (le_tests_behind_1) [4]) (gTo 3)) (gRet (gLc (gRng2 (gCons (gC (.int 1)) (gCons (gOp2 dAdd (gOp2 dIx (gV 3) (gC (.int 0))) (gC (.int 1))) (gNil)))) (gTo 5) (gYes) (le_tests_behind_3) [5]))))
def F_tests_behind : List D → List MO → R D := runF 7 b_tests_behind
def b_tests : GS := gSeq (gExpr (gCallF 1 F_require_rows (gCons (gV 0) (gNil)))) (gSeq (gExpr (gCallF 2 F_require_beginning (gCons (gV 0) (gCons (gV 1) (gNil))))) (gRet (gIfE (gVal (gOp2 dLt (gCall (fn1 dLen) (gCons (gV 1) (gNil))) (gCall (fn1 dLen) (gCons (gOp2 dIx (gV 0) (gC (.int 0))) (gNil))))) (gCallF 2 F_tests_behind (gCons (gV 0) (gCons (gV 1) (gNil)))) (gLst (gNil)))))
def F_tests : List D → List MO → R D := runF 2 b_tests
def le_tight_ends_1 (F_tight_ends : List D → List MO → R D) : GE := gOp2 dIx (gV 6) (gV 1)
def le_tight_ends_3 (F_tight_ends : List D → List MO → R D) : GE := gOp2 dAdd (gTup (gCons (gV 4) (gNil))) (gV 7)
def lb_tight_ends_1 (F_tight_ends : List D → List MO → R D) : GS := gSeq (gAsg (gLc (gSeqI (gV 0)) (gTo 6) (gVal (gOp2 dEqA (gOp2 dIx (gV 6) (gV 1)) (gOp2 dIx (gV 2) (gV 4)))) (gV 6) [6]) (gTo 5)) (gSeq (gExpr (gMeth1 mExtend (gV 3) (gLc (gSeqI (gFzE (gCallF 2 F_tight_ends (gCons (gV 5) (gCons (gOp2 dAdd (gV 1) (gC (.int 1))) (gNil)))))) (gTo 7) (gYes) (le_tight_ends_3 F_tight_ends) [7]))) (gForget [4, 5]))
def b_tight_ends (F_tight_ends : List D → List MO → R D) : GS := gSeq (gIf (gVal (gOp2 dEqA (gCall (fn1 dLen) (gCons (gV 0) (gNil))) (gC (.int 1)))) (gRet (gLstO (gCons (gOp2 dMulT (gTup (gCons (gC (.int 0)) (gNil))) (gOp2 dSub (gCall (fn1 dLen) (gCons (gOp2 dIx (gV 0) (gC (.int 0))) (gNil))) (gV 1))) (gNil)))) (gPass)) (gSeq (gAsg (gSortSc (gSeqI (gV 0)) (gTo 6) (gYes) (le_tight_ends_1 F_tight_ends) [6]) (gTo 2)) (gSeq (gAsg (gLstO (gNil)) (gTo 3)) (gSeq (gSeq (gSeq (gForget [4, 5]) (gFor (gRng3 (gCons (gOp2 dSub (gCall (fn1 dLen) (gCons (gV 2) (gNil))) (gC (.int 1))) (gCons (gOp1 dNeg (gC (.int 1))) (gCons (gOp1 dNeg (gC (.int 1))) (gNil))))) (gTo 4) (lb_tight_ends_1 F_tight_ends))) (gForget [4, 5])) (gRet (gV 3)))))
def FR_tight_ends : Nat → Nat → List D → List MO → R D
  | 0, _ => fun _ _ => .bad
  | n + 1, _ => runF 8 (b_tight_ends (FR_tight_ends n 0))
def F_tight_ends : List D → List MO → R D := FR_tight_ends 110 0
def b_tightened : GS := gSeq (gExpr (gCallF 1 F_require_rows (gCons (gV 0) (gNil)))) (gRet (gCallF 2 F_tight_ends (gCons (gCall (fn1 dList) (gCons (gV 0) (gNil))) (gCons (gC (.int 0)) (gNil)))))
def F_tightened : List D → List MO → R D := runF 1 b_tightened
def b_law_mix : GS := gSeq (gAsg (gOp2 dAdd (gOp2 dMod (gV 0) (gC (.int 2147483647))) (gOp2 dMulT (gOp2 dMod (gOp2 dFdiv (gV 0) (gC (.int 2147483647))) (gC (.int 1000003))) (gC (.int 7919)))) (gTo 2)) (gSeq (gAsg (gOp2 dMod (gOp2 dMulT (gOp2 dAdd (gOp2 dAdd (gV 2) (gOp2 dMulT (gC (.int 15485863)) (gV 1))) (gC (.int 104729))) (gC (.int 48271))) (gC (.int 2147483629))) (gTo 2)) (gSeq (gAsg (gOp2 dMod (gOp2 dMulT (gV 2) (gOp2 dAdd (gOp2 dAdd (gOp2 dFdiv (gV 2) (gC (.int 1009))) (gC (.int 69621))) (gV 1))) (gC (.int 2147483587))) (gTo 2)) (gRet (gOp2 dMod (gOp2 dMulT (gV 2) (gOp2 dAdd (gOp2 dFdiv (gV 2) (gC (.int 2003))) (gC (.int 40692)))) (gC (.int 2147483563))))))
def F_law_mix : List D → List MO → R D := runF 3 b_law_mix
def b_law_source : GS := gRet (gLstO (gCons (gOp2 dMulT (gCall (fn1 dAbs) (gCons (gV 0) (gNil))) (gCall (fn1 dInt) (gCons (gOp2 dGe (gCall (fn1 dAbs) (gCons (gV 0) (gNil))) (gOp2 dPow (gC (.int 10)) (gC (.int 18)))) (gNil)))) (gCons (gCall (fn1 dAbs) (gCons (gV 0) (gNil))) (gCons (gC (.int 0)) (gNil)))))
def F_law_source : List D → List MO → R D := runF 1 b_law_source
def b_law_draw : GS := gSeq (gIf (gVal (gOp2 dGt (gOp2 dIx (gV 0) (gC (.int 0))) (gC (.int 0)))) (gSeq (gAsg (gOp2 dMod (gOp2 dIx (gV 0) (gC (.int 0))) (gV 1)) (gTo 2)) (gSeq (gSetI (gOp2 dFdiv (gOp2 dIx (gV 0) (gC (.int 0))) (gV 1)) (gV 0) (gC (.int 0))) (gRet (gV 2)))) (gPass)) (gSeq (gSetI (gOp2 dAdd (gOp2 dIx (gV 0) (gC (.int 2))) (gC (.int 1))) (gV 0) (gC (.int 2))) (gRet (gOp2 dMod (gCallF 2 F_law_mix (gCons (gOp2 dIx (gV 0) (gC (.int 1))) (gCons (gOp2 dIx (gV 0) (gC (.int 2))) (gNil)))) (gV 1))))
def F_law_draw : List D → List MO → R D := runF 3 b_law_draw
def lb_law_calendar_1 : GS := gSeq (gAsg (gOp2 dAdd (gOp2 dAdd (gV 4) (gC (.int 1))) (gCallF 2 F_law_draw (gCons (gV 0) (gCons (gOp2 dIx (gLst (gCons (gC (.int 1)) (gCons (gC (.int 3)) (gCons (gC (.int 9)) (gNil))))) (gCallF 2 F_law_draw (gCons (gV 0) (gCons (gC (.int 3)) (gNil))))) (gNil))))) (gTo 5)) (gSeq (gIf (gVal (gOp2 dEqA (gCallF 2 F_law_draw (gCons (gV 0) (gCons (gC (.int 4)) (gNil)))) (gC (.int 0)))) (gAsg (gC .non) (gTo 5)) (gPass)) (gSeq (gExpr (gMeth1 mAppend (gV 3) (gTup (gCons (gCallF 2 F_law_draw (gCons (gV 0) (gCons (gOp2 dAdd (gV 2) (gC (.int 1))) (gNil)))) (gCons (gV 5) (gNil)))))) (gForget [4, 5])))
def b_law_calendar : GS := gSeq (gAsg (gLstO (gNil)) (gTo 3)) (gSeq (gSeq (gSeq (gSeq (gForget [4, 5]) (gFor (gRng2 (gCons (gC (.int 1)) (gCons (gOp2 dAdd (gV 1) (gC (.int 1))) (gNil)))) (gTo 4) (lb_law_calendar_1))) (gForget [4, 5])) (gFz 3)) (gRet (gV 3)))
def F_law_calendar : List D → List MO → R D := runF 6 b_law_calendar
def lb_law_is_allowed_2 : GS := gSeq (gAsg (gOp2 dIx (gOp2 dIx (gV 0) (gV 4)) (gC (.int 1))) (gTo 6)) (gSeq (gIf (gAndT (gVal (gOp2 dLt (gOp2 dAdd (gV 4) (gC (.int 1))) (gV 2))) (gOrT (gVal (gOp2 dIsN (gV 6) (gC .non))) (gVal (gOp2 dGt (gV 6) (gV 2))))) (gAsg (gOp2 dAdd (gV 3) (gV 5)) (gTo 3)) (gPass)) (gForget [4, 5, 6]))
def lb_law_is_allowed_1 : GS := gSeq (gAsg (gC (.int 0)) (gTo 3)) (gSeq (gSeq (gSeq (gForget [4, 5, 6]) (gFor (gEnum (gV 1)) (gToT (gToCons (gTo 4) (gToCons (gTo 5) (gToNil)))) (lb_law_is_allowed_2))) (gForget [4, 5, 6])) (gSeq (gIf (gVal (gOp2 dLe (gV 2) (gCall (fn1 dLen) (gCons (gV 1) (gNil))))) (gAsg (gOp2 dAdd (gV 3) (gOp2 dIx (gV 1) (gOp2 dSub (gV 2) (gC (.int 1))))) (gTo 3)) (gPass)) (gSeq (gIf (gVal (gOp2 dGt (gV 3) (gOp2 dIx (gOp2 dIx (gV 0) (gOp2 dSub (gV 2) (gC (.int 1)))) (gC (.int 0))))) (gRet (gC (.bl false))) (gPass)) (gForget [2, 3, 4, 5, 6]))))
def b_law_is_allowed : GS := gSeq (gSeq (gSeq (gForget [2, 3, 4, 5, 6]) (gFor (gRng2 (gCons (gC (.int 1)) (gCons (gOp2 dAdd (gCall (fn1 dLen) (gCons (gV 0) (gNil))) (gC (.int 1))) (gNil)))) (gTo 2) (lb_law_is_allowed_1))) (gForget [2, 3, 4, 5, 6])) (gRet (gC (.bl true)))
def F_law_is_allowed : List D → List MO → R D := runF 7 b_law_is_allowed
def le_law_rows_1 : GE := gCallF 2 F_law_draw (gCons (gV 0) (gCons (gV 5) (gNil)))
def lb_law_rows_1 : GS := gSeq (gAsg (gOp2 dIx (gLst (gCons (gC (.int 1)) (gCons (gC (.int 2)) (gCons (gC (.int 4)) (gCons (gC (.int 13)) (gNil)))))) (gCallF 2 F_law_draw (gCons (gV 0) (gCons (gC (.int 4)) (gNil))))) (gTo 5)) (gSeq (gAsg (gLc (gRng1 (gCons (gV 1) (gNil))) (gTo 8) (gYes) (le_law_rows_1) [8]) (gTo 6)) (gSeq (gIf (gVal (gOp2 dNeA (gV 3) (gLst (gNil)))) (gSeq (gAsg (gCallF 2 F_law_draw (gCons (gV 0) (gCons (gOp2 dAdd (gV 1) (gC (.int 1))) (gNil)))) (gTo 7)) (gAsg (gOp2 dAdd (gCall (fn1 dList) (gCons (gSl (gOp2 dIx (gV 3) (gCallF 2 F_law_draw (gCons (gV 0) (gCons (gCall (fn1 dLen) (gCons (gV 3) (gNil))) (gNil))))) (gNoO) (gO (gV 7))) (gNil))) (gSl (gV 6) (gO (gV 7)) (gNoO))) (gTo 6))) (gPass)) (gSeq (gExpr (gMeth1 mAppend (gV 3) (gCall (fn1 dTuple) (gCons (gV 6) (gNil))))) (gForget [4, 5, 6, 7]))))
def b_law_rows : GS := gSeq (gAsg (gLstO (gNil)) (gTo 3)) (gSeq (gSeq (gSeq (gSeq (gForget [4, 5, 6, 7]) (gFor (gRng1 (gCons (gV 2) (gNil))) (gTo 4) (lb_law_rows_1))) (gForget [4, 5, 6, 7])) (gFz 3)) (gRet (gRevA (gSortS (gV 3)))))
def F_law_rows : List D → List MO → R D := runF 9 b_law_rows
def b_law_levels : GS := gRet (gLc (gEnum (gV 0)) (gToT (gToCons (gTo 2) (gToCons (gTo 3) (gToNil)))) (gVal (gOp2 dEqA (gSl (gV 3) (gNoO) (gO (gCall (fn1 dLen) (gCons (gV 1) (gNil))))) (gV 1))) (gV 2) [2, 3])
def F_law_levels : List D → List MO → R D := runF 4 b_law_levels
def le_law_tight_1 : GE := gOp2 dIx (gV 7) (gV 4)
def lb_law_tight_2 : GS := gSeq (gAsg (gLc (gSeqI (gV 0)) (gTo 7) (gVal (gOp2 dEqA (gSl (gV 7) (gNoO) (gO (gV 4))) (gSl (gV 2) (gNoO) (gO (gV 4))))) (le_law_tight_1) [7]) (gTo 6)) (gSeq (gExpr (gMeth1 mAppend (gV 3) (gCall (fn1 dLen) (gCons (gLc (gRng1 (gCons (gV 5) (gNil))) (gTo 7) (gVal (gOp2 dIn (gV 7) (gV 6))) (gV 7) [7]) (gNil))))) (gForget [4, 5, 6]))
def lb_law_tight_1 : GS := gScope (gSeq (gAsg (gLstO (gNil)) (gTo 3)) (gSeq (gSeq (gSeq (gSeq (gForget [4, 5, 6]) (gFor (gEnum (gV 2)) (gToT (gToCons (gTo 4) (gToCons (gTo 5) (gToNil)))) (lb_law_tight_2))) (gForget [4, 5, 6])) (gFz 3)) (gSeq (gExpr (gMeth1 mAppend (gV 1) (gCall (fn1 dTuple) (gCons (gV 3) (gNil))))) (gForget [2, 3, 4, 5, 6]))))
def b_law_tight : GS := gSeq (gAsg (gLstO (gNil)) (gTo 1)) (gSeq (gSeq (gSeq (gSeq (gForget [2, 3, 4, 5, 6]) (gFor (gSeqI (gV 0)) (gTo 2) (lb_law_tight_1))) (gForget [2, 3, 4, 5, 6])) (gFz 1)) (gRet (gV 1)))
def F_law_tight : List D → List MO → R D := runF 8 b_law_tight
def lb_law_groups_right_1 : GS := gSeq (gPar2 4 5 (gCons (gCallF 2 F_law_draw (gCons (gV 0) (gCons (gCall (fn1 dLen) (gCons (gV 1) (gNil))) (gNil)))) (gCons (gCallF 2 F_law_draw (gCons (gV 0) (gCons (gOp2 dAdd (gCall (fn1 dLen) (gCons (gOp2 dIx (gV 1) (gC (.int 0))) (gNil))) (gC (.int 1))) (gNil)))) (gNil)))) (gSeq (gAsg (gCallF 2 F_law_levels (gCons (gV 1) (gCons (gSl (gOp2 dIx (gV 1) (gV 4)) (gNoO) (gO (gV 5))) (gNil)))) (gTo 6)) (gSeq (gIf (gVal (gOp2 dNeA (gCallF 2 F_group (gCons (gV 2) (gCons (gSl (gOp2 dIx (gV 2) (gV 4)) (gNoO) (gO (gV 5))) (gNil)))) (gTup (gCons (gOp2 dIx (gV 6) (gC (.int 0))) (gCons (gOp2 dIx (gV 6) (gOp1 dNeg (gC (.int 1)))) (gNil)))))) (gRet (gC (.bl false))) (gPass)) (gSeq (gAsg (gCallF 2 F_tests (gCons (gV 2) (gCons (gSl (gOp2 dIx (gV 2) (gV 4)) (gNoO) (gO (gV 5))) (gNil)))) (gTo 7)) (gSeq (gIf (gOrT (gVal (gOp2 dNeA (gLenSetI (gV 7)) (gCall (fn1 dLen) (gCons (gV 7) (gNil))))) (gVal (gOp2 dNeA (gV 7) (gSortR (gV 7))))) (gRet (gC (.bl false))) (gPass)) (gSeq (gIf (gVal (gOp2 dNeA (gLc (gSeqI (gV 7)) (gTo 8) (gNotT (gVal (gChain dLt dLe (gOp2 dIx (gV 6) (gC (.int 0))) (gV 8) (gOp2 dIx (gV 6) (gOp1 dNeg (gC (.int 1))))))) (gV 8) [8]) (gLst (gNil)))) (gRet (gC (.bl false))) (gPass)) (gForget [3, 4, 5, 6, 7]))))))
def b_law_groups_right : GS := gSeq (gSeq (gSeq (gForget [3, 4, 5, 6, 7]) (gFor (gRng1 (gCons (gC (.int 5)) (gNil))) (gTo 3) (lb_law_groups_right_1))) (gForget [3, 4, 5, 6, 7])) (gRet (gC (.bl true)))
def F_law_groups_right : List D → List MO → R D := runF 9 b_law_groups_right
def lb_law_is_right_1 : GS := gSeq (gIf (gVal (gOp2 dNeA (gLc (gZip (gV 4) (gV 5)) (gToT (gToCons (gTo 6) (gToCons (gTo 7) (gToNil)))) (gVal (gOp2 dGt (gV 7) (gV 6))) (gC (.int 1)) [6, 7]) (gLst (gNil)))) (gRet (gC (.bl false))) (gPass)) (gForget [4, 5])
def b_law_is_right : GS := gSeq (gAsg (gCallF 3 F_law_rows (gCons (gV 0) (gCons (gCallF 2 F_law_draw (gCons (gV 0) (gCons (gC (.int 9)) (gNil)))) (gCons (gOp2 dAdd (gC (.int 1)) (gCallF 2 F_law_draw (gCons (gV 0) (gCons (gC (.int 40)) (gNil))))) (gNil))))) (gTo 1)) (gSeq (gAsg (gCall (fn1 dRepr) (gCons (gV 1) (gNil))) (gTo 2)) (gSeq (gAsg (gCallF 1 F_tightened (gCons (gV 1) (gNil))) (gTo 3)) (gSeq (gIf (gOrT (gVal (gOp2 dNeA (gV 3) (gCallF 1 F_law_tight (gCons (gV 1) (gNil))))) (gOrT (gNotT (gVal (gOp1 (dIsi "list") (gV 3)))) (gVal (gOp2 dNeA (gCall (fn1 dRepr) (gCons (gV 1) (gNil))) (gV 2))))) (gRet (gC (.bl false))) (gPass)) (gSeq (gIf (gOrT (gVal (gOp2 dNeA (gCallF 1 F_tightened (gCons (gV 3) (gNil))) (gV 3))) (gNotT (gVal (gCallF 3 F_law_groups_right (gCons (gV 0) (gCons (gV 1) (gCons (gV 3) (gNil)))))))) (gRet (gC (.bl false))) (gPass)) (gSeq (gSeq (gSeq (gForget [4, 5]) (gForJ (gZipJ (gV 1) (gV 3)) (gToT (gToCons (gTo 4) (gToCons (gTo 5) (gToNil)))) (lb_law_is_right_1))) (gForget [4, 5])) (gSeq (gSeq (gExpr (gMeth1 mAppend (gV 3) (gC .non))) (gFz 3)) (gRet (gOp2 dEqA (gCallF 1 F_tightened (gCons (gCall (fn1 dTuple) (gCons (gV 1) (gNil))) (gNil))) (gSl (gV 3) (gNoO) (gO (gOp1 dNeg (gC (.int 1)))))))))))))
def F_law_is_right : List D → List MO → R D := runF 8 b_law_is_right
def le_law_calendar_right_1 : GE := gCallF 2 F_law_draw (gCons (gV 0) (gCons (gOp2 dAdd (gV 5) (gC (.int 1))) (gNil)))
def le_law_calendar_right_2 : GE := gCall (fn1 dTuple) (gCons (gLc (gSeqI (gV 1)) (gToT (gToCons (gTo 5) (gToCons (gTo 6) (gToNil)))) (gYes) (le_law_calendar_right_1) [5, 6]) (gNil))
def b_law_calendar_right : GS := gSeq (gAsg (gCallF 3 F_law_calendar (gCons (gV 0) (gCons (gOp2 dAdd (gC (.int 1)) (gCallF 2 F_law_draw (gCons (gV 0) (gCons (gC (.int 6)) (gNil))))) (gCons (gC (.int 4)) (gNil))))) (gTo 1)) (gSeq (gAsg (gLc (gRng1 (gCons (gC (.int 30)) (gNil))) (gTo 4) (gYes) (le_law_calendar_right_2) [4]) (gTo 2)) (gSeq (gAsg (gRevA (gSortS (gLc (gSeqI (gV 2)) (gTo 7) (gVal (gCallF 2 F_law_is_allowed (gCons (gV 1) (gCons (gV 7) (gNil))))) (gV 7) [7]))) (gTo 3)) (gRet (gOrV (gOp2 dEqA (gV 3) (gLst (gNil))) (gOp2 dIsN (gCallF 2 F_check_plan (gCons (gV 1) (gCons (gCallF 1 F_tightened (gCons (gV 3) (gNil))) (gNil)))) (gC .non))))))
def F_law_calendar_right : List D → List MO → R D := runF 8 b_law_calendar_right
def lb_law_1 : GS := gScope (gSeq (gAsg (gCallF 1 F_law_source (gCons (gV 1) (gNil))) (gTo 4)) (gSeq (gIf (gOrT (gNotT (gVal (gCallF 1 F_law_is_right (gCons (gV 4) (gNil))))) (gNotT (gVal (gCallF 1 F_law_calendar_right (gCons (gV 4) (gNil)))))) (gRet (gC (.bl false))) (gPass)) (gForget [1, 4])))
def le_law_1 : GE := gOp2 dAdd (gOp2 dMulT (gTup (gCons (gC (.int 9)) (gNil))) (gC (.int 9))) (gTup (gCons (gOp2 dFdiv (gV 5) (gC (.int 100))) (gCons (gOp2 dMod (gOp2 dFdiv (gV 5) (gC (.int 10))) (gC (.int 10))) (gCons (gOp2 dMod (gV 5) (gC (.int 10))) (gNil)))))
def le_law_2 : GE := gOp2 dAdd (gOp2 dMulT (gTup (gCons (gC (.int 9)) (gNil))) (gC (.int 98))) (gTup (gCons (gOp2 dFdiv (gV 5) (gC (.int 10))) (gCons (gOp2 dMod (gV 5) (gC (.int 10))) (gNil))))
def le_law_3 : GE := gOp2 dAdd (gOp2 dMulT (gTup (gCons (gC (.int 0)) (gNil))) (gC (.int 9))) (gSl (gV 5) (gO (gC (.int 9))) (gNoO))
def le_law_4 : GE := gOp2 dAdd (gOp2 dMulT (gTup (gCons (gC (.int 0)) (gNil))) (gC (.int 98))) (gSl (gV 5) (gO (gC (.int 98))) (gNoO))
def b_law : GS := gSeq (gSeq (gSeq (gForget [1, 4]) (gFor (gSeqI (gOp2 dAdd (gLst (gCons (gC (.int 0)) (gNil))) (gSl (gV 0) (gNoO) (gO (gC (.int 4)))))) (gTo 1) (lb_law_1))) (gForget [1, 4])) (gSeq (gAsg (gLc (gRng3 (gCons (gC (.int 999)) (gCons (gOp1 dNeg (gC (.int 1))) (gCons (gOp1 dNeg (gC (.int 1))) (gNil))))) (gTo 5) (gYes) (le_law_1) [5]) (gTo 2)) (gSeq (gAsg (gLc (gRng3 (gCons (gC (.int 99)) (gCons (gOp1 dNeg (gC (.int 1))) (gCons (gOp1 dNeg (gC (.int 1))) (gNil))))) (gTo 5) (gYes) (le_law_2) [5]) (gTo 3)) (gSeq (gIf (gVal (gOp2 dNeA (gCallF 1 F_tightened (gCons (gV 2) (gNil))) (gLc (gSeqI (gV 2)) (gTo 5) (gYes) (le_law_3) [5]))) (gRet (gC (.bl false))) (gPass)) (gRet (gOp2 dEqA (gCallF 1 F_tightened (gCons (gV 3) (gNil))) (gLc (gSeqI (gV 3)) (gTo 5) (gYes) (le_law_4) [5]))))))
def F_law : List D → List MO → R D := runF 6 b_law
/-! ### where everything stands -/
structure Ad where
  f_is_integer : Addr
  fd_is_integer : FuncData
  f_is_at_least : Addr
  fd_is_at_least : FuncData
  f_is_between : Addr
  fd_is_between : FuncData
  f_is_day : Addr
  fd_is_day : FuncData
  f_are_numbers : Addr
  fd_are_numbers : FuncData
  f_require_calendar : Addr
  fd_require_calendar : FuncData
  f_is_entries : Addr
  fd_is_entries : FuncData
  f_is_row_of : Addr
  fd_is_row_of : FuncData
  f_require_rows : Addr
  fd_require_rows : FuncData
  f_require_beginning : Addr
  fd_require_beginning : FuncData
  f_is_allowed_row : Addr
  fd_is_allowed_row : FuncData
  f_require_plan : Addr
  fd_require_plan : FuncData
  f_check_plan : Addr
  fd_check_plan : FuncData
  f_levels_behind : Addr
  fd_levels_behind : FuncData
  f_group : Addr
  fd_group : FuncData
  f_tests_behind : Addr
  fd_tests_behind : FuncData
  f_tests : Addr
  fd_tests : FuncData
  f_tight_ends : Addr
  fd_tight_ends : FuncData
  f_tightened : Addr
  fd_tightened : FuncData
  f_law_mix : Addr
  fd_law_mix : FuncData
  f_law_source : Addr
  fd_law_source : FuncData
  f_law_draw : Addr
  fd_law_draw : FuncData
  f_law_calendar : Addr
  fd_law_calendar : FuncData
  f_law_is_allowed : Addr
  fd_law_is_allowed : FuncData
  f_law_rows : Addr
  fd_law_rows : FuncData
  f_law_levels : Addr
  fd_law_levels : FuncData
  f_law_tight : Addr
  fd_law_tight : FuncData
  f_law_groups_right : Addr
  fd_law_groups_right : FuncData
  f_law_is_right : Addr
  fd_law_is_right : FuncData
  f_law_calendar_right : Addr
  fd_law_calendar_right : FuncData
  f_law : Addr
  fd_law : FuncData
  t_MAX_DAYS : Tok
  t_MAX_LEVELS : Tok
  t_MAX_OWNED : Tok
structure Tx (K : PySem.W.Frag) (mg : Str → Option Value) (A : Ad) : Prop where
  F_is_integer : Fun K "is_integer" "is_integer" s_is_integer A.f_is_integer A.fd_is_integer
  b_is_integer : Binds K A.fd_is_integer ["value"] []
  g_is_integer : mg "is_integer" = some (.ref A.f_is_integer)
  F_is_at_least : Fun K "is_at_least" "is_at_least" s_is_at_least A.f_is_at_least A.fd_is_at_least
  b_is_at_least : Binds K A.fd_is_at_least ["value", "low"] []
  g_is_at_least : mg "is_at_least" = some (.ref A.f_is_at_least)
  F_is_between : Fun K "is_between" "is_between" s_is_between A.f_is_between A.fd_is_between
  b_is_between : Binds K A.fd_is_between ["value", "low", "high"] []
  g_is_between : mg "is_between" = some (.ref A.f_is_between)
  F_is_day : Fun K "is_day" "is_day" s_is_day A.f_is_day A.fd_is_day
  b_is_day : Binds K A.fd_is_day ["value", "day"] []
  g_is_day : mg "is_day" = some (.ref A.f_is_day)
  F_are_numbers : Fun K "are_numbers" "are_numbers" s_are_numbers A.f_are_numbers A.fd_are_numbers
  b_are_numbers : Binds K A.fd_are_numbers ["value"] []
  g_are_numbers : mg "are_numbers" = some (.ref A.f_are_numbers)
  F_require_calendar : Fun K "require_calendar" "require_calendar" s_require_calendar A.f_require_calendar A.fd_require_calendar
  b_require_calendar : Binds K A.fd_require_calendar ["calendar"] []
  g_require_calendar : mg "require_calendar" = some (.ref A.f_require_calendar)
  F_is_entries : Fun K "is_entries" "is_entries" s_is_entries A.f_is_entries A.fd_is_entries
  b_is_entries : Binds K A.fd_is_entries ["value"] []
  g_is_entries : mg "is_entries" = some (.ref A.f_is_entries)
  F_is_row_of : Fun K "is_row_of" "is_row_of" s_is_row_of A.f_is_row_of A.fd_is_row_of
  b_is_row_of : Binds K A.fd_is_row_of ["value", "days"] []
  g_is_row_of : mg "is_row_of" = some (.ref A.f_is_row_of)
  F_require_rows : Fun K "require_rows" "require_rows" s_require_rows A.f_require_rows A.fd_require_rows
  b_require_rows : Binds K A.fd_require_rows ["plan"] []
  g_require_rows : mg "require_rows" = some (.ref A.f_require_rows)
  F_require_beginning : Fun K "require_beginning" "require_beginning" s_require_beginning A.f_require_beginning A.fd_require_beginning
  b_require_beginning : Binds K A.fd_require_beginning ["plan", "past"] []
  g_require_beginning : mg "require_beginning" = some (.ref A.f_require_beginning)
  F_is_allowed_row : Fun K "is_allowed_row" "is_allowed_row" s_is_allowed_row A.f_is_allowed_row A.fd_is_allowed_row
  b_is_allowed_row : Binds K A.fd_is_allowed_row ["calendar", "row"] []
  g_is_allowed_row : mg "is_allowed_row" = some (.ref A.f_is_allowed_row)
  F_require_plan : Fun K "require_plan" "require_plan" s_require_plan A.f_require_plan A.fd_require_plan
  b_require_plan : Binds K A.fd_require_plan ["calendar", "plan"] []
  g_require_plan : mg "require_plan" = some (.ref A.f_require_plan)
  F_check_plan : Fun K "check_plan" "check_plan" s_check_plan A.f_check_plan A.fd_check_plan
  b_check_plan : Binds K A.fd_check_plan ["calendar", "plan"] []
  g_check_plan : mg "check_plan" = some (.ref A.f_check_plan)
  F_levels_behind : Fun K "levels_behind" "levels_behind" s_levels_behind A.f_levels_behind A.fd_levels_behind
  b_levels_behind : Binds K A.fd_levels_behind ["plan", "past"] []
  g_levels_behind : mg "levels_behind" = some (.ref A.f_levels_behind)
  F_group : Fun K "group" "group" s_group A.f_group A.fd_group
  b_group : Binds K A.fd_group ["plan", "past"] []
  g_group : mg "group" = some (.ref A.f_group)
  F_tests_behind : Fun K "tests_behind" "tests_behind" s_tests_behind A.f_tests_behind A.fd_tests_behind
  b_tests_behind : Binds K A.fd_tests_behind ["plan", "past"] []
  g_tests_behind : mg "tests_behind" = some (.ref A.f_tests_behind)
  F_tests : Fun K "tests" "tests" s_tests A.f_tests A.fd_tests
  b_tests : Binds K A.fd_tests ["plan", "past"] []
  g_tests : mg "tests" = some (.ref A.f_tests)
  F_tight_ends : Fun K "tight_ends" "tight_ends" s_tight_ends A.f_tight_ends A.fd_tight_ends
  b_tight_ends : Binds K A.fd_tight_ends ["rows", "day"] []
  g_tight_ends : mg "tight_ends" = some (.ref A.f_tight_ends)
  F_tightened : Fun K "tightened" "tightened" s_tightened A.f_tightened A.fd_tightened
  b_tightened : Binds K A.fd_tightened ["plan"] []
  g_tightened : mg "tightened" = some (.ref A.f_tightened)
  F_law_mix : Fun K "_law_mix" "_law_mix" s_law_mix A.f_law_mix A.fd_law_mix
  b_law_mix : Binds K A.fd_law_mix ["_law_cell", "_law_turn"] []
  g_law_mix : mg "_law_mix" = some (.ref A.f_law_mix)
  F_law_source : Fun K "_law_source" "_law_source" s_law_source A.f_law_source A.fd_law_source
  b_law_source : Binds K A.fd_law_source ["_law_cell"] []
  g_law_source : mg "_law_source" = some (.ref A.f_law_source)
  F_law_draw : Fun K "_law_draw" "_law_draw" s_law_draw A.f_law_draw A.fd_law_draw
  b_law_draw : Binds K A.fd_law_draw ["_law_source_here", "_law_limit"] []
  g_law_draw : mg "_law_draw" = some (.ref A.f_law_draw)
  F_law_calendar : Fun K "_law_calendar" "_law_calendar" s_law_calendar A.f_law_calendar A.fd_law_calendar
  b_law_calendar : Binds K A.fd_law_calendar ["_law_source_here", "_law_days", "_law_most"] []
  g_law_calendar : mg "_law_calendar" = some (.ref A.f_law_calendar)
  F_law_is_allowed : Fun K "_law_is_allowed" "_law_is_allowed" s_law_is_allowed A.f_law_is_allowed A.fd_law_is_allowed
  b_law_is_allowed : Binds K A.fd_law_is_allowed ["_law_calendar_here", "_law_row"] []
  g_law_is_allowed : mg "_law_is_allowed" = some (.ref A.f_law_is_allowed)
  F_law_rows : Fun K "_law_rows" "_law_rows" s_law_rows A.f_law_rows A.fd_law_rows
  b_law_rows : Binds K A.fd_law_rows ["_law_source_here", "_law_days", "_law_many"] []
  g_law_rows : mg "_law_rows" = some (.ref A.f_law_rows)
  F_law_levels : Fun K "_law_levels" "_law_levels" s_law_levels A.f_law_levels A.fd_law_levels
  b_law_levels : Binds K A.fd_law_levels ["_law_plan", "_law_past"] []
  g_law_levels : mg "_law_levels" = some (.ref A.f_law_levels)
  F_law_tight : Fun K "_law_tight" "_law_tight" s_law_tight A.f_law_tight A.fd_law_tight
  b_law_tight : Binds K A.fd_law_tight ["_law_plan"] []
  g_law_tight : mg "_law_tight" = some (.ref A.f_law_tight)
  F_law_groups_right : Fun K "_law_groups_right" "_law_groups_right" s_law_groups_right A.f_law_groups_right A.fd_law_groups_right
  b_law_groups_right : Binds K A.fd_law_groups_right ["_law_source_here", "_law_plan", "_law_told"] []
  g_law_groups_right : mg "_law_groups_right" = some (.ref A.f_law_groups_right)
  F_law_is_right : Fun K "_law_is_right" "_law_is_right" s_law_is_right A.f_law_is_right A.fd_law_is_right
  b_law_is_right : Binds K A.fd_law_is_right ["_law_source_here"] []
  g_law_is_right : mg "_law_is_right" = some (.ref A.f_law_is_right)
  F_law_calendar_right : Fun K "_law_calendar_right" "_law_calendar_right" s_law_calendar_right A.f_law_calendar_right A.fd_law_calendar_right
  b_law_calendar_right : Binds K A.fd_law_calendar_right ["_law_source_here"] []
  g_law_calendar_right : mg "_law_calendar_right" = some (.ref A.f_law_calendar_right)
  F_law : Fun K "law" "law" s_law A.f_law A.fd_law
  b_law : Binds K A.fd_law ["_law_script"] []
  g_law : mg "law" = some (.ref A.f_law)
  m_abs : mg "abs" = none
  m_all : mg "all" = none
  m_bool : mg "bool" = none
  m_enumerate : mg "enumerate" = none
  m_int : mg "int" = none
  m_isinstance : mg "isinstance" = none
  m_len : mg "len" = none
  m_list : mg "list" = none
  m_range : mg "range" = none
  m_repr : mg "repr" = none
  m_set : mg "set" = none
  m_sorted : mg "sorted" = none
  m_tuple : mg "tuple" = none
  m_zip : mg "zip" = none
  c_MAX_DAYS : mg "MAX_DAYS" = some (.int 100 A.t_MAX_DAYS)
  c_MAX_LEVELS : mg "MAX_LEVELS" = some (.int 1000 A.t_MAX_LEVELS)
  c_MAX_OWNED : mg "MAX_OWNED" = some (.int 12 A.t_MAX_OWNED)
/-! ### each def computes its function -/
section
variable {P : Program} {w : World} {K : PySem.W.Frag} {mg : Str → Option Value} {base : Heap} {C : CT} {A : Ad}
set_option maxHeartbeats 4000000 in
theorem ok_is_integer (T : Tx K mg A) : FnQ P w K mg base C 2 A.f_is_integer A.fd_is_integer ["value"] F_is_integer := by
  refine fq_of T.F_is_integer sc_is_integer fun cdv A' outer s H E hr hgu => ?_
  exact qss_one (qs_ret (qe_and (qe_isi rfl T.m_isinstance rfl T.m_int (by decide +kernel) (qe_v 0)) (qe_one (qe_not (qe_isi rfl T.m_isinstance rfl T.m_bool (by decide +kernel) (qe_v 0))))))
set_option maxHeartbeats 4000000 in
theorem ok_is_at_least (T : Tx K mg A) : FnQ P w K mg base C 3 A.f_is_at_least A.fd_is_at_least ["value", "low"] F_is_at_least := by
  have c_is_integer := ok_is_integer (P := P) (w := w) (base := base) (C := C) T
  refine fq_of T.F_is_at_least sc_is_at_least fun cdv A' outer s H E hr hgu => ?_
  exact qss_one (qs_ret (qe_and (qe_call c_is_integer (hr.mono (by decide)) hgu (takes_of rfl rfl rfl rfl) rfl T.g_is_integer T.F_is_integer.kp T.b_is_integer (qa_cons (qe_v 0) (qa_nil))) (qe_one (qe_cmp op_ge ok_ge (qe_v 0) (qe_v 1) rfl))))
set_option maxHeartbeats 4000000 in
theorem ok_is_between (T : Tx K mg A) : FnQ P w K mg base C 3 A.f_is_between A.fd_is_between ["value", "low", "high"] F_is_between := by
  have c_is_integer := ok_is_integer (P := P) (w := w) (base := base) (C := C) T
  refine fq_of T.F_is_between sc_is_between fun cdv A' outer s H E hr hgu => ?_
  exact qss_one (qs_ret (qe_and (qe_call c_is_integer (hr.mono (by decide)) hgu (takes_of rfl rfl rfl rfl) rfl T.g_is_integer T.F_is_integer.kp T.b_is_integer (qa_cons (qe_v 0) (qa_nil))) (qe_one (qe_chain op_le ok_le op_le ok_le (qe_v 1) (qe_v 0) (qe_v 2)))))
set_option maxHeartbeats 4000000 in
theorem ok_is_day (T : Tx K mg A) : FnQ P w K mg base C 4 A.f_is_day A.fd_is_day ["value", "day"] F_is_day := by
  have c_is_at_least := ok_is_at_least (P := P) (w := w) (base := base) (C := C) T
  have c_is_between := ok_is_between (P := P) (w := w) (base := base) (C := C) T
  refine fq_of T.F_is_day sc_is_day fun cdv A' outer s H E hr hgu => ?_
  exact qss_cons (qs_if (qt_of (qw_or (qt_not (qt_val (qe_isi rfl T.m_isinstance rfl T.m_tuple (by decide +kernel) (qe_v 0)))) (qw_or (qt_cmp (op_neA hr.units) ok_neA (qe_callB call_len (.of1 ok_len) rfl T.m_len (by decide +kernel) (qa_cons (qe_v 0) (qa_nil))) (qe_int) rfl) (qw_or1 (qt_not (qt_val (qe_call c_is_between (hr.mono (by decide)) hgu (takes_of rfl rfl rfl rfl) rfl T.g_is_between T.F_is_between.kp T.b_is_between (qa_cons (qe_ix ix_A ok_ix (qe_v 0) (qe_int)) (qa_cons (qe_int) (qa_cons (qe_gint rfl T.c_MAX_OWNED) (qa_nil))))))))))) (qss_one (qs_ret (qe_bl))) (qss_nil)) (qss_one (qs_ret (qe_or (qe_cmp op_isN ok_isN (qe_ix ix_A ok_ix (qe_v 0) (qe_int)) (qe_non) rfl) (qe_one (qe_call c_is_at_least (hr.mono (by decide)) hgu (takes_of rfl rfl rfl rfl) rfl T.g_is_at_least T.F_is_at_least.kp T.b_is_at_least (qa_cons (qe_ix ix_A ok_ix (qe_v 0) (qe_int)) (qa_cons (qe_bin op_addA ok_add (qe_v 1) (qe_int)) (qa_nil))))))))
set_option maxHeartbeats 4000000 in
theorem ok_are_numbers (T : Tx K mg A) : FnQ P w K mg base C 4 A.f_are_numbers A.fd_are_numbers ["value"] F_are_numbers := by
  have c_is_at_least := ok_is_at_least (P := P) (w := w) (base := base) (C := C) T
  refine fq_of T.F_are_numbers sc_are_numbers fun cdv A' outer s H E hr hgu => ?_
  exact qss_one (qs_ret (qe_and (qe_isi rfl T.m_isinstance rfl T.m_tuple (by decide +kernel) (qe_v 0)) (qe_one (qe_callB (cr_all rfl) (.of1 ok_all) rfl T.m_all (by decide +kernel) (qa_cons (qe_lc rfl sc_are_numbers.nd (qi_seq (qe_v 0)) (blkOk_by (N := ["value", "entry"]) (sc := defScope s_are_numbers) (own := [("entry", 1)]) (by decide +kernel)) (fun _ _ _ _ _ => qg_name 1 sc_are_numbers.nd) (fun _ _ _ _ _ => qts_nil) (fun _ _ _ _ _ => qe_call c_is_at_least (hr.mono (by decide)) hgu takes_no rfl T.g_is_at_least T.F_is_at_least.kp T.b_is_at_least (qa_cons (qe_v 1) (qa_cons (qe_int) (qa_nil))))) (qa_nil))))))
set_option maxHeartbeats 4000000 in
theorem ok_require_calendar (T : Tx K mg A) : FnQ P w K mg base C 5 A.f_require_calendar A.fd_require_calendar ["calendar"] F_require_calendar := by
  have c_is_day := ok_is_day (P := P) (w := w) (base := base) (C := C) T
  refine fq_of T.F_require_calendar sc_require_calendar fun cdv A' outer s H E hr hgu => ?_
  exact qss_cons (qs_if (qt_of (qw_or (qt_not (qt_val (qe_isi2 rfl T.m_isinstance rfl T.m_list (by decide +kernel) rfl T.m_tuple (by decide +kernel) (qe_v 0)))) (qw_or1 (qt_cmp op_gt ok_gt (qe_callB call_len (.of1 ok_len) rfl T.m_len (by decide +kernel) (qa_cons (qe_v 0) (qa_nil))) (qe_gint rfl T.c_MAX_DAYS) rfl)))) (qss_never) (qss_nil)) (qss_one (qs_forget [1, 2] (qs_pre [1, 2] (qs_for (passes_of rfl) rfl (qi_enum rfl T.m_enumerate (qe_v 0)) (qg_tup rfl (qgs_cons (qg_name 1 sc_require_calendar.nd) (qgs_cons (qg_name 2 sc_require_calendar.nd) (qgs_nil))) (hlen := len_cons (len_cons (len_nil)))) (qss_one (qs_forget [1, 2] (qs_if (qt_not (qt_val (qe_call c_is_day (hr.mono (by decide)) hgu (takes_of rfl rfl rfl rfl) rfl T.g_is_day T.F_is_day.kp T.b_is_day (qa_cons (qe_v 2) (qa_cons (qe_bin op_addA ok_add (qe_v 1) (qe_int)) (qa_nil)))))) (qss_never) (qss_nil))))))))
set_option maxHeartbeats 4000000 in
theorem ok_is_entries (T : Tx K mg A) : FnQ P w K mg base C 2 A.f_is_entries A.fd_is_entries ["value"] F_is_entries := by
  refine fq_of T.F_is_entries sc_is_entries fun cdv A' outer s H E hr hgu => ?_
  exact qss_one (qs_ret (qe_and (qe_isi2 rfl T.m_isinstance rfl T.m_list (by decide +kernel) rfl T.m_tuple (by decide +kernel) (qe_v 0)) (qe_one (qe_chain op_le ok_le op_le ok_le (qe_int) (qe_callB call_len (.of1 ok_len) rfl T.m_len (by decide +kernel) (qa_cons (qe_v 0) (qa_nil))) (qe_gint rfl T.c_MAX_LEVELS)))))
set_option maxHeartbeats 4000000 in
theorem ok_is_row_of (T : Tx K mg A) : FnQ P w K mg base C 4 A.f_is_row_of A.fd_is_row_of ["value", "days"] F_is_row_of := by
  have c_is_between := ok_is_between (P := P) (w := w) (base := base) (C := C) T
  refine fq_of T.F_is_row_of sc_is_row_of fun cdv A' outer s H E hr hgu => ?_
  exact qss_cons (qs_if (qt_of (qw_or (qt_not (qt_val (qe_isi rfl T.m_isinstance rfl T.m_tuple (by decide +kernel) (qe_v 0)))) (qw_or1 (qt_cmp (op_neA hr.units) ok_neA (qe_callB call_len (.of1 ok_len) rfl T.m_len (by decide +kernel) (qa_cons (qe_v 0) (qa_nil))) (qe_v 1) rfl)))) (qss_one (qs_ret (qe_bl))) (qss_nil)) (qss_one (qs_ret (qe_callB (cr_all rfl) (.of1 ok_all) rfl T.m_all (by decide +kernel) (qa_cons (qe_lc rfl sc_is_row_of.nd (qi_seq (qe_v 0)) (blkOk_by (N := ["value", "days", "entry"]) (sc := defScope s_is_row_of) (own := [("entry", 2)]) (by decide +kernel)) (fun _ _ _ _ _ => qg_name 2 sc_is_row_of.nd) (fun _ _ _ _ _ => qts_nil) (fun _ _ _ _ _ => qe_call c_is_between (hr.mono (by decide)) hgu takes_no rfl T.g_is_between T.F_is_between.kp T.b_is_between (qa_cons (qe_v 2) (qa_cons (qe_int) (qa_cons (qe_gint rfl T.c_MAX_OWNED) (qa_nil)))))) (qa_nil)))))
set_option maxHeartbeats 4000000 in
theorem ok_require_rows (T : Tx K mg A) : FnQ P w K mg base C 5 A.f_require_rows A.fd_require_rows ["plan"] F_require_rows := by
  have c_is_entries := ok_is_entries (P := P) (w := w) (base := base) (C := C) T
  have c_is_row_of := ok_is_row_of (P := P) (w := w) (base := base) (C := C) T
  refine fq_of T.F_require_rows sc_require_rows fun cdv A' outer s H E hr hgu => ?_
  exact qss_cons (qs_if (qt_not (qt_val (qe_call c_is_entries (hr.mono (by decide)) hgu (takes_of rfl rfl rfl rfl) rfl T.g_is_entries T.F_is_entries.kp T.b_is_entries (qa_cons (qe_v 0) (qa_nil))))) (qss_never) (qss_nil)) (qss_cons (qs_asg (qe_if (qt_of (qw_and (qt_val (qe_isi rfl T.m_isinstance rfl T.m_tuple (by decide +kernel) (qe_ix ix_A ok_ix (qe_v 0) (qe_int)))) (qw_and1 (qt_cmp op_le ok_le (qe_callB call_len (.of1 ok_len) rfl T.m_len (by decide +kernel) (qa_cons (qe_ix ix_A ok_ix (qe_v 0) (qe_int)) (qa_nil))) (qe_gint rfl T.c_MAX_DAYS) rfl)))) (qe_callB call_len (.of1 ok_len) rfl T.m_len (by decide +kernel) (qa_cons (qe_ix ix_A ok_ix (qe_v 0) (qe_int)) (qa_nil))) (qe_un un_neg ok_neg (qe_int))) (qg_name 1 sc_require_rows.nd)) (qss_one (qs_forget [2, 3] (qs_pre [2, 3] (qs_forJ (passes_of rfl) rfl (qj_enum rfl T.m_enumerate (qe_v 0)) (qg_tup rfl (qgs_cons (qg_name 2 sc_require_rows.nd) (qgs_cons (qg_name 3 sc_require_rows.nd) (qgs_nil))) (hlen := len_cons (len_cons (len_nil)))) (qss_one (qs_forget [2, 3] (qs_if (qt_of (qw_or (qt_not (qt_val (qe_call c_is_row_of (hr.mono (by decide)) hgu (takes_of rfl rfl rfl rfl) rfl T.g_is_row_of T.F_is_row_of.kp T.b_is_row_of (qa_cons (qe_v 3) (qa_cons (qe_v 1) (qa_nil)))))) (qw_or1 (qt_of (qw_and (qt_cmp (op_gtA (units65 hr)) ok_gtA (qe_v 2) (qe_int) rfl) (qw_and1 (qt_cmp (op_geA hr.units0) ok_geA (qe_v 3) (qe_ix ix_A ok_ix (qe_v 0) (qe_bin op_sub ok_sub (qe_v 2) (qe_int))) rfl))))))) (qss_never) (qss_nil)))))))))
set_option maxHeartbeats 4000000 in
theorem ok_require_beginning (T : Tx K mg A) : FnQ P w K mg base C 5 A.f_require_beginning A.fd_require_beginning ["plan", "past"] F_require_beginning := by
  have c_are_numbers := ok_are_numbers (P := P) (w := w) (base := base) (C := C) T
  refine fq_of T.F_require_beginning sc_require_beginning fun cdv A' outer s H E hr hgu => ?_
  exact qss_one (qs_if (qt_of (qw_or (qt_not (qt_val (qe_call c_are_numbers (hr.mono (by decide)) hgu (takes_of rfl rfl rfl rfl) rfl T.g_are_numbers T.F_are_numbers.kp T.b_are_numbers (qa_cons (qe_v 1) (qa_nil))))) (qw_or1 (qt_cmp op_gt ok_gt (qe_callB call_len (.of1 ok_len) rfl T.m_len (by decide +kernel) (qa_cons (qe_v 1) (qa_nil))) (qe_callB call_len (.of1 ok_len) rfl T.m_len (by decide +kernel) (qa_cons (qe_ix ix_A ok_ix (qe_v 0) (qe_int)) (qa_nil))) rfl)))) (qss_never) (qss_nil))
set_option maxHeartbeats 4000000 in
theorem ok_is_allowed_row (T : Tx K mg A) : FnQ P w K mg base C 2 A.f_is_allowed_row A.fd_is_allowed_row ["calendar", "row"] F_is_allowed_row := by
  refine fq_of T.F_is_allowed_row sc_is_allowed_row fun cdv A' outer s H E hr hgu => ?_
  exact qss_cons (qs_par2 2 3 rfl sc_is_allowed_row.nd (qa_cons (qe_dki0O) (qa_cons (qe_int) (qa_nil)))) (qss_cons (qs_forget [3, 4, 5, 6, 7] (qs_pre [4, 5, 6, 7] (qs_for (passes_of rfl) rfl (qi_enumZ rfl T.m_enumerate rfl T.m_zip (qe_v 0) (qe_v 1)) (qg_tup rfl (qgs_cons (qg_name 4 sc_is_allowed_row.nd) (qgs_cons (qg_tup rfl (qgs_cons (qg_tup rfl (qgs_cons (qg_name 5 sc_is_allowed_row.nd) (qgs_cons (qg_name 6 sc_is_allowed_row.nd) (qgs_nil))) (hlen := len_cons (len_cons (len_nil)))) (qgs_cons (qg_name 7 sc_is_allowed_row.nd) (qgs_nil))) (hlen := len_cons (len_cons (len_nil)))) (qgs_nil))) (hlen := len_cons (len_cons (len_nil)))) (qss_cons (qs_aug 3 sc_is_allowed_row.nd ip_sub (qe_getK (room6 hr) (qe_v 2) (qe_v 4) (qe_int))) (qss_cons (qs_if (qt_cmp op_gt ok_gt (qe_bin op_addA ok_add (qe_v 3) (qe_v 7)) (qe_v 5) rfl) (qss_one (qs_ret (qe_bl))) (qss_nil)) (qss_cons (qs_aug 3 sc_is_allowed_row.nd ip_add (qe_v 7)) (qss_one (qs_forget [4, 5, 6, 7] (qs_if (qt_cmp op_notN ok_notN (qe_v 6) (qe_non) rfl) (qss_one (qs_setX (room8 hr) (qe_bin op_addA ok_add (qe_getK (room6 hr) (qe_v 2) (qe_v 6) (qe_int)) (qe_v 7)) (qe_v 2) (qe_v 6))) (qss_nil)))))))))) (qss_one (qs_ret (qe_bl))))
set_option maxHeartbeats 4000000 in
theorem ok_require_plan (T : Tx K mg A) : FnQ P w K mg base C 5 A.f_require_plan A.fd_require_plan ["calendar", "plan"] F_require_plan := by
  have c_is_allowed_row := ok_is_allowed_row (P := P) (w := w) (base := base) (C := C) T
  have c_is_entries := ok_is_entries (P := P) (w := w) (base := base) (C := C) T
  have c_is_row_of := ok_is_row_of (P := P) (w := w) (base := base) (C := C) T
  refine fq_of T.F_require_plan sc_require_plan fun cdv A' outer s H E hr hgu => ?_
  exact qss_cons (qs_if (qt_not (qt_val (qe_call c_is_entries (hr.mono (by decide)) hgu (takes_of rfl rfl rfl rfl) rfl T.g_is_entries T.F_is_entries.kp T.b_is_entries (qa_cons (qe_v 1) (qa_nil))))) (qss_never) (qss_nil)) (qss_one (qs_forget [2, 3] (qs_pre [2, 3] (qs_forJ (passes_of rfl) rfl (qj_enum rfl T.m_enumerate (qe_v 1)) (qg_tup rfl (qgs_cons (qg_name 2 sc_require_plan.nd) (qgs_cons (qg_name 3 sc_require_plan.nd) (qgs_nil))) (hlen := len_cons (len_cons (len_nil)))) (qss_cons (qs_if (qt_of (qw_or (qt_not (qt_val (qe_call c_is_row_of (hr.mono (by decide)) hgu (takes_of rfl rfl rfl rfl) rfl T.g_is_row_of T.F_is_row_of.kp T.b_is_row_of (qa_cons (qe_v 3) (qa_cons (qe_callB call_len (.of1 ok_len) rfl T.m_len (by decide +kernel) (qa_cons (qe_v 0) (qa_nil))) (qa_nil)))))) (qw_or1 (qt_not (qt_val (qe_call c_is_allowed_row (hr.mono (by decide)) hgu (takes_of rfl rfl rfl rfl) rfl T.g_is_allowed_row T.F_is_allowed_row.kp T.b_is_allowed_row (qa_cons (qe_v 0) (qa_cons (qe_v 3) (qa_nil))))))))) (qss_never) (qss_nil)) (qss_one (qs_forget [2, 3] (qs_if (qt_of (qw_and (qt_cmp (op_gtA (units65 hr)) ok_gtA (qe_v 2) (qe_int) rfl) (qw_and1 (qt_cmp (op_geA hr.units0) ok_geA (qe_v 3) (qe_ix ix_A ok_ix (qe_v 1) (qe_bin op_sub ok_sub (qe_v 2) (qe_int))) rfl)))) (qss_never) (qss_nil)))))))))
set_option maxHeartbeats 4000000 in
theorem ok_check_plan (T : Tx K mg A) : FnQ P w K mg base C 6 A.f_check_plan A.fd_check_plan ["calendar", "plan"] F_check_plan := by
  have c_require_calendar := ok_require_calendar (P := P) (w := w) (base := base) (C := C) T
  have c_require_plan := ok_require_plan (P := P) (w := w) (base := base) (C := C) T
  refine fq_of T.F_check_plan sc_check_plan fun cdv A' outer s H E hr hgu => ?_
  exact qss_cons (qs_expr (qe_call c_require_calendar (hr.mono (by decide)) hgu (takes_of rfl rfl rfl rfl) rfl T.g_require_calendar T.F_require_calendar.kp T.b_require_calendar (qa_cons (qe_v 0) (qa_nil)))) (qss_one (qs_expr (qe_call c_require_plan (hr.mono (by decide)) hgu (takes_of rfl rfl rfl rfl) rfl T.g_require_plan T.F_require_plan.kp T.b_require_plan (qa_cons (qe_v 0) (qa_cons (qe_v 1) (qa_nil))))))
set_option maxHeartbeats 4000000 in
theorem ok_levels_behind (T : Tx K mg A) : FnQ P w K mg base C 2 A.f_levels_behind A.fd_levels_behind ["plan", "past"] F_levels_behind := by
  refine fq_of T.F_levels_behind sc_levels_behind fun cdv A' outer s H E hr hgu => ?_
  exact qss_one (qs_ret (qe_lcK rfl sc_levels_behind.nd (qj_enum rfl T.m_enumerate (qe_v 0)) (blkOk_by (N := ["plan", "past", "level", "row"]) (sc := defScope s_levels_behind) (own := [("level", 2), ("row", 3)]) (by decide +kernel)) (fun _ _ _ _ _ => qg_tup rfl (qgs_cons (qg_name 2 sc_levels_behind.nd) (qgs_cons (qg_name 3 sc_levels_behind.nd) (qgs_nil))) (hlen := len_cons (len_cons (len_nil)))) (fun _ _ _ _ _ => qts_one (qt_cmp (op_eqA hr.units) ok_eqA (qe_slice (qe_v 3) (qo_none) (qo_some (qe_callB call_len (.of1 ok_len) rfl T.m_len (by decide +kernel) (qa_cons (qe_v 1) (qa_nil))))) (qe_v 1) rfl)) (fun _ _ _ _ _ => qe_v 2)))
set_option maxHeartbeats 4000000 in
theorem ok_group (T : Tx K mg A) : FnQ P w K mg base C 6 A.f_group A.fd_group ["plan", "past"] F_group := by
  have c_levels_behind := ok_levels_behind (P := P) (w := w) (base := base) (C := C) T
  have c_require_beginning := ok_require_beginning (P := P) (w := w) (base := base) (C := C) T
  have c_require_rows := ok_require_rows (P := P) (w := w) (base := base) (C := C) T
  refine fq_of T.F_group sc_group fun cdv A' outer s H E hr hgu => ?_
  exact qss_cons (qs_expr (qe_call c_require_rows (hr.mono (by decide)) hgu (takes_of rfl rfl rfl rfl) rfl T.g_require_rows T.F_require_rows.kp T.b_require_rows (qa_cons (qe_v 0) (qa_nil)))) (qss_cons (qs_expr (qe_call c_require_beginning (hr.mono (by decide)) hgu (takes_of rfl rfl rfl rfl) rfl T.g_require_beginning T.F_require_beginning.kp T.b_require_beginning (qa_cons (qe_v 0) (qa_cons (qe_v 1) (qa_nil))))) (qss_cons (qs_asg (qe_call c_levels_behind (hr.mono (by decide)) hgu (takes_of rfl rfl rfl rfl) rfl T.g_levels_behind T.F_levels_behind.kp T.b_levels_behind (qa_cons (qe_v 0) (qa_cons (qe_v 1) (qa_nil)))) (qg_name 2 sc_group.nd)) (qss_one (qs_ret (qe_if (qt_cmp (op_neA hr.units) ok_neA (qe_v 2) (qe_lst (qa_nil)) rfl) (qe_tup (qa_cons (qe_ix ix_A ok_ix (qe_v 2) (qe_int)) (qa_cons (qe_ix ix_A ok_ix (qe_v 2) (qe_un un_neg ok_neg (qe_int))) (qa_nil)))) (qe_non))))))
set_option maxHeartbeats 4000000 in
theorem ok_tests_behind (T : Tx K mg A) : FnQ P w K mg base C 3 A.f_tests_behind A.fd_tests_behind ["plan", "past"] F_tests_behind := by
  have c_levels_behind := ok_levels_behind (P := P) (w := w) (base := base) (C := C) T
  refine fq_of T.F_tests_behind sc_tests_behind fun cdv A' outer s H E hr hgu => ?_
  exact qss_cons (qs_asg (qe_call c_levels_behind (hr.mono (by decide)) hgu (takes_of rfl rfl rfl rfl) rfl T.g_levels_behind T.F_levels_behind.kp T.b_levels_behind (qa_cons (qe_v 0) (qa_cons (qe_v 1) (qa_nil)))) (qg_name 2 sc_tests_behind.nd)) (qss_cons (qs_if (qt_cmp (op_eqA hr.units) ok_eqA (qe_v 2) (qe_lst (qa_nil)) rfl) (qss_one (qs_ret (qe_lst (qa_nil)))) (qss_nil)) (qss_cons (qs_asg (qe_lc rfl sc_tests_behind.nd (qi_seq (qe_v 2)) (blkOk_by (N := ["plan", "past", "found", "numbers", "level", "least", "number"]) (sc := defScope s_tests_behind) (own := [("level", 4)]) (by decide +kernel)) (fun _ _ _ _ _ => qg_name 4 sc_tests_behind.nd) (fun _ _ _ _ _ => qts_nil) (fun _ _ _ _ _ => qe_ix ix_A ok_ix (qe_ix ix_A ok_ix (qe_v 0) (qe_v 4)) (qe_callB call_len (.of1 ok_len) rfl T.m_len (by decide +kernel) (qa_cons (qe_v 1) (qa_nil))))) (qg_name 3 sc_tests_behind.nd)) (qss_one (qs_ret (qe_lc rfl sc_tests_behind.nd (qi_rng2 rfl T.m_range (qa_cons (qe_int) (qa_cons (qe_bin op_addA ok_add (qe_ix ix_A ok_ix (qe_v 3) (qe_int)) (qe_int)) (qa_nil)))) (blkOk_by (N := ["plan", "past", "found", "numbers", "level", "least", "number"]) (sc := defScope s_tests_behind) (own := [("least", 5)]) (by decide +kernel)) (fun _ _ _ _ _ => qg_name 5 sc_tests_behind.nd) (fun _ _ _ _ _ => qts_nil) (fun _ _ _ _ _ => qe_bin op_addA ok_add (qe_ix ix_A ok_ix (qe_v 2) (qe_int)) (qe_callB call_len (.of1 ok_len) rfl T.m_len (by decide +kernel) (qa_cons (qe_lc rfl sc_tests_behind.nd (qi_seq (qe_v 3)) (blkOk_by (N := ["plan", "past", "found", "numbers", "level", "least", "number"]) (sc := relS _ (defScope s_tests_behind)) (own := [("number", 6)]) (by decide +kernel)) (fun _ _ _ _ _ => qg_name 6 sc_tests_behind.nd) (fun _ _ _ _ _ => qts_one (qt_cmp op_ge ok_ge (qe_v 6) (qe_v 5) rfl)) (fun _ _ _ _ _ => qe_v 6)) (qa_nil)))))))))
set_option maxHeartbeats 4000000 in
theorem ok_tests (T : Tx K mg A) : FnQ P w K mg base C 6 A.f_tests A.fd_tests ["plan", "past"] F_tests := by
  have c_require_beginning := ok_require_beginning (P := P) (w := w) (base := base) (C := C) T
  have c_require_rows := ok_require_rows (P := P) (w := w) (base := base) (C := C) T
  have c_tests_behind := ok_tests_behind (P := P) (w := w) (base := base) (C := C) T
  refine fq_of T.F_tests sc_tests fun cdv A' outer s H E hr hgu => ?_
  exact qss_cons (qs_expr (qe_call c_require_rows (hr.mono (by decide)) hgu (takes_of rfl rfl rfl rfl) rfl T.g_require_rows T.F_require_rows.kp T.b_require_rows (qa_cons (qe_v 0) (qa_nil)))) (qss_cons (qs_expr (qe_call c_require_beginning (hr.mono (by decide)) hgu (takes_of rfl rfl rfl rfl) rfl T.g_require_beginning T.F_require_beginning.kp T.b_require_beginning (qa_cons (qe_v 0) (qa_cons (qe_v 1) (qa_nil))))) (qss_one (qs_ret (qe_if (qt_cmp op_lt ok_lt (qe_callB call_len (.of1 ok_len) rfl T.m_len (by decide +kernel) (qa_cons (qe_v 1) (qa_nil))) (qe_callB call_len (.of1 ok_len) rfl T.m_len (by decide +kernel) (qa_cons (qe_ix ix_A ok_ix (qe_v 0) (qe_int)) (qa_nil))) rfl) (qe_call c_tests_behind (hr.mono (by decide)) hgu (takes_of rfl rfl rfl rfl) rfl T.g_tests_behind T.F_tests_behind.kp T.b_tests_behind (qa_cons (qe_v 0) (qa_cons (qe_v 1) (qa_nil)))) (qe_lst (qa_nil))))))
set_option maxHeartbeats 4000000 in
theorem okR_tight_ends (T : Tx K mg A) : ∀ n : Nat, FnQ P w K mg base C (1 + n) A.f_tight_ends A.fd_tight_ends ["rows", "day"] (FR_tight_ends n 0) := by
  intro n
  induction n with
  | zero => exact fnQ_bad
  | succ n ih =>
    have c_tight_ends := ih
    refine ?_
    · refine FnQ.mono (j := 1 + n + 1) ?_ (by omega)
      refine fq_of T.F_tight_ends sc_tight_ends fun cdv A' outer s H E hr hgu => ?_
      exact qss_cons (qs_if (qt_cmp (op_eqA hr.units) ok_eqA (qe_callB call_len (.of1 ok_len) rfl T.m_len (by decide +kernel) (qa_cons (qe_v 0) (qa_nil))) (qe_int) rfl) (qss_one (qs_ret (qe_lstO (qa_cons (qe_bin op_mulT ok_mulT (qe_tup (qa_cons (qe_int) (qa_nil))) (qe_bin op_sub ok_sub (qe_callB call_len (.of1 ok_len) rfl T.m_len (by decide +kernel) (qa_cons (qe_ix ix_A ok_ix (qe_v 0) (qe_int)) (qa_nil))) (qe_v 1))) (qa_nil))))) (qss_nil)) (qss_cons (qs_asg (qe_sortSc (room7 hr) rfl T.m_sorted rfl sc_tight_ends.nd (qi_seq (qe_v 0)) (blkOk_by (N := ["rows", "day", "numbers", "found", "place", "part", "row", "end"]) (sc := defScope s_tight_ends) (own := [("row", 6)]) (by decide +kernel)) (fun _ _ _ _ _ => qg_name 6 sc_tight_ends.nd) (fun _ _ _ _ _ => qts_nil) (fun _ _ _ _ _ => qe_ix ix_A ok_ix (qe_v 6) (qe_v 1))) (qg_name 2 sc_tight_ends.nd)) (qss_cons (qs_asg (qe_lstO (qa_nil)) (qg_name 3 sc_tight_ends.nd)) (qss_cons (qs_forget [4, 5] (qs_pre [4, 5] (qs_for (passes_of rfl) rfl (qi_rng3 rfl T.m_range (qa_cons (qe_bin op_sub ok_sub (qe_callB call_len (.of1 ok_len) rfl T.m_len (by decide +kernel) (qa_cons (qe_v 2) (qa_nil))) (qe_int)) (qa_cons (qe_un un_neg ok_neg (qe_int)) (qa_cons (qe_un un_neg ok_neg (qe_int)) (qa_nil))))) (qg_name 4 sc_tight_ends.nd) (qss_cons (qs_lc (i := 5) rfl sc_tight_ends.nd rfl rfl (sw_true rfl rfl rfl (by decide +kernel)) (qi_seq (qe_v 0)) (blkOk_by (N := ["rows", "day", "numbers", "found", "place", "part", "row", "end"]) (sc := defScope s_tight_ends) (own := [("row", 6)]) (by decide +kernel)) (fun _ _ _ _ _ => qg_name 6 sc_tight_ends.nd) (fun _ _ _ _ _ => qts_one (qt_cmp (op_eqA hr.units) ok_eqA (qe_ix ix_A ok_ix (qe_v 6) (qe_v 1)) (qe_ix ix_A ok_ix (qe_v 2) (qe_v 4)) rfl)) (fun _ _ _ _ _ => qe_v 6)) (qss_one (qs_forget [4, 5] (qs_expr (qe_meth1 PySem.F.slot_list_extend PySem.F.type_list_extend mt_extendS ok_extend (qe_v 3) (qe_lc rfl sc_tight_ends.nd (qi_seq (qe_fz (qe_call c_tight_ends (hr.mono (by omega)) hgu (takes_of rfl rfl rfl rfl) rfl T.g_tight_ends T.F_tight_ends.kp T.b_tight_ends (qa_cons (qe_v 5) (qa_cons (qe_bin op_addA ok_add (qe_v 1) (qe_int)) (qa_nil)))))) (blkOk_by (N := ["rows", "day", "numbers", "found", "place", "part", "row", "end"]) (sc := defScope s_tight_ends) (own := [("end", 7)]) (by decide +kernel)) (fun _ _ _ _ _ => qg_name 7 sc_tight_ends.nd) (fun _ _ _ _ _ => qts_nil) (fun _ _ _ _ _ => qe_bin op_addA ok_add (qe_tup (qa_cons (qe_v 4) (qa_nil))) (qe_v 7))))))))))) (qss_one (qs_ret (qe_v 3))))))
theorem ok_tight_ends (T : Tx K mg A) : FnQ P w K mg base C 111 A.f_tight_ends A.fd_tight_ends ["rows", "day"] F_tight_ends := (okR_tight_ends T 110)
set_option maxHeartbeats 4000000 in
theorem ok_tightened (T : Tx K mg A) : FnQ P w K mg base C 112 A.f_tightened A.fd_tightened ["plan"] F_tightened := by
  have c_require_rows := ok_require_rows (P := P) (w := w) (base := base) (C := C) T
  have c_tight_ends := ok_tight_ends (P := P) (w := w) (base := base) (C := C) T
  refine fq_of T.F_tightened sc_tightened fun cdv A' outer s H E hr hgu => ?_
  exact qss_cons (qs_expr (qe_call c_require_rows (hr.mono (by decide)) hgu (takes_of rfl rfl rfl rfl) rfl T.g_require_rows T.F_require_rows.kp T.b_require_rows (qa_cons (qe_v 0) (qa_nil)))) (qss_one (qs_ret (qe_call c_tight_ends (hr.mono (by decide)) hgu (takes_of rfl rfl rfl rfl) rfl T.g_tight_ends T.F_tight_ends.kp T.b_tight_ends (qa_cons (qe_callTy (T := "") call_list_of (.of1 ok_list) rfl T.m_list (by decide +kernel) (qa_cons (qe_v 0) (qa_nil))) (qa_cons (qe_int) (qa_nil))))))
set_option maxHeartbeats 4000000 in
theorem ok_law_mix (T : Tx K mg A) : FnQ P w K mg base C 2 A.f_law_mix A.fd_law_mix ["_law_cell", "_law_turn"] F_law_mix := by
  refine fq_of T.F_law_mix sc_law_mix fun cdv A' outer s H E hr hgu => ?_
  exact qss_cons (qs_asg (qe_bin op_addA ok_add (qe_bin op_modP ok_mod (qe_v 0) (qe_int)) (qe_bin op_mulT ok_mulT (qe_bin op_modP ok_mod (qe_bin op_fdivW ok_fdiv (qe_v 0) (qe_int)) (qe_int)) (qe_int))) (qg_name 2 sc_law_mix.nd)) (qss_cons (qs_asg (qe_bin op_modP ok_mod (qe_bin op_mulT ok_mulT (qe_bin op_addA ok_add (qe_bin op_addA ok_add (qe_v 2) (qe_bin op_mulT ok_mulT (qe_int) (qe_v 1))) (qe_int)) (qe_int)) (qe_int)) (qg_name 2 sc_law_mix.nd)) (qss_cons (qs_asg (qe_bin op_modP ok_mod (qe_bin op_mulT ok_mulT (qe_v 2) (qe_bin op_addA ok_add (qe_bin op_addA ok_add (qe_bin op_fdivW ok_fdiv (qe_v 2) (qe_int)) (qe_int)) (qe_v 1))) (qe_int)) (qg_name 2 sc_law_mix.nd)) (qss_one (qs_ret (qe_bin op_modP ok_mod (qe_bin op_mulT ok_mulT (qe_v 2) (qe_bin op_addA ok_add (qe_bin op_fdivW ok_fdiv (qe_v 2) (qe_int)) (qe_int))) (qe_int))))))
set_option maxHeartbeats 4000000 in
theorem ok_law_source (T : Tx K mg A) : FnQ P w K mg base C 2 A.f_law_source A.fd_law_source ["_law_cell"] F_law_source := by
  refine fq_of T.F_law_source sc_law_source fun cdv A' outer s H E hr hgu => ?_
  exact qss_one (qs_ret (qe_lstO (qa_cons (qe_bin op_mulT ok_mulT (qe_callB call_abs (.of1 ok_abs) rfl T.m_abs (by decide +kernel) (qa_cons (qe_v 0) (qa_nil))) (qe_callTy (T := "") call_int1 (.of1 ok_int) rfl T.m_int (by decide +kernel) (qa_cons (qe_cmp op_ge ok_ge (qe_callB call_abs (.of1 ok_abs) rfl T.m_abs (by decide +kernel) (qa_cons (qe_v 0) (qa_nil))) (qe_bin op_pow ok_pow (qe_int) (qe_int)) rfl) (qa_nil)))) (qa_cons (qe_callB call_abs (.of1 ok_abs) rfl T.m_abs (by decide +kernel) (qa_cons (qe_v 0) (qa_nil))) (qa_cons (qe_int) (qa_nil))))))
set_option maxHeartbeats 4000000 in
theorem ok_law_draw (T : Tx K mg A) : FnQ P w K mg base C 3 A.f_law_draw A.fd_law_draw ["_law_source_here", "_law_limit"] F_law_draw := by
  have c_law_mix := ok_law_mix (P := P) (w := w) (base := base) (C := C) T
  refine fq_of T.F_law_draw sc_law_draw fun cdv A' outer s H E hr hgu => ?_
  exact qss_cons (qs_if (qt_cmp op_gt ok_gt (qe_ix ix_A ok_ix (qe_v 0) (qe_int)) (qe_int) rfl) (qss_cons (qs_asg (qe_bin op_modP ok_mod (qe_ix ix_A ok_ix (qe_v 0) (qe_int)) (qe_v 1)) (qg_name 2 sc_law_draw.nd)) (qss_cons (qs_setI (qe_bin op_fdivW ok_fdiv (qe_ix ix_A ok_ix (qe_v 0) (qe_int)) (qe_v 1)) (qe_v 0) (qe_int)) (qss_one (qs_ret (qe_v 2))))) (qss_nil)) (qss_cons (qs_setI (qe_bin op_addA ok_add (qe_ix ix_A ok_ix (qe_v 0) (qe_int)) (qe_int)) (qe_v 0) (qe_int)) (qss_one (qs_ret (qe_bin op_modP ok_mod (qe_call c_law_mix (hr.mono (by decide)) hgu (takes_of rfl rfl rfl rfl) rfl T.g_law_mix T.F_law_mix.kp T.b_law_mix (qa_cons (qe_ix ix_A ok_ix (qe_v 0) (qe_int)) (qa_cons (qe_ix ix_A ok_ix (qe_v 0) (qe_int)) (qa_nil)))) (qe_v 1)))))
set_option maxHeartbeats 4000000 in
theorem ok_law_calendar (T : Tx K mg A) : FnQ P w K mg base C 4 A.f_law_calendar A.fd_law_calendar ["_law_source_here", "_law_days", "_law_most"] F_law_calendar := by
  have c_law_draw := ok_law_draw (P := P) (w := w) (base := base) (C := C) T
  refine fq_of T.F_law_calendar sc_law_calendar fun cdv A' outer s H E hr hgu => ?_
  exact qss_cons (qs_asg (qe_lstO (qa_nil)) (qg_name 3 sc_law_calendar.nd)) (qss_cons (qs_fz 3 (qs_forget [4, 5] (qs_pre [4, 5] (qs_for (passes_of rfl) rfl (qi_rng2 rfl T.m_range (qa_cons (qe_int) (qa_cons (qe_bin op_addA ok_add (qe_v 1) (qe_int)) (qa_nil)))) (qg_name 4 sc_law_calendar.nd) (qss_cons (qs_asg (qe_bin op_addA ok_add (qe_bin op_addA ok_add (qe_v 4) (qe_int)) (qe_call c_law_draw (hr.mono (by decide)) hgu (takes_of rfl rfl rfl rfl) rfl T.g_law_draw T.F_law_draw.kp T.b_law_draw (qa_cons (qe_v 0) (qa_cons (qe_ix ix_A ok_ix (qe_lst (qa_cons (qe_int) (qa_cons (qe_int) (qa_cons (qe_int) (qa_nil))))) (qe_call c_law_draw (hr.mono (by decide)) hgu (takes_of rfl rfl rfl rfl) rfl T.g_law_draw T.F_law_draw.kp T.b_law_draw (qa_cons (qe_v 0) (qa_cons (qe_int) (qa_nil))))) (qa_nil))))) (qg_name 5 sc_law_calendar.nd)) (qss_cons (qs_if (qt_cmp (op_eqA hr.units) ok_eqA (qe_call c_law_draw (hr.mono (by decide)) hgu (takes_of rfl rfl rfl rfl) rfl T.g_law_draw T.F_law_draw.kp T.b_law_draw (qa_cons (qe_v 0) (qa_cons (qe_int) (qa_nil)))) (qe_int) rfl) (qss_one (qs_asg (qe_non) (qg_name 5 sc_law_calendar.nd))) (qss_nil)) (qss_one (qs_forget [4, 5] (qs_expr (qe_meth1 PySem.F.slot_list_append PySem.F.type_list_append mt_append ok_append (qe_v 3) (qe_tup (qa_cons (qe_call c_law_draw (hr.mono (by decide)) hgu (takes_of rfl rfl rfl rfl) rfl T.g_law_draw T.F_law_draw.kp T.b_law_draw (qa_cons (qe_v 0) (qa_cons (qe_bin op_addA ok_add (qe_v 2) (qe_int)) (qa_nil)))) (qa_cons (qe_v 5) (qa_nil)))))))))))))) (qss_one (qs_ret (qe_v 3))))
set_option maxHeartbeats 4000000 in
theorem ok_law_is_allowed (T : Tx K mg A) : FnQ P w K mg base C 2 A.f_law_is_allowed A.fd_law_is_allowed ["_law_calendar_here", "_law_row"] F_law_is_allowed := by
  refine fq_of T.F_law_is_allowed sc_law_is_allowed fun cdv A' outer s H E hr hgu => ?_
  exact qss_cons (qs_forget [2, 3, 4, 5, 6] (qs_pre [2, 3, 4, 5, 6] (qs_for (passes_of rfl) rfl (qi_rng2 rfl T.m_range (qa_cons (qe_int) (qa_cons (qe_bin op_addA ok_add (qe_callB call_len (.of1 ok_len) rfl T.m_len (by decide +kernel) (qa_cons (qe_v 0) (qa_nil))) (qe_int)) (qa_nil)))) (qg_name 2 sc_law_is_allowed.nd) (qss_cons (qs_asg (qe_int) (qg_name 3 sc_law_is_allowed.nd)) (qss_cons (qs_forget [4, 5, 6] (qs_pre [4, 5, 6] (qs_for (passes_of rfl) rfl (qi_enum rfl T.m_enumerate (qe_v 1)) (qg_tup rfl (qgs_cons (qg_name 4 sc_law_is_allowed.nd) (qgs_cons (qg_name 5 sc_law_is_allowed.nd) (qgs_nil))) (hlen := len_cons (len_cons (len_nil)))) (qss_cons (qs_asg (qe_ix ix_A ok_ix (qe_ix ix_A ok_ix (qe_v 0) (qe_v 4)) (qe_int)) (qg_name 6 sc_law_is_allowed.nd)) (qss_one (qs_forget [4, 5, 6] (qs_if (qt_of (qw_and (qt_cmp op_lt ok_lt (qe_bin op_addA ok_add (qe_v 4) (qe_int)) (qe_v 2) rfl) (qw_and1 (qt_of (qw_or (qt_cmp op_isN ok_isN (qe_v 6) (qe_non) rfl) (qw_or1 (qt_cmp op_gt ok_gt (qe_v 6) (qe_v 2) rfl))))))) (qss_one (qs_asg (qe_bin op_addA ok_add (qe_v 3) (qe_v 5)) (qg_name 3 sc_law_is_allowed.nd))) (qss_nil)))))))) (qss_cons (qs_if (qt_cmp op_le ok_le (qe_v 2) (qe_callB call_len (.of1 ok_len) rfl T.m_len (by decide +kernel) (qa_cons (qe_v 1) (qa_nil))) rfl) (qss_one (qs_asg (qe_bin op_addA ok_add (qe_v 3) (qe_ix ix_A ok_ix (qe_v 1) (qe_bin op_sub ok_sub (qe_v 2) (qe_int)))) (qg_name 3 sc_law_is_allowed.nd))) (qss_nil)) (qss_one (qs_forget [2, 3, 4, 5, 6] (qs_if (qt_cmp op_gt ok_gt (qe_v 3) (qe_ix ix_A ok_ix (qe_ix ix_A ok_ix (qe_v 0) (qe_bin op_sub ok_sub (qe_v 2) (qe_int))) (qe_int)) rfl) (qss_one (qs_ret (qe_bl))) (qss_nil)))))))))) (qss_one (qs_ret (qe_bl)))
set_option maxHeartbeats 4000000 in
theorem ok_law_rows (T : Tx K mg A) : FnQ P w K mg base C 4 A.f_law_rows A.fd_law_rows ["_law_source_here", "_law_days", "_law_many"] F_law_rows := by
  have c_law_draw := ok_law_draw (P := P) (w := w) (base := base) (C := C) T
  refine fq_of T.F_law_rows sc_law_rows fun cdv A' outer s H E hr hgu => ?_
  exact qss_cons (qs_asg (qe_lstO (qa_nil)) (qg_name 3 sc_law_rows.nd)) (qss_cons (qs_fz 3 (qs_forget [4, 5, 6, 7] (qs_pre [4, 5, 6, 7] (qs_for (passes_of rfl) rfl (qi_rng1 rfl T.m_range (qa_cons (qe_v 2) (qa_nil))) (qg_name 4 sc_law_rows.nd) (qss_cons (qs_asg (qe_ix ix_A ok_ix (qe_lst (qa_cons (qe_int) (qa_cons (qe_int) (qa_cons (qe_int) (qa_cons (qe_int) (qa_nil)))))) (qe_call c_law_draw (hr.mono (by decide)) hgu (takes_of rfl rfl rfl rfl) rfl T.g_law_draw T.F_law_draw.kp T.b_law_draw (qa_cons (qe_v 0) (qa_cons (qe_int) (qa_nil))))) (qg_name 5 sc_law_rows.nd)) (qss_cons (qs_lc (i := 6) rfl sc_law_rows.nd rfl rfl (sw_true rfl rfl rfl (by decide +kernel)) (qi_rng1 rfl T.m_range (qa_cons (qe_v 1) (qa_nil))) (blkOk_by (N := ["_law_source_here", "_law_days", "_law_many", "_law_found", "_law_level", "_law_top", "_law_row", "_law_shared", "_law_day"]) (sc := defScope s_law_rows) (own := [("_law_day", 8)]) (by decide +kernel)) (fun _ _ _ _ _ => qg_name 8 sc_law_rows.nd) (fun _ _ _ _ _ => qts_nil) (fun _ _ _ _ _ => qe_call c_law_draw (hr.mono (by decide)) hgu takes_no rfl T.g_law_draw T.F_law_draw.kp T.b_law_draw (qa_cons (qe_v 0) (qa_cons (qe_v 5) (qa_nil))))) (qss_cons (qs_if (qt_cmp (op_neA hr.units) ok_neA (qe_v 3) (qe_lst (qa_nil)) rfl) (qss_cons (qs_asg (qe_call c_law_draw (hr.mono (by decide)) hgu (takes_of rfl rfl rfl rfl) rfl T.g_law_draw T.F_law_draw.kp T.b_law_draw (qa_cons (qe_v 0) (qa_cons (qe_bin op_addA ok_add (qe_v 1) (qe_int)) (qa_nil)))) (qg_name 7 sc_law_rows.nd)) (qss_one (qs_asg (qe_bin op_addA ok_add (qe_callTy (T := "") call_list_of (.of1 ok_list) rfl T.m_list (by decide +kernel) (qa_cons (qe_slice (qe_ix ix_A ok_ix (qe_v 3) (qe_call c_law_draw (hr.mono (by decide)) hgu (takes_of rfl rfl rfl rfl) rfl T.g_law_draw T.F_law_draw.kp T.b_law_draw (qa_cons (qe_v 0) (qa_cons (qe_callB call_len (.of1 ok_len) rfl T.m_len (by decide +kernel) (qa_cons (qe_v 3) (qa_nil))) (qa_nil))))) (qo_none) (qo_some (qe_v 7))) (qa_nil))) (qe_slice (qe_v 6) (qo_some (qe_v 7)) (qo_none))) (qg_name 6 sc_law_rows.nd)))) (qss_nil)) (qss_one (qs_forget [4, 5, 6, 7] (qs_expr (qe_meth1 PySem.F.slot_list_append PySem.F.type_list_append mt_append ok_append (qe_v 3) (qe_callTy (T := "") call_tuple_of (.of1 ok_tuple) rfl T.m_tuple (by decide +kernel) (qa_cons (qe_v 6) (qa_nil)))))))))))))) (qss_one (qs_ret (qe_revA (qe_sortS rfl (room70 hr) rfl T.m_sorted rfl T.m_set (qe_v 3))))))
set_option maxHeartbeats 4000000 in
theorem ok_law_levels (T : Tx K mg A) : FnQ P w K mg base C 2 A.f_law_levels A.fd_law_levels ["_law_plan", "_law_past"] F_law_levels := by
  refine fq_of T.F_law_levels sc_law_levels fun cdv A' outer s H E hr hgu => ?_
  exact qss_one (qs_ret (qe_lc rfl sc_law_levels.nd (qi_enum rfl T.m_enumerate (qe_v 0)) (blkOk_by (N := ["_law_plan", "_law_past", "_law_level", "_law_row"]) (sc := defScope s_law_levels) (own := [("_law_level", 2), ("_law_row", 3)]) (by decide +kernel)) (fun _ _ _ _ _ => qg_tup rfl (qgs_cons (qg_name 2 sc_law_levels.nd) (qgs_cons (qg_name 3 sc_law_levels.nd) (qgs_nil))) (hlen := len_cons (len_cons (len_nil)))) (fun _ _ _ _ _ => qts_one (qt_cmp (op_eqA hr.units) ok_eqA (qe_slice (qe_v 3) (qo_none) (qo_some (qe_callB call_len (.of1 ok_len) rfl T.m_len (by decide +kernel) (qa_cons (qe_v 1) (qa_nil))))) (qe_v 1) rfl)) (fun _ _ _ _ _ => qe_v 2)))
set_option maxHeartbeats 4000000 in
theorem ok_law_tight (T : Tx K mg A) : FnQ P w K mg base C 2 A.f_law_tight A.fd_law_tight ["_law_plan"] F_law_tight := by
  refine fq_of T.F_law_tight sc_law_tight fun cdv A' outer s H E hr hgu => ?_
  exact qss_cons (qs_asg (qe_lstO (qa_nil)) (qg_name 1 sc_law_tight.nd)) (qss_cons (qs_fz 1 (qs_forget [2, 3, 4, 5, 6] (qs_pre [2, 3, 4, 5, 6] (qs_for (passes_of rfl) rfl (qi_seq (qe_v 0)) (qg_name 2 sc_law_tight.nd) (qss_scope (qss_cons (qs_asg (qe_lstO (qa_nil)) (qg_name 3 sc_law_tight.nd)) (qss_cons (qs_fz 3 (qs_forget [4, 5, 6] (qs_pre [4, 5, 6] (qs_for (passes_of rfl) rfl (qi_enum rfl T.m_enumerate (qe_v 2)) (qg_tup rfl (qgs_cons (qg_name 4 sc_law_tight.nd) (qgs_cons (qg_name 5 sc_law_tight.nd) (qgs_nil))) (hlen := len_cons (len_cons (len_nil)))) (qss_cons (qs_asg (qe_lc rfl sc_law_tight.nd (qi_seq (qe_v 0)) (blkOk_by (N := ["_law_plan", "_law_found", "_law_row", "_law_ranks", "_law_day", "_law_number", "_law_numbers", "_law_one"]) (sc := defScope s_law_tight) (own := [("_law_one", 7)]) (by decide +kernel)) (fun _ _ _ _ _ => qg_name 7 sc_law_tight.nd) (fun _ _ _ _ _ => qts_one (qt_cmp (op_eqA hr.units) ok_eqA (qe_slice (qe_v 7) (qo_none) (qo_some (qe_v 4))) (qe_slice (qe_v 2) (qo_none) (qo_some (qe_v 4))) rfl)) (fun _ _ _ _ _ => qe_ix ix_A ok_ix (qe_v 7) (qe_v 4))) (qg_name 6 sc_law_tight.nd)) (qss_one (qs_forget [4, 5, 6] (qs_expr (qe_meth1 PySem.F.slot_list_append PySem.F.type_list_append mt_append ok_append (qe_v 3) (qe_callB call_len (.of1 ok_len) rfl T.m_len (by decide +kernel) (qa_cons (qe_lc rfl sc_law_tight.nd (qi_rng1 rfl T.m_range (qa_cons (qe_v 5) (qa_nil))) (blkOk_by (N := ["_law_plan", "_law_found", "_law_row", "_law_ranks", "_law_day", "_law_number", "_law_numbers", "_law_one"]) (sc := defScope s_law_tight) (own := [("_law_one", 7)]) (by decide +kernel)) (fun _ _ _ _ _ => qg_name 7 sc_law_tight.nd) (fun _ _ _ _ _ => qts_one (qt_cmp op_in_seq ok_in (qe_v 7) (qe_v 6) rfl)) (fun _ _ _ _ _ => qe_v 7)) (qa_nil)))))))))))) (qss_one (qs_forget [2, 3, 4, 5, 6] (qs_expr (qe_meth1 PySem.F.slot_list_append PySem.F.type_list_append mt_append ok_append (qe_v 1) (qe_callTy (T := "") call_tuple_of (.of1 ok_tuple) rfl T.m_tuple (by decide +kernel) (qa_cons (qe_v 3) (qa_nil)))))))))))))) (qss_one (qs_ret (qe_v 1))))
set_option maxHeartbeats 4000000 in
theorem ok_law_groups_right (T : Tx K mg A) : FnQ P w K mg base C 7 A.f_law_groups_right A.fd_law_groups_right ["_law_source_here", "_law_plan", "_law_told"] F_law_groups_right := by
  have c_law_draw := ok_law_draw (P := P) (w := w) (base := base) (C := C) T
  have c_law_levels := ok_law_levels (P := P) (w := w) (base := base) (C := C) T
  have c_group := ok_group (P := P) (w := w) (base := base) (C := C) T
  have c_tests := ok_tests (P := P) (w := w) (base := base) (C := C) T
  refine fq_of T.F_law_groups_right sc_law_groups_right fun cdv A' outer s H E hr hgu => ?_
  exact qss_cons (qs_forget [3, 4, 5, 6, 7] (qs_pre [3, 4, 5, 6, 7] (qs_for (passes_of rfl) rfl (qi_rng1 rfl T.m_range (qa_cons (qe_int) (qa_nil))) (qg_name 3 sc_law_groups_right.nd) (qss_cons (qs_par2 4 5 rfl sc_law_groups_right.nd (qa_cons (qe_call c_law_draw (hr.mono (by decide)) hgu (takes_of rfl rfl rfl rfl) rfl T.g_law_draw T.F_law_draw.kp T.b_law_draw (qa_cons (qe_v 0) (qa_cons (qe_callB call_len (.of1 ok_len) rfl T.m_len (by decide +kernel) (qa_cons (qe_v 1) (qa_nil))) (qa_nil)))) (qa_cons (qe_call c_law_draw (hr.mono (by decide)) hgu (takes_of rfl rfl rfl rfl) rfl T.g_law_draw T.F_law_draw.kp T.b_law_draw (qa_cons (qe_v 0) (qa_cons (qe_bin op_addA ok_add (qe_callB call_len (.of1 ok_len) rfl T.m_len (by decide +kernel) (qa_cons (qe_ix ix_A ok_ix (qe_v 1) (qe_int)) (qa_nil))) (qe_int)) (qa_nil)))) (qa_nil)))) (qss_cons (qs_asg (qe_call c_law_levels (hr.mono (by decide)) hgu (takes_of rfl rfl rfl rfl) rfl T.g_law_levels T.F_law_levels.kp T.b_law_levels (qa_cons (qe_v 1) (qa_cons (qe_slice (qe_ix ix_A ok_ix (qe_v 1) (qe_v 4)) (qo_none) (qo_some (qe_v 5))) (qa_nil)))) (qg_name 6 sc_law_groups_right.nd)) (qss_cons (qs_if (qt_cmp (op_neA hr.units) ok_neA (qe_call c_group (hr.mono (by decide)) hgu (takes_of rfl rfl rfl rfl) rfl T.g_group T.F_group.kp T.b_group (qa_cons (qe_v 2) (qa_cons (qe_slice (qe_ix ix_A ok_ix (qe_v 2) (qe_v 4)) (qo_none) (qo_some (qe_v 5))) (qa_nil)))) (qe_tup (qa_cons (qe_ix ix_A ok_ix (qe_v 6) (qe_int)) (qa_cons (qe_ix ix_A ok_ix (qe_v 6) (qe_un un_neg ok_neg (qe_int))) (qa_nil)))) rfl) (qss_one (qs_ret (qe_bl))) (qss_nil)) (qss_cons (qs_asg (qe_call c_tests (hr.mono (by decide)) hgu (takes_of rfl rfl rfl rfl) rfl T.g_tests T.F_tests.kp T.b_tests (qa_cons (qe_v 2) (qa_cons (qe_slice (qe_ix ix_A ok_ix (qe_v 2) (qe_v 4)) (qo_none) (qo_some (qe_v 5))) (qa_nil)))) (qg_name 7 sc_law_groups_right.nd)) (qss_cons (qs_if (qt_of (qw_or (qt_cmp (op_neA hr.units) ok_neA (qe_lenSetI rfl rfl T.m_len rfl T.m_set (qe_v 7)) (qe_callB call_len (.of1 ok_len) rfl T.m_len (by decide +kernel) (qa_cons (qe_v 7) (qa_nil))) rfl) (qw_or1 (qt_cmp (op_neA hr.units) ok_neA (qe_v 7) (qe_sortR rfl T.m_sorted (by decide +kernel) (qe_v 7)) rfl)))) (qss_one (qs_ret (qe_bl))) (qss_nil)) (qss_one (qs_forget [3, 4, 5, 6, 7] (qs_if (qt_cmp (op_neA hr.units) ok_neA (qe_lc rfl sc_law_groups_right.nd (qi_seq (qe_v 7)) (blkOk_by (N := ["_law_source_here", "_law_plan", "_law_told", "_law_turn", "_law_level", "_law_days", "_law_inside", "_law_asked", "_law_one"]) (sc := defScope s_law_groups_right) (own := [("_law_one", 8)]) (by decide +kernel)) (fun _ _ _ _ _ => qg_name 8 sc_law_groups_right.nd) (fun _ _ _ _ _ => qts_one (qt_not (qt_chain op_lt ok_lt op_le ok_le (qe_ix ix_A ok_ix (qe_v 6) (qe_int)) (qe_v 8) (qe_ix ix_A ok_ix (qe_v 6) (qe_un un_neg ok_neg (qe_int)))))) (fun _ _ _ _ _ => qe_v 8)) (qe_lst (qa_nil)) rfl) (qss_one (qs_ret (qe_bl))) (qss_nil)))))))))))) (qss_one (qs_ret (qe_bl)))
set_option maxHeartbeats 4000000 in
theorem ok_law_is_right (T : Tx K mg A) : FnQ P w K mg base C 113 A.f_law_is_right A.fd_law_is_right ["_law_source_here"] F_law_is_right := by
  have c_law_draw := ok_law_draw (P := P) (w := w) (base := base) (C := C) T
  have c_law_groups_right := ok_law_groups_right (P := P) (w := w) (base := base) (C := C) T
  have c_law_rows := ok_law_rows (P := P) (w := w) (base := base) (C := C) T
  have c_law_tight := ok_law_tight (P := P) (w := w) (base := base) (C := C) T
  have c_tightened := ok_tightened (P := P) (w := w) (base := base) (C := C) T
  refine fq_of T.F_law_is_right sc_law_is_right fun cdv A' outer s H E hr hgu => ?_
  exact qss_cons (qs_asg (qe_call c_law_rows (hr.mono (by decide)) hgu (takes_of rfl rfl rfl rfl) rfl T.g_law_rows T.F_law_rows.kp T.b_law_rows (qa_cons (qe_v 0) (qa_cons (qe_call c_law_draw (hr.mono (by decide)) hgu (takes_of rfl rfl rfl rfl) rfl T.g_law_draw T.F_law_draw.kp T.b_law_draw (qa_cons (qe_v 0) (qa_cons (qe_int) (qa_nil)))) (qa_cons (qe_bin op_addA ok_add (qe_int) (qe_call c_law_draw (hr.mono (by decide)) hgu (takes_of rfl rfl rfl rfl) rfl T.g_law_draw T.F_law_draw.kp T.b_law_draw (qa_cons (qe_v 0) (qa_cons (qe_int) (qa_nil))))) (qa_nil))))) (qg_name 1 sc_law_is_right.nd)) (qss_cons (qs_asg (qe_callB (call_reprD hgu hr.units) (.of1 ok_repr) rfl T.m_repr (by decide +kernel) (qa_cons (qe_v 1) (qa_nil))) (qg_name 2 sc_law_is_right.nd)) (qss_cons (qs_asg (qe_call c_tightened (hr.mono (by decide)) hgu (takes_of rfl rfl rfl rfl) rfl T.g_tightened T.F_tightened.kp T.b_tightened (qa_cons (qe_v 1) (qa_nil))) (qg_name 3 sc_law_is_right.nd)) (qss_cons (qs_if (qt_of (qw_or (qt_cmp (op_neA hr.units) ok_neA (qe_v 3) (qe_call c_law_tight (hr.mono (by decide)) hgu (takes_of rfl rfl rfl rfl) rfl T.g_law_tight T.F_law_tight.kp T.b_law_tight (qa_cons (qe_v 1) (qa_nil))) rfl) (qw_or (qt_not (qt_val (qe_isi rfl T.m_isinstance rfl T.m_list (by decide +kernel) (qe_v 3)))) (qw_or1 (qt_cmp (op_neA hr.units) ok_neA (qe_callB (call_reprD hgu hr.units) (.of1 ok_repr) rfl T.m_repr (by decide +kernel) (qa_cons (qe_v 1) (qa_nil))) (qe_v 2) rfl))))) (qss_one (qs_ret (qe_bl))) (qss_nil)) (qss_cons (qs_if (qt_of (qw_or (qt_cmp (op_neA hr.units) ok_neA (qe_call c_tightened (hr.mono (by decide)) hgu (takes_of rfl rfl rfl rfl) rfl T.g_tightened T.F_tightened.kp T.b_tightened (qa_cons (qe_v 3) (qa_nil))) (qe_v 3) rfl) (qw_or1 (qt_not (qt_val (qe_call c_law_groups_right (hr.mono (by decide)) hgu (takes_of rfl rfl rfl rfl) rfl T.g_law_groups_right T.F_law_groups_right.kp T.b_law_groups_right (qa_cons (qe_v 0) (qa_cons (qe_v 1) (qa_cons (qe_v 3) (qa_nil)))))))))) (qss_one (qs_ret (qe_bl))) (qss_nil)) (qss_cons (qs_forget [4, 5] (qs_pre [4, 5] (qs_forJ (passes_of rfl) rfl (qj_zip rfl T.m_zip (qe_v 1) (qe_v 3)) (qg_tup rfl (qgs_cons (qg_name 4 sc_law_is_right.nd) (qgs_cons (qg_name 5 sc_law_is_right.nd) (qgs_nil))) (hlen := len_cons (len_cons (len_nil)))) (qss_one (qs_forget [4, 5] (qs_if (qt_cmp (op_neA hr.units) ok_neA (qe_lc rfl sc_law_is_right.nd (qi_zip rfl T.m_zip (qe_v 4) (qe_v 5)) (blkOk_by (N := ["_law_source_here", "_law_plan", "_law_kept", "_law_told", "_law_row", "_law_later", "_law_before", "_law_number"]) (sc := defScope s_law_is_right) (own := [("_law_before", 6), ("_law_number", 7)]) (by decide +kernel)) (fun _ _ _ _ _ => qg_tup rfl (qgs_cons (qg_name 6 sc_law_is_right.nd) (qgs_cons (qg_name 7 sc_law_is_right.nd) (qgs_nil))) (hlen := len_cons (len_cons (len_nil)))) (fun _ _ _ _ _ => qts_one (qt_cmp op_gt ok_gt (qe_v 7) (qe_v 6) rfl)) (fun _ _ _ _ _ => qe_int)) (qe_lst (qa_nil)) rfl) (qss_one (qs_ret (qe_bl))) (qss_nil))))))) (qss_cons (qs_fz 3 (qs_expr (qe_meth1 PySem.F.slot_list_append PySem.F.type_list_append mt_append ok_append (qe_v 3) (qe_non)))) (qss_one (qs_ret (qe_cmp (op_eqA hr.units) ok_eqA (qe_call c_tightened (hr.mono (by decide)) hgu (takes_of rfl rfl rfl rfl) rfl T.g_tightened T.F_tightened.kp T.b_tightened (qa_cons (qe_callTy (T := "") call_tuple_of (.of1 ok_tuple) rfl T.m_tuple (by decide +kernel) (qa_cons (qe_v 1) (qa_nil))) (qa_nil))) (qe_slice (qe_v 3) (qo_none) (qo_some (qe_un un_neg ok_neg (qe_int)))) rfl)))))))))
set_option maxHeartbeats 4000000 in
theorem ok_law_calendar_right (T : Tx K mg A) : FnQ P w K mg base C 113 A.f_law_calendar_right A.fd_law_calendar_right ["_law_source_here"] F_law_calendar_right := by
  have c_law_calendar := ok_law_calendar (P := P) (w := w) (base := base) (C := C) T
  have c_law_draw := ok_law_draw (P := P) (w := w) (base := base) (C := C) T
  have c_law_is_allowed := ok_law_is_allowed (P := P) (w := w) (base := base) (C := C) T
  have c_check_plan := ok_check_plan (P := P) (w := w) (base := base) (C := C) T
  have c_tightened := ok_tightened (P := P) (w := w) (base := base) (C := C) T
  refine fq_of T.F_law_calendar_right sc_law_calendar_right fun cdv A' outer s H E hr hgu => ?_
  exact qss_cons (qs_asg (qe_call c_law_calendar (hr.mono (by decide)) hgu (takes_of rfl rfl rfl rfl) rfl T.g_law_calendar T.F_law_calendar.kp T.b_law_calendar (qa_cons (qe_v 0) (qa_cons (qe_bin op_addA ok_add (qe_int) (qe_call c_law_draw (hr.mono (by decide)) hgu (takes_of rfl rfl rfl rfl) rfl T.g_law_draw T.F_law_draw.kp T.b_law_draw (qa_cons (qe_v 0) (qa_cons (qe_int) (qa_nil))))) (qa_cons (qe_int) (qa_nil))))) (qg_name 1 sc_law_calendar_right.nd)) (qss_cons (qs_lc (i := 2) rfl sc_law_calendar_right.nd rfl rfl (sw_true rfl rfl rfl (by decide +kernel)) (qi_rng1 rfl T.m_range (qa_cons (qe_int) (qa_nil))) (blkOk_by (N := ["_law_source_here", "_law_calendar_here", "_law_some", "_law_plan", "_law_turn", "_law_owned", "_law_back", "_law_row"]) (sc := defScope s_law_calendar_right) (own := [("_law_turn", 4)]) (by decide +kernel)) (fun _ _ _ _ _ => qg_name 4 sc_law_calendar_right.nd) (fun _ _ _ _ _ => qts_nil) (fun _ _ _ _ _ => qe_callTy (T := "") call_tuple_of (.of1 ok_tuple) rfl T.m_tuple (by decide +kernel) (qa_cons (qe_lc rfl sc_law_calendar_right.nd (qi_seq (qe_v 1)) (blkOk_by (N := ["_law_source_here", "_law_calendar_here", "_law_some", "_law_plan", "_law_turn", "_law_owned", "_law_back", "_law_row"]) (sc := relS _ (defScope s_law_calendar_right)) (own := [("_law_owned", 5), ("_law_back", 6)]) (by decide +kernel)) (fun _ _ _ _ _ => qg_tup rfl (qgs_cons (qg_name 5 sc_law_calendar_right.nd) (qgs_cons (qg_name 6 sc_law_calendar_right.nd) (qgs_nil))) (hlen := len_cons (len_cons (len_nil)))) (fun _ _ _ _ _ => qts_nil) (fun _ _ _ _ _ => qe_call c_law_draw (hr.mono (by decide)) hgu takes_no rfl T.g_law_draw T.F_law_draw.kp T.b_law_draw (qa_cons (qe_v 0) (qa_cons (qe_bin op_addA ok_add (qe_v 5) (qe_int)) (qa_nil))))) (qa_nil)))) (qss_cons (qs_asg (qe_revA (qe_sortS rfl (room70 hr) rfl T.m_sorted rfl T.m_set (qe_lc rfl sc_law_calendar_right.nd (qi_seq (qe_v 2)) (blkOk_by (N := ["_law_source_here", "_law_calendar_here", "_law_some", "_law_plan", "_law_turn", "_law_owned", "_law_back", "_law_row"]) (sc := defScope s_law_calendar_right) (own := [("_law_row", 7)]) (by decide +kernel)) (fun _ _ _ _ _ => qg_name 7 sc_law_calendar_right.nd) (fun _ _ _ _ _ => qts_one (qt_val (qe_call c_law_is_allowed (hr.mono (by decide)) hgu takes_no rfl T.g_law_is_allowed T.F_law_is_allowed.kp T.b_law_is_allowed (qa_cons (qe_v 1) (qa_cons (qe_v 7) (qa_nil)))))) (fun _ _ _ _ _ => qe_v 7)))) (qg_name 3 sc_law_calendar_right.nd)) (qss_one (qs_ret (qe_or (qe_cmp (op_eqA hr.units) ok_eqA (qe_v 3) (qe_lst (qa_nil)) rfl) (qe_one (qe_cmp op_isN ok_isN (qe_call c_check_plan (hr.mono (by decide)) hgu (takes_of rfl rfl rfl rfl) rfl T.g_check_plan T.F_check_plan.kp T.b_check_plan (qa_cons (qe_v 1) (qa_cons (qe_call c_tightened (hr.mono (by decide)) hgu (takes_of rfl rfl rfl rfl) rfl T.g_tightened T.F_tightened.kp T.b_tightened (qa_cons (qe_v 3) (qa_nil))) (qa_nil)))) (qe_non) rfl)))))))
set_option maxHeartbeats 4000000 in
theorem ok_law (T : Tx K mg A) : FnQ P w K mg base C 114 A.f_law A.fd_law ["_law_script"] F_law := by
  have c_law_calendar_right := ok_law_calendar_right (P := P) (w := w) (base := base) (C := C) T
  have c_law_is_right := ok_law_is_right (P := P) (w := w) (base := base) (C := C) T
  have c_law_source := ok_law_source (P := P) (w := w) (base := base) (C := C) T
  have c_tightened := ok_tightened (P := P) (w := w) (base := base) (C := C) T
  refine fq_of T.F_law sc_law fun cdv A' outer s H E hr hgu => ?_
  exact qss_cons (qs_forget [1, 4] (qs_pre [1, 4] (qs_for (passes_of rfl) rfl (qi_seq (qe_bin op_addA ok_add (qe_lst (qa_cons (qe_int) (qa_nil))) (qe_slice (qe_v 0) (qo_none) (qo_some (qe_int))))) (qg_name 1 sc_law.nd) (qss_scope (qss_cons (qs_asg (qe_call c_law_source (hr.mono (by decide)) hgu (takes_of rfl rfl rfl rfl) rfl T.g_law_source T.F_law_source.kp T.b_law_source (qa_cons (qe_v 1) (qa_nil))) (qg_name 4 sc_law.nd)) (qss_one (qs_forget [1, 4] (qs_if (qt_of (qw_or (qt_not (qt_val (qe_call c_law_is_right (hr.mono (by decide)) hgu (takes_of rfl rfl rfl rfl) rfl T.g_law_is_right T.F_law_is_right.kp T.b_law_is_right (qa_cons (qe_v 4) (qa_nil))))) (qw_or1 (qt_not (qt_val (qe_call c_law_calendar_right (hr.mono (by decide)) hgu (takes_of rfl rfl rfl rfl) rfl T.g_law_calendar_right T.F_law_calendar_right.kp T.b_law_calendar_right (qa_cons (qe_v 4) (qa_nil)))))))) (qss_one (qs_ret (qe_bl))) (qss_nil))))))))) (qss_cons (qs_lc (i := 2) rfl sc_law.nd rfl rfl (sw_true rfl rfl rfl (by decide +kernel)) (qi_rng3 rfl T.m_range (qa_cons (qe_int) (qa_cons (qe_un un_neg ok_neg (qe_int)) (qa_cons (qe_un un_neg ok_neg (qe_int)) (qa_nil))))) (blkOk_by (N := ["_law_script", "_law_cell", "_law_wide", "_law_long", "_law_source_here", "_law_one"]) (sc := defScope s_law) (own := [("_law_one", 5)]) (by decide +kernel)) (fun _ _ _ _ _ => qg_name 5 sc_law.nd) (fun _ _ _ _ _ => qts_nil) (fun _ _ _ _ _ => qe_bin op_addA ok_add (qe_bin op_mulT ok_mulT (qe_tup (qa_cons (qe_int) (qa_nil))) (qe_int)) (qe_tup (qa_cons (qe_bin op_fdivW ok_fdiv (qe_v 5) (qe_int)) (qa_cons (qe_bin op_modP ok_mod (qe_bin op_fdivW ok_fdiv (qe_v 5) (qe_int)) (qe_int)) (qa_cons (qe_bin op_modP ok_mod (qe_v 5) (qe_int)) (qa_nil))))))) (qss_cons (qs_lc (i := 3) rfl sc_law.nd rfl rfl (sw_true rfl rfl rfl (by decide +kernel)) (qi_rng3 rfl T.m_range (qa_cons (qe_int) (qa_cons (qe_un un_neg ok_neg (qe_int)) (qa_cons (qe_un un_neg ok_neg (qe_int)) (qa_nil))))) (blkOk_by (N := ["_law_script", "_law_cell", "_law_wide", "_law_long", "_law_source_here", "_law_one"]) (sc := defScope s_law) (own := [("_law_one", 5)]) (by decide +kernel)) (fun _ _ _ _ _ => qg_name 5 sc_law.nd) (fun _ _ _ _ _ => qts_nil) (fun _ _ _ _ _ => qe_bin op_addA ok_add (qe_bin op_mulT ok_mulT (qe_tup (qa_cons (qe_int) (qa_nil))) (qe_int)) (qe_tup (qa_cons (qe_bin op_fdivW ok_fdiv (qe_v 5) (qe_int)) (qa_cons (qe_bin op_modP ok_mod (qe_v 5) (qe_int)) (qa_nil)))))) (qss_cons (qs_if (qt_cmp (op_neA hr.units) ok_neA (qe_call c_tightened (hr.mono (by decide)) hgu (takes_of rfl rfl rfl rfl) rfl T.g_tightened T.F_tightened.kp T.b_tightened (qa_cons (qe_v 2) (qa_nil))) (qe_lc rfl sc_law.nd (qi_seq (qe_v 2)) (blkOk_by (N := ["_law_script", "_law_cell", "_law_wide", "_law_long", "_law_source_here", "_law_one"]) (sc := defScope s_law) (own := [("_law_one", 5)]) (by decide +kernel)) (fun _ _ _ _ _ => qg_name 5 sc_law.nd) (fun _ _ _ _ _ => qts_nil) (fun _ _ _ _ _ => qe_bin op_addA ok_add (qe_bin op_mulT ok_mulT (qe_tup (qa_cons (qe_int) (qa_nil))) (qe_int)) (qe_slice (qe_v 5) (qo_some (qe_int)) (qo_none)))) rfl) (qss_one (qs_ret (qe_bl))) (qss_nil)) (qss_one (qs_ret (qe_cmp (op_eqA hr.units) ok_eqA (qe_call c_tightened (hr.mono (by decide)) hgu (takes_of rfl rfl rfl rfl) rfl T.g_tightened T.F_tightened.kp T.b_tightened (qa_cons (qe_v 3) (qa_nil))) (qe_lc rfl sc_law.nd (qi_seq (qe_v 3)) (blkOk_by (N := ["_law_script", "_law_cell", "_law_wide", "_law_long", "_law_source_here", "_law_one"]) (sc := defScope s_law) (own := [("_law_one", 5)]) (by decide +kernel)) (fun _ _ _ _ _ => qg_name 5 sc_law.nd) (fun _ _ _ _ _ => qts_nil) (fun _ _ _ _ _ => qe_bin op_addA ok_add (qe_bin op_mulT ok_mulT (qe_tup (qa_cons (qe_int) (qa_nil))) (qe_int)) (qe_slice (qe_v 5) (qo_some (qe_int)) (qo_none)))) rfl))))))
end
end
end My

set_option Elab.async false
set_option linter.all false
set_option maxRecDepth 100000
set_option maxHeartbeats 4000000
namespace My
open PySem PySem.Spec PyProof.Rows L2 Bk
/-! ### the law's draws -/
theorem fd_small {i j : Int} (h0 : 0 < j) (h : j < 2 ^ 62) : fdivOk i j = true := by
  have a : j.natAbs < 2 ^ 62 := by omega
  have b : j.natAbs.log2 < 62 := by
    by_cases z : j.natAbs = 0
    · omega
    · exact (Nat.log2_lt z).mpr a
  simp [fdivOk, h0]
  omega
def mixD (b c : Int) : Int :=
  let f := b % 2147483647 + b / 2147483647 % 1000003 * 7919
  let f := (f + 15485863 * c + 104729) * 48271 % 2147483629
  let f := f * (f / 1009 + 69621 + c) % 2147483587
  f * (f / 2003 + 40692) % 2147483563
theorem m_mix (b c : Int) : F_law_mix [.int b, .int c] [] = .ok (.int (mixD b c)) [] := by
  have r1 : ∀ x : Int, mulOk x 7919 = true := fun x => mulOk_r x (by decide) (by decide)
  have r2 : ∀ x : Int, mulOk x 48271 = true := fun x => mulOk_r x (by decide) (by decide)
  have r3 : ∀ x : Int, mulOk 15485863 x = true := fun x => mulOk_l x (by decide) (by decide)
  have r5 : ∀ x y : Int, mulOk (x % 2147483629) y = true := fun x y => mulOk_m x y (by decide) (by decide)
  have r6 : ∀ x y : Int, mulOk (x % 2147483587) y = true := fun x y => mulOk_m x y (by decide) (by decide)
  have d1 : ∀ x : Int, fdivOk x 2147483647 = true := fun x => fd_small (by decide) (by decide)
  have d2 : ∀ x : Int, fdivOk x 1009 = true := fun x => fd_small (by decide) (by decide)
  have d3 : ∀ x : Int, fdivOk x 2003 = true := fun x => fd_small (by decide) (by decide)
  simp [F_law_mix, b_law_mix, runF, e_mul, r1, r2, r3, r5, r6, d1, d2, d3, fin, cutOk, retR, below]
  rfl
abbrev Src3 := Int × Int × Int
def srcO (s : Src3) : MO := .lst [.int s.1, .int s.2.1, .int s.2.2]
@[simp] theorem srcO_bl (m : Nat) (s : Src3) : belowO m (srcO s) = true := rfl
def tk (s : Src3) (n : Int) : Int := if 0 < s.1 then s.1 % n else mixD s.2.1 (s.2.2 + 1) % n
def tn (s : Src3) (n : Int) : Src3 := if 0 < s.1 then (s.1 / n, s.2.1, s.2.2) else (s.1, s.2.1, s.2.2 + 1)
theorem m_draw (s : Src3) {n : Int} (h0 : 0 < n) (h : n < 4611686018427387904) : F_law_draw [.ref 0, .int n] [srcO s] = .ok (.int (tk s n)) [srcO (tn s n)] := by
  have dn : ∀ i : Int, fdivOk i n = true := fun i => fd_small h0 (by omega)
  have c := fun M => c_flat (m_mix s.2.1 (s.2.2 + 1)) M (by simp) (by simp)
  simp only [tk, tn]
  by_cases q : 0 < s.1
  · simp [F_law_draw, b_law_draw, runF, srcO, listD, setR, ixN, dn, h0, q]
  · simp [F_law_draw, b_law_draw, runF, srcO, listD, setR, ixN, dn, h0, q, c]
theorem tk_lo (s : Src3) {n : Int} (h : 0 < n) : 0 ≤ tk s n := by
  unfold tk
  split <;> exact Int.emod_nonneg _ (by omega)
theorem tk_hi (s : Src3) {n : Int} (h : 0 < n) : tk s n < n := by
  unfold tk
  split <;> exact Int.emod_lt_of_pos _ h
theorem t_0 (s : Src3) (n : Int) (R : List MO) (h0 : 0 < n) (h : n < 4611686018427387904) : callF F_law_draw [.ref 0, .int n] (srcO s :: R) = .ok (.int (tk s n)) (srcO (tn s n) :: R) := by
  have e : lentOk [srcO s] = true := rfl
  have e2 : ∀ t : Src3, belowO 0 (srcO t) = true := fun t => rfl
  simp [callF, lendK, getAll, flatArgs, below, e, e2, lendA, m_draw s h0 h, backD, setAll]
def src0 (v : Int) : Src3 := ((v.natAbs : Int) * (if 1000000000000000000 ≤ (v.natAbs : Int) then 1 else 0), (v.natAbs : Int), 0)
theorem m_source (v : Int) : F_law_source [.int v] [] = .ok (.ref 0) [srcO (src0 v)] := by
  have p : powOk 10 18 = true := by decide
  have e : (10 : Int) ^ (18 : Int).toNat = 1000000000000000000 := rfl
  have m0 : mulOk (v.natAbs : Int) 0 = true := mulOk_r _ (by decide) (by decide)
  have m1 : mulOk (v.natAbs : Int) 1 = true := mulOk_r _ (by decide) (by decide)
  have ab : ∀ M, dAbs M (.int v) = some (.int (v.natAbs : Int)) := fun M => by
    simp
    split <;> omega
  unfold src0
  generalize (v.natAbs : Int) = z at *
  by_cases q : (1000000000000000000 : Int) ≤ z
  · simp [F_law_source, b_law_source, runF, ab, p, e, q, e_mul, m1, srcO]
  · simp [F_law_source, b_law_source, runF, ab, p, e, q, e_mul, m0, srcO]
theorem c_source (v : Int) (M : List MO) : callF F_law_source [.int v] M = .ok (.ref M.length) (M ++ [srcO (src0 v)]) := by
  simp [callF, lendK, getAll, flatArgs, below, lentOk, lendA, m_source, backD, setAll, srcO, belowO, belows]
end My

set_option Elab.async false
set_option linter.all false
set_option maxRecDepth 100000
set_option maxHeartbeats 4000000
namespace My
open PySem PySem.Spec PyProof.Rows L2 Bk
/-! ### numbers -/
theorem m_isint (i : Int) : F_is_integer [.int i] [] = .ok (.bl true) [] := by
  simp [F_is_integer, b_is_integer, runF]
theorem m_atleast (i lo : Int) : F_is_at_least [.int i, .int lo] [] = .ok (.bl (decide (lo ≤ i))) [] := by
  have c := fun M => c_flat (m_isint i) M (by simp) (by simp)
  simp [F_is_at_least, b_is_at_least, runF, c]
theorem m_between (i lo hi : Int) : F_is_between [.int i, .int lo, .int hi] [] = .ok (.bl (decide (lo ≤ i ∧ i ≤ hi))) [] := by
  have c := fun M => c_flat (m_isint i) M (by simp) (by simp)
  by_cases h : lo ≤ i
  · by_cases h' : i ≤ hi <;> simp [F_is_between, b_is_between, runF, c, h, h']
  · simp [F_is_between, b_is_between, runF, c, h]
theorem c_between (i lo hi : Int) (M : List MO) : callF F_is_between [.int i, .int lo, .int hi] M = .ok (.bl (decide (lo ≤ i ∧ i ≤ hi))) M := c_flat (m_between i lo hi) M (by simp) (by simp)
theorem c_atleast (i lo : Int) (M : List MO) : callF F_is_at_least [.int i, .int lo] M = .ok (.bl (decide (lo ≤ i))) M := c_flat (m_atleast i lo) M (by simp) (by simp)
end My

set_option Elab.async false
set_option linter.all false
set_option maxRecDepth 100000
set_option maxHeartbeats 4000000
namespace My
open PySem PySem.Spec PyProof.Rows L2 Bk
def nth (ns : List Int) (i : Nat) : Int := ns.getD i 0
end My

set_option Elab.async false
set_option linter.all false
set_option maxRecDepth 100000
set_option maxHeartbeats 4000000
namespace My
open PySem PySem.Spec PyProof.Rows L2 Bk
theorem backD_any {ks : List Nat} {n : Nat} {d : D} (h : below 0 d = true) : backD ks n d = some d := by
  cases d with
  | ref k => simp [below] at h
  | _ => simp [backD, h]
theorem c_lend1 {F : List D → List MO → Bk.R D} {ds : List D} {d : D} {o o' : MO} {k : Nat} {M : List MO} (h : F (.ref 0 :: ds) [o] = .ok d [o']) (hk : M[k]? = some o) (ho : isDead o = false) (hb : belowO 0 o = true) (hb' : belowO 0 o' = true) (ha : belows 0 ds = true) (hd : below 0 d = true) : callF F (.ref k :: ds) M = .ok d (M.set k o') := by
  have l1 := lendK_nil ha
  have l2 : lendA 1 ds = ds := lendA_nil ha
  have l3 := flatArgs_of ha
  simp [callF, lendK, l1, l2, l3, getAll, hk, flatArgs, lentOk, ho, hb, lendA, h, hb', backD_any hd, setAll]
theorem inR_i {i : Int} (h0 : 0 ≤ i) (h : i ≤ 100000) : Bk.inR i = true := inR_of (by omega) (by omega)
theorem cutD_from {ds : List D} {n : Nat} : Bk.cutD ds (some (n : Int)) none = ds.drop n := by
  unfold Bk.cutD
  rw [HT.sIx_none, HT.sIx_nat]
  by_cases h : n ≤ ds.length
  · rw [Nat.min_eq_left h, List.take_of_length_le (by simp)]
  · rw [Nat.min_eq_right (by omega), List.drop_eq_nil_of_le (by omega), List.drop_eq_nil_of_le (by omega)]
    simp
/-! ### one number more -/
end My

set_option Elab.async false
set_option linter.all false
set_option maxRecDepth 100000
set_option maxHeartbeats 4000000
namespace My
open PySem PySem.Spec PyProof.Rows L2 Bk
/-! ### calendars -/
abbrev Cal := List (Int × Option Int)
def optD : Option Int → D
  | none => .non
  | some r => .int r
@[simp] theorem optD_below (m : Nat) (o : Option Int) : below m (optD o) = true := by cases o <;> rfl
def entD (p : Int × Option Int) : D := .tup [.int p.1, optD p.2]
def calD (t : Bool) (c : Cal) : D := if t = true then .tup (c.map entD) else .lst (c.map entD)
theorem ent_below (m : Nat) (p : Int × Option Int) : below m (entD p) = true := by simp [entD]
@[simp] theorem ents_below (m : Nat) (c : Cal) : belows m (c.map entD) = true := by
  rw [belows_all, List.all_map, List.all_eq_true]
  exact fun p _ => ent_below m p
@[simp] theorem calD_below (m : Nat) (t : Bool) (c : Cal) : below m (calD t c) = true := by cases t <;> simp [calD]
@[simp] theorem calD_items (M : List MO) (t : Bool) (c : Cal) : itemsD M (calD t c) = some (c.map entD) := by cases t <;> rfl
@[simp] theorem calD_seq (t : Bool) (c : Cal) : seqD (calD t c) = some (c.map entD) := by cases t <;> rfl
@[simp] theorem calD_len (M : List MO) (t : Bool) (c : Cal) : dLen M (calD t c) = some (.int c.length) := by cases t <;> simp [calD]
@[simp] theorem calD_isi (M : List MO) (t : Bool) (c : Cal) : dIsiT ["list", "tuple"] M (calD t c) = some (.bl true) := by cases t <;> rfl
/-- an entry that may stand at a day -/
def okE (p : Int × Option Int) (day : Int) : Prop := 0 ≤ p.1 ∧ p.1 ≤ 12 ∧ ∀ b, p.2 = some b → day + 1 ≤ b
/-- how many of those that broke on one day are away on a day -/
def gone1 (day : Int) (e : Option Int) (n : Int) : Int := match e with
  | none => n
  | some b => if day < b then n else 0
def awayZ (day : Int) (zs : List ((Int × Option Int) × Int)) : Int := (zs.map fun z => gone1 day z.1.2 z.2).sum
def awayV (c : Cal) (ns : List Int) (day : Int) : Int := awayZ day ((c.take (day.toNat - 1)).zip ns)
theorem zip_ents : ∀ (c : Cal) (ns : List Int), zipL (c.map entD) (ns.map D.int) = (c.zip ns).map fun z => .tup [entD z.1, .int z.2]
  | [], _ => by simp [zipL]
  | _ :: _, [] => by simp [zipL]
  | p :: c, n :: ns => by simp [zipL, zip_ents c ns]
end My

set_option Elab.async false
set_option linter.all false
set_option maxRecDepth 100000
set_option maxHeartbeats 4000000
namespace My
open PySem PySem.Spec PyProof.Rows L2 Bk
theorem m_isday {p : Int × Option Int} {day : Int} (h : okE p day) : F_is_day [entD p, .int day] [] = .ok (.bl true) [] := by
  obtain ⟨h1, h2, h3⟩ := h
  obtain ⟨a, b⟩ := p
  cases b with
  | none => simp at h1 h2; simp [F_is_day, b_is_day, runF, entD, optD, c_between, h1, h2]
  | some b =>
    have := h3 b rfl
    simp at h1 h2
    simp [F_is_day, b_is_day, runF, entD, optD, c_between, c_atleast, h1, h2, this]
theorem m_reqcal (t : Bool) (c : Cal) (hl : c.length ≤ 100) (hv : ∀ (i : Nat) p, c[i]? = some p → okE p (i + 1)) : F_require_calendar [calD t c] [] = .ok .non [] := by
  have key : ∀ (post : Cal) (n : Nat), (∀ (i : Nat) p, post[i]? = some p → okE p ((n + i : Nat) + 1)) →
      gForL (gToT (gToCons (gTo 1) (gToCons (gTo 2) (gToNil)))) lb_require_calendar_1 (enumL n (post.map entD)) [some (calD t c), none, none] [] = .nx [some (calD t c), none, none] [] := by
    intro post
    induction post with
    | nil => intro n _; simp [enumL]
    | cons p post ih =>
      intro n h
      have h0 := h 0 p rfl
      have e2 := ih (n + 1) fun i q hq => by
        have := h (i + 1) q (by simpa using hq)
        have e : n + 1 + i = n + (i + 1) := by omega
        rw [e]
        exact this
      have cd := c_flat (m_isday h0) [] (by simp [ent_below]) (by simp)
      simp only [Nat.add_zero] at cd
      rw [List.map_cons, enumL]
      refine (forL_cons (Γ1 := [some (calD t c), some (.int n), some (entD p)]) (by simp) ?_).trans (by simpa using e2)
      simp [lb_require_calendar_1, cd]
  have k := key c 0 fun i p h => by simpa using hv i p h
  have z : ¬ (100 : Int) < c.length := by omega
  have k0 : gForL (gToT (gToCons (gTo 1) (gToCons (gTo 2) (gToNil)))) lb_require_calendar_1 (enumL 0 (c.map entD)) [some (calD t c), none, none] [] = _ := k
  simp [F_require_calendar, b_require_calendar, runF, z, k0]
end My

set_option Elab.async false
set_option linter.all false
set_option maxRecDepth 100000
set_option maxHeartbeats 4000000
namespace My
open PySem PySem.Spec PyProof.Rows L2 Bk
theorem m_nums (ns : List Int) (hl : ns.length ≤ 1000) (h : ∀ n ∈ ns, 0 ≤ n) : F_are_numbers [.tup (ns.map D.int)] [] = .ok (.bl true) [] := by
  have key := lcL_map (gg := gTo 1) (ge := le_are_numbers_1) (Γ := [some (.tup (ns.map D.int)), none]) (M := []) (f := fun _ => .bl true) (ns.map D.int) [] (by rw [List.length_map]; exact Nat.le_trans (by simpa using hl) (by decide)) fun d hd => by
    obtain ⟨i, hi, rfl⟩ := List.mem_map.mp hd
    exact ⟨_, rfl, by simp [le_are_numbers_1, c_atleast, h i hi]⟩
  have e : (ns.map D.int).map (fun _ => D.bl true) = (ns.map fun _ => true).map D.bl := by simp
  have q : ((ns.map fun _ => true).all id) = true := by simp
  rw [e, List.nil_append] at key
  simp [F_are_numbers, b_are_numbers, runF, key, dAll, ofBls, blsD_map, -List.map_map]
end My

set_option Elab.async false
set_option linter.all false
set_option maxRecDepth 100000
set_option maxHeartbeats 4000000
namespace My
open PySem PySem.Spec PyProof.Rows L2 Bk
end My

set_option Elab.async false
set_option linter.all false
set_option maxRecDepth 100000
set_option maxHeartbeats 4000000
namespace My
open PySem PySem.Spec PyProof.Rows L2 Bk
end My

set_option Elab.async false
set_option linter.all false
set_option maxRecDepth 100000
set_option maxHeartbeats 4000000
namespace My
open PySem PySem.Spec PyProof.Rows L2 Bk
end My

set_option Elab.async false
set_option linter.all false
set_option maxRecDepth 100000
set_option maxHeartbeats 4000000
namespace My
open PySem PySem.Spec PyProof.Rows L2 Bk
/-- the first day with too many pieces away or broken -/
def fo (c : Cal) (ns : List Int) : Nat → Cal → Option Int
  | _, [] => none
  | i, p :: r => if p.1 < awayV c ns ((i : Int) + 1) + nth ns i then some ((i : Int) + 1) else fo c ns (i + 1) r
/-- a calendar as it may be handed over -/
structure OkC (c : Cal) : Prop where
  l : c.length ≤ 100
  v : ∀ (i : Nat) p, c[i]? = some p → okE p (i + 1)
/-- numbers of broken pieces that may have been -/
structure OkP (c : Cal) (ns : List Int) : Prop where
  l : ns.length ≤ c.length
  p : ∀ n ∈ ns, 0 ≤ n
  f : fo c ns 0 c = none
end My

set_option Elab.async false
set_option linter.all false
set_option maxRecDepth 100000
set_option maxHeartbeats 8000000
namespace My
open PySem PySem.Spec PyProof.Rows L2 Bk
/-- a store without references to what lies behind it -/
def StB (M : List MO) : Prop := ∀ o ∈ M, ∀ m, M.length ≤ m → belowO m o = true
theorem StB.cut {M : List MO} (h : StB M) (X : List MO) : cutOk M.length (M ++ X) = true := by
  unfold cutOk
  rw [List.take_left, List.all_eq_true]
  exact fun o ho => h o ho _ (Nat.le_refl _)
theorem StB.cut0 {M : List MO} (h : StB M) : cutOk M.length M = true := by
  have := h.cut []
  rwa [List.append_nil] at this
theorem StB.set {M : List MO} (h : StB M) (k : Nat) {o : MO} (ho : ∀ m, M.length ≤ m → belowO m o = true) : StB (M.set k o) := fun x hx m hm => by
  rw [List.length_set] at hm
  rcases List.mem_or_eq_of_mem_set hx with q | q
  · exact h x q m hm
  · rw [q]
    exact ho m hm
theorem StB.nil : StB [] := fun x hx => absurd hx (by simp)
/-- a value that stands for a list or a tuple of things -/
def VW (M : List MO) (d : D) (L : List D) : Prop := ∃ w, srcW M d = some (L, w)
theorem VW.ref {M : List MO} {k : Nat} {L : List D} (h : M[k]? = some (.lst L)) : VW M (.ref k) L := ⟨_, srcW_ref h⟩
theorem VW.lst (M : List MO) (L : List D) : VW M (.lst L) L := ⟨_, srcW_lst M L⟩
theorem VW.tup (M : List MO) (L : List D) : VW M (.tup L) L := ⟨_, srcW_tup M L⟩
theorem VW.cal (M : List MO) (t : Bool) (c : Cal) : VW M (calD t c) (c.map entD) := by
  cases t
  · exact VW.lst M _
  · exact VW.tup M _
theorem VW.cases {M : List MO} {d : D} {L : List D} (h : VW M d L) : (∃ k, d = .ref k ∧ M[k]? = some (.lst L)) ∨ d = .lst L ∨ d = .tup L ∨ d = .ptu L := by
  obtain ⟨w, h⟩ := h
  cases d with
  | ref k =>
    simp only [srcW] at h
    split at h
    · rename_i es e
      cases h
      exact .inl ⟨k, rfl, e⟩
    · cases h
  | lst es => cases h; exact .inr (.inl rfl)
  | tup es => cases h; exact .inr (.inr (.inl rfl))
  | ptu es => cases h; exact .inr (.inr (.inr rfl))
  | _ => cases h
def noPtu : D → Bool
  | .ptu _ => false
  | _ => true
theorem VW.len {M : List MO} {d : D} {L : List D} (h : VW M d L) (hp : noPtu d = true) : dLen M d = some (.int L.length) := by
  rcases h.cases with ⟨k, rfl, e⟩ | rfl | rfl | rfl
  · simp [listD, e]
  · simp
  · simp
  · cases hp
theorem VW.isi {M : List MO} {d : D} {L : List D} (h : VW M d L) (hp : noPtu d = true) : dIsiT ["list", "tuple"] M d = some (.bl true) := by
  rcases h.cases with ⟨k, rfl, e⟩ | rfl | rfl | rfl
  · simp [dIsiT, tyName, e]
    rfl
  · rfl
  · rfl
  · cases hp
theorem VW.cut {M : List MO} {d : D} {L : List D} (h : VW M d L) (hp : noPtu d = true) (a b : Option Int) : ∃ X, dCut M a b d = some X ∧ seqD X = some (cutD L a b) ∧ VW M X (cutD L a b) := by
  rcases h.cases with ⟨k, rfl, e⟩ | rfl | rfl | rfl
  · exact ⟨.lst (cutD L a b), by simp [dCut, listD, e], rfl, VW.lst _ _⟩
  · exact ⟨.lst (cutD L a b), by simp [dCut, listD], rfl, VW.lst _ _⟩
  · exact ⟨.tup (cutD L a b), by simp [dCut, listD], rfl, VW.tup _ _⟩
  · cases hp
theorem VW.tu {M : List MO} {d : D} {L : List D} (h : VW M d L) (hp : noPtu d = true) : dTuple M d = some (.tup L) := by
  rcases h.cases with ⟨k, rfl, e⟩ | rfl | rfl | rfl
  · unfold dTuple
    rw [itemsD_r]
    simp [listD, e]
  · rfl
  · rfl
  · cases hp
theorem VW.str {M : List MO} {d : D} {L : List D} (h : VW M d L) (hp : noPtu d = true) : dIsi "str" M d = some (.bl false) := by
  rcases h.cases with ⟨k, rfl, e⟩ | rfl | rfl | rfl
  · simp [dIsi, tyName, e]
    rfl
  · rfl
  · rfl
  · cases hp
/-- a calendar that is handed in: a list of ours, or a frozen one -/
inductive CalV (M : List MO) (c : Cal) : D → Prop
  | val (t : Bool) : CalV M c (calD t c)
  | ref {k : Nat} : M[k]? = some (.lst (c.map entD)) → CalV M c (.ref k)
theorem CalV.np {M : List MO} {c : Cal} {d : D} : CalV M c d → noPtu d = true
  | .val t => by cases t <;> rfl
  | .ref _ => rfl
end My

set_option Elab.async false
set_option linter.all false
set_option maxRecDepth 100000
set_option maxHeartbeats 4000000
namespace My
open PySem PySem.Spec PyProof.Rows L2 Bk
theorem c_reqcal (t : Bool) {c : Cal} (h : OkC c) (M : List MO) : callF F_require_calendar [calD t c] M = .ok .non M := c_flat (m_reqcal t c h.l h.v) M (by simp) (by simp)
end My

set_option Elab.async false
set_option linter.all false
set_option maxRecDepth 100000
set_option maxHeartbeats 4000000
namespace My.Pn
open PySem PySem.Spec PyProof.Rows L2 Bk
/-! ### plans: rows in falling order -/
structure Pl (d : Nat) (rs : List (List Int)) : Prop where
  ne : rs ≠ []
  few : rs.length ≤ 1000
  days : d ≤ 100
  len : ∀ r ∈ rs, r.length = d
  nums : ∀ r ∈ rs, ∀ n ∈ r, 0 ≤ n ∧ n ≤ 12
  fall : rs.Pairwise (fun a b => b < a)
/-- the levels whose rows begin with a past -/
def lvF (p : List Int) : Nat → List (List Int) → List Nat
  | _, [] => []
  | i, r :: rs => if r.take p.length = p then i :: lvF p (i + 1) rs else lvF p (i + 1) rs
def lv (rs : List (List Int)) (p : List Int) : List Nat := lvF p 0 rs
theorem lvF_app (p : List Int) : ∀ (a b : List (List Int)) (i : Nat), lvF p i (a ++ b) = lvF p i a ++ lvF p (i + a.length) b
  | [], b, i => rfl
  | r :: a, b, i => by
    rw [List.cons_append, lvF, lvF, lvF_app p a b (i + 1), List.length_cons, Nat.add_assoc, Nat.add_comm 1 a.length]
    split <;> rfl
theorem lvF_all (p : List Int) : ∀ (a : List (List Int)) (i : Nat), (∀ r ∈ a, r.take p.length = p) → lvF p i a = List.range' i a.length
  | [], i, _ => rfl
  | r :: a, i, h => by
    rw [lvF, if_pos (h r (by simp)), lvF_all p a (i + 1) fun r hr => h r (by simp [hr])]
    rfl
theorem lvF_none (p : List Int) : ∀ (a : List (List Int)) (i : Nat), (∀ r ∈ a, r.take p.length ≠ p) → lvF p i a = []
  | [], i, _ => rfl
  | r :: a, i, h => by rw [lvF, if_neg (h r (by simp)), lvF_none p a (i + 1) fun r hr => h r (by simp [hr])]
theorem mem_lvF (p : List Int) : ∀ (a : List (List Int)) (i j : Nat), j ∈ lvF p i a ↔ ∃ k r, a[k]? = some r ∧ j = i + k ∧ r.take p.length = p
  | [], i, j => by simp [lvF]
  | r :: a, i, j => by
    have ih := mem_lvF p a (i + 1) j
    have key : (∃ k r', (r :: a)[k]? = some r' ∧ j = i + k ∧ r'.take p.length = p) ↔ (j = i ∧ r.take p.length = p) ∨ ∃ k r', a[k]? = some r' ∧ j = i + 1 + k ∧ r'.take p.length = p := by
      constructor
      · rintro ⟨k, r', h1, h2, h3⟩
        cases k with
        | zero =>
          have : r = r' := by simpa using h1
          subst this
          exact .inl ⟨by omega, h3⟩
        | succ k => exact .inr ⟨k, r', by simpa using h1, by omega, h3⟩
      · rintro (⟨h1, h2⟩ | ⟨k, r', h1, h2, h3⟩)
        · exact ⟨0, r, rfl, by omega, h2⟩
        · exact ⟨k + 1, r', by simpa using h1, by omega, h3⟩
    rw [key, lvF]
    by_cases c : r.take p.length = p
    · rw [if_pos c, List.mem_cons, ih]
      simp [c]
    · rw [if_neg c, ih]
      simp [c]
theorem mem_lv {rs : List (List Int)} {p : List Int} {j : Nat} : j ∈ lv rs p ↔ ∃ r, rs[j]? = some r ∧ r.take p.length = p := by
  unfold lv
  rw [mem_lvF]
  constructor
  · rintro ⟨k, r, h1, h2, h3⟩
    have : j = k := by omega
    subst this
    exact ⟨r, h1, h3⟩
  · rintro ⟨r, h1, h2⟩
    exact ⟨j, r, h1, by omega, h2⟩
/-! the order of rows and their beginnings -/
theorem lt_take : ∀ (k : Nat) {a b : List Int}, a < b → a.take k = b.take k ∨ a.take k < b.take k
  | 0, a, b, _ => by simp
  | k + 1, [], [], h => absurd h (List.lt_irrefl _)
  | k + 1, [], y :: b, h => .inr (by simp)
  | k + 1, x :: a, [], h => by simp at h
  | k + 1, x :: a, y :: b, h => by
    rw [List.take_succ_cons, List.take_succ_cons]
    rw [List.cons_lt_cons_iff] at h ⊢
    rcases h with h | ⟨rfl, h⟩
    · exact .inr (.inl h)
    · rcases lt_take k h with e | e
      · exact .inl (by rw [e])
      · exact .inr (.inr ⟨rfl, e⟩)
theorem lt_anti {a b : List Int} (h1 : a < b) (h2 : b < a) : False := List.lt_irrefl a (List.lt_trans h1 h2)
/-- a row between two that begin alike begins so too -/
theorem take_between {k : Nat} {a b c : List Int} (h1 : c < b) (h2 : b < a) (e : a.take k = c.take k) : b.take k = a.take k := by
  rcases lt_take k h2 with x | x
  · exact x
  · rcases lt_take k h1 with y | y
    · rw [e, y]
    · rw [e] at x
      exact (lt_anti x y).elim
/-- of two rows that begin alike the greater one has no lesser number -/
theorem nth_fall : ∀ (k : Nat) {a b : List Int}, b < a → a.take k = b.take k → k < a.length → k < b.length → b.getD k 0 ≤ a.getD k 0
  | 0, x :: a, y :: b, h, _, _, _ => by
    rw [List.cons_lt_cons_iff] at h
    rcases h with h | ⟨rfl, h⟩
    · simp; omega
    · simp
  | k + 1, x :: a, y :: b, h, e, h1, h2 => by
    rw [List.take_succ_cons, List.take_succ_cons] at e
    injection e with e1 e2
    subst e1
    rw [List.cons_lt_cons_iff] at h
    rcases h with h | ⟨_, h⟩
    · omega
    · simpa using nth_fall k h e2 (by simpa using h1) (by simpa using h2)
  | _, [], _, _, _, h1, _ => by simp at h1
  | _, _ :: _, [], _, _, _, h2 => by simp at h2
/-- the rows that begin with a past stand side by side -/
theorem parts {rs : List (List Int)} (hf : rs.Pairwise (fun a b => b < a)) (p : List Int) : ∃ u v w : List (List Int), rs = u ++ v ++ w ∧ (∀ r ∈ u, r.take p.length ≠ p) ∧ (∀ r ∈ v, r.take p.length = p) ∧ (∀ r ∈ w, r.take p.length ≠ p) := by
  induction rs with
  | nil => exact ⟨[], [], [], rfl, by simp, by simp, by simp⟩
  | cons r rs ih =>
    obtain ⟨h1, h2⟩ := List.pairwise_cons.mp hf
    obtain ⟨u, v, w, e, hu, hv, hw⟩ := ih h2
    by_cases c : r.take p.length = p
    · cases v with
      | nil =>
        refine ⟨[], [r], u ++ w, by rw [e]; simp, by simp, by simpa using c, fun q hq => ?_⟩
        rcases List.mem_append.mp hq with z | z
        · exact hu q z
        · exact hw q z
      | cons v0 v =>
        cases u with
        | nil =>
          refine ⟨[], r :: v0 :: v, w, by rw [e]; simp, by simp, fun q hq => ?_, hw⟩
          rcases List.mem_cons.mp hq with z | z
          · rw [z]; exact c
          · exact hv q z
        | cons u0 u =>
          exfalso
          have m0 : u0 ∈ rs := by rw [e]; simp
          have l1 : u0 < r := h1 u0 m0
          have l2 : v0 < u0 := by
            rw [e] at h2
            have h3 : (u0 :: (u ++ (v0 :: v) ++ w)).Pairwise (fun a b => b < a) := h2
            exact (List.pairwise_cons.mp h3).1 v0 (by simp)
          have := take_between (k := p.length) l2 l1 (by rw [c, hv v0 (by simp)])
          exact hu u0 (by simp) (this.trans c)
    · refine ⟨r :: u, v, w, by rw [e]; simp, fun q hq => ?_, hv, hw⟩
      rcases List.mem_cons.mp hq with z | z
      · rw [z]; exact c
      · exact hu q z
theorem lv_parts {u v w : List (List Int)} {p : List Int} (hu : ∀ r ∈ u, r.take p.length ≠ p) (hv : ∀ r ∈ v, r.take p.length = p) (hw : ∀ r ∈ w, r.take p.length ≠ p) : lv (u ++ v ++ w) p = List.range' u.length v.length := by
  unfold lv
  rw [lvF_app, lvF_app, lvF_none p u 0 hu, lvF_all p v _ hv, lvF_none p w _ hw]
  simp
/-! how many numbers are at least so great -/
def cge (xs : List Int) (k : Int) : Nat := (xs.filter fun x => decide (k ≤ x)).length
theorem cge_le (xs : List Int) (k : Int) : cge xs k ≤ xs.length := List.length_filter_le _ _
end My.Pn

set_option Elab.async false
set_option linter.all false
set_option maxRecDepth 100000
set_option maxHeartbeats 4000000
namespace My.Pn
open PySem PySem.Spec PyProof.Rows L2 Bk
/-! ### tests and settled days, plainly -/
/-- the numbers behind a past, level by level -/
def nmb (rs : List (List Int)) (p : List Int) : List Int := (lv rs p).map fun l => (rs.getD l []).getD p.length 0
/-- the tests of a plan -/
def tst (rs : List (List Int)) (p : List Int) : List Int := match lv rs p with
  | [] => []
  | a :: _ => (intR 1 ((nmb rs p).getD 0 0).toNat).map fun j => (a : Int) + (cge (nmb rs p) j : Nat)
theorem lv_range {d : Nat} {rs : List (List Int)} (h : Pl d rs) (p : List Int) : ∃ a m, lv rs p = List.range' a m ∧ a + m ≤ rs.length ∧ ∀ j, a ≤ j → j < a + m → ∃ r, rs[j]? = some r ∧ r.take p.length = p := by
  obtain ⟨u, v, w, rfl, hu, hv, hw⟩ := parts h.fall p
  refine ⟨u.length, v.length, lv_parts hu hv hw, by simp only [List.length_append]; omega, fun j h1 h2 => ?_⟩
  have hj : j - u.length < v.length := by omega
  refine ⟨v[j - u.length], ?_, hv _ (List.getElem_mem hj)⟩
  rw [List.append_assoc, List.getElem?_append_right h1, List.getElem?_append_left hj, List.getElem?_eq_getElem hj]
/-! settled -/
theorem uniqR_len : ∀ rs : List (List Int), (uniqR rs).length ≤ rs.length ∧ ((uniqR rs).length = rs.length ↔ rs.Nodup)
  | [] => by simp [uniqR]
  | r :: rs => by
    obtain ⟨h1, h2⟩ := uniqR_len rs
    unfold uniqR
    by_cases c : r ∈ rs
    · rw [if_pos c]
      refine ⟨by simp; omega, ?_⟩
      rw [List.nodup_cons, List.length_cons]
      constructor
      · intro z; omega
      · intro z; exact absurd c z.1
    · rw [if_neg c]
      refine ⟨by simp; omega, ?_⟩
      rw [List.nodup_cons, List.length_cons, List.length_cons]
      simp [c, ← h2]
end My.Pn

set_option Elab.async false
set_option linter.all false
set_option maxRecDepth 100000
set_option maxHeartbeats 8000000
namespace My.Pn
open PySem PySem.Spec PyProof.Rows L2 Bk
/-! ### the program's functions of plans -/
abbrev rowT (r : List Int) : D := .tup (r.map D.int)
def planD (t : Bool) (rs : List (List Int)) : D := if t = true then .tup (rs.map rowT) else .lst (rs.map rowT)
abbrev rowTP (r : List Int) : PyData := .tuple (r.map PyData.int)
theorem rowT_dt (n : Nat) (r : List Int) : Dt (n + 1) (rowT r) (rowTP r) := (Dts.ints n r).tup
theorem rowsT_dt (n : Nat) (rs : List (List Int)) : Dts (n + 1) (rs.map rowT) (rs.map rowTP) := .map _ fun r _ => rowT_dt n r
@[simp] theorem rowsT_below (m : Nat) (rs : List (List Int)) : belows m (rs.map rowT) = true := (rowsT_dt 0 rs).belows
@[simp] theorem planD_below (m : Nat) (t : Bool) (rs : List (List Int)) : below m (planD t rs) = true := by cases t <;> simp [planD]
@[simp] theorem planD_items (M : List MO) (t : Bool) (rs : List (List Int)) : itemsD M (planD t rs) = some (rs.map rowT) := by cases t <;> rfl
@[simp] theorem planD_seq (t : Bool) (rs : List (List Int)) : seqD (planD t rs) = some (rs.map rowT) := by cases t <;> rfl
@[simp] theorem planD_len (M : List MO) (t : Bool) (rs : List (List Int)) : dLen M (planD t rs) = some (.int rs.length) := by cases t <;> simp [planD]
@[simp] theorem planD_isi (M : List MO) (t : Bool) (rs : List (List Int)) : dIsiT ["list", "tuple"] M (planD t rs) = some (.bl true) := by cases t <;> rfl
theorem planD_ix (M : List MO) (t : Bool) (rs : List (List Int)) {i : Nat} {r : List Int} (h : rs[i]? = some r) : dIx M (planD t rs) (.int (i : Nat)) = some (rowT r) := by
  rw [e_ix, planD_items, Option.bind_some]
  refine (Bk.atI_nat _ _).trans ?_
  rw [List.getElem?_map, h]
  rfl
theorem rowT_ix (M : List MO) (r : List Int) {i : Nat} (h : i < r.length) : dIx M (rowT r) (.int (i : Nat)) = some (.int (r.getD i 0)) := by
  rw [e_ix, itemsD_t, Option.bind_some]
  refine (Bk.atI_nat _ _).trans ?_
  simp [h]
theorem row_eqv : ∀ a b : List Int, PyData.eqvAll (a.map PyData.int) (b.map PyData.int) = decide (a = b)
  | [], [] => by simp [PyData.eqvAll]
  | [], _ :: _ => by simp [PyData.eqvAll]
  | _ :: _, [] => by simp [PyData.eqvAll]
  | x :: a, y :: b => by
    simp only [List.map_cons, PyData.eqvAll, row_eqv a b, List.cons.injEq, Bool.decide_and]
    congr 1
theorem rowT_eqP (M : List MO) (a b : List Int) : eqP M (rowT a) (rowT b) = some (decide (a = b)) := by
  rw [eqP_of (rowT_dt 0 a) (rowT_dt 0 b) (Dt.deref (rowT_dt 0 a)) (Dt.deref (rowT_dt 0 b)) (by decide) (by decide)]
  exact congrArg some ((by simp [PyData.eqv] : PyData.eqv (rowTP a) (rowTP b) = PyData.eqvAll (a.map PyData.int) (b.map PyData.int)).trans (row_eqv a b))
theorem rowT_eq (M : List MO) (a b : List Int) : dEqA M (rowT a) (rowT b) = some (.bl (decide (a = b))) := dEqA_p (x := rowT a) (rowT_eqP M a b) (fun _ h => by cases h)
theorem rowT_ne (M : List MO) (a b : List Int) : dNeA M (rowT a) (rowT b) = some (.bl !(decide (a = b))) := dNeA_p (x := rowT a) (rowT_eqP M a b) (fun _ h => by cases h)
theorem rowT_cut (M : List MO) (r : List Int) (k : Nat) : dCut M none (some (k : Int)) (rowT r) = some (rowT (r.take k)) := by
  show some (D.tup (Bk.cutD (r.map D.int) none (some (k : Int)))) = _
  rw [cutD_upto, ← List.map_take]
theorem m_nums (ns : List Int) (hl : ns.length ≤ 1000) (h : ∀ n ∈ ns, 0 ≤ n) : F_are_numbers [rowT ns] [] = .ok (.bl true) [] := by
  have key := lcL_map (gg := gTo 1) (ge := le_are_numbers_1) (Γ := [some (.tup (ns.map D.int)), none]) (M := []) (f := fun _ => .bl true) (ns.map D.int) [] (by rw [List.length_map]; exact Nat.le_trans (by simpa using hl) (by decide)) fun d hd => by
    obtain ⟨i, hi, rfl⟩ := List.mem_map.mp hd
    exact ⟨_, rfl, by simp [le_are_numbers_1, c_atleast, h i hi]⟩
  have e : (ns.map D.int).map (fun _ => D.bl true) = (ns.map fun _ => true).map D.bl := by simp
  have q : ((ns.map fun _ => true).all id) = true := by simp
  rw [e, List.nil_append] at key
  simp [F_are_numbers, b_are_numbers, runF, key, dAll, ofBls, blsD_map, -List.map_map]
theorem m_rowof {r : List Int} {d : Nat} (hl : r.length = d) (hd : d ≤ 100) (h : ∀ n ∈ r, 0 ≤ n ∧ n ≤ 12) : F_is_row_of [rowT r, .int (d : Nat)] [] = .ok (.bl true) [] := by
  have key := lcL_map (gg := gTo 2) (ge := le_is_row_of_1) (Γ := [some (.tup (r.map D.int)), some (.int (d : Nat)), none]) (M := []) (f := fun _ => .bl true) (r.map D.int) [] (by rw [List.length_map]; exact Nat.le_trans (by simpa using (show r.length ≤ 1000 by omega)) (by decide)) fun x hx => by
    obtain ⟨i, hi, rfl⟩ := List.mem_map.mp hx
    exact ⟨_, rfl, by simp [le_is_row_of_1, c_between, h i hi]⟩
  have e : (r.map D.int).map (fun _ => D.bl true) = (r.map fun _ => true).map D.bl := by simp
  have q : ((r.map fun _ => true).all id) = true := by simp
  rw [e, List.nil_append] at key
  have ln : ∀ M, dLen M (rowT r) = some (.int d) := fun M => by rw [e_lenT, List.length_map, hl]
  simp [-e_lenT, F_is_row_of, b_is_row_of, runF, ln, key, dAll, ofBls, blsD_map, -List.map_map]
theorem lt_split : ∀ {a b : List Int}, a.length = b.length → b < a → ∃ j, j < b.length ∧ (∀ m, m < j → b.getD m 0 = a.getD m 0) ∧ b.getD j 0 < a.getD j 0
  | [], [], _, h => absurd h (List.lt_irrefl _)
  | [], _ :: _, e, _ => by simp at e
  | _ :: _, [], e, _ => by simp at e
  | x :: a, y :: b, e, h => by
    rw [List.cons_lt_cons_iff] at h
    rcases h with h | ⟨rfl, h⟩
    · exact ⟨0, by simp, fun m hm => absurd hm (Nat.not_lt_zero _), by simpa using h⟩
    · obtain ⟨j, h1, h2, h3⟩ := lt_split (by simpa using e) h
      refine ⟨j + 1, by simpa using h1, fun m hm => ?_, by simpa using h3⟩
      cases m with
      | zero => simp
      | succ m => simpa using h2 m (by omega)
/-- a past of a plan -/
structure OkP (d : Nat) (p : List Int) : Prop where
  l : p.length ≤ d
  p : ∀ n ∈ p, 0 ≤ n
theorem Pl.row0 {d : Nat} {rs : List (List Int)} (h : Pl d rs) : ∃ r0, rs[0]? = some r0 ∧ r0.length = d := by
  obtain ⟨r0, rs', e0⟩ := List.exists_cons_of_ne_nil h.ne
  exact ⟨r0, by rw [e0]; rfl, h.len r0 (by rw [e0]; simp)⟩
abbrev natD (ls : List Nat) : List D := ls.map fun (l : Nat) => D.int (l : Int)
@[simp] theorem natD_below (m : Nat) (ls : List Nat) : belows m (natD ls) = true := by
  rw [belows_all, List.all_map, List.all_eq_true]
  intro x _
  simp
theorem lev_loop {q : D} {p : List Int} {gt : GT} (hgt : ∀ (i : Nat) (r : List Int) (M : List MO), gt [some q, some (rowT p), some (.int i), some (rowT r)] M = .ok (decide (r.take p.length = p)) M) (M : List MO) : ∀ (rs : List (List Int)) (i : Nat) (acc : List D), acc.length + rs.length ≤ 1900 →
    gLcL (gToT (gToCons (gTo 2) (gToCons (gTo 3) (gToNil)))) gt (gV 2) [some q, some (rowT p), none, none] (enumL (i : Int) (rs.map rowT)) acc M = .ok (acc ++ natD (lvF p i rs)) M
  | [], i, acc, _ => by simp [enumL, lvF, gLcL]
  | r :: rs, i, acc, h => by
    have sz : 2000 ≤ sizeLine := by rw [sizeLine_eq]; omega
    simp only [List.length_cons] at h
    have e3 : ((i + 1 : Nat) : Int) = (i : Int) + 1 := by omega
    rw [List.map_cons, enumL]
    by_cases c : r.take p.length = p
    · have ih := lev_loop hgt M rs (i + 1) (acc ++ [.int i]) (by simp; omega)
      rw [e3] at ih
      refine (lcL_take (Γ1 := [some q, some (rowT p), some (.int i), some (rowT r)]) (y := .int i) (M1 := M) (M2 := M) (by simp) (by rw [hgt]; simp [c]) (by simp) (by omega)).trans (ih.trans ?_)
      rw [lvF, if_pos c]
      simp
    · have ih := lev_loop hgt M rs (i + 1) acc (by omega)
      rw [e3] at ih
      refine (lcL_skip (Γ1 := [some q, some (rowT p), some (.int i), some (rowT r)]) (M1 := M) (by simp) (by rw [hgt]; simp [c])).trans (ih.trans ?_)
      rw [lvF, if_neg c]
theorem lev_test {q : D} {p : List Int} (i : Nat) (r : List Int) (M : List MO) : (gVal (gOp2 dEqA (gSl (gV 3) (gNoO) (gO (gCall (fn1 dLen) (gCons (gV 1) (gNil))))) (gV 1))) [some q, some (rowT p), some (.int i), some (rowT r)] M = .ok (decide (r.take p.length = p)) M := by
  have lq : ∀ M, dLen M (rowT p) = some (.int p.length) := fun M => by rw [e_lenT, List.length_map]
  have ct := fun M => rowT_cut M r p.length
  have eq := fun M => rowT_eq M (r.take p.length) p
  generalize rowT (r.take p.length) = A at *
  generalize rowT p = B at *
  generalize rowT r = C at *
  simp [-e_lenT, lq, ct, eq]
end My.Pn

set_option Elab.async false
set_option linter.all false
set_option maxRecDepth 100000
set_option maxHeartbeats 8000000
namespace My.Pn
open PySem PySem.Spec PyProof.Rows L2 Bk
/-! ### group, tests, level_of, settled -/
theorem natD_dts (n : Nat) (ls : List Nat) : Dts n (natD ls) (ls.map fun (l : Nat) => PyData.int (l : Int)) := .map _ fun l _ => .int n _
theorem natD_eqP (M : List MO) (ls : List Nat) : eqP M (.lst (natD ls)) (.lst []) = some (decide (ls = [])) := by
  rw [eqP_of (natD_dts 0 ls).lst (Dts.nil 0).lst (Dt.deref (natD_dts 0 ls).lst) (Dt.deref (Dts.nil 0).lst) (by decide) (by decide)]
  cases ls with
  | nil => rfl
  | cons x ls => rfl
theorem natD_eq (M : List MO) (ls : List Nat) : dEqA M (.lst (natD ls)) (.lst []) = some (.bl (decide (ls = []))) := dEqA_p (x := .lst (natD ls)) (natD_eqP M ls) (fun _ h => by cases h)
theorem natD_ne (M : List MO) (ls : List Nat) : dNeA M (.lst (natD ls)) (.lst []) = some (.bl !(decide (ls = []))) := dNeA_p (x := .lst (natD ls)) (natD_eqP M ls) (fun _ h => by cases h)
theorem natD_first (M : List MO) (a m : Nat) : dIx M (.lst (natD (List.range' a (m + 1)))) (.int 0) = some (.int (a : Nat)) := by
  rw [e_ix, itemsD_l, Option.bind_some]
  refine (Bk.atI_nat _ 0).trans ?_
  rw [List.range'_succ]
  rfl
theorem atI_lastN (ds : List D) (d : D) : atI (ds ++ [d]) (-1) = some d := by
  have e : ixN (ds ++ [d]).length (-1) = some ds.length := by
    simp [ixN]
    omega
  unfold atI
  rw [e]
  simp
theorem intR_lenN : ∀ (n : Nat) (lo : Int), (intR lo n).length = n
  | 0, _ => rfl
  | n + 1, lo => by simp [intR, intR_lenN n]
theorem natD_last (M : List MO) (a m : Nat) : dIx M (.lst (natD (List.range' a (m + 1)))) (.int (-1)) = some (.int ((a + m : Nat))) := by
  rw [e_ix, itemsD_l, Option.bind_some, List.range'_concat]
  unfold natD
  rw [List.map_append, List.map_cons, List.map_nil]
  refine (atI_lastN _ _).trans ?_
  simp
def grpD : List Nat → D
  | [] => .non
  | a :: ls => .tup [.int (a : Nat), .int ((a + ls.length : Nat))]
@[simp] theorem grpD_below (m : Nat) (ls : List Nat) : below m (grpD ls) = true := by cases ls <;> simp [grpD]
def tstD (d : Nat) (rs : List (List Int)) (p : List Int) : List Int := if p.length < d then tst rs p else []
end My.Pn

set_option Elab.async false
set_option linter.all false
set_option maxRecDepth 100000
set_option maxHeartbeats 8000000
namespace My.Pn
open PySem PySem.Spec PyProof.Rows L2 Bk
/-! ### allowed rows, plainly -/
structure OkC (c : Cal) : Prop where
  l : c.length ≤ 100
  v : ∀ (i : Nat) p, c[i]? = some p → okE p (i + 1)
/-- no day with too many pieces away or broken; zeros behind the row -/
def Al (c : Cal) (r : List Int) : Prop := ∀ (j : Nat) p, c[j]? = some p → awayV c r ((j : Int) + 1) + r.getD j 0 ≤ p.1
theorem gone_mono {d : Int} {b : Option Int} {x y : Int} (h : x ≤ y) : gone1 d b x ≤ gone1 d b y := by
  unfold gone1
  cases b with
  | none => exact h
  | some b =>
    simp only
    split
    · exact h
    · exact Int.le_refl _
theorem gone_nn {d : Int} {b : Option Int} {x : Int} (h : 0 ≤ x) : 0 ≤ gone1 d b x := by
  unfold gone1
  cases b with
  | none => exact h
  | some b =>
    simp only
    split
    · exact h
    · exact Int.le_refl _
theorem awayZ_cons (d : Int) (p : Int × Option Int) (n : Int) (l : Cal) (a : List Int) : awayZ d ((p :: l).zip (n :: a)) = gone1 d p.2 n + awayZ d (l.zip a) := by simp [awayZ]
theorem awayZ_nn {d : Int} : ∀ (l : Cal) (b : List Int), (∀ i, 0 ≤ b.getD i 0) → 0 ≤ awayZ d (l.zip b)
  | [], _, _ => by simp [awayZ]
  | _ :: _, [], _ => by simp [awayZ]
  | p :: l, n :: b, h => by
    rw [awayZ_cons]
    have h0 := h 0
    simp only [List.getD_cons_zero] at h0
    have := gone_nn (d := d) (b := p.2) h0
    have := awayZ_nn (d := d) l b fun i => by simpa using h (i + 1)
    omega
theorem awayZ_mono {d : Int} : ∀ (l : Cal) (a b : List Int), (∀ i, a.getD i 0 ≤ b.getD i 0) → (∀ i, 0 ≤ b.getD i 0) → awayZ d (l.zip a) ≤ awayZ d (l.zip b)
  | [], _, _, _, _ => by simp [awayZ]
  | q :: l, [], b, _, h => by
    have := awayZ_nn (d := d) (q :: l) b h
    simpa [awayZ] using this
  | p :: l, n :: a, [], h, _ => by
    have key : ∀ (l : Cal) (a : List Int), (∀ i, a.getD i 0 ≤ 0) → awayZ d (l.zip a) ≤ 0 := fun l => by
      induction l with
      | nil => intro a _; simp [awayZ]
      | cons q l ih =>
        intro a ha
        cases a with
        | nil => simp [awayZ]
        | cons m a =>
          rw [awayZ_cons]
          have h0 := ha 0
          simp only [List.getD_cons_zero] at h0
          have := gone_mono (d := d) (b := q.2) h0
          have e : gone1 d q.2 0 = 0 := by
            unfold gone1
            cases q.2 with
            | none => rfl
            | some b => simp
          have := ih a fun i => by simpa using ha (i + 1)
          omega
    have := key (p :: l) (n :: a) fun i => by simpa using h i
    simpa [awayZ] using this
  | p :: l, n :: a, m :: b, h, hb => by
    rw [awayZ_cons, awayZ_cons]
    have h0 := h 0
    simp only [List.getD_cons_zero] at h0
    have := gone_mono (d := d) (b := p.2) h0
    have := awayZ_mono (d := d) l a b (fun i => by simpa using h (i + 1)) fun i => by simpa using hb (i + 1)
    omega
theorem Al.mono {c : Cal} {a b : List Int} (h : Al c b) (hab : ∀ i, a.getD i 0 ≤ b.getD i 0) (hb : ∀ i, 0 ≤ b.getD i 0) : Al c a := fun j p hp => by
  have := h j p hp
  have := awayZ_mono (d := (j : Int) + 1) (c.take (((j : Int) + 1).toNat - 1)) a b hab hb
  have := hab j
  unfold awayV at *
  omega
theorem getD_nn {b : List Int} (h : ∀ x ∈ b, 0 ≤ x) (i : Nat) : 0 ≤ b.getD i 0 := by
  rw [List.getD_eq_getElem?_getD]
  cases e : b[i]? with
  | none => exact Int.le_refl _
  | some x => exact h x (List.mem_of_getElem? e)
theorem getD_app (p q : List Int) (h : ∀ x ∈ q, 0 ≤ x) (i : Nat) : p.getD i 0 ≤ (p ++ q).getD i 0 := by
  rw [List.getD_eq_getElem?_getD, List.getD_eq_getElem?_getD]
  by_cases c : i < p.length
  · rw [List.getElem?_append_left c]
    exact Int.le_refl _
  · rw [List.getElem?_eq_none (by omega), List.getElem?_append_right (by omega)]
    have := getD_nn h (i - p.length)
    rw [List.getD_eq_getElem?_getD] at this
    exact this
theorem Al.pre {c : Cal} {p q : List Int} (h : Al c (p ++ q)) (hn : ∀ x ∈ p ++ q, 0 ≤ x) : Al c p :=
  h.mono (getD_app p q fun x hx => hn x (List.mem_append_right _ hx)) (getD_nn hn)
theorem Al.nil {c : Cal} (hc : OkC c) : Al c [] := fun j p hp => by
  have := (hc.v j p hp).1
  simp [awayV, awayZ]
  exact this
/-- the numbers stay below what is owned -/
theorem Al.own {c : Cal} {r : List Int} (h : Al c r) (hr : ∀ x ∈ r, 0 ≤ x) {top : Int} (ht : ∀ p ∈ c, p.1 ≤ top) (hl : r.length ≤ c.length) : ∀ x ∈ r, x ≤ top := fun x hx => by
  obtain ⟨i, hi, rfl⟩ := List.mem_iff_getElem.mp hx
  have hc : i < c.length := by omega
  have a := h i _ (List.getElem?_eq_getElem hc)
  have b : 0 ≤ awayV c r ((i : Int) + 1) := awayZ_nn _ _ (getD_nn hr)
  have e : r.getD i 0 = r[i] := by simp [hi]
  have := ht _ (List.getElem_mem hc)
  omega
/-- what comes back on a day -/
def ret1 (x : Int) (e : Option Int) (n : Int) : Int := match e with
  | none => 0
  | some b => if b = x then n else 0
def retZ (x : Int) (zs : List ((Int × Option Int) × Int)) : Int := (zs.map fun z => ret1 x z.1.2 z.2).sum
theorem ret_gone (d : Int) : ∀ zs : List ((Int × Option Int) × Int), awayZ d zs - retZ (d + 1) zs = awayZ (d + 1) zs
  | [] => by simp [awayZ, retZ]
  | z :: zs => by
    have ih := ret_gone d zs
    have h1 : gone1 d z.1.2 z.2 - ret1 (d + 1) z.1.2 z.2 = gone1 (d + 1) z.1.2 z.2 := by
      unfold gone1 ret1
      cases z.1.2 with
      | none => simp
      | some b =>
        simp only
        by_cases e : b = d + 1
        · rw [if_pos e, if_pos (by omega), if_neg (by omega)]
          omega
        · rw [if_neg e]
          by_cases g : d < b
          · rw [if_pos g, if_pos (by omega)]
            omega
          · rw [if_neg g, if_neg (by omega)]
            omega
    simp only [awayZ, retZ, List.map_cons, List.sum_cons] at ih ⊢
    omega
theorem kiGet_put (i : Int) (d : D) (x : Int) : ∀ kvs : List (Int × D), kiGet (kiPut kvs i d) x = if x = i then some d else kiGet kvs x := by
  have app : ∀ kvs : List (Int × D), kiHas kvs i = false → kiGet (kvs ++ [(i, d)]) x = if x = i then some d else kiGet kvs x := fun kvs => by
    induction kvs with
    | nil =>
      intro _
      simp only [List.nil_append, kiGet]
      by_cases e : x = i
      · rw [if_pos e, if_pos e.symm]
      · rw [if_neg e, if_neg (Ne.symm e)]
    | cons p r ih =>
      intro h
      simp only [kiHas, Bool.or_eq_false_iff, decide_eq_false_iff_not] at h
      simp only [List.cons_append, kiGet]
      by_cases e : p.1 = x
      · rw [if_pos e, if_pos e, if_neg fun z => h.1 (e.trans z)]
      · rw [if_neg e, if_neg e]
        exact ih h.2
  have rep : ∀ kvs : List (Int × D), kiHas kvs i = true → kiGet (kiRep kvs i d) x = if x = i then some d else kiGet kvs x := fun kvs => by
    induction kvs with
    | nil => intro h; cases h
    | cons p r ih =>
      intro h
      simp only [kiRep, kiGet]
      by_cases pi : p.1 = i
      · rw [if_pos pi]
        simp only
        by_cases e : p.1 = x
        · rw [if_pos e, if_pos (e.symm.trans pi)]
        · rw [if_neg e]
          have ne : ¬ x = i := fun z => e (pi.trans z.symm)
          rw [if_neg ne, if_neg e]
          by_cases hh : kiHas r i = true
          · have := ih hh
            rw [if_neg ne] at this
            exact this
          · have hh : kiHas r i = false := by simpa using hh
            have : ∀ r : List (Int × D), kiHas r i = false → kiRep r i d = r := fun r => by
              induction r with
              | nil => intro _; rfl
              | cons q r ih =>
                intro h
                simp only [kiHas, Bool.or_eq_false_iff, decide_eq_false_iff_not] at h
                simp only [kiRep, if_neg h.1, ih h.2]
            rw [this r hh]
      · rw [if_neg pi]
        have h2 : kiHas r i = true := by
          simp only [kiHas, Bool.or_eq_true, decide_eq_true_eq] at h
          rcases h with w | w
          · exact absurd w pi
          · exact w
        by_cases e : p.1 = x
        · rw [if_pos e, if_pos e, if_neg fun z => pi (e.trans z)]
        · rw [if_neg e, if_neg e]
          exact ih h2
  intro kvs
  unfold kiPut
  cases hh : kiHas kvs i with
  | true => rw [if_pos rfl]; exact rep kvs hh
  | false => rw [if_neg (by simp)]; exact app kvs hh
theorem kiPut_len (kvs : List (Int × D)) (i : Int) (d : D) : (kiPut kvs i d).length ≤ kvs.length + 1 := by
  have rep : ∀ kvs : List (Int × D), (kiRep kvs i d).length = kvs.length := fun kvs => by
    induction kvs with
    | nil => rfl
    | cons p r ih => simp [kiRep, ih]
  unfold kiPut
  split
  · rw [rep]; omega
  · simp
end My.Pn

set_option Elab.async false
set_option linter.all false
set_option maxRecDepth 100000
set_option maxHeartbeats 8000000
namespace My.Pn
open PySem PySem.Spec PyProof.Rows L2 Bk
/-! ### the program: allowed rows, check_plan -/
theorem c_reqcal (t : Bool) {c : Cal} (h : OkC c) (M : List MO) : callF F_require_calendar [calD t c] M = .ok .non M := c_flat (m_reqcal t c h.l h.v) M (by simp) (by simp)
theorem zip_take (c : Cal) (r : List Int) (k : Nat) : (c.take k).zip r = (c.zip r).take k := by
  rw [List.zip_eq_zipWith, List.zip_eq_zipWith]
  induction k generalizing c r with
  | zero => simp
  | succ k ih =>
    cases c with
    | nil => simp
    | cons p c =>
      cases r with
      | nil => simp
      | cons n r => simp [ih]
theorem allow_loop (t : Bool) {c : Cal} {r : List Int} (hc : OkC c) (hl : r.length = c.length) (ha : Al c r) : ∀ (m j : Nat) (kvs : List (Int × D)), j + m = c.length → kvs.length ≤ j → (∀ x, (kiGet kvs x).getD (.int 0) = .int (retZ x ((c.zip r).take j))) →
    ∃ kvs' g', gForL (gToT (gToCons (gTo 4) (gToCons (gToT (gToCons (gToT (gToCons (gTo 5) (gToCons (gTo 6) (gToNil)))) (gToCons (gTo 7) (gToNil)))) (gToNil)))) lb_is_allowed_row_1 (enumL ((j : Int) + 1) (((c.zip r).drop j).map fun z => .tup [entD z.1, .int z.2]))
      [some (calD t c), some (rowT r), some (.ref 0), some (.int (awayZ j ((c.zip r).take j))), none, none, none, none] [.dki kvs]
      = .nx [some (calD t c), some (rowT r), some (.ref 0), some (.int g'), none, none, none, none] [.dki kvs']
  | 0, j, kvs, h, _, _ => by
    have e : (c.zip r).drop j = [] := List.drop_eq_nil_of_le (by rw [List.length_zip]; omega)
    rw [e]
    exact ⟨kvs, awayZ j ((c.zip r).take j), by rw [List.map_nil, enumL, u_gForL0]⟩
  | m + 1, j, kvs, h, hk, hg => by
    have hcl := hc.l
    have sz : 2000 ≤ sizeLine := by rw [sizeLine_eq]; omega
    have jl : j < (c.zip r).length := by rw [List.length_zip]; omega
    have jc : j < c.length := by omega
    have jr : j < r.length := by omega
    have ez : (c.zip r)[j] = (c[j], r[j]) := List.getElem_zip
    obtain ⟨⟨o, b⟩, hp⟩ : ∃ p, c[j] = p := ⟨_, rfl⟩
    obtain ⟨n, hn⟩ : ∃ n, r[j] = n := ⟨_, rfl⟩
    rw [hp, hn] at ez
    have ed : (c.zip r).drop j = ((o, b), n) :: (c.zip r).drop (j + 1) := by rw [List.drop_eq_getElem_cons jl, ez]
    have et : (c.zip r).take (j + 1) = (c.zip r).take j ++ [((o, b), n)] := by rw [List.take_succ, List.getElem?_eq_getElem jl, ez]; rfl
    have cj : c[j]? = some (o, b) := by rw [List.getElem?_eq_getElem jc, hp]
    have vj := hc.v j _ cj
    have al := ha j _ cj
    have gr : r.getD j 0 = n := by simp [jr, hn]
    have av : awayV c r ((j : Int) + 1) = awayZ ((j : Int) + 1) ((c.zip r).take j) := by
      unfold awayV
      have : ((j : Int) + 1).toNat - 1 = j := by omega
      rw [this, zip_take]
    rw [gr, av] at al
    have rg := ret_gone (j : Int) ((c.zip r).take j)
    have gj := hg ((j : Int) + 1)
    have bj : gone1 ((j : Int) + 1) b n = n := by
      unfold gone1
      cases b with
      | none => rfl
      | some b =>
        have := vj.2.2 b rfl
        simp only
        rw [if_pos (by omega)]
    have aw : awayZ (((j + 1 : Nat) : Int)) ((c.zip r).take (j + 1)) = awayZ ((j : Int) + 1) ((c.zip r).take j) + n := by
      rw [et]
      have e1 : ((j + 1 : Nat) : Int) = (j : Int) + 1 := by omega
      rw [e1]
      simp only [awayZ, List.map_append, List.sum_append, List.map_cons, List.map_nil, List.sum_cons, List.sum_nil, bj]
      omega
    have ng : ¬ o < awayZ ((j : Int) + 1) ((c.zip r).take j) + n := by
      simp only at al
      omega
    have e1 : ((j + 1 : Nat) : Int) + 1 = (j : Int) + 1 + 1 := by omega
    have rz : ∀ x, retZ x ((c.zip r).take (j + 1)) = retZ x ((c.zip r).take j) + ret1 x b n := fun x => by
      rw [et]
      simp [retZ]
    -- the step
    have step : ∃ kvs1, kvs1.length ≤ j + 1 ∧ (∀ x, (kiGet kvs1 x).getD (.int 0) = .int (retZ x ((c.zip r).take (j + 1)))) ∧
        lb_is_allowed_row_1 [some (calD t c), some (rowT r), some (.ref 0), some (.int (awayZ j ((c.zip r).take j))), some (.int ((j : Int) + 1)), some (.int o), some (optD b), some (.int n)] [.dki kvs]
          = .nx [some (calD t c), some (rowT r), some (.ref 0), some (.int (awayZ ((j + 1 : Nat) : Int) ((c.zip r).take (j + 1)))), none, none, none, none] [.dki kvs1] := by
      have rg' : awayZ (j : Int) ((c.zip r).take j) - retZ ((j : Int) + 1) ((c.zip r).take j) + n = awayZ (((j + 1 : Nat) : Int)) ((c.zip r).take (j + 1)) := by rw [rg, aw]
      have ng2 : ¬ o < awayZ (((j + 1 : Nat) : Int)) ((c.zip r).take (j + 1)) := by rw [aw]; exact ng
      cases b with
      | none =>
        refine ⟨kvs, by omega, fun x => by rw [rz, hg x]; simp [ret1], ?_⟩
        generalize awayZ (((j + 1 : Nat) : Int)) ((c.zip r).take (j + 1)) = A1 at *
        generalize awayZ (j : Int) ((c.zip r).take j) = A0 at *
        generalize retZ ((j : Int) + 1) ((c.zip r).take j) = R0 at *
        generalize calD t c = CD at *
        generalize rowT r = RD at *
        generalize (j : Int) + 1 = jj at *
        simp [lb_is_allowed_row_1, gGetK, gj, ng2, rg', optD, isDct]
      | some b =>
        refine ⟨kiPut kvs b (.int (retZ b ((c.zip r).take j) + n)), by have := kiPut_len kvs b (.int (retZ b ((c.zip r).take j) + n)); omega, fun x => ?_, ?_⟩
        · rw [rz, kiGet_put]
          by_cases e : x = b
          · rw [if_pos e, e]
            simp [ret1]
          · rw [if_neg e, hg x]
            simp only [ret1]
            rw [if_neg (Ne.symm e)]
            simp
        · have gb := hg b
          have kz : kvs.length < sizeLine := by omega
          generalize awayZ (((j + 1 : Nat) : Int)) ((c.zip r).take (j + 1)) = A1 at *
          generalize awayZ (j : Int) ((c.zip r).take j) = A0 at *
          generalize retZ ((j : Int) + 1) ((c.zip r).take j) = R0 at *
          generalize retZ b ((c.zip r).take j) = R1 at *
          generalize calD t c = CD at *
          generalize rowT r = RD at *
          generalize (j : Int) + 1 = jj at *
          simp [lb_is_allowed_row_1, gGetK, gj, gb, ng2, rg', optD, setX, kz]
    obtain ⟨kvs1, k1, k2, k3⟩ := step
    obtain ⟨kvs', g', ih⟩ := allow_loop t hc hl ha m (j + 1) kvs1 (by omega) k1 k2
    rw [e1] at ih
    refine ⟨kvs', g', ?_⟩
    rw [ed, List.map_cons, enumL]
    refine (forL_cons (Γ1 := [some (calD t c), some (rowT r), some (.ref 0), some (.int (awayZ j ((c.zip r).take j))), some (.int ((j : Int) + 1)), some (.int o), some (optD b), some (.int n)]) (by simp [entD]) k3).trans ih
theorem m_allowed (t : Bool) {c : Cal} {r : List Int} (hc : OkC c) (hl : r.length = c.length) (ha : Al c r) : F_is_allowed_row [calD t c, rowT r] [] = .ok (.bl true) [] := by
  obtain ⟨kvs', g', lp⟩ := allow_loop t hc hl ha c.length 0 [] (by omega) (by simp) (fun x => by simp [kiGet, retZ])
  have ez : enumZO (calD t c) (rowT r) 1 = some (enumL 1 ((c.zip r).map fun z => .tup [entD z.1, .int z.2])) := by
    have s1 : seqD (calD t c) = some (c.map entD) := calD_seq t c
    have s2 : seqD (rowT r) = some (r.map D.int) := rfl
    unfold enumZO
    rw [s1, s2]
    simp only
    rw [if_pos (by simp [hl]), zip_ents]
  have lp : gForL (gToT (gToCons (gTo 4) (gToCons (gToT (gToCons (gToT (gToCons (gTo 5) (gToCons (gTo 6) (gToNil)))) (gToCons (gTo 7) (gToNil)))) (gToNil)))) lb_is_allowed_row_1 (enumL 1 ((c.zip r).map fun z => .tup [entD z.1, .int z.2])) [some (calD t c), some (rowT r), some (.ref 0), some (.int 0), none, none, none, none] [.dki []] = _ := lp
  generalize enumL 1 ((c.zip r).map fun z => .tup [entD z.1, .int z.2]) = EL at *
  generalize calD t c = CD at *
  generalize rowT r = RD at *
  simp [F_is_allowed_row, b_is_allowed_row, runF, gDki0O, ez, lp]
end My.Pn

set_option Elab.async false
set_option linter.all false
set_option maxRecDepth 100000
set_option maxHeartbeats 8000000
namespace My.Pn
open PySem PySem.Spec PyProof.Rows L2 Bk
/-! ### the program's functions of plans that are lists of ours or frozen ones -/
theorem set_same9 {M : List MO} {k : Nat} {o : MO} (h : M[k]? = some o) : M.set k o = M := by
  obtain ⟨a, b⟩ := List.getElem?_eq_some_iff.mp h
  rw [← b]
  exact List.set_getElem_self a
theorem ix9 {M : List MO} {d : D} {L : List D} (h : VW M d L) (hp : noPtu d = true) {i : Nat} {x : D} (e : L[i]? = some x) : dIx M d (.int (i : Nat)) = some x := by
  rcases h.cases with ⟨k, rfl, e1⟩ | rfl | rfl | rfl
  · rw [e_ix, itemsD_r]
    simp only [listD, e1, Option.bind_some]
    exact (Bk.atI_nat _ _).trans e
  · rw [e_ix, itemsD_l, Option.bind_some]
    exact (Bk.atI_nat _ _).trans e
  · rw [e_ix, itemsD_t, Option.bind_some]
    exact (Bk.atI_nat _ _).trans e
  · cases hp
theorem stB1 {L : List D} (b : ∀ m, belows m L = true) : StB [MO.lst L] := fun o ho m _ => by
  have : o = .lst L := by simpa using ho
  rw [this]
  exact b m
theorem c_view {F : List D → List MO → R D} {L ds : List D} {r : D} (bL : ∀ m, belows m L = true) (bd : belows 0 ds = true) (br : below 0 r = true) (h : ∀ (M : List MO) (q : D), StB M → VW M q L → noPtu q = true → F (q :: ds) M = .ok r M) {M : List MO} {q : D} (hv : VW M q L) (hp : noPtu q = true) : callF F (q :: ds) M = .ok r M := by
  rcases hv.cases with ⟨k, rfl, e⟩ | rfl | rfl | rfl
  · have m := h [.lst L] (.ref 0) (stB1 bL) (VW.ref rfl) rfl
    have c := c_lend1 (k := k) (M := M) m e rfl (bL 0) (bL 0) bd br
    rw [set_same9 e] at c
    exact c
  · exact c_flat (h [] (.lst L) StB.nil (VW.lst _ _) rfl) M (by simp [belows, below, bL 0, bd]) br
  · exact c_flat (h [] (.tup L) StB.nil (VW.tup _ _) rfl) M (by simp [belows, below, bL 0, bd]) br
  · cases hp
theorem lcLW_pure {gg : GG} {gt : GT} {ge : GE} {Γ : Bk.Env} {w : Wt} {M : List MO} (hw : wOk w M) : ∀ (ds acc : List D), (∀ d ∈ ds, ∃ Γ1 k, gg d Γ = some Γ1 ∧ gt Γ1 M = .ok k M ∧ (k = true → ∃ y, ge Γ1 M = .ok y M)) → gLcLW gg gt ge Γ w ds acc M = gLcL gg gt ge Γ ds acc M
  | [], acc, _ => (chkR_t hw).trans (by conv => rhs; unfold gLcL)
  | d :: ds, acc, h => by
    obtain ⟨Γ1, k, h1, h2, h3⟩ := h d (by simp)
    have ih := fun acc => lcLW_pure (gg := gg) (gt := gt) (ge := ge) (Γ := Γ) hw ds acc fun x hx => h x (by simp [hx])
    refine (chkR_t hw).trans ?_
    conv => rhs; unfold gLcL
    cases k with
    | false => simp only [h1, h2, R.only, Bool.false_eq_true, if_false, ih]
    | true =>
      obtain ⟨y, hy⟩ := h3 rfl
      simp only [h1, h2, R.only, if_true, hy, ih]
section
variable {M : List MO} {q : D} {d : Nat} {rs : List (List Int)}
theorem v_entries {L : List D} (hB : StB M) (hv : VW M q L) (hq : noPtu q = true) (l1 : 1 ≤ L.length) (l2 : L.length ≤ 1000) : F_is_entries [q] M = .ok (.bl true) M := by
  have ln := hv.len hq
  have iz := hv.isi hq
  have hM := hB.cut0
  have a1 : (1 : Int) ≤ L.length := by omega
  have a2 : (L.length : Int) ≤ 1000 := by omega
  generalize (L.length : Int) = n at *
  simp [F_is_entries, b_is_entries, runF, iz, ln, a1, a2, hM, retR]
theorem vc_entries (h1 : rs ≠ []) (h2 : rs.length ≤ 1000) (hv : VW M q (rs.map rowT)) (hq : noPtu q = true) : callF F_is_entries [q] M = .ok (.bl true) M := by
  have l1 : 1 ≤ rs.length := List.length_pos_iff.mpr h1
  exact c_view (fun m => rowsT_below m rs) rfl rfl (fun M q hB hv hq => v_entries hB hv hq (by rw [List.length_map]; exact l1) (by rw [List.length_map]; exact h2)) hv hq
theorem v_reqrows (h : Pl d rs) (hB : StB M) (hv : VW M q (rs.map rowT)) (hq : noPtu q = true) : F_require_rows [q] M = .ok .non M := by
  have hf := h.few
  have hd := h.days
  have ce := vc_entries h.ne (by omega) hv hq
  obtain ⟨r0, rs', e0⟩ := List.exists_cons_of_ne_nil h.ne
  have i0 : dIx M q (.int 0) = some (rowT r0) := ix9 hv hq (i := 0) (by rw [e0]; rfl)
  have l0 : r0.length = d := h.len r0 (by rw [e0]; simp)
  have ln : ∀ M, dLen M (rowT r0) = some (.int d) := fun M => by rw [e_lenT, List.length_map, l0]
  have hd' : (d : Int) ≤ 100 := by omega
  have ixq : ∀ {i : Nat} {r : List Int}, rs[i]? = some r → dIx M q (.int (i : Nat)) = some (rowT r) := fun {i r} e => ix9 hv hq (by rw [List.getElem?_map, e]; rfl)
  obtain ⟨w, hw⟩ := hv
  have wk := srcW_ok hw
  have lp : ∀ (post pre : List (List Int)), pre ++ post = rs → gForW (gToT (gToCons (gTo 2) (gToCons (gTo 3) (gToNil)))) lb_require_rows_1 w (enumL ((pre.length : Nat) : Int) (post.map rowT)) [some q, some (.int d), none, none] M = .nx [some q, some (.int d), none, none] M := by
    intro post
    induction post with
    | nil => intro pre _; exact forW_end wk
    | cons r post ih =>
      intro pre e
      have hr : r ∈ rs := by rw [← e]; simp
      have ih' := ih (pre ++ [r]) (by rw [← e]; simp)
      have e3 : (((pre ++ [r]).length : Nat) : Int) = (pre.length : Nat) + 1 := by simp
      rw [e3] at ih'
      have cr := fun M => c_flat (m_rowof (h.len r hr) hd (h.nums r hr)) M (by simp) (by simp)
      rw [List.map_cons, enumL]
      refine (forW_cons (Γ1 := [some q, some (.int d), some (.int (pre.length : Nat)), some (rowT r)]) wk (by simp) ?_).trans ih'
      cases pre with
      | nil =>
        simp [-e_ix, lb_require_rows_1, cr]
      | cons p0 pre =>
        obtain ⟨u, hu⟩ : ∃ u, rs[pre.length]? = some u := ⟨_, List.getElem?_eq_getElem (by rw [← e]; simp; omega)⟩
        have ix := ixq hu
        have sb : (((p0 :: pre).length : Nat) : Int) - 1 = (pre.length : Nat) := by simp
        have lt : r < u := by
          obtain ⟨b1, c1⟩ := List.getElem?_eq_some_iff.mp hu
          have b2 : pre.length + 1 < rs.length := by rw [← e]; simp
          have := List.pairwise_iff_getElem.mp h.fall pre.length (pre.length + 1) b1 b2 (by omega)
          rw [c1] at this
          have er : rs[pre.length + 1] = r := by
            have : rs[pre.length + 1]? = some r := by
              rw [← e, List.getElem?_append_right (by simp)]
              simp
            exact (List.getElem?_eq_some_iff.mp this).2
          rw [er] at this
          exact this
        obtain ⟨j, j1, j2, j3⟩ := lt_split (by rw [h.len u (List.mem_of_getElem? hu), h.len r hr]) lt
        have ge := fun M => (e_geT M r u).trans (congrArg (fun b => some (D.bl b)) (geI_less j1 (by rw [h.len u (List.mem_of_getElem? hu), ← h.len r hr]; exact j1) j2 j3))
        have p1 : (0 : Int) < (pre.length : Int) + 1 := by omega
        simp only [List.length_cons] at sb ⊢
        simp [-e_ix, lb_require_rows_1, cr, p1, ix, ge]
  have lp0 := lp rs [] rfl
  have lp1 : gForW (gToT (gToCons (gTo 2) (gToCons (gTo 3) (gToNil)))) lb_require_rows_1 w (enumL 0 (rs.map rowT)) [some q, some (.int d), none, none] M = _ := lp0
  have hM := hB.cut0
  simp [-e_ix, -e_lenT, F_require_rows, b_require_rows, runF, ce, i0, ln, hd', hw, lp1, hM, retR]
theorem vc_reqrows (h : Pl d rs) (hv : VW M q (rs.map rowT)) (hq : noPtu q = true) : callF F_require_rows [q] M = .ok .non M := c_view (fun m => rowsT_below m rs) rfl rfl (fun M q hB hv hq => v_reqrows h hB hv hq) hv hq
theorem v_reqbeg (h : Pl d rs) {p : List Int} (hp : OkP d p) (hB : StB M) (hv : VW M q (rs.map rowT)) (hq : noPtu q = true) : F_require_beginning [q, rowT p] M = .ok .non M := by
  have hd := h.days
  have hl := hp.l
  obtain ⟨r0, e0, l0⟩ := h.row0
  have i0 : dIx M q (.int 0) = some (rowT r0) := ix9 hv hq (i := 0) (by rw [List.getElem?_map, e0]; rfl)
  have ln : ∀ M, dLen M (rowT r0) = some (.int d) := fun M => by rw [e_lenT, List.length_map, l0]
  have lq : ∀ M, dLen M (rowT p) = some (.int p.length) := fun M => by rw [e_lenT, List.length_map]
  have cn := c_flat (m_nums p (by omega) hp.p) M (by simp) (by simp)
  have gt : ¬ (d : Int) < p.length := by omega
  have hM := hB.cut0
  simp [-e_ix, -e_lenT, F_require_beginning, b_require_beginning, runF, cn, lq, i0, ln, gt, hM, retR]
theorem vc_reqbeg (h : Pl d rs) {p : List Int} (hp : OkP d p) (hv : VW M q (rs.map rowT)) (hq : noPtu q = true) : callF F_require_beginning [q, rowT p] M = .ok .non M := c_view (fun m => rowsT_below m rs) (by simp) rfl (fun M q hB hv hq => v_reqbeg h hp hB hv hq) hv hq
theorem v_levels (hl : rs.length ≤ 1900) (p : List Int) (hB : StB M) (hv : VW M q (rs.map rowT)) : F_levels_behind [q, rowT p] M = .ok (.lst (natD (lv rs p))) M := by
  obtain ⟨w, hw⟩ := hv
  have wk := srcW_ok hw
  have key := lev_loop (q := q) (p := p) (fun i r M => lev_test i r M) M rs 0 [] (by simpa using hl)
  rw [List.nil_append] at key
  have key' := (lcLW_pure (gg := gToT (gToCons (gTo 2) (gToCons (gTo 3) (gToNil)))) (gt := gVal (gOp2 dEqA (gSl (gV 3) (gNoO) (gO (gCall (fn1 dLen) (gCons (gV 1) (gNil))))) (gV 1))) (ge := gV 2) (Γ := [some q, some (rowT p), none, none]) wk (enumL 0 (rs.map rowT)) [] fun x hx => by
    obtain ⟨i, hi⟩ := List.getElem?_of_mem hx
    obtain ⟨d0, e0, rfl⟩ := enumL_get _ _ _ _ hi
    rw [List.getElem?_map] at e0
    obtain ⟨r, er, rfl⟩ := Option.map_eq_some_iff.mp e0
    have z : (0 : Int) + (i : Int) = (i : Int) := Int.zero_add _
    rw [z]
    exact ⟨[some q, some (rowT p), some (.int (i : Nat)), some (rowT r)], _, by simp, lev_test i r M, fun _ => ⟨.int (i : Nat), by simp⟩⟩).trans key
  have key' : gLcLW _ _ _ _ w (enumL 0 (rs.map rowT)) [] M = .ok (natD (lv rs p)) M := key'
  have bl := natD_below M.length (lv rs p)
  have hM := hB.cut0
  generalize natD (lv rs p) = LV at *
  generalize rowT p = RP at *
  simp [F_levels_behind, b_levels_behind, runF, hw, key', bl, hM, retR, below]
theorem vc_levels (hl : rs.length ≤ 1900) (p : List Int) (hv : VW M q (rs.map rowT)) (hq : noPtu q = true) : callF F_levels_behind [q, rowT p] M = .ok (.lst (natD (lv rs p))) M := c_view (fun m => rowsT_below m rs) (by simp) (by simpa [below] using natD_below 0 (lv rs p)) (fun M q hB hv hq => v_levels hl p hB hv) hv hq
end
end My.Pn

set_option Elab.async false
set_option linter.all false
set_option maxRecDepth 100000
set_option maxHeartbeats 8000000
namespace My.Pn
open PySem PySem.Spec PyProof.Rows L2 Bk
/-! ### group and tests of such plans -/
section
variable {M : List MO} {q : D} {d : Nat} {rs : List (List Int)}
theorem v_group (h : Pl d rs) {p : List Int} (hp : OkP d p) (hB : StB M) (hv : VW M q (rs.map rowT)) (hq : noPtu q = true) : F_group [q, rowT p] M = .ok (grpD (lv rs p)) M := by
  have rr := vc_reqrows h hv hq
  have rb := vc_reqbeg h hp hv hq
  have hM := hB.cut0
  have hf := h.few
  have cl := vc_levels (by omega : rs.length ≤ 1900) p hv hq
  obtain ⟨a, m, e, hm, hr⟩ := lv_range h p
  have ne := fun M => natD_ne M (lv rs p)
  rw [e] at cl ne ⊢
  cases m with
  | zero =>
    have ne' : ∀ M, dNeA M (.lst (natD (List.range' a 0))) (.lst []) = some (.bl false) := fun M => (ne M).trans (by simp)
    have g0 : grpD (List.range' a 0) = .non := rfl
    rw [g0]
    generalize natD (List.range' a 0) = LV at *
    generalize rowT p = RP at *
    simp [F_group, b_group, runF, rr, rb, cl, ne', hM, retR, below, belows]
  | succ m =>
    have ne' : ∀ M, dNeA M (.lst (natD (List.range' a (m + 1)))) (.lst []) = some (.bl true) := fun M => (ne M).trans (by rw [List.range'_succ]; simp)
    have g0 : grpD (List.range' a (m + 1)) = .tup [.int (a : Nat), .int ((a + m : Nat))] := by
      rw [List.range'_succ]
      simp [grpD]
    have f0 := fun M => natD_first M a m
    have l0 := fun M => natD_last M a m
    have ls : (2 : Nat) ≤ sizeLine := by rw [sizeLine_eq]; omega
    rw [g0]
    generalize natD (List.range' a (m + 1)) = LV at *
    generalize rowT p = RP at *
    simp [-e_ix, F_group, b_group, runF, rr, rb, cl, ne', f0, l0, hM, retR, below, belows]
theorem vc_group (h : Pl d rs) {p : List Int} (hp : OkP d p) (hv : VW M q (rs.map rowT)) (hq : noPtu q = true) : callF F_group [q, rowT p] M = .ok (grpD (lv rs p)) M := c_view (fun m => rowsT_below m rs) (by simp) (by simp) (fun M q hB hv hq => v_group h hp hB hv hq) hv hq
theorem nmb_ix9 (h : Pl d rs) {p : List Int} (hp : p.length < d) {l : Nat} (hl : l ∈ lv rs p) (hv : VW M q (rs.map rowT)) (hq : noPtu q = true) : (dIx M q (.int (l : Nat))).bind (fun r => dIx M r (.int (p.length : Nat))) = some (.int ((rs.getD l []).getD p.length 0)) := by
  obtain ⟨r, e, _⟩ := mem_lv.mp hl
  have hr := h.len r (List.mem_of_getElem? e)
  rw [ix9 hv hq (x := rowT r) (by rw [List.getElem?_map, e]; rfl), Option.bind_some, rowT_ix M r (by omega)]
  rw [List.getD_eq_getElem?_getD (l := rs), e]
  rfl
theorem v_testsb (h : Pl d rs) {p : List Int} (hp : p.length < d) (hB : StB M) (hv : VW M q (rs.map rowT)) (hq : noPtu q = true) : F_tests_behind [q, rowT p] M = .ok (.lst ((tst rs p).map D.int)) M := by
  have hM := hB.cut0
  have sz : 2000 ≤ sizeLine := by rw [sizeLine_eq]; omega
  have hf := h.few
  have cl := vc_levels (by omega : rs.length ≤ 1900) p hv hq
  obtain ⟨a, m, e, hm, hr⟩ := lv_range h p
  have eq := fun M => natD_eq M (lv rs p)
  cases m with
  | zero =>
    have e0 : lv rs p = [] := e
    have t0 : tst rs p = [] := by unfold tst; rw [e0]
    have eq' : ∀ M, dEqA M (.lst (natD (lv rs p))) (.lst []) = some (.bl true) := fun M => (eq M).trans (by rw [e0]; simp)
    rw [t0]
    generalize natD (lv rs p) = LV at *
    generalize rowT p = RP at *
    simp [F_tests_behind, b_tests_behind, runF, cl, eq', hM, retR, below, belows]
  | succ m =>
    have eq' : ∀ M, dEqA M (.lst (natD (lv rs p))) (.lst []) = some (.bl false) := fun M => (eq M).trans (by rw [e, List.range'_succ]; simp)
    have f0 : ∀ M, dIx M (.lst (natD (lv rs p))) (.int 0) = some (.int (a : Nat)) := fun M => by rw [e]; exact natD_first M a m
    have nl : (nmb rs p).length = m + 1 := by unfold nmb; rw [e]; simp
    have lq : ∀ M, dLen M (rowT p) = some (.int p.length) := fun M => by rw [e_lenT, List.length_map]
    have k1 := lcL_run (gg := gTo 4) (ge := le_tests_behind_1) (Γ := [some q, some (rowT p), some (.lst (natD (lv rs p))), none, none, none, none]) (M := M) (fun (l : Nat) => D.int (l : Int)) (fun l => D.int ((rs.getD l []).getD p.length 0)) (lv rs p) [] (by rw [e]; simp; omega) fun l hl => by
      refine ⟨[some q, some (rowT p), some (.lst (natD (lv rs p))), none, some (.int (l : Nat)), none, none], by simp, ?_⟩
      have ix := nmb_ix9 h hp hl hv hq
      cases e1 : dIx M q (.int (l : Nat)) with
      | none => rw [e1] at ix; cases ix
      | some r =>
        rw [e1, Option.bind_some] at ix
        generalize natD (lv rs p) = LV at *
        generalize rowT p = RP at *
        simp [-e_ix, le_tests_behind_1, e1, lq, ix]
    have n0 : (nmb rs p)[0]? = some ((nmb rs p).getD 0 0) := by
      rw [List.getD_eq_getElem?_getD, List.getElem?_eq_getElem (by omega)]
      rfl
    have ix0 : ∀ M, dIx M (.lst ((nmb rs p).map D.int)) (.int 0) = some (.int ((nmb rs p).getD 0 0)) := fun M => by
      rw [e_ix, itemsD_l, Option.bind_some]
      refine (Bk.atI_nat _ 0).trans ?_
      rw [List.getElem?_map, n0]
      rfl
    have bd : 0 ≤ (nmb rs p).getD 0 0 ∧ (nmb rs p).getD 0 0 ≤ 12 := by
      have m0 := List.mem_of_getElem? n0
      generalize (nmb rs p).getD 0 0 = z at *
      unfold nmb at m0
      obtain ⟨l, hl, rfl⟩ := List.mem_map.mp m0
      obtain ⟨r, er, _⟩ := mem_lv.mp hl
      have lr := h.len r (List.mem_of_getElem? er)
      rw [List.getD_eq_getElem?_getD (l := rs), er]
      refine h.nums r (List.mem_of_getElem? er) _ ?_
      rw [Option.getD_some, List.getD_eq_getElem?_getD, List.getElem?_eq_getElem (by omega)]
      exact List.getElem_mem _
    have nm1 : (lv rs p).map (fun l => D.int ((rs.getD l []).getD p.length 0)) = (nmb rs p).map D.int := by
      unfold nmb
      rw [List.map_map]
      rfl
    rw [nm1, List.nil_append] at k1
    have k1 : gLcL (gTo 4) gYes le_tests_behind_1 [some q, some (rowT p), some (.lst (natD (lv rs p))), none, none, none, none] (natD (lv rs p)) [] M = .ok ((nmb rs p).map D.int) M := k1
    have k2 := lcL_run (gg := gTo 5) (ge := le_tests_behind_3) (Γ := [some q, some (rowT p), some (.lst (natD (lv rs p))), some (.lst ((nmb rs p).map D.int)), none, none, none]) (M := M) D.int (fun j => D.int ((a : Int) + (cge (nmb rs p) j : Nat))) (intR 1 ((nmb rs p).getD 0 0).toNat) [] (by rw [intR_lenN, List.length_nil]; omega) fun j hj => by
      refine ⟨[some q, some (rowT p), some (.lst (natD (lv rs p))), some (.lst ((nmb rs p).map D.int)), none, some (.int j), none], by simp, ?_⟩
      have k3 := lcL_sel (gg := gTo 6) (gt := gVal (gOp2 dGe (gV 6) (gV 5))) (ge := gV 6) (Γ := [some q, some (rowT p), some (.lst (natD (lv rs p))), some (.lst ((nmb rs p).map D.int)), none, some (.int j), none]) (M := M) D.int D.int (fun x => decide (j ≤ x)) (nmb rs p) [] (by simp; omega) fun x _ => ⟨[some q, some (rowT p), some (.lst (natD (lv rs p))), some (.lst ((nmb rs p).map D.int)), none, some (.int j), some (.int x)], by simp, by simp, fun _ => by simp⟩
      have ln : ∀ M, dLen M (.lst (((nmb rs p).filter fun x => decide (j ≤ x)).map D.int)) = some (.int (cge (nmb rs p) j : Nat)) := fun M => by rw [e_lenL, List.length_map]; rfl
      rw [List.nil_append] at k3
      generalize ((nmb rs p).filter fun x => decide (j ≤ x)).map D.int = FL at *
      generalize (nmb rs p).map D.int = NB at *
      generalize natD (lv rs p) = LV at *
      generalize rowT p = RP at *
      simp [-e_ix, -e_lenL, le_tests_behind_3, f0, k3, ln]
    have tt : tst rs p = (intR 1 ((nmb rs p).getD 0 0).toNat).map fun j => (a : Int) + (cge (nmb rs p) j : Nat) := by
      unfold tst
      rw [e, List.range'_succ]
    have tm : (intR 1 ((nmb rs p).getD 0 0).toNat).map (fun j => D.int ((a : Int) + (cge (nmb rs p) j : Nat))) = (tst rs p).map D.int := by rw [tt, List.map_map]; rfl
    rw [tm, List.nil_append, ← rngL_int] at k2
    have r2 : rng2 [.int 1, .int ((nmb rs p).getD 0 0 + 1)] = some (rngL 1 ((nmb rs p).getD 0 0).toNat) := by
      have i1 : Bk.inR 1 = true := rfl
      have i2 : Bk.inR ((nmb rs p).getD 0 0 + 1) = true := inR_i (by omega) (by omega)
      have q : ((nmb rs p).getD 0 0 + 1 - 1).toNat = ((nmb rs p).getD 0 0).toNat := by congr 1; omega
      rw [u_rng2, i1, i2, q]
      rfl
    have bt : belows M.length ((tst rs p).map D.int) = true := by simp
    generalize (tst rs p).map D.int = TS at *
    generalize (nmb rs p).map D.int = NB at *
    generalize (nmb rs p).getD 0 0 = z at *
    generalize natD (lv rs p) = LV at *
    generalize rowT p = RP at *
    simp [-e_ix, -u_rng2, F_tests_behind, b_tests_behind, runF, cl, eq', k1, ix0, r2, k2, bt, hM, retR, below]
theorem v_tests (h : Pl d rs) {p : List Int} (hp : OkP d p) (hB : StB M) (hv : VW M q (rs.map rowT)) (hq : noPtu q = true) : F_tests [q, rowT p] M = .ok (.lst ((tstD d rs p).map D.int)) M := by
  have hM := hB.cut0
  have rr := vc_reqrows h hv hq
  have rb := vc_reqbeg h hp hv hq
  obtain ⟨r0, e0, l0⟩ := h.row0
  have i0 : dIx M q (.int 0) = some (rowT r0) := ix9 hv hq (i := 0) (by rw [List.getElem?_map, e0]; rfl)
  have ln : ∀ M, dLen M (rowT r0) = some (.int d) := fun M => by rw [e_lenT, List.length_map, l0]
  have lq : ∀ M, dLen M (rowT p) = some (.int p.length) := fun M => by rw [e_lenT, List.length_map]
  unfold tstD
  by_cases c : p.length < d
  · have ct : callF F_tests_behind [q, rowT p] M = .ok (.lst ((tst rs p).map D.int)) M := c_view (fun m => rowsT_below m rs) (by simp) (by simp) (fun M q hB hv hq => v_testsb h c hB hv hq) hv hq
    have c' : (p.length : Int) < d := by omega
    have bt : belows M.length ((tst rs p).map D.int) = true := by simp
    rw [if_pos c]
    generalize (tst rs p).map D.int = TS at *
    generalize rowT p = RP at *
    simp [-e_ix, -e_lenT, F_tests, b_tests, runF, rr, rb, lq, i0, ln, c', ct, bt, hM, retR, below]
  · have c' : ¬ (p.length : Int) < d := by omega
    rw [if_neg c]
    generalize rowT p = RP at *
    simp [-e_ix, -e_lenT, F_tests, b_tests, runF, rr, rb, lq, i0, ln, c', hM, retR, below, belows]
theorem vc_tests (h : Pl d rs) {p : List Int} (hp : OkP d p) (hv : VW M q (rs.map rowT)) (hq : noPtu q = true) : callF F_tests [q, rowT p] M = .ok (.lst ((tstD d rs p).map D.int)) M := c_view (fun m => rowsT_below m rs) (by simp) (by simp) (fun M q hB hv hq => v_tests h hp hB hv hq) hv hq
end
end My.Pn

set_option Elab.async false
set_option linter.all false
set_option maxRecDepth 100000
set_option maxHeartbeats 4000000
namespace My.Pn
open PySem PySem.Spec PyProof.Rows L2 Bk
/-! ### ranks of numbers -/
def rkN (K : List Int) : Nat → Nat
  | 0 => 0
  | n + 1 => rkN K n + if (n : Int) ∈ K then 1 else 0
theorem rkN_le (K : List Int) : ∀ n, rkN K n ≤ n
  | 0 => Nat.le_refl _
  | n + 1 => by
    have := rkN_le K n
    rw [rkN]
    split <;> omega
theorem rkN_mono (K : List Int) : ∀ {m n : Nat}, m ≤ n → rkN K m ≤ rkN K n := fun {m n} h => by
  induction n with
  | zero => rw [Nat.le_zero.mp h]; exact Nat.le_refl _
  | succ n ih =>
    by_cases e : m = n + 1
    · rw [e]; exact Nat.le_refl _
    · have := ih (by omega)
      rw [rkN.eq_2]
      omega
theorem rkN_lt {K : List Int} {m n : Nat} (h : m < n) (hm : (m : Int) ∈ K) : rkN K m < rkN K n := by
  have a := rkN_mono K (m := m + 1) (n := n) (by omega)
  rw [rkN, if_pos hm] at a
  omega
theorem rkN_nth {K : List Int} : ∀ {n x : Nat}, x < rkN K n → ∃ u : Nat, u < n ∧ (u : Int) ∈ K ∧ rkN K u = x
  | 0, x, h => absurd h (Nat.not_lt_zero _)
  | n + 1, x, h => by
    by_cases q : x < rkN K n
    · obtain ⟨u, h1, h2, h3⟩ := rkN_nth q
      exact ⟨u, by omega, h2, h3⟩
    · rw [rkN] at h
      by_cases c : (n : Int) ∈ K
      · rw [if_pos c] at h
        exact ⟨n, by omega, c, by omega⟩
      · rw [if_neg c] at h
        omega
/-- how the law counts it -/
theorem rkN_filter (K : List Int) : ∀ n, ((intR 0 n).filter fun x => decide (x ∈ K)).length = rkN K n := by
  have app : ∀ (n : Nat) (lo : Int), intR lo (n + 1) = intR lo n ++ [lo + (n : Nat)] := fun n => by
    induction n with
    | zero => intro lo; simp [intR]
    | succ n ih =>
      intro lo
      rw [intR, ih (lo + 1), intR, List.cons_append]
      congr 3
      omega
  intro n
  induction n with
  | zero => rfl
  | succ n ih =>
    rw [app, List.filter_append, List.length_append, ih, rkN]
    by_cases c : (n : Int) ∈ K
    · rw [if_pos c, List.filter_cons, if_pos (by rw [decide_eq_true_eq, Int.zero_add]; exact c)]; rfl
    · rw [if_neg c, List.filter_cons, if_neg (by rw [decide_eq_true_eq, Int.zero_add]; exact c)]; rfl
/-- the place of a number among all, in their order -/
theorem rkN_place {K ns : List Int} (hs : ns.Pairwise (· < ·)) (hm : ∀ x, x ∈ ns ↔ x ∈ K) (h0 : ∀ x ∈ K, 0 ≤ x) : ∀ i, (h : i < ns.length) → rkN K (ns[i]).toNat = i := by
  intro i
  induction i using Nat.strongRecOn with
  | ind i ih =>
    intro h
    have ki : ns[i] ∈ K := (hm _).mp (List.getElem_mem h)
    have n0 := h0 _ ki
    rcases Nat.lt_trichotomy (rkN K (ns[i]).toNat) i with q | q | q
    · -- a smaller one with the same rank
      have hi : i - 1 < ns.length := by omega
      have e := ih (i - 1) (by omega) hi
      have kj : ns[i - 1] ∈ K := (hm _).mp (List.getElem_mem hi)
      have lt := List.pairwise_iff_getElem.mp hs (i - 1) i hi h (by omega)
      have j0 := h0 _ kj
      have := rkN_lt (K := K) (m := (ns[i - 1]).toNat) (n := (ns[i]).toNat) (by omega) (by rw [Int.toNat_of_nonneg j0]; exact kj)
      omega
    · exact q
    · obtain ⟨u, u1, u2, u3⟩ := rkN_nth q
      obtain ⟨j, hj, ej⟩ := List.getElem_of_mem ((hm _).mpr u2)
      have ji : j < i := by
        rcases Nat.lt_or_ge j i with z | z
        · exact z
        · exfalso
          by_cases e : j = i
          · subst e; omega
          · have := List.pairwise_iff_getElem.mp hs i j h hj (by omega)
            omega
      have := ih j ji hj
      rw [ej, Int.toNat_natCast] at this
      omega
/-! ### the tightened row -/
def nums (rs : List (List Int)) (j : Nat) (p : List Int) : List Int := (rs.filter fun r => decide (r.take j = p)).map (·.getD j 0)
def rk (rs : List (List Int)) (r : List Int) (j : Nat) : Int := (rkN (nums rs j (r.take j)) (r.getD j 0).toNat : Nat)
def tgt (d : Nat) (rs : List (List Int)) (r : List Int) : List Int := (List.range d).map (rk rs r)
def tight (d : Nat) (rs : List (List Int)) : List (List Int) := rs.map (tgt d rs)
theorem tgt_len (d : Nat) (rs : List (List Int)) (r : List Int) : (tgt d rs r).length = d := by simp [tgt]
theorem tgt_get {d : Nat} (rs : List (List Int)) (r : List Int) {j : Nat} (h : j < d) : (tgt d rs r).getD j 0 = rk rs r j := by
  simp [tgt, List.getD_eq_getElem?_getD, h]
theorem mem_nums {rs : List (List Int)} {j : Nat} {p : List Int} {x : Int} : x ∈ nums rs j p ↔ ∃ s ∈ rs, s.take j = p ∧ s.getD j 0 = x := by
  simp only [nums, List.mem_map, List.mem_filter, decide_eq_true_eq]
  constructor
  · rintro ⟨s, ⟨h1, h2⟩, h3⟩; exact ⟨s, h1, h2, h3⟩
  · rintro ⟨s, h1, h2, h3⟩; exact ⟨s, ⟨h1, h2⟩, h3⟩
theorem getD_nn9 {rs : List (List Int)} {d : Nat} (h : Pl d rs) {s : List Int} (hs : s ∈ rs) (j : Nat) : 0 ≤ s.getD j 0 ∧ s.getD j 0 ≤ 12 := by
  rw [List.getD_eq_getElem?_getD]
  by_cases q : j < s.length
  · rw [List.getElem?_eq_getElem q, Option.getD_some]
    exact h.nums s hs _ (List.getElem_mem q)
  · rw [List.getElem?_eq_none (by omega)]
    decide
theorem nums_nn {rs : List (List Int)} {d : Nat} (h : Pl d rs) {j : Nat} {p : List Int} : ∀ x ∈ nums rs j p, 0 ≤ x := fun x hx => by
  obtain ⟨s, hs, _, e⟩ := mem_nums.mp hx
  rw [← e]
  exact (getD_nn9 h hs j).1
theorem rk_le {rs : List (List Int)} {d : Nat} (h : Pl d rs) {r : List Int} (hr : r ∈ rs) (j : Nat) : 0 ≤ rk rs r j ∧ rk rs r j ≤ r.getD j 0 := by
  have a := rkN_le (nums rs j (r.take j)) (r.getD j 0).toNat
  have b := getD_nn9 h hr j
  unfold rk
  omega
theorem take_ext9 {a b : List Int} (hl : a.length = b.length) (k : Nat) : a.take k = b.take k ↔ ∀ j, j < k → a.getD j 0 = b.getD j 0 := by
  constructor
  · intro e j hj
    have : (a.take k).getD j 0 = (b.take k).getD j 0 := by rw [e]
    simpa [List.getD_eq_getElem?_getD, List.getElem?_take, hj] using this
  · intro h
    refine List.ext_getElem? fun j => ?_
    rw [List.getElem?_take, List.getElem?_take]
    by_cases q : j < k
    · rw [if_pos q, if_pos q]
      by_cases z : j < a.length
      · have := h j q
        rw [List.getD_eq_getElem?_getD, List.getD_eq_getElem?_getD, List.getElem?_eq_getElem z, List.getElem?_eq_getElem (by omega), Option.getD_some, Option.getD_some] at this
        rw [List.getElem?_eq_getElem z, List.getElem?_eq_getElem (by omega), this]
      · rw [List.getElem?_eq_none (by omega), List.getElem?_eq_none (by omega)]
    · rw [if_neg q, if_neg q]
theorem rk_congr {rs : List (List Int)} {r s : List Int} {j : Nat} (e : r.take j = s.take j) (v : r.getD j 0 = s.getD j 0) : rk rs r j = rk rs s j := by
  unfold rk
  rw [e, v]
/-- equal beginnings -/
theorem tgt_take {rs : List (List Int)} {d : Nat} (h : Pl d rs) {r s : List Int} (hr : r ∈ rs) (hs : s ∈ rs) {k : Nat} (hk : k ≤ d) : (tgt d rs r).take k = (tgt d rs s).take k ↔ r.take k = s.take k := by
  have lr := h.len r hr
  have ls := h.len s hs
  rw [take_ext9 (by rw [tgt_len, tgt_len]) k, take_ext9 (by rw [lr, ls]) k]
  constructor
  · intro e
    have key : ∀ m, m ≤ k → ∀ j, j < m → r.getD j 0 = s.getD j 0 := fun m => by
      induction m with
      | zero => intro _ j hj; omega
      | succ m ih =>
        intro hm j hj
        have ih := ih (by omega)
        by_cases q : j < m
        · exact ih j q
        · have : j = m := by omega
          subst this
          have et := (take_ext9 (by rw [lr, ls]) j).mpr ih
          have ek := e j (by omega)
          rw [tgt_get _ _ (by omega), tgt_get _ _ (by omega)] at ek
          unfold rk at ek
          rw [et] at ek
          have a := getD_nn9 h hr j
          have b := getD_nn9 h hs j
          have ma : r.getD j 0 ∈ nums rs j (s.take j) := mem_nums.mpr ⟨r, hr, et, rfl⟩
          have mb : s.getD j 0 ∈ nums rs j (s.take j) := mem_nums.mpr ⟨s, hs, rfl, rfl⟩
          rcases Int.lt_trichotomy (r.getD j 0) (s.getD j 0) with z | z | z
          · have := rkN_lt (K := nums rs j (s.take j)) (m := (r.getD j 0).toNat) (n := (s.getD j 0).toNat) (by omega) (by rw [Int.toNat_of_nonneg a.1]; exact ma)
            omega
          · exact z
          · have := rkN_lt (K := nums rs j (s.take j)) (m := (s.getD j 0).toNat) (n := (r.getD j 0).toNat) (by omega) (by rw [Int.toNat_of_nonneg b.1]; exact mb)
            omega
    exact key k (Nat.le_refl _)
  · intro e j hj
    rw [tgt_get _ _ (by omega), tgt_get _ _ (by omega)]
    exact rk_congr ((take_ext9 (by rw [lr, ls]) j).mpr fun i hi => e i (by omega)) (e j hj)
theorem lt_of_split : ∀ {a b : List Int} {j : Nat}, a.length = b.length → (∀ m, m < j → b.getD m 0 = a.getD m 0) → b.getD j 0 < a.getD j 0 → b < a
  | [], [], j, _, _, h => by simp at h
  | [], _ :: _, _, e, _, _ => by simp at e
  | _ :: _, [], _, e, _, _ => by simp at e
  | x :: a, y :: b, 0, e, _, h => List.cons_lt_cons_iff.mpr (.inl (by simpa using h))
  | x :: a, y :: b, j + 1, e, h1, h => by
    have h0 := h1 0 (by omega)
    have h0 : y = x := by simpa using h0
    exact List.cons_lt_cons_iff.mpr (.inr ⟨h0, lt_of_split (j := j) (by simpa using e) (fun m hm => by simpa using h1 (m + 1) (by omega)) (by simpa using h)⟩)
theorem tgt_lt {rs : List (List Int)} {d : Nat} (h : Pl d rs) {r s : List Int} (hr : r ∈ rs) (hs : s ∈ rs) (lt : s < r) : tgt d rs s < tgt d rs r := by
  have lr := h.len r hr
  have ls := h.len s hs
  obtain ⟨j, j1, j2, j3⟩ := lt_split (by rw [lr, ls]) lt
  have jd : j < d := by omega
  refine lt_of_split (j := j) (by rw [tgt_len, tgt_len]) (fun m hm => ?_) ?_
  · rw [tgt_get _ _ (by omega), tgt_get _ _ (by omega)]
    exact rk_congr ((take_ext9 (by rw [lr, ls]) m).mpr fun i hi => j2 i (by omega)) (j2 m hm)
  · rw [tgt_get _ _ jd, tgt_get _ _ jd]
    have et : s.take j = r.take j := (take_ext9 (by rw [lr, ls]) j).mpr j2
    have b := getD_nn9 h hs j
    have a := getD_nn9 h hr j
    unfold rk
    rw [et]
    have := rkN_lt (K := nums rs j (r.take j)) (m := (s.getD j 0).toNat) (n := (r.getD j 0).toNat) (by omega) (by rw [Int.toNat_of_nonneg b.1]; exact mem_nums.mpr ⟨s, hs, et, rfl⟩)
    omega
theorem tight_pl {rs : List (List Int)} {d : Nat} (h : Pl d rs) : Pl d (tight d rs) := by
  refine ⟨fun e => h.ne (List.map_eq_nil_iff.mp e), by rw [tight, List.length_map]; exact h.few, h.days, fun r hr => ?_, fun r hr n hn => ?_, ?_⟩
  · obtain ⟨s, _, rfl⟩ := List.mem_map.mp hr
    exact tgt_len d rs s
  · obtain ⟨s, hs, rfl⟩ := List.mem_map.mp hr
    obtain ⟨j, _, rfl⟩ := List.mem_map.mp hn
    have a := rk_le h hs j
    have b := getD_nn9 h hs j
    omega
  · unfold tight
    rw [List.pairwise_map]
    exact h.fall.imp_of_mem fun {a b} ha hb lt => tgt_lt h ha hb lt
end My.Pn

set_option Elab.async false
set_option linter.all false
set_option maxRecDepth 100000
set_option maxHeartbeats 4000000
namespace My.Pn
open PySem PySem.Spec PyProof.Rows L2 Bk
/-! ### the ends of a group, tightened as the program does it -/
def asc (l : List Int) : List Int := srtI (l.foldl insU [])
theorem foldU : ∀ (l acc : List Int), acc.Nodup → (l.foldl insU acc).Nodup ∧ ∀ x, x ∈ l.foldl insU acc ↔ x ∈ acc ∨ x ∈ l
  | [], acc, h => ⟨h, fun x => by simp⟩
  | a :: l, acc, h => by
    obtain ⟨h1, h2⟩ := foldU l (insU acc a) (insU_nodup h a)
    refine ⟨h1, fun x => ?_⟩
    rw [List.foldl_cons, h2, mem_insU, List.mem_cons, or_assoc]
theorem mem_asc (l : List Int) (x : Int) : x ∈ asc l ↔ x ∈ l := by
  unfold asc
  rw [(srtI_perm _).mem_iff, (foldU l [] List.nodup_nil).2]
  simp
theorem asc_lt (l : List Int) : (asc l).Pairwise (· < ·) := by
  have nd : (asc l).Nodup := ((srtI_perm _).nodup_iff).mpr (foldU l [] List.nodup_nil).1
  have := (srtI_ord (l.foldl insU [])).and nd
  exact this.imp fun {a b} q => by
    obtain ⟨q1, q2⟩ := q
    omega
def tgF : Nat → List (List Int) → Nat → List (List Int)
  | 0, _, _ => []
  | n + 1, rows, day => if rows.length = 1 then [List.replicate ((rows.headD []).length - day) 0] else
    (List.range (asc (rows.map (·.getD day 0))).length).reverse.flatMap fun i => (tgF n (rows.filter fun r => decide (r.getD day 0 = (asc (rows.map (·.getD day 0))).getD i 0)) (day + 1)).map ((i : Int) :: ·)
theorem split_max (k : List Int → Int) (v : Int) : ∀ rows : List (List Int), rows.Pairwise (fun a b => k b ≤ k a) → (∀ r ∈ rows, k r ≤ v) → rows = (rows.filter fun r => decide (k r = v)) ++ rows.filter fun r => decide (k r ≠ v)
  | [], _, _ => rfl
  | r :: rows, hp, hv => by
    obtain ⟨p1, p2⟩ := List.pairwise_cons.mp hp
    have ih := split_max k v rows p2 fun x hx => hv x (by simp [hx])
    by_cases c : k r = v
    · rw [List.filter_cons, if_pos (decide_eq_true c), List.filter_cons, if_neg (by rw [decide_eq_true_eq]; exact fun z => z c), List.cons_append, ← ih]
    · have vr := hv r (by simp)
      have e1 : (r :: rows).filter (fun r => decide (k r = v)) = [] := List.filter_eq_nil_iff.mpr fun x hx => by
        rw [decide_eq_true_eq]
        rcases List.mem_cons.mp hx with q | q
        · rw [q]; exact c
        · have := p1 x q
          omega
      have e2 : (r :: rows).filter (fun r => decide (k r ≠ v)) = r :: rows := List.filter_eq_self.mpr fun x hx => by
        rw [decide_eq_true_eq]
        rcases List.mem_cons.mp hx with q | q
        · rw [q]; exact c
        · have := p1 x q
          omega
      rw [e1, e2]
      rfl
theorem filt_desc (k : List Int → Int) : ∀ (vs : List Int) (rows : List (List Int)), rows.Pairwise (fun a b => k b ≤ k a) → vs.Pairwise (fun a b => b < a) → (∀ r ∈ rows, k r ∈ vs) → (vs.flatMap fun v => rows.filter fun r => decide (k r = v)) = rows
  | [], [], _, _, _ => rfl
  | [], r :: rows, _, _, h => by have := h r (by simp); cases this
  | v :: vs, rows, hp, hv, h => by
    obtain ⟨v1, v2⟩ := List.pairwise_cons.mp hv
    have top : ∀ r ∈ rows, k r ≤ v := fun r hr => by
      rcases List.mem_cons.mp (h r hr) with q | q
      · omega
      · have := v1 _ q; omega
    have e := split_max k v rows hp top
    have ih := filt_desc k vs (rows.filter fun r => decide (k r ≠ v)) (hp.sublist List.filter_sublist) v2 fun r hr => by
      obtain ⟨r1, r2⟩ := List.mem_filter.mp hr
      rw [decide_eq_true_eq] at r2
      exact (List.mem_cons.mp (h r r1)).resolve_left r2
    rw [List.flatMap_cons]
    conv => rhs; rw [e]
    refine congrArg _ (Eq.trans ?_ ih)
    rw [List.flatMap_def, List.flatMap_def]
    refine congrArg List.flatten (List.map_congr_left fun u hu => ?_)
    rw [List.filter_filter]
    refine List.filter_congr fun r _ => ?_
    have := v1 u hu
    by_cases c : k r = u
    · rw [decide_eq_true c, Bool.true_and, decide_eq_true (show k r ≠ v by omega)]
    · rw [decide_eq_false c, Bool.false_and]
/-- the rows that begin so -/
def Gp (rs : List (List Int)) (p : List Int) : List (List Int) := rs.filter fun r => decide (r.take p.length = p)
theorem mem_Gp {rs : List (List Int)} {p r : List Int} : r ∈ Gp rs p ↔ r ∈ rs ∧ r.take p.length = p := by simp [Gp]
theorem take_snoc9 {r p : List Int} {v : Int} (hl : p.length < r.length) : r.take (p ++ [v]).length = p ++ [v] ↔ r.take p.length = p ∧ r.getD p.length 0 = v := by
  have e : r.take (p ++ [v]).length = r.take p.length ++ [r.getD p.length 0] := by
    rw [List.length_append, List.length_singleton, List.take_succ_eq_append_getElem hl]
    simp [List.getD_eq_getElem?_getD, hl]
  rw [e]
  constructor
  · intro h
    have := List.append_inj' h rfl
    exact ⟨this.1, by simpa using this.2⟩
  · rintro ⟨h1, h2⟩
    rw [h1, h2]
theorem Gp_snoc {d : Nat} {rs : List (List Int)} (h : Pl d rs) {p : List Int} (hp : p.length < d) (v : Int) : ((Gp rs p).filter fun r => decide (r.getD p.length 0 = v)) = Gp rs (p ++ [v]) := by
  unfold Gp
  rw [List.filter_filter]
  refine List.filter_congr fun r hr => ?_
  rw [← Bool.decide_and]
  refine decide_eq_decide.mpr ?_
  rw [take_snoc9 (by rw [h.len r hr]; exact hp)]
  exact And.comm
theorem Gp_fall {d : Nat} {rs : List (List Int)} (h : Pl d rs) (p : List Int) : (Gp rs p).Pairwise fun a b => b < a := h.fall.sublist List.filter_sublist
theorem Gp_two {d : Nat} {rs : List (List Int)} (h : Pl d rs) {p : List Int} (ne : Gp rs p ≠ []) (n1 : (Gp rs p).length ≠ 1) : p.length < d := by
  rcases Nat.lt_or_ge p.length d with q | q
  · exact q
  · exfalso
    have all : ∀ r ∈ Gp rs p, r = p := fun r hr => by
      obtain ⟨h1, h2⟩ := mem_Gp.mp hr
      rw [List.take_of_length_le (by rw [h.len r h1]; exact q)] at h2
      exact h2
    have fa := Gp_fall h p
    cases e : Gp rs p with
    | nil => exact ne e
    | cons a l =>
      cases l with
      | nil => rw [e] at n1; simp at n1
      | cons b l =>
        rw [e] at fa all
        have lt := (List.pairwise_cons.mp fa).1 b (by simp)
        rw [all a (by simp), all b (by simp)] at lt
        exact List.lt_irrefl _ lt
theorem range_getD (ns : List Int) : (List.range ns.length).map (fun i => ns.getD i 0) = ns := by
  refine List.ext_getElem (by simp) fun i h1 h2 => ?_
  simp [List.getD_eq_getElem?_getD, h2]
theorem tgt_drop0 {d : Nat} {rs : List (List Int)} (h : Pl d rs) {p r : List Int} (e : Gp rs p = [r]) : (tgt d rs r).drop p.length = List.replicate (r.length - p.length) 0 := by
  have hr : r ∈ Gp rs p := by rw [e]; simp
  obtain ⟨h1, h2⟩ := mem_Gp.mp hr
  have lr := h.len r h1
  refine List.eq_replicate_iff.mpr ⟨by rw [List.length_drop, tgt_len, lr], fun x hx => ?_⟩
  obtain ⟨i, hi, ei⟩ := List.getElem_of_mem hx
  rw [List.length_drop, tgt_len] at hi
  rw [List.getElem_drop] at ei
  have ex : x = rk rs r (p.length + i) := by
    rw [← ei]
    simp [tgt]
  obtain ⟨j, hj⟩ : ∃ j, j = p.length + i := ⟨_, rfl⟩
  rw [ex, ← hj]
  unfold rk
  have one : ∀ y ∈ nums rs j (r.take j), y = r.getD j 0 := fun y hy => by
    obtain ⟨s, hs, es, ey⟩ := mem_nums.mp hy
    have : s ∈ Gp rs p := by
      rw [mem_Gp]
      refine ⟨hs, ?_⟩
      have q : (s.take j).take p.length = (r.take j).take p.length := by rw [es]
      rw [List.take_take, List.take_take, Nat.min_eq_left (by omega)] at q
      rw [q, h2]
    rw [e] at this
    have : s = r := by simpa using this
    rw [← ey, this]
  rcases Nat.eq_zero_or_pos (rkN (nums rs j (r.take j)) (r.getD j 0).toNat) with q | q
  · rw [q]; rfl
  · obtain ⟨u, u1, u2, _⟩ := rkN_nth q
    have := one _ u2
    omega
theorem tgF_is {d : Nat} {rs : List (List Int)} (h : Pl d rs) : ∀ (n : Nat) (p : List Int), p.length + n = d + 1 → Gp rs p ≠ [] → tgF n (Gp rs p) p.length = (Gp rs p).map fun r => (tgt d rs r).drop p.length
  | 0, p, hn, ne => by
    exfalso
    cases e : Gp rs p with
    | nil => exact ne e
    | cons r l =>
      obtain ⟨h1, h2⟩ := mem_Gp.mp (show r ∈ Gp rs p by rw [e]; simp)
      have := h.len r h1
      have : (r.take p.length).length = p.length := by rw [h2]
      rw [List.length_take] at this
      omega
  | n + 1, p, hn, ne => by
    rw [tgF]
    by_cases c : (Gp rs p).length = 1
    · obtain ⟨r, e⟩ := List.length_eq_one_iff.mp c
      rw [if_pos c, e, List.map_cons, List.map_nil, tgt_drop0 h e]
      rfl
    · have pd := Gp_two h ne c
      rw [if_neg c]
      obtain ⟨ns, hns⟩ : ∃ ns, ns = asc ((Gp rs p).map (·.getD p.length 0)) := ⟨_, rfl⟩
      rw [← hns]
      have ev : (Gp rs p).map (·.getD p.length 0) = nums rs p.length p := rfl
      have lt : ns.Pairwise (· < ·) := by rw [hns]; exact asc_lt _
      have mm : ∀ x, x ∈ ns ↔ x ∈ nums rs p.length p := fun x => by rw [hns, mem_asc, ev]
      have pl := rkN_place lt mm (fun x hx => nums_nn h x hx)
      have one : ∀ i ∈ (List.range ns.length).reverse, (tgF n ((Gp rs p).filter fun r => decide (r.getD p.length 0 = ns.getD i 0)) (p.length + 1)).map ((i : Int) :: ·) = ((Gp rs p).filter fun r => decide (r.getD p.length 0 = ns.getD i 0)).map fun r => (tgt d rs r).drop p.length := fun i hi => by
        have hi : i < ns.length := by simpa using hi
        have ei : ns.getD i 0 = ns[i] := by simp [List.getD_eq_getElem?_getD, hi]
        rw [ei, Gp_snoc h pd]
        have l1 : (p ++ [ns[i]]).length = p.length + 1 := by simp
        have nn : Gp rs (p ++ [ns[i]]) ≠ [] := fun z => by
          obtain ⟨s, hs, es, ey⟩ := mem_nums.mp ((mm _).mp (List.getElem_mem hi))
          have : s ∈ Gp rs (p ++ [ns[i]]) := mem_Gp.mpr ⟨hs, (take_snoc9 (by rw [h.len s hs]; exact pd)).mpr ⟨es, ey⟩⟩
          rw [z] at this
          cases this
        have ih := tgF_is h n (p ++ [ns[i]]) (by omega) nn
        rw [l1] at ih
        rw [ih, List.map_map]
        refine List.map_congr_left fun r hr => ?_
        obtain ⟨r1, r2⟩ := mem_Gp.mp hr
        obtain ⟨t1, t2⟩ := (take_snoc9 (by rw [h.len r r1]; exact pd)).mp r2
        have lt2 : p.length < (tgt d rs r).length := by rw [tgt_len]; exact pd
        have q : (tgt d rs r)[p.length] = (i : Int) := by
          have a := tgt_get rs r pd
          rw [List.getD_eq_getElem?_getD, List.getElem?_eq_getElem lt2, Option.getD_some] at a
          rw [a]
          unfold rk
          rw [t1, t2, pl i hi]
        show (i : Int) :: (tgt d rs r).drop (p.length + 1) = _
        rw [List.drop_eq_getElem_cons lt2, q]
      rw [List.flatMap_def, List.map_congr_left one, ← List.flatMap_def]
      have key := filt_desc (·.getD p.length 0) ns.reverse (Gp rs p) ?_ ?_ ?_
      · have e1 : ns.reverse = (List.range ns.length).reverse.map fun i => ns.getD i 0 := by rw [List.map_reverse, range_getD]
        rw [e1, List.flatMap_map] at key
        conv => rhs; rw [← key]
        rw [List.map_flatMap]
      · refine (Gp_fall h p).imp_of_mem fun {a b} ha hb lt => ?_
        obtain ⟨a1, a2⟩ := mem_Gp.mp ha
        obtain ⟨b1, b2⟩ := mem_Gp.mp hb
        exact nth_fall p.length lt (a2.trans b2.symm) (by rw [h.len a a1]; exact pd) (by rw [h.len b b1]; exact pd)
      · rw [List.pairwise_reverse]
        exact lt
      · intro r hr
        rw [List.mem_reverse, mm]
        exact mem_nums.mpr ⟨r, (mem_Gp.mp hr).1, (mem_Gp.mp hr).2, rfl⟩
theorem tight_is {d : Nat} {rs : List (List Int)} (h : Pl d rs) : tgF (d + 1) rs 0 = tight d rs := by
  have g : Gp rs [] = rs := List.filter_eq_self.mpr fun _ _ => by simp
  have := tgF_is h (d + 1) [] (by simp) (by rw [g]; exact h.ne)
  rw [g] at this
  exact this
end My.Pn

set_option Elab.async false
set_option linter.all false
set_option maxRecDepth 100000
set_option maxHeartbeats 4000000
namespace My.Pn
open PySem PySem.Spec PyProof.Rows L2 Bk
/-! ### tightened plans: once more the same, the same groups, different tests -/
theorem rkN_full {K : List Int} : ∀ {c : Nat}, (∀ x : Nat, x < c → (x : Int) ∈ K) → rkN K c = c
  | 0, _ => rfl
  | c + 1, h => by rw [rkN, if_pos (h c (by omega)), rkN_full fun x hx => h x (by omega)]
/-- what is below a number of the tightened plan is one, too -/
theorem tight_seg {d : Nat} {rs : List (List Int)} (h : Pl d rs) {r : List Int} {j : Nat} (hj : j < d) {x : Nat} (hx : (x : Int) < rk rs r j) : ∃ s ∈ rs, s.take j = r.take j ∧ rk rs s j = (x : Int) := by
  unfold rk at hx
  obtain ⟨u, _, u2, u3⟩ := rkN_nth (K := nums rs j (r.take j)) (n := (r.getD j 0).toNat) (x := x) (by omega)
  obtain ⟨s, hs, es, ey⟩ := mem_nums.mp u2
  refine ⟨s, hs, es, ?_⟩
  unfold rk
  rw [es, ey, Int.toNat_natCast, u3]
theorem tight_idem {d : Nat} {rs : List (List Int)} (h : Pl d rs) : tight d (tight d rs) = tight d rs := by
  have e : ∀ r ∈ rs, tgt d (tight d rs) (tgt d rs r) = tgt d rs r := fun r hr => by
    show (List.range d).map _ = (List.range d).map _
    refine List.map_congr_left fun j hj => ?_
    have hj := List.mem_range.mp hj
    have a := rk_le h hr j
    have g := tgt_get rs r hj
    obtain ⟨c, hc⟩ := Int.eq_ofNat_of_zero_le a.1
    show ((rkN (nums (tight d rs) j ((tgt d rs r).take j)) ((tgt d rs r).getD j 0).toNat : Nat) : Int) = _
    rw [g, hc, Int.toNat_natCast]
    rw [rkN_full fun x hx => ?_]
    obtain ⟨s, hs, es, ek⟩ := tight_seg h hj (r := r) (x := x) (by omega)
    refine mem_nums.mpr ⟨tgt d rs s, List.mem_map_of_mem hs, (tgt_take h hs hr (by omega)).mpr es, ?_⟩
    rw [tgt_get _ _ hj, ek]
  show (rs.map (tgt d rs)).map _ = rs.map (tgt d rs)
  rw [List.map_map]
  exact List.map_congr_left e
theorem lv_tight {d : Nat} {rs : List (List Int)} (h : Pl d rs) {r : List Int} (hr : r ∈ rs) {k : Nat} (hk : k ≤ d) : lv (tight d rs) ((tgt d rs r).take k) = lv rs (r.take k) := by
  have lr := h.len r hr
  have l1 : ((tgt d rs r).take k).length = k := by rw [List.length_take, tgt_len]; omega
  have l2 : (r.take k).length = k := by rw [List.length_take]; omega
  have key : ∀ (l : List (List Int)) (i : Nat), (∀ s ∈ l, s ∈ rs) → lvF ((tgt d rs r).take k) i (l.map (tgt d rs)) = lvF (r.take k) i l := fun l => by
    induction l with
    | nil => intro i _; rfl
    | cons s l ih =>
      intro i hl
      have ih := ih (i + 1) fun x hx => hl x (by simp [hx])
      have t := tgt_take h (hl s (by simp)) hr hk
      rw [List.map_cons, lvF, lvF, l1, l2, ih]
      by_cases c : s.take k = r.take k
      · rw [if_pos c, if_pos (t.mpr c)]
      · rw [if_neg c, if_neg fun z => c (t.mp z)]
  exact key rs 0 fun _ hs => hs
theorem mem_nmb {rs : List (List Int)} {p : List Int} {x : Int} : x ∈ nmb rs p ↔ ∃ s ∈ rs, s.take p.length = p ∧ s.getD p.length 0 = x := by
  unfold nmb
  rw [List.mem_map]
  constructor
  · rintro ⟨l, hl, e⟩
    obtain ⟨s, es, t⟩ := mem_lv.mp hl
    rw [List.getD_eq_getElem?_getD (l := rs), es, Option.getD_some] at e
    exact ⟨s, List.mem_of_getElem? es, t, e⟩
  · rintro ⟨s, hs, t, e⟩
    obtain ⟨l, hl, el⟩ := List.getElem_of_mem hs
    have es : rs[l]? = some s := by rw [List.getElem?_eq_getElem hl, el]
    refine ⟨l, mem_lv.mpr ⟨s, es, t⟩, ?_⟩
    rw [List.getD_eq_getElem?_getD (l := rs), es, Option.getD_some]
    exact e
theorem cge_lt {xs : List Int} {i j : Int} (hij : i < j) (hi : i ∈ xs) : cge xs j < cge xs i := by
  unfold cge
  induction xs with
  | nil => cases hi
  | cons x xs ih =>
    have mono : (xs.filter fun x => decide (j ≤ x)).length ≤ (xs.filter fun x => decide (i ≤ x)).length := by
      have : ∀ l : List Int, (l.filter fun x => decide (j ≤ x)).length ≤ (l.filter fun x => decide (i ≤ x)).length := fun l => by
        induction l with
        | nil => simp
        | cons y l ih =>
          rw [List.filter_cons, List.filter_cons]
          by_cases c : j ≤ y
          · rw [if_pos (decide_eq_true c), if_pos (decide_eq_true (by omega)), List.length_cons, List.length_cons]; omega
          · rw [if_neg (by rw [decide_eq_true_eq]; exact c)]
            by_cases z : i ≤ y
            · rw [if_pos (decide_eq_true z), List.length_cons]; omega
            · rw [if_neg (by rw [decide_eq_true_eq]; exact z)]; exact ih
      exact this xs
    rw [List.filter_cons, List.filter_cons]
    rcases List.mem_cons.mp hi with q | q
    · subst q
      rw [if_neg (by rw [decide_eq_true_eq]; omega), if_pos (by rw [decide_eq_true_eq]; omega), List.length_cons]
      omega
    · have ih := ih q
      by_cases c : j ≤ x
      · rw [if_pos (decide_eq_true c), if_pos (decide_eq_true (by omega)), List.length_cons, List.length_cons]; omega
      · rw [if_neg (by rw [decide_eq_true_eq]; exact c)]
        by_cases z : i ≤ x
        · rw [if_pos (decide_eq_true z), List.length_cons]; omega
        · rw [if_neg (by rw [decide_eq_true_eq]; exact z)]; exact ih
theorem intR_lt9 : ∀ (n : Nat) (lo : Int), (intR lo n).Pairwise fun x y => x < y
  | 0, _ => by simp [intR]
  | n + 1, lo => by
    rw [intR, List.pairwise_cons]
    refine ⟨fun x hx => ?_, intR_lt9 n (lo + 1)⟩
    have := mem_intR.mp hx
    omega
/-- the tests of a tightened plan -/
theorem tst_tight {d : Nat} {rs : List (List Int)} (h : Pl d rs) {r : List Int} (hr : r ∈ rs) {k : Nat} (hk : k < d) {a m : Nat} (e : lv rs (r.take k) = List.range' a (m + 1)) :
    (tst (tight d rs) ((tgt d rs r).take k)).Pairwise (fun x y => y < x) ∧ ∀ t ∈ tst (tight d rs) ((tgt d rs r).take k), (a : Int) < t ∧ t ≤ ((a + m : Nat) : Int) := by
  have hP := tight_pl h
  have lr := h.len r hr
  have l1 : ((tgt d rs r).take k).length = k := by rw [List.length_take, tgt_len]; omega
  have el := (lv_tight h hr (Nat.le_of_lt hk)).trans e
  obtain ⟨xs, hxs⟩ : ∃ xs, xs = nmb (tight d rs) ((tgt d rs r).take k) := ⟨_, rfl⟩
  have xl : xs.length = m + 1 := by rw [hxs]; unfold nmb; rw [el]; simp
  have mm : ∀ x, x ∈ xs ↔ ∃ s ∈ rs, s.take k = r.take k ∧ rk rs s k = x := fun x => by
    rw [hxs, mem_nmb, l1]
    constructor
    · rintro ⟨t, ht, h1, h2⟩
      obtain ⟨s, hs, rfl⟩ := List.mem_map.mp ht
      exact ⟨s, hs, (tgt_take h hs hr (Nat.le_of_lt hk)).mp h1, by rw [← h2, tgt_get _ _ hk]⟩
    · rintro ⟨s, hs, h1, h2⟩
      exact ⟨tgt d rs s, List.mem_map_of_mem hs, (tgt_take h hs hr (Nat.le_of_lt hk)).mpr h1, by rw [tgt_get _ _ hk]; exact h2⟩
  have x0 : xs.getD 0 0 ∈ xs := by
    rw [List.getD_eq_getElem?_getD, List.getElem?_eq_getElem (by omega), Option.getD_some]
    exact List.getElem_mem _
  have seg : ∀ y : Int, 0 ≤ y → y ≤ xs.getD 0 0 → y ∈ xs := fun y y0 y1 => by
    by_cases c : y = xs.getD 0 0
    · rw [c]; exact x0
    · obtain ⟨s, hs, es, ek⟩ := (mm _).mp x0
      obtain ⟨u, hu, eu, ku⟩ := tight_seg h hk (r := s) (x := y.toNat) (by omega)
      exact (mm _).mpr ⟨u, hu, eu.trans es, by omega⟩
  have x00 : 0 ≤ xs.getD 0 0 := by
    obtain ⟨s, hs, _, ek⟩ := (mm _).mp x0
    have := rk_le h hs k
    omega
  have te : tst (tight d rs) ((tgt d rs r).take k) = (intR 1 (xs.getD 0 0).toNat).map fun j => (a : Int) + (cge xs j : Nat) := by
    unfold tst
    rw [el, List.range'_succ, ← hxs]
  rw [te]
  refine ⟨?_, fun t ht => ?_⟩
  · rw [List.pairwise_map]
    refine (intR_lt9 _ _).imp_of_mem fun {i j} hi hj lt => ?_
    have b := mem_intR.mp hi
    have := cge_lt lt (seg i (by omega) (by omega))
    omega
  · obtain ⟨j, hj, rfl⟩ := List.mem_map.mp ht
    have b := mem_intR.mp hj
    have c1 := cge_lt (xs := xs) (i := j) (j := j + 1) (by omega) (seg j (by omega) (by omega))
    have c2 := cge_lt (xs := xs) (i := 0) (j := j) (by omega) (seg 0 (Int.le_refl _) x00)
    have c3 := cge_le xs 0
    omega
end My.Pn

set_option Elab.async false
set_option linter.all false
set_option maxRecDepth 100000
set_option maxHeartbeats 8000000
namespace My.Pn
open PySem PySem.Spec PyProof.Rows L2 Bk
/-! ### the law's functions of a plan -/
theorem m_llevels (t : Bool) {rs : List (List Int)} (hl : rs.length ≤ 1900) (p : List Int) : F_law_levels [planD t rs, rowT p] [] = .ok (.lst (natD (lv rs p))) [] := by
  have key := lev_loop (q := planD t rs) (p := p) (fun i r M => lev_test i r M) [] rs 0 [] (by simpa using hl)
  rw [List.nil_append] at key
  have key' : gLcL (gToT (gToCons (gTo 2) (gToCons (gTo 3) (gToNil)))) (gVal (gOp2 dEqA (gSl (gV 3) (gNoO) (gO (gCall (fn1 dLen) (gCons (gV 1) (gNil))))) (gV 1))) (gV 2) [some (planD t rs), some (rowT p), none, none] (enumL 0 (rs.map rowT)) [] [] = .ok (natD (lv rs p)) [] := key
  have sq := planD_seq t rs
  have bl := natD_below 0 (lv rs p)
  generalize planD t rs = PD at *
  generalize natD (lv rs p) = LV at *
  generalize rowT p = RP at *
  simp [F_law_levels, b_law_levels, runF, sq, key', bl]
theorem c_llevels (t : Bool) {rs : List (List Int)} (hl : rs.length ≤ 1900) (p : List Int) (M : List MO) : callF F_law_levels [planD t rs, rowT p] M = .ok (.lst (natD (lv rs p))) M := c_flat (m_llevels t hl p) M (by simp) (by simpa [Bk.below] using natD_below 0 (lv rs p))
end My.Pn

set_option Elab.async false
set_option linter.all false
set_option maxRecDepth 100000
set_option maxHeartbeats 8000000
namespace My.Pn
open PySem PySem.Spec PyProof.Rows L2 Bk
/-! ### drawn pasts, drawn rows -/
theorem plan_draw {rs : List (List Int)} {i : Int} (h0 : 0 ≤ i) (h1 : i < rs.length) : ∃ r, (∀ M, dIx M (.lst (rs.map rowT)) (.int i) = some (rowT r)) ∧ r ∈ rs := by
  obtain ⟨k, rfl⟩ := Int.eq_ofNat_of_zero_le h0
  have hk : k < rs.length := by omega
  exact ⟨rs[k], fun M => planD_ix M false rs (List.getElem?_eq_getElem hk), List.getElem_mem hk⟩
theorem four_ix {a b c e i : Int} (h0 : 0 ≤ i) (h1 : i < 4) : ∃ v : Int, (∀ M, dIx M (.lst [.int a, .int b, .int c, .int e]) (.int i) = some (.int v)) ∧ (v = a ∨ v = b ∨ v = c ∨ v = e) := by
  have : i = 0 ∨ i = 1 ∨ i = 2 ∨ i = 3 := by omega
  rcases this with rfl | rfl | rfl | rfl
  · exact ⟨a, fun M => by simp, .inl rfl⟩
  · exact ⟨b, fun M => by simp, .inr (.inl rfl)⟩
  · exact ⟨c, fun M => by simp, .inr (.inr (.inl rfl))⟩
  · exact ⟨e, fun M => by simp, .inr (.inr (.inr rfl))⟩
theorem rowT_from (M : List MO) (r : List Int) (k : Nat) : dCut M (some (k : Int)) none (rowT r) = some (rowT (r.drop k)) := by
  show some (D.tup (Bk.cutD (r.map D.int) (some (k : Int)) none)) = _
  rw [cutD_from, ← List.map_drop]
theorem rowT_list (M : List MO) (r : List Int) : dList M (rowT r) = some (.lst (r.map D.int)) := rfl
theorem lc_rowD {x1 x2 x3 x4 x6 x7 : Option D} {top : Int} (h0 : 0 < top) (h1 : top ≤ 13) (R : List MO) : ∀ (ds : List D) (acc : List D) (s : Src3), acc.length + ds.length ≤ 1900 →
    ∃ (is : List Int) (s' : Src3), gLcL (gTo 8) gYes le_law_rows_1 [some (.ref 0), x1, x2, x3, x4, some (.int top), x6, x7, none] ds acc (srcO s :: R) = .ok (acc ++ is.map D.int) (srcO s' :: R) ∧ is.length = ds.length ∧ ∀ i ∈ is, 0 ≤ i ∧ i ≤ 12
  | [], acc, s, _ => ⟨[], s, by simp [gLcL], rfl, by simp⟩
  | d :: ds, acc, s, h => by
    have sz : 2000 ≤ sizeLine := by rw [sizeLine_eq]; omega
    simp only [List.length_cons] at h
    have t1 := t_0 s top R h0 (by omega)
    have a0 := tk_lo s h0
    have a1 := tk_hi s h0
    obtain ⟨is, s', e, l, hi⟩ := lc_rowD (x1 := x1) (x2 := x2) (x3 := x3) (x4 := x4) (x6 := x6) (x7 := x7) h0 h1 R ds (acc ++ [.int (tk s top)]) (tn s top) (by simp; omega)
    refine ⟨tk s top :: is, s', ?_, by simp [l], fun i hi' => ?_⟩
    · refine (lcL_cons (Γ1 := [some (.ref 0), x1, x2, x3, x4, some (.int top), x6, x7, some d]) (y := .int (tk s top)) (M2 := srcO (tn s top) :: R) (by simp) (by simp [le_law_rows_1, t1]) (by omega)).trans (e.trans (by simp))
    · rcases List.mem_cons.mp hi' with z | z
      · rw [z]; omega
      · exact hi i z
theorem rows_loop {d : Nat} (hd : d ≤ 100) (many : D) : ∀ (n : Nat) (lo : Int) (acc : List (List Int)) (s : Src3), acc.length + n ≤ 62 → (∀ r ∈ acc, r.length = d ∧ ∀ x ∈ r, 0 ≤ x ∧ x ≤ 12) →
    ∃ (acc' : List (List Int)) (s' : Src3), gForL (gTo 4) lb_law_rows_1 (rngL lo n) [some (.ref 0), some (.int (d : Nat)), some many, some (.ref 1), none, none, none, none, none] [srcO s, .lst (acc.map rowT)]
      = .nx [some (.ref 0), some (.int (d : Nat)), some many, some (.ref 1), none, none, none, none, none] [srcO s', .lst (acc'.map rowT)] ∧ acc'.length = acc.length + n ∧ ∀ r ∈ acc', r.length = d ∧ ∀ x ∈ r, 0 ≤ x ∧ x ≤ 12
  | 0, lo, acc, s, _, h => ⟨acc, s, by simp [rngL], rfl, h⟩
  | n + 1, lo, acc, s, hn, h => by
    have sz : 2000 ≤ sizeLine := by rw [sizeLine_eq]; omega
    have t1 := t_0 s 4 [.lst (acc.map rowT)] (by decide) (by decide)
    obtain ⟨top, et, ht⟩ := four_ix (a := 1) (b := 2) (c := 4) (e := 13) (tk_lo s (n := 4) (by decide)) (tk_hi s (n := 4) (by decide))
    generalize tk s 4 = i1 at *
    generalize tn s 4 = s1 at *
    have ht2 : 0 < top ∧ top ≤ 13 := by rcases ht with z | z | z | z <;> omega
    obtain ⟨is, s2, e2, l2, h2⟩ := lc_rowD (x1 := some (.int (d : Nat))) (x2 := some many) (x3 := some (.ref 1)) (x4 := some (.int lo)) (x6 := none) (x7 := none) ht2.1 ht2.2 [.lst (acc.map rowT)] (rngL 0 d) [] s1 (by rw [rngL_length]; simp; omega)
    rw [rngL_length] at l2
    rw [List.nil_append] at e2
    have r1 : rng1 [.int (d : Nat)] = some (rngL 0 d) := by
      rw [u_rng1, if_pos (inR_i (by omega) (by omega)), Int.toNat_natCast]
    have own : ∀ (s : Src3), dNeA [srcO s, .lst (acc.map rowT)] (.ref 1) (.lst []) = some (.bl !(decide (acc = []))) := fun s => by
      refine dNeA_p (x := .ref 1) ?_ (fun _ h => by cases h)
      rw [eqP_of (rowsT_dt 0 acc).lst (Dts.nil 0).lst ((rowsT_dt 0 acc).derefR rfl) (Dt.deref (Dts.nil 0).lst) (by decide) (by decide)]
      cases acc with
      | nil => rfl
      | cons x ls => rfl
    have done : ∀ (row : List Int) (s3 : Src3) (x5 x6 x7 : Option D), row.length = d → (∀ x ∈ row, 0 ≤ x ∧ x ≤ 12) → ∃ (acc' : List (List Int)) (s' : Src3), gForL (gTo 4) lb_law_rows_1 (rngL (lo + 1) n) [some (.ref 0), some (.int (d : Nat)), some many, some (.ref 1), none, none, none, none, none] [srcO s3, .lst (acc.map rowT ++ [rowT row])]
        = .nx [some (.ref 0), some (.int (d : Nat)), some many, some (.ref 1), none, none, none, none, none] [srcO s', .lst (acc'.map rowT)] ∧ acc'.length = acc.length + (n + 1) ∧ ∀ r ∈ acc', r.length = d ∧ ∀ x ∈ r, 0 ≤ x ∧ x ≤ 12 := fun row s3 x5 x6 x7 lr hr => by
      obtain ⟨acc', s', e, l, hh⟩ := rows_loop hd many n (lo + 1) (acc ++ [row]) s3 (by simp; omega) (fun r hr' => by
        rcases List.mem_append.mp hr' with z | z
        · exact h r z
        · have : r = row := by simpa using z
          rw [this]
          exact ⟨lr, hr⟩)
      refine ⟨acc', s', ?_, by rw [l]; simp; omega, hh⟩
      rw [List.map_append] at e
      exact e
    have tu : ∀ (M : List MO) (r : List Int), dTuple M (.lst (r.map D.int)) = some (rowT r) := fun M r => rfl
    have qa : (acc.map rowT).length < sizeLine := by rw [List.length_map]; omega
    rw [rngL]
    by_cases hc : acc = []
    · obtain ⟨acc', s', e, l, hh⟩ := done is s2 none none none l2 h2
      refine ⟨acc', s', ?_, l, hh⟩
      have own' : ∀ (s : Src3), dNeA [srcO s, .lst (acc.map rowT)] (.ref 1) (.lst []) = some (.bl false) := fun s => (own s).trans (by simp [hc])
      refine (forL_cons (Γ1 := [some (.ref 0), some (.int (d : Nat)), some many, some (.ref 1), some (.int lo), none, none, none, none]) (by simp) ?_).trans e
      have tu' := fun M => tu M is
      generalize acc.map rowT = AC at *
      generalize is.map D.int = IS at *
      generalize rowT is = RI at *
      simp [-e_ix, -u_rng1, lb_law_rows_1, t1, et, r1, e2, own', tu', listD, isListD, mutR, qa]
    · have own' : ∀ (s : Src3), dNeA [srcO s, .lst (acc.map rowT)] (.ref 1) (.lst []) = some (.bl true) := fun s => (own s).trans (by simp [hc])
      have z3 : 0 < (d : Int) + 1 := by omega
      have t3 := t_0 s2 ((d : Int) + 1) [.lst (acc.map rowT)] z3 (by omega)
      have a0 := tk_lo s2 z3
      have a1 := tk_hi s2 z3
      generalize tk s2 ((d : Int) + 1) = i3 at *
      generalize tn s2 ((d : Int) + 1) = s3 at *
      obtain ⟨sh, rfl⟩ := Int.eq_ofNat_of_zero_le a0
      have hp : 0 < acc.length := List.length_pos_iff.mpr hc
      have z4 : 0 < (acc.length : Int) := by omega
      have t4 := t_0 s3 (acc.length : Int) [.lst (acc.map rowT)] z4 (by omega)
      obtain ⟨q, ix, hq⟩ := plan_draw (rs := acc) (tk_lo s3 z4) (tk_hi s3 z4)
      generalize tk s3 (acc.length : Int) = i4 at *
      generalize tn s3 (acc.length : Int) = s4 at *
      have ixr : ∀ s : Src3, dIx [srcO s, .lst (acc.map rowT)] (.ref 1) (.int i4) = some (rowT q) := fun s => by
        have := ix []
        rw [e_ix, itemsD_l, Option.bind_some] at this
        rw [e_ix, itemsD_r]
        simp only [listD, List.getElem?_cons_succ, List.getElem?_cons_zero, Option.bind_some]
        exact this
      have lr : ∀ s : Src3, dLen [srcO s, .lst (acc.map rowT)] (.ref 1) = some (.int acc.length) := fun s => by
        rw [e_lenR]
        simp [listD]
      obtain ⟨lq, nq⟩ := h q hq
      have ct := fun M => rowT_cut M q sh
      have li := fun M => rowT_list M (q.take sh)
      have cf : ∀ M, dCut M (some (sh : Int)) none (.lst (is.map D.int)) = some (.lst ((is.drop sh).map D.int)) := fun M => by
        simp only [dCut, listD, Option.map_some]
        rw [cutD_from, ← List.map_drop]
      have ad : ∀ M, dAdd M (.lst ((q.take sh).map D.int)) (.lst ((is.drop sh).map D.int)) = some (.lst ((q.take sh ++ is.drop sh).map D.int)) := fun M => by
        rw [e_addL, if_pos (by simp; omega)]
        simp
      obtain ⟨acc', s', e, l, hh⟩ := done (q.take sh ++ is.drop sh) s4 none none none (by simp; omega) (fun x hx => by
        rcases List.mem_append.mp hx with z | z
        · exact nq x (List.mem_of_mem_take z)
        · exact h2 x (List.mem_of_mem_drop z))
      refine ⟨acc', s', ?_, l, hh⟩
      refine (forL_cons (Γ1 := [some (.ref 0), some (.int (d : Nat)), some many, some (.ref 1), some (.int lo), none, none, none, none]) (by simp) ?_).trans e
      have tu' := fun M => tu M (q.take sh ++ is.drop sh)
      generalize acc.map rowT = AC at *
      generalize (q.take sh ++ is.drop sh).map D.int = W1 at *
      generalize rowT (q.take sh ++ is.drop sh) = RI at *
      generalize (q.take sh).map D.int = W2 at *
      generalize rowT (q.take sh) = W6 at *
      generalize rowT q = W7 at *
      generalize (is.drop sh).map D.int = W3 at *
      generalize is.map D.int = IS at *
      simp [-e_ix, -u_rng1, -e_lenR, -e_addL, lb_law_rows_1, t1, et, r1, e2, own', t3, lr, t4, ixr, ct, li, cf, ad, tu', listD, isListD, mutR, qa]
theorem m_lrows {d : Nat} (hd : d ≤ 100) {n : Nat} (h1 : 1 ≤ n) (h2 : n ≤ 60) (s : Src3) : ∃ (rs : List (List Int)) (s' : Src3), F_law_rows [.ref 0, .int (d : Nat), .int (n : Nat)] [srcO s] = .ok (planD false rs) [srcO s'] ∧ Pl d rs ∧ rs.length ≤ 60 := by
  obtain ⟨acc, s', e, l, hh⟩ := rows_loop hd (.int (n : Nat)) n 0 [] s (by simp; omega) (by simp)
  have e : gForL (gTo 4) lb_law_rows_1 (rngL 0 n) [some (.ref 0), some (.int (d : Nat)), some (.int (n : Nat)), some (.ref 1), none, none, none, none, none] [srcO s, .lst []] = _ := e
  rw [List.length_nil, Nat.zero_add] at l
  have r1 : rng1 [.int (n : Nat)] = some (rngL 0 n) := by
    rw [u_rng1, if_pos (inR_i (by omega) (by omega)), Int.toNat_natCast]
  have ul := (uniqR_len acc).1
  have ok : srtOk (uniqR acc) = true := by
    unfold srtOk
    rw [Bool.or_eq_true]
    by_cases hz : d = 0
    · left
      rw [decide_eq_true_eq]
      have all : ∀ r ∈ uniqR acc, r = [] := fun r hr => List.length_eq_zero_iff.mp ((hh r (mem_uniqR.mp hr)).1.trans hz)
      have nd := uniqR_nodup acc
      rcases h9 : uniqR acc with _ | ⟨a, _ | ⟨b, rs⟩⟩
      · simp
      · simp
      · rw [h9] at all nd
        have ea := all a (by simp)
        have eb := all b (by simp)
        rw [ea, eb] at nd
        simp at nd
    · right
      rw [List.all_eq_true]
      intro r hr
      have := (hh r (mem_uniqR.mp hr)).1
      rw [decide_eq_true_eq]
      intro z
      rw [z] at this
      simp at this
      omega
  have so := e_sortS [srcO s', .dead] (rs := acc) (by omega) ok
  refine ⟨(srtR (uniqR acc)).reverse, s', ?_, ?_, ?_⟩
  · have rv : (((srtR (uniqR acc)).map tupI).reverse) = ((srtR (uniqR acc)).reverse).map rowT := by rw [List.map_reverse]
    have rv2 : D.lst (((srtR (uniqR acc)).map tupI).reverse) = planD false (srtR (uniqR acc)).reverse := by rw [rv]; rfl
    have bl := rowsT_below 0 (srtR (uniqR acc)).reverse
    have rt : retR 1 [srcO s', .dead] (planD false (srtR (uniqR acc)).reverse) = .ok (planD false (srtR (uniqR acc)).reverse) [srcO s'] := by
      have := rowsT_below 1 (srtR (uniqR acc)).reverse
      show (if Bk.below 1 (planD false (srtR (uniqR acc)).reverse) = true then _ else _) = _
      rw [if_pos (planD_below 1 false _)]
      rfl
    generalize planD false (srtR (uniqR acc)).reverse = PD at *
    generalize (srtR (uniqR acc)).map tupI = SR at *
    generalize acc.map rowT = AC at *
    simp [-u_rng1, F_law_rows, b_law_rows, runF, r1, e, so, rv2, rt]
  · have pm : (srtR (uniqR acc)).Perm (uniqR acc) := List.mergeSort_perm _ _
    have mem : ∀ r, r ∈ (srtR (uniqR acc)).reverse ↔ r ∈ acc := fun r => by rw [List.mem_reverse, pm.mem_iff, mem_uniqR]
    have lp : (srtR (uniqR acc)).reverse.length ≤ 60 := by rw [List.length_reverse, pm.length_eq]; omega
    refine ⟨?_, by omega, hd, fun r hr => (hh r ((mem r).mp hr)).1, fun r hr => (hh r ((mem r).mp hr)).2, ?_⟩
    · intro z
      have : acc ≠ [] := fun w => by rw [w] at l; simp at l; omega
      obtain ⟨x, xs, hx⟩ := List.exists_cons_of_ne_nil this
      have := (mem x).mpr (by rw [hx]; simp)
      rw [z] at this
      simp at this
    · rw [List.pairwise_reverse]
      have nd : (srtR (uniqR acc)).Nodup := pm.nodup_iff.mpr (uniqR_nodup acc)
      refine List.Pairwise.imp₂ (fun a b h1 h2 => ?_) (srtR_up (uniqR acc)) nd
      unfold leR at h1
      rw [decide_eq_true_eq] at h1
      by_cases z : a < b
      · exact z
      · exact absurd (List.le_antisymm h1 (List.not_lt.mp z)) h2
  · have pm : (srtR (uniqR acc)).Perm (uniqR acc) := List.mergeSort_perm _ _
    rw [List.length_reverse, pm.length_eq]
    omega
theorem c_lrows {d : Nat} (hd : d ≤ 100) {n : Nat} (h1 : 1 ≤ n) (h2 : n ≤ 60) (s : Src3) (R : List MO) : ∃ (rs : List (List Int)) (s' : Src3), callF F_law_rows [.ref 0, .int (d : Nat), .int (n : Nat)] (srcO s :: R) = .ok (planD false rs) (srcO s' :: R) ∧ Pl d rs ∧ rs.length ≤ 60 := by
  obtain ⟨rs, s', e, h, l⟩ := m_lrows hd h1 h2 s
  exact ⟨rs, s', c_lend1 (k := 0) (M := srcO s :: R) e rfl rfl rfl rfl (by simp) (by simp), h, l⟩
end My.Pn

set_option Elab.async false
set_option linter.all false
set_option maxRecDepth 100000
set_option maxHeartbeats 8000000
namespace My.Pn
open PySem PySem.Spec PyProof.Rows L2 Bk
/-! ### the law: allowed rows, the greatest number, drawn calendars -/
def alF (c : Cal) (r : List Int) : Nat → Nat → Bool
  | _, 0 => true
  | j, n + 1 => (match c[j]? with
    | some p => decide (awayV c r ((j : Int) + 1) + r.getD j 0 ≤ p.1)
    | none => true) && alF c r (j + 1) n
theorem alF_iff (c : Cal) (r : List Int) : ∀ (n j : Nat), alF c r j n = true ↔ ∀ i p, j ≤ i → i < j + n → c[i]? = some p → awayV c r ((i : Int) + 1) + r.getD i 0 ≤ p.1
  | 0, j => by
    simp only [alF, true_iff]
    intro i p h1 h2
    omega
  | n + 1, j => by
    rw [alF, Bool.and_eq_true, alF_iff c r n (j + 1)]
    constructor
    · rintro ⟨h1, h2⟩ i p a b e
      by_cases q : i = j
      · subst q
        rw [e] at h1
        simpa using h1
      · exact h2 i p (by omega) (by omega) e
    · intro h
      refine ⟨?_, fun i p a b e => h i p (by omega) (by omega) e⟩
      cases e : c[j]? with
      | none => rfl
      | some p => simpa using h j p (by omega) (by omega) e
def alB (c : Cal) (r : List Int) : Bool := alF c r 0 c.length
theorem alB_iff (c : Cal) (r : List Int) : alB c r = true ↔ Al c r := by
  unfold alB
  rw [alF_iff]
  constructor
  · intro h j p e
    exact h j p (Nat.zero_le _) (by have := (List.getElem?_eq_some_iff.mp e).1; omega) e
  · intro h i p _ _ e
    exact h i p e
theorem cal_ix (M : List MO) (c : Cal) {i : Nat} {p : Int × Option Int} (h : c[i]? = some p) : dIx M (calD false c) (.int (i : Nat)) = some (entD p) := by
  show dIx M (.lst (c.map entD)) (.int (i : Nat)) = _
  rw [e_ix, itemsD_l, Option.bind_some, Bk.atI_nat, List.getElem?_map, h]
  rfl
theorem inner_loop {c : Cal} {r : List Int} (hl : r.length ≤ c.length) (j : Nat) : ∀ (m i : Nat) (acc : Int), i + m = r.length →
    gForL (gToT (gToCons (gTo 4) (gToCons (gTo 5) (gToNil)))) lb_law_is_allowed_2 (enumL (i : Int) ((r.drop i).map D.int)) [some (calD false c), some (rowT r), some (.int ((j : Int) + 1)), some (.int acc), none, none, none] []
      = .nx [some (calD false c), some (rowT r), some (.int ((j : Int) + 1)), some (.int (acc + awayZ ((j : Int) + 1) (((c.zip r).drop i).take (j - i)))), none, none, none] []
  | 0, i, acc, h => by
    have e : r.drop i = [] := List.drop_eq_nil_of_le (by omega)
    have e2 : (c.zip r).drop i = [] := List.drop_eq_nil_of_le (by rw [List.length_zip]; omega)
    rw [e, e2]
    simp [enumL, awayZ]
  | m + 1, i, acc, h => by
    have ir : i < r.length := by omega
    have ic : i < c.length := by omega
    have il : i < (c.zip r).length := by rw [List.length_zip]; omega
    have ez : (c.zip r)[i] = (c[i], r[i]) := List.getElem_zip
    obtain ⟨⟨o, b⟩, hp⟩ : ∃ p, c[i] = p := ⟨_, rfl⟩
    obtain ⟨n, hn⟩ : ∃ n, r[i] = n := ⟨_, rfl⟩
    rw [hp, hn] at ez
    have ix := fun M => cal_ix M c (i := i) (p := (o, b)) (by rw [List.getElem?_eq_getElem ic, hp])
    have er : r.drop i = n :: r.drop (i + 1) := by rw [List.drop_eq_getElem_cons ir, hn]
    have ed : (c.zip r).drop i = ((o, b), n) :: (c.zip r).drop (i + 1) := by rw [List.drop_eq_getElem_cons il, ez]
    have ei : ((i + 1 : Nat) : Int) = (i : Int) + 1 := by omega
    have ie : ∀ M, dIx M (entD (o, b)) (.int 1) = some (optD b) := fun M => by simp [entD]
    rw [er, List.map_cons, enumL]
    by_cases q : i < j
    · have q' : (i : Int) + 1 < (j : Int) + 1 := by omega
      have ih := inner_loop hl j m (i + 1) (acc + gone1 ((j : Int) + 1) b n) (by omega)
      rw [ei] at ih
      have et : acc + gone1 ((j : Int) + 1) b n + awayZ ((j : Int) + 1) (((c.zip r).drop (i + 1)).take (j - (i + 1))) = acc + awayZ ((j : Int) + 1) (((c.zip r).drop i).take (j - i)) := by
        have : j - i = (j - (i + 1)) + 1 := by omega
        rw [this, ed, List.take_succ_cons]
        simp [awayZ]
        omega
      rw [et] at ih
      refine (forL_cons (Γ1 := [some (calD false c), some (rowT r), some (.int ((j : Int) + 1)), some (.int acc), some (.int i), some (.int n), none]) (by simp) ?_).trans ih
      generalize calD false c = CD at *
      generalize rowT r = RD at *
      generalize (j : Int) + 1 = jj at *
      cases b with
      | none => simp [-e_ix, lb_law_is_allowed_2, ix, ie, q', optD, gone1]
      | some b => by_cases g : jj < b <;> simp [-e_ix, lb_law_is_allowed_2, ix, ie, q', optD, gone1, g]
    · have q' : ¬ (i : Int) + 1 < (j : Int) + 1 := by omega
      have ih := inner_loop hl j m (i + 1) acc (by omega)
      rw [ei] at ih
      have z1 : j - i = 0 := by omega
      have z2 : j - (i + 1) = 0 := by omega
      rw [z2] at ih
      rw [z1]
      simp only [List.take_zero] at ih ⊢
      refine (forL_cons (Γ1 := [some (calD false c), some (rowT r), some (.int ((j : Int) + 1)), some (.int acc), some (.int i), some (.int n), none]) (by simp) ?_).trans ih
      generalize calD false c = CD at *
      generalize rowT r = RD at *
      generalize (j : Int) + 1 = jj at *
      simp [-e_ix, lb_law_is_allowed_2, ix, ie, q']
theorem outer_loop {c : Cal} {r : List Int} (hc : c.length ≤ 100) (hl : r.length ≤ c.length) : ∀ (m j : Nat), j + m = c.length →
    (alF c r j m = true ∧ gForL (gTo 2) lb_law_is_allowed_1 (rngL ((j : Int) + 1) m) [some (calD false c), some (rowT r), none, none, none, none, none] [] = .nx [some (calD false c), some (rowT r), none, none, none, none, none] []) ∨
    (alF c r j m = false ∧ gForL (gTo 2) lb_law_is_allowed_1 (rngL ((j : Int) + 1) m) [some (calD false c), some (rowT r), none, none, none, none, none] [] = .rt (.bl false) [])
  | 0, j, h => .inl ⟨rfl, by simp [rngL]⟩
  | m + 1, j, h => by
    have jc : j < c.length := by omega
    obtain ⟨⟨o, b⟩, hp⟩ : ∃ p, c[j]? = some p := ⟨_, List.getElem?_eq_getElem jc⟩
    have ih := outer_loop hc hl m (j + 1) (by omega)
    have ei : ((j + 1 : Nat) : Int) + 1 = (j : Int) + 1 + 1 := by omega
    rw [ei] at ih
    have il := inner_loop (c := c) (r := r) hl j r.length 0 0 (by omega)
    rw [List.drop_zero, List.drop_zero, Nat.sub_zero, Int.zero_add] at il
    have av : awayZ ((j : Int) + 1) ((c.zip r).take j) = awayV c r ((j : Int) + 1) := by
      unfold awayV
      have : ((j : Int) + 1).toNat - 1 = j := by omega
      rw [this, zip_take]
    rw [av] at il
    have il : gForL (gToT (gToCons (gTo 4) (gToCons (gTo 5) (gToNil)))) lb_law_is_allowed_2 (enumL 0 (r.map D.int)) [some (calD false c), some (rowT r), some (.int ((j : Int) + 1)), some (.int 0), none, none, none] [] = _ := il
    have sq : seqD (rowT r) = some (r.map D.int) := rfl
    have ix := fun M => cal_ix M c hp
    have ie : ∀ M, dIx M (entD (o, b)) (.int 0) = some (.int o) := fun M => by simp [entD]
    have lr : ∀ M, dLen M (rowT r) = some (.int r.length) := fun M => by simp
    have sb : (j : Int) + 1 - 1 = j := by omega
    have go : gTo 2 (.int ((j : Int) + 1)) [some (calD false c), some (rowT r), none, none, none, none, none] = some [some (calD false c), some (rowT r), some (.int ((j : Int) + 1)), none, none, none, none] := by simp
    have body : lb_law_is_allowed_1 [some (calD false c), some (rowT r), some (.int ((j : Int) + 1)), none, none, none, none] [] = if awayV c r ((j : Int) + 1) + r.getD j 0 ≤ o then .nx [some (calD false c), some (rowT r), none, none, none, none, none] [] else .rt (.bl false) [] := by
      by_cases g : j < r.length
      · have g' : (j : Int) + 1 ≤ r.length := by omega
        have rx := fun M => rowT_ix M r g
        by_cases q : awayV c r ((j : Int) + 1) + r.getD j 0 ≤ o
        · have q' : ¬ o < awayV c r ((j : Int) + 1) + r.getD j 0 := by omega
          rw [if_pos q]
          generalize awayV c r ((j : Int) + 1) = AV at *
          generalize r.getD j 0 = RX at *
          generalize r.map D.int = RM at *
          generalize calD false c = CD at *
          generalize rowT r = RD at *
          simp [-e_ix, -e_lenT, lb_law_is_allowed_1, sq, il, lr, g', sb, rx, ix, ie, q']
        · have q' : o < awayV c r ((j : Int) + 1) + r.getD j 0 := by omega
          rw [if_neg q]
          generalize awayV c r ((j : Int) + 1) = AV at *
          generalize r.getD j 0 = RX at *
          generalize r.map D.int = RM at *
          generalize calD false c = CD at *
          generalize rowT r = RD at *
          simp [-e_ix, -e_lenT, lb_law_is_allowed_1, sq, il, lr, g', sb, rx, ix, ie, q']
      · have g' : ¬ (j : Int) + 1 ≤ r.length := by omega
        have z : r.getD j 0 = 0 := by
          rw [List.getD_eq_getElem?_getD, List.getElem?_eq_none (by omega)]
          rfl
        rw [z, Int.add_zero]
        by_cases q : awayV c r ((j : Int) + 1) ≤ o
        · have q' : ¬ o < awayV c r ((j : Int) + 1) := by omega
          rw [if_pos q]
          generalize awayV c r ((j : Int) + 1) = AV at *
          generalize r.map D.int = RM at *
          generalize calD false c = CD at *
          generalize rowT r = RD at *
          simp [-e_ix, -e_lenT, lb_law_is_allowed_1, sq, il, lr, g', sb, ix, ie, q']
        · have q' : o < awayV c r ((j : Int) + 1) := by omega
          rw [if_neg q]
          generalize awayV c r ((j : Int) + 1) = AV at *
          generalize r.map D.int = RM at *
          generalize calD false c = CD at *
          generalize rowT r = RD at *
          simp [-e_ix, -e_lenT, lb_law_is_allowed_1, sq, il, lr, g', sb, ix, ie, q']
    rw [rngL, alF, hp]
    simp only
    by_cases q : awayV c r ((j : Int) + 1) + r.getD j 0 ≤ o
    · rw [if_pos q] at body
      rw [decide_eq_true q, Bool.true_and]
      rcases ih with ⟨a, e⟩ | ⟨a, e⟩
      · exact .inl ⟨a, (forL_cons go body).trans e⟩
      · exact .inr ⟨a, (forL_cons go body).trans e⟩
    · rw [if_neg q] at body
      rw [decide_eq_false q, Bool.false_and]
      refine .inr ⟨rfl, ?_⟩
      rw [u_gForLc, go]
      show (lb_law_is_allowed_1 _ []).turn _ = _
      rw [body]
      rfl
theorem m_lallow {c : Cal} {r : List Int} (hc : c.length ≤ 100) (hl : r.length ≤ c.length) : F_law_is_allowed [calD false c, rowT r] [] = .ok (.bl (alB c r)) [] := by
  have lc : ∀ M, dLen M (calD false c) = some (.int c.length) := fun M => calD_len M false c
  have r2 : rng2 [.int 1, .int ((c.length : Int) + 1)] = some (rngL 1 c.length) := by
    have i1 : Bk.inR 1 = true := rfl
    have i2 : Bk.inR ((c.length : Int) + 1) = true := inR_i (by omega) (by omega)
    have q : ((c.length : Int) + 1 - 1).toNat = c.length := by omega
    rw [u_rng2, i1, i2, q]
    rfl
  unfold alB
  rcases outer_loop hc hl c.length 0 (by omega) with ⟨a, e⟩ | ⟨a, e⟩
  · have e : gForL (gTo 2) lb_law_is_allowed_1 (rngL 1 c.length) _ _ = _ := e
    rw [a]
    generalize calD false c = CD at *
    generalize rowT r = RD at *
    simp [-u_rng2, F_law_is_allowed, b_law_is_allowed, runF, lc, r2, e]
  · have e : gForL (gTo 2) lb_law_is_allowed_1 (rngL 1 c.length) _ _ = _ := e
    rw [a]
    generalize calD false c = CD at *
    generalize rowT r = RD at *
    simp [-u_rng2, F_law_is_allowed, b_law_is_allowed, runF, lc, r2, e]
theorem c_lallow {c : Cal} {r : List Int} (hc : c.length ≤ 100) (hl : r.length ≤ c.length) (M : List MO) : callF F_law_is_allowed [calD false c, rowT r] M = .ok (.bl (alB c r)) M := c_flat (m_lallow hc hl) M (by simp) (by simp)
end My.Pn

set_option Elab.async false
set_option linter.all false
set_option maxRecDepth 100000
set_option maxHeartbeats 8000000
namespace My.Pn
open PySem PySem.Spec PyProof.Rows L2 Bk
/-! ### the law's drawn calendars and plans -/
theorem tri3_ix {i : Int} (h0 : 0 ≤ i) (h1 : i < 3) : ∃ v : Int, (∀ M, dIx M (.lst [.int 1, .int 3, .int 9]) (.int i) = some (.int v)) ∧ 1 ≤ v ∧ v ≤ 9 := by
  have : i = 0 ∨ i = 1 ∨ i = 2 := by omega
  rcases this with e | e | e
  · exact ⟨1, fun M => by rw [e]; simp, by omega, by omega⟩
  · exact ⟨3, fun M => by rw [e]; simp, by omega, by omega⟩
  · exact ⟨9, fun M => by rw [e]; simp, by omega, by omega⟩
theorem cal_loop {days : D} {most : Int} (h0 : 0 ≤ most) (h12 : most ≤ 12) : ∀ (n : Nat) (acc : Cal) (s : Src3), acc.length + n ≤ 100 → (∀ (i : Nat) p, acc[i]? = some p → okE p (i + 1) ∧ p.1 ≤ most) →
    ∃ (acc' : Cal) (s' : Src3), gForL (gTo 4) lb_law_calendar_1 (rngL ((acc.length : Int) + 1) n) [some (.ref 0), some days, some (.int most), some (.ref 1), none, none] [srcO s, .lst (acc.map entD)]
      = .nx [some (.ref 0), some days, some (.int most), some (.ref 1), none, none] [srcO s', .lst (acc'.map entD)] ∧ acc'.length = acc.length + n ∧ ∀ (i : Nat) p, acc'[i]? = some p → okE p (i + 1) ∧ p.1 ≤ most
  | 0, acc, s, _, h => ⟨acc, s, by simp [rngL], rfl, h⟩
  | n + 1, acc, s, hn, h => by
    have sz : 2000 ≤ sizeLine := by rw [sizeLine_eq]; omega
    have t1 := t_0 s 3 [.lst (acc.map entD)] (by decide) (by decide)
    obtain ⟨w, ew, w1, w9⟩ := tri3_ix (tk_lo s (n := 3) (by decide)) (tk_hi s (n := 3) (by decide))
    generalize tk s 3 = i1 at *
    generalize tn s 3 = s1 at *
    have t2 := t_0 s1 w [.lst (acc.map entD)] (by omega) (by omega)
    have a0 := tk_lo s1 (n := w) (by omega)
    generalize tk s1 w = x at *
    generalize tn s1 w = s2 at *
    have t3 := t_0 s2 4 [.lst (acc.map entD)] (by decide) (by decide)
    generalize tk s2 4 = y at *
    generalize tn s2 4 = s3 at *
    have z1 : 0 < most + 1 := by omega
    have t4 := t_0 s3 (most + 1) [.lst (acc.map entD)] z1 (by omega)
    have b0 := tk_lo s3 z1
    have b1 := tk_hi s3 z1
    generalize tk s3 (most + 1) = v at *
    generalize tn s3 (most + 1) = s4 at *
    obtain ⟨o, ho⟩ : ∃ o : Option Int, o = if y = 0 then none else some ((acc.length : Int) + 1 + 1 + x) := ⟨_, rfl⟩
    have ok : okE (v, o) ((acc.length : Int) + 1) := ⟨b0, by simp only; omega, fun b hb => by
      simp only at hb
      rw [ho] at hb
      by_cases q : y = 0
      · rw [if_pos q] at hb; cases hb
      · rw [if_neg q] at hb; cases hb; omega⟩
    obtain ⟨acc', s', e, l, hh⟩ := cal_loop (days := days) h0 h12 n (acc ++ [(v, o)]) s4 (by simp; omega) (fun i p hp => by
      by_cases c : i < acc.length
      · rw [List.getElem?_append_left c] at hp
        exact h i p hp
      · have hi := (List.getElem?_eq_some_iff.mp hp).1
        simp only [List.length_append, List.length_singleton] at hi
        have ei : i = acc.length := by omega
        subst ei
        rw [List.getElem?_append_right (Nat.le_refl _)] at hp
        have : (v, o) = p := by simpa using hp
        subst this
        exact ⟨ok, by simp only; omega⟩)
    have e3 : (((acc ++ [(v, o)]).length : Nat) : Int) + 1 = (acc.length : Int) + 1 + 1 := by simp
    rw [e3] at e
    refine ⟨acc', s', ?_, by rw [l]; simp; omega, hh⟩
    rw [rngL]
    refine (forL_cons (Γ1 := [some (.ref 0), some days, some (.int most), some (.ref 1), some (.int ((acc.length : Int) + 1)), none]) (by simp) ?_).trans e
    have qa : (acc.map entD).length < sizeLine := by rw [List.length_map]; omega
    have fe : (acc ++ [(v, o)]).map entD = acc.map entD ++ [.tup [.int v, optD o]] := by simp [entD]
    rw [fe, ho]
    generalize acc.map entD = AC at *
    generalize (acc.length : Int) = ll at *
    by_cases q : y = 0
    · rw [if_pos q]
      simp [-e_ix, lb_law_calendar_1, t1, ew, t2, t3, q, t4, optD, listD, isListD, mutR, qa]
    · rw [if_neg q]
      simp [-e_ix, lb_law_calendar_1, t1, ew, t2, t3, q, t4, optD, listD, isListD, mutR, qa]
/-- a calendar as the law draws it -/
structure CalD (c : Cal) (n : Nat) (top : Int) : Prop where
  k : OkC c
  l : c.length = n
  h : ∀ p ∈ c, p.1 ≤ top
theorem c_lcal {n : Nat} {most : Int} (h0 : 0 ≤ most) (h12 : most ≤ 12) (hn : n ≤ 90) (s : Src3) (R : List MO) : ∃ (c : Cal) (s' : Src3), callF F_law_calendar [.ref 0, .int n, .int most] (srcO s :: R) = .ok (calD false c) (srcO s' :: R) ∧ CalD c n most := by
  obtain ⟨c, s', e, l, hh⟩ := cal_loop (days := .int n) h0 h12 n [] s (by simp; omega) (by simp)
  rw [List.length_nil, Nat.zero_add] at l
  have e : gForL (gTo 4) lb_law_calendar_1 (rngL 1 n) [some (.ref 0), some (.int n), some (.int most), some (.ref 1), none, none] [srcO s, .lst []] = _ := e
  have r2 : rng2 [.int 1, .int ((n : Int) + 1)] = some (rngL 1 n) := by
    have i1 : Bk.inR 1 = true := rfl
    have i2 : Bk.inR ((n : Int) + 1) = true := inR_i (by omega) (by omega)
    have q : ((n : Int) + 1 - 1).toNat = n := by omega
    rw [u_rng2, i1, i2, q]
    rfl
  have m : F_law_calendar [.ref 0, .int n, .int most] [srcO s] = .ok (calD false c) [srcO s'] := by
    have cd : D.lst (c.map entD) = calD false c := rfl
    have bl : below 1 (calD false c) = true := by simp
    have rt : retR 1 [srcO s', .dead] (calD false c) = .ok (calD false c) [srcO s'] := by
      show (if Bk.below 1 (calD false c) = true then _ else _) = _
      rw [if_pos bl]
      rfl
    generalize calD false c = CD at *
    generalize c.map entD = CE at *
    simp [-u_rng2, F_law_calendar, b_law_calendar, runF, r2, e, cd, rt]
  refine ⟨c, s', c_lend1 (k := 0) (M := srcO s :: R) m rfl rfl rfl rfl (by simp) (by simp), ⟨by omega, fun i p hp => (hh i p hp).1⟩, l, fun p hp => ?_⟩
  obtain ⟨i, hi, rfl⟩ := List.mem_iff_getElem.mp hp
  exact (hh i _ (List.getElem?_eq_getElem hi)).2
/-- a beginning of an allowed row -/
structure Bg (c : Cal) (p : List Int) : Prop where
  n : ∀ x ∈ p, 0 ≤ x
  a : Al c p
  l : p.length ≤ c.length
theorem Bg.nil {c : Cal} (hc : OkC c) : Bg c [] := ⟨by simp, Al.nil hc, by simp⟩
theorem Bg.take {c : Cal} {r : List Int} (h : Bg c r) (k : Nat) : Bg c (r.take k) := by
  have e : r = r.take k ++ r.drop k := (List.take_append_drop k r).symm
  refine ⟨fun x hx => h.n x (List.mem_of_mem_take hx), ?_, ?_⟩
  · have := h.a
    rw [e] at this
    exact this.pre (by rw [← e]; exact h.n)
  · have := h.l
    rw [List.length_take]
    omega
end My.Pn

set_option Elab.async false
set_option linter.all false
set_option maxRecDepth 100000
set_option maxHeartbeats 8000000
namespace My.Pn
open PySem PySem.Spec PyProof.Rows L2 Bk
/-! ### tight_ends, walked -/
theorem asc_len : ∀ (l : List Int) (lo : Int), l.Pairwise (· < ·) → (∀ x ∈ l, lo ≤ x ∧ x ≤ 12) → (l.length : Int) ≤ 13 - lo ∨ l = []
  | [], lo, _, _ => .inr rfl
  | x :: l, lo, hp, hb => by
    obtain ⟨p1, p2⟩ := List.pairwise_cons.mp hp
    have b := hb x (by simp)
    rcases asc_len l (x + 1) p2 (fun y hy => ⟨by have := p1 y hy; omega, (hb y (by simp [hy])).2⟩) with q | q
    · refine .inl ?_
      rw [List.length_cons]
      omega
    · subst q
      refine .inl ?_
      simp
      omega
theorem nd_len {l : List Int} (nd : l.Nodup) (hb : ∀ x ∈ l, 0 ≤ x ∧ x ≤ 12) : l.length ≤ 13 := by
  have n2 : (srtI l).Nodup := ((srtI_perm l).nodup_iff).mpr nd
  have lt : (srtI l).Pairwise (· < ·) := ((srtI_ord l).and n2).imp fun {a b} q => by
    obtain ⟨q1, q2⟩ := q
    omega
  rcases asc_len (srtI l) 0 lt (fun x hx => hb x ((srtI_perm l).mem_iff.mp hx)) with q | q
  · rw [(srtI_perm l).length_eq] at q
    omega
  · have := (srtI_perm l).length_eq
    rw [q] at this
    simp at this
    omega
/-- the numbers of a day -/
theorem sc_rows {F0 : List D → List MO → R D} {day : Nat} (x0 x3 x4 x5 x7 : Option D) (M : List MO) : ∀ (rows : List (List Int)) (acc : List Int), acc.Nodup → (∀ x ∈ acc, 0 ≤ x ∧ x ≤ 12) → (∀ r ∈ rows, day < r.length ∧ 0 ≤ r.getD day 0 ∧ r.getD day 0 ≤ 12) →
    gScI (gTo 6) gYes (le_tight_ends_1 F0) [x0, some (.int (day : Nat)), none, x3, x4, x5, none, x7] (rows.map rowT) acc M = .ok ((rows.map (·.getD day 0)).foldl insU acc) M
  | [], acc, _, _, _ => by simp
  | r :: rows, acc, hn, hb, h => by
    obtain ⟨l, v0, v1⟩ := h r (by simp)
    have ix := fun M => rowT_ix M r l
    have a13 := nd_len hn hb
    rw [List.map_cons, List.map_cons, List.foldl_cons]
    refine (scI_cons (r := r.getD day 0) (Γ1 := [x0, some (.int (day : Nat)), none, x3, x4, x5, some (rowT r), x7]) (M2 := M) (by simp) ?_ (by omega)).trans (sc_rows x0 x3 x4 x5 x7 M rows (insU acc (r.getD day 0)) (insU_nodup hn _) (fun x hx => ?_) fun s hs => h s (by simp [hs]))
    · generalize rowT r = RT at *
      simp [-e_ix, le_tight_ends_1, ix]
    · rcases (mem_insU _ _ _).mp hx with q | q
      · exact hb x q
      · rw [q]; exact ⟨v0, v1⟩
theorem asc_bd {d : Nat} {rs : List (List Int)} (h : Pl d rs) (p : List Int) : (asc ((Gp rs p).map (·.getD p.length 0))).length ≤ 13 := by
  refine nd_len (((asc_lt _).imp fun q => by omega)) fun x hx => ?_
  rw [mem_asc] at hx
  obtain ⟨s, hs, e⟩ := List.mem_map.mp hx
  rw [← e]
  exact getD_nn9 h (mem_Gp.mp hs).1 _
theorem Gp_le {d : Nat} {rs : List (List Int)} (h : Pl d rs) {p : List Int} (ne : Gp rs p ≠ []) : p.length ≤ d := by
  cases e : Gp rs p with
  | nil => exact absurd e ne
  | cons r l =>
    obtain ⟨h1, h2⟩ := mem_Gp.mp (show r ∈ Gp rs p by rw [e]; simp)
    have := h.len r h1
    have : (r.take p.length).length = p.length := by rw [h2]
    rw [List.length_take] at this
    omega
theorem tgF_len {d : Nat} {rs : List (List Int)} (h : Pl d rs) {n : Nat} {p : List Int} (hn : p.length + n = d + 1) (ne : Gp rs p ≠ []) : (tgF n (Gp rs p) p.length).length ≤ 1000 ∧ ∀ r ∈ tgF n (Gp rs p) p.length, r.length ≤ 100 := by
  rw [tgF_is h n p hn ne]
  have a : (Gp rs p).length ≤ rs.length := List.length_filter_le _ _
  have b := h.few
  refine ⟨by rw [List.length_map]; omega, fun r hr => ?_⟩
  obtain ⟨s, _, rfl⟩ := List.mem_map.mp hr
  have := h.days
  rw [List.length_drop, tgt_len]
  omega
abbrev EE9 (rows : D) (day : Nat) (ns : List Int) (x4 : Option D) : Bk.Env := [some rows, some (.int (day : Nat)), some (.lst (ns.map D.int)), some (.ref 0), x4, none, none, none]
theorem ends_loop {d : Nat} {rs : List (List Int)} (h : Pl d rs) {n k : Nat} {p : List Int} (hn : p.length + (n + 1) = d + 1) (pd : p.length < d)
    (ih : ∀ q, q.length + n = d + 1 → Gp rs q ≠ [] → FR_tight_ends k 0 [.lst ((Gp rs q).map rowT), .int (q.length : Nat)] [] = .ok (.ref 0) [.lst ((tgF n (Gp rs q) q.length).map rowT)]) {ns : List Int} (hns : ns = asc ((Gp rs p).map (·.getD p.length 0))) :
    ∀ (i : Nat) (acc : List (List Int)) (J : List MO), i ≤ ns.length → acc.length ≤ 1000 * (ns.length - i) → ∃ J',
      gForL (gTo 4) (lb_tight_ends_1 (FR_tight_ends k 0)) (rngDn ((i : Int) - 1) i) (EE9 (.lst ((Gp rs p).map rowT)) p.length ns none) (.lst (acc.map rowT) :: J)
        = .nx (EE9 (.lst ((Gp rs p).map rowT)) p.length ns none) (.lst ((acc ++ (List.range i).reverse.flatMap fun i => (tgF n ((Gp rs p).filter fun r => decide (r.getD p.length 0 = ns.getD i 0)) (p.length + 1)).map ((i : Int) :: ·)).map rowT) :: J')
  | 0, acc, J, _, _ => ⟨J, by simp [rngDn]⟩
  | i + 1, acc, J, hi, ha => by
    have sz : 200000 ≤ sizeLine := by rw [sizeLine_eq]; omega
    have n13 : ns.length ≤ 13 := by rw [hns]; exact asc_bd h p
    have pn := h.days
    have gl : (Gp rs p).length ≤ 1000 := Nat.le_trans (List.length_filter_le _ _) h.few
    have ei : ns.getD i 0 = ns[i] := by simp [List.getD_eq_getElem?_getD, show i < ns.length by omega]
    obtain ⟨v, hv⟩ : ∃ v, v = ns[i] := ⟨_, rfl⟩
    have ep : ((Gp rs p).filter fun r => decide (r.getD p.length 0 = ns.getD i 0)) = Gp rs (p ++ [v]) := by rw [ei, ← hv]; exact Gp_snoc h pd v
    have l1 : (p ++ [v]).length = p.length + 1 := by simp
    have nn : Gp rs (p ++ [v]) ≠ [] := fun z => by
      have vm : v ∈ asc ((Gp rs p).map (·.getD p.length 0)) := by rw [← hns, hv]; exact List.getElem_mem _
      rw [mem_asc] at vm
      obtain ⟨s, hs, es⟩ := List.mem_map.mp vm
      obtain ⟨s1, s2⟩ := mem_Gp.mp hs
      have : s ∈ Gp rs (p ++ [v]) := mem_Gp.mpr ⟨s1, (take_snoc9 (by rw [h.len s s1]; exact pd)).mpr ⟨s2, es⟩⟩
      rw [z] at this
      cases this
    have rec1 := ih (p ++ [v]) (by omega) nn
    obtain ⟨len1, len2⟩ := tgF_len h (n := n) (p := p ++ [v]) (by omega) nn
    rw [l1] at rec1 len1 len2
    rw [← ep] at rec1 len1 len2
    obtain ⟨part, hpart⟩ : ∃ part, part = (Gp rs p).filter fun r => decide (r.getD p.length 0 = ns.getD i 0) := ⟨_, rfl⟩
    obtain ⟨E, hE⟩ : ∃ E, E = tgF n part (p.length + 1) := ⟨_, rfl⟩
    rw [← hpart, ← hE] at rec1 len1 len2
    have ed : ((p.length + 1 : Nat) : Int) = (p.length : Int) + 1 := by omega
    rw [ed] at rec1
    have cf := fun M => c_flatO rec1 M (by simp [belows, below]) (by simp)
    obtain ⟨J', e⟩ := ends_loop h hn pd ih hns i (acc ++ E.map ((i : Int) :: ·)) (J ++ [.dead]) (by omega) (by
      rw [List.length_append, List.length_map]
      omega)
    refine ⟨J', ?_⟩
    have er : (List.range (i + 1)).reverse = i :: (List.range i).reverse := by rw [List.range_succ, List.reverse_append]; rfl
    rw [er, List.flatMap_cons, ← hpart, ← hE, ← List.append_assoc]
    have e1 : ((i + 1 : Nat) : Int) - 1 = (i : Int) := by omega
    rw [e1, rngDn]
    refine (forL_cons (Γ1 := EE9 (.lst ((Gp rs p).map rowT)) p.length ns (some (.int (i : Nat)))) (by simp [EE9]) ?_).trans e
    clear e ih
    unfold EE9
    have nix : ∀ M, dIx M (.lst (ns.map D.int)) (.int (i : Nat)) = some (.int (ns.getD i 0)) := fun M => by
      rw [e_ix, itemsD_l, Option.bind_some]
      refine (Bk.atI_nat _ _).trans ?_
      rw [List.getElem?_map, List.getElem?_eq_getElem (show i < ns.length by omega), ei]
      rfl
    have lc := lcL_sel (gg := gTo 6) (gt := gVal (gOp2 dEqA (gOp2 dIx (gV 6) (gV 1)) (gOp2 dIx (gV 2) (gV 4)))) (ge := gV 6) (Γ := [some (.lst ((Gp rs p).map rowT)), some (.int (p.length : Nat)), some (.lst (ns.map D.int)), some (.ref 0), some (.int (i : Nat)), none, none, none]) (M := .lst (acc.map rowT) :: J) rowT rowT (fun r => decide (r.getD p.length 0 = ns.getD i 0)) (Gp rs p) [] (by rw [List.length_nil]; omega) fun r hr => by
      have ix := fun M => rowT_ix M r (i := p.length) (by rw [h.len r (mem_Gp.mp hr).1]; exact pd)
      refine ⟨[some (.lst ((Gp rs p).map rowT)), some (.int (p.length : Nat)), some (.lst (ns.map D.int)), some (.ref 0), some (.int (i : Nat)), none, some (rowT r), none], by simp, ?_, fun _ => by simp⟩
      generalize rowT r = RT at *
      generalize (Gp rs p).map rowT = GM at *
      generalize ns.map D.int = NM at *
      generalize acc.map rowT = AM at *
      simp [-e_ix, ix, nix]
    rw [← hpart, List.nil_append] at lc
    have X := (MO.lst (acc.map rowT) :: J)
    obtain ⟨X, hX⟩ : ∃ X, X = MO.lst (acc.map rowT) :: J := ⟨_, rfl⟩
    have lc2 := lcL_sel (gg := gTo 7) (gt := gYes) (ge := le_tight_ends_3 (FR_tight_ends k 0)) (Γ := [some (.lst ((Gp rs p).map rowT)), some (.int (p.length : Nat)), some (.lst (ns.map D.int)), some (.ref 0), some (.int (i : Nat)), some (.lst (part.map rowT)), none, none]) (M := X ++ [.dead]) rowT (fun r => rowT ((i : Int) :: r)) (fun _ => true) E [] (by rw [List.length_nil]; omega) fun r hr => by
      refine ⟨[some (.lst ((Gp rs p).map rowT)), some (.int (p.length : Nat)), some (.lst (ns.map D.int)), some (.ref 0), some (.int (i : Nat)), some (.lst (part.map rowT)), none, some (rowT r)], by simp, by simp, fun _ => ?_⟩
      have lr := len2 r hr
      have ad : ∀ M, dAdd M (.tup [.int (i : Nat)]) (rowT r) = some (rowT ((i : Int) :: r)) := fun M => by
        rw [e_addT, if_pos (by simp; omega)]
        simp
      generalize rowT ((i : Int) :: r) = R2 at *
      generalize rowT r = RT at *
      generalize (Gp rs p).map rowT = GM at *
      generalize ns.map D.int = NM at *
      generalize part.map rowT = PM at *
      simp [-e_addT, le_tight_ends_3, ad]
    have ff : (E.filter fun _ => true) = E := List.filter_eq_self.mpr fun _ _ => rfl
    have em : E.map (fun r => rowT ((i : Int) :: r)) = (E.map ((i : Int) :: ·)).map rowT := by rw [List.map_map]; rfl
    rw [ff, List.nil_append, em] at lc2
    have cf := cf X
    have fz : fzD (.ref X.length) (X ++ [.lst (E.map rowT)]) = .ok (.lst (E.map rowT)) (X ++ [.dead]) := by
      rw [fzD_ref (ds := E.map rowT) (by simp)]
      simp
    have ex : mutR (X ++ [.dead]) (.ref 0) (fun ds => mExtend (X ++ [.dead]) ds (.lst ((E.map ((i : Int) :: ·)).map rowT))) = .ok .non (.lst ((acc ++ E.map ((i : Int) :: ·)).map rowT) :: (J ++ [.dead])) := by
      rw [hX]
      have q : (acc.map rowT).length + ((E.map ((i : Int) :: ·)).map rowT).length ≤ sizeLine := by
        simp only [List.length_map]
        omega
      rw [List.map_append]
      generalize (E.map ((i : Int) :: ·)).map rowT = L2 at *
      generalize acc.map rowT = AM at *
      simp [mutR, mExtend, listD, q]
    have li : (listD X (.ref 0)).isSome = true := by rw [hX]; rfl
    rw [← hX] at lc ⊢
    clear hX
    generalize (E.map ((i : Int) :: ·)).map rowT = L2 at *
    generalize (acc ++ E.map ((i : Int) :: ·)).map rowT = L3 at *
    generalize E.map rowT = EM at *
    generalize part.map rowT = PM at *
    generalize (Gp rs p).map rowT = GM at *
    generalize ns.map D.int = NM at *
    generalize (p.length : Int) = pl at *
    have sq : ∀ L : List D, seqD (.lst L) = some L := fun _ => rfl
    simp [-e_ix, lb_tight_ends_1, sq, lc, li, cf, fz, lc2, ex]
theorem m_ends {d : Nat} {rs : List (List Int)} (h : Pl d rs) : ∀ (n k : Nat) (p : List Int), p.length + n = d + 1 → n ≤ k → Gp rs p ≠ [] → FR_tight_ends k 0 [.lst ((Gp rs p).map rowT), .int (p.length : Nat)] [] = .ok (.ref 0) [.lst ((tgF n (Gp rs p) p.length).map rowT)]
  | 0, k, p, hn, _, ne => by have := Gp_le h ne; omega
  | n + 1, 0, p, hn, hk, ne => by omega
  | n + 1, k + 1, p, hn, hk, ne => by
    have sz : 200000 ≤ sizeLine := by rw [sizeLine_eq]; omega
    have pn := h.days
    have gl : (Gp rs p).length ≤ 1000 := Nat.le_trans (List.length_filter_le _ _) h.few
    have u : FR_tight_ends (k + 1) 0 = runF 8 (b_tight_ends (FR_tight_ends k 0)) := by simp [FR_tight_ends]
    rw [u, tgF]
    have ln : ∀ M, dLen M (.lst ((Gp rs p).map rowT)) = some (.int (Gp rs p).length) := fun M => by simp
    by_cases c : (Gp rs p).length = 1
    · obtain ⟨r, e⟩ := List.length_eq_one_iff.mp c
      have lr := h.len r (mem_Gp.mp (show r ∈ Gp rs p by rw [e]; simp)).1
      have pl := Gp_le h ne
      rw [if_pos c, e]
      show runF 8 _ [.lst [rowT r], .int (p.length : Nat)] [] = .ok (.ref 0) [.lst [rowT (List.replicate (r.length - p.length) 0)]]
      have lrr : ∀ M, dLen M (rowT r) = some (.int (d : Nat)) := fun M => by rw [e_lenT, List.length_map, lr]
      have mu : ∀ M, dMulT M (.tup [.int 0]) (.int ((d : Int) - (p.length : Nat))) = some (rowT (List.replicate (r.length - p.length) 0)) := fun M => by
        rw [e_mulT M _ _ _ (by omega) (by omega) (by simp)]
        have q : ((d : Int) - (p.length : Nat)).toNat = r.length - p.length := by omega
        rw [q]
        refine congrArg (fun l => some (D.tup l)) ?_
        generalize r.length - p.length = m
        induction m with
        | zero => rfl
        | succ m ih => rw [List.replicate_succ, List.flatten_cons, ih, List.replicate_succ]; rfl
      have ix : ∀ M, dIx M (.lst [rowT r]) (.int 0) = some (rowT r) := fun M => by simp
      have l1 : ∀ M, dLen M (.lst [rowT r]) = some (.int 1) := fun M => by simp
      have b1 : belows 0 [rowT (List.replicate (r.length - p.length) 0)] = true := rowsT_below 0 [List.replicate (r.length - p.length) 0]
      generalize rowT (List.replicate (r.length - p.length) 0) = RR at *
      generalize rowT r = RT at *
      simp [-e_ix, -e_lenL, -e_lenT, -e_mulT, b_tight_ends, runF, l1, ix, lrr, mu, fin, cutOk, retR, b1]
    · have pd := Gp_two h ne c
      rw [if_neg c]
      have sc := sc_rows (F0 := FR_tight_ends k 0) (day := p.length) (some (.lst ((Gp rs p).map rowT))) none none none none [] (Gp rs p) [] List.nodup_nil (fun x hx => by cases hx) fun r hr => by
        have hr := (mem_Gp.mp hr).1
        exact ⟨by rw [h.len r hr]; exact pd, getD_nn9 h hr _⟩
      obtain ⟨ns, hns⟩ : ∃ ns, ns = asc ((Gp rs p).map (·.getD p.length 0)) := ⟨_, rfl⟩
      have n13 : ns.length ≤ 13 := by rw [hns]; exact asc_bd h p
      obtain ⟨J', lp⟩ := ends_loop h hn pd (fun q h1 h2 => m_ends h n k q h1 (by omega) h2) hns ns.length [] [] (Nat.le_refl _) (by simp)
      rw [← hns]
      have es : srtI (((Gp rs p).map (·.getD p.length 0)).foldl insU []) = ns := by rw [hns]; rfl
      rw [List.nil_append] at lp
      have lp : gForL (gTo 4) (lb_tight_ends_1 (FR_tight_ends k 0)) (rngDn ((ns.length : Int) - 1) ns.length) (EE9 (.lst ((Gp rs p).map rowT)) p.length ns none) [.lst []] = _ := lp
      unfold EE9 at lp
      have lns : ∀ M, dLen M (.lst (ns.map D.int)) = some (.int ns.length) := fun M => by simp
      have r3 : rng3 [.int ((ns.length : Int) - 1), .int (-1), .int (-1)] = some (rngDn ((ns.length : Int) - 1) ns.length) := by
        have i1 : Bk.inR ((ns.length : Int) - 1) = true := by simp [Bk.inR]; omega
        have i2 : Bk.inR (-1) = true := rfl
        have i3 : ((ns.length : Int) - 1 - -1).toNat = ns.length := by omega
        rw [u_rng3, i1, i2, i3]
        rfl
      have c' : ¬ ((Gp rs p).length : Int) = 1 := by omega
      have b1 := rowsT_below 0 ((List.range ns.length).reverse.flatMap fun i => (tgF n ((Gp rs p).filter fun r => decide (r.getD p.length 0 = ns.getD i 0)) (p.length + 1)).map ((i : Int) :: ·))
      have sq : ∀ L : List D, seqD (.lst L) = some L := fun _ => rfl
      generalize ((List.range ns.length).reverse.flatMap fun i => (tgF n ((Gp rs p).filter fun r => decide (r.getD p.length 0 = ns.getD i 0)) (p.length + 1)).map ((i : Int) :: ·)).map rowT = RES at *
      generalize ((Gp rs p).map (·.getD p.length 0)).foldl insU [] = FO at *
      generalize (Gp rs p).map rowT = GM at *
      generalize ((Gp rs p).length : Int) = gl at *
      generalize (p.length : Int) = pl at *
      rw [← es] at lp lns r3
      generalize hNM : (srtI FO).map D.int = NM at *
      generalize ((srtI FO).length : Int) = nl at *
      simp [-u_rng3, -e_lenL, b_tight_ends, runF, ln, c', sq, sc, hNM, lns, r3, lp, fin, cutOk, retR, b1]
end My.Pn

set_option Elab.async false
set_option linter.all false
set_option maxRecDepth 100000
set_option maxHeartbeats 8000000
namespace My.Pn
open PySem PySem.Spec PyProof.Rows L2 Bk
/-! ### tightened, whole; the law's tightened rows -/
theorem vli9 {M : List MO} {d : D} {L : List D} (h : VW M d L) (hp : noPtu d = true) : dList M d = some (.lst L) := by
  rcases h.cases with ⟨k, rfl, e⟩ | rfl | rfl | rfl
  · unfold dList
    rw [itemsD_r]
    simp [listD, e]
  · rfl
  · rfl
  · cases hp
theorem c_viewO {F : List D → List MO → R D} {L es : List D} (bL : ∀ m, belows m L = true) (be : belows 0 es = true) (h : ∀ (M : List MO) (q : D), StB M → VW M q L → noPtu q = true → F [q] M = .ok (.ref M.length) (M ++ [.lst es])) {M : List MO} {q : D} (hv : VW M q L) (hp : noPtu q = true) : callF F [q] M = .ok (.ref M.length) (M ++ [.lst es]) := by
  rcases hv.cases with ⟨k, rfl, e⟩ | rfl | rfl | rfl
  · have m := h [.lst L] (.ref 0) (stB1 bL) (VW.ref rfl) rfl
    have m : F [.ref 0] [.lst L] = .ok (.ref 1) [.lst L, .lst es] := m
    have s := set_same9 e
    simp [callF, lendK, lendA, flatArgs, getAll, e, lentOk, isDead, belowO, bL 0, m, backD, setAll, s, be]
  · exact c_flatO (h [] (.lst L) StB.nil (VW.lst _ _) rfl) M (by simp [belows, below, bL 0]) be
  · exact c_flatO (h [] (.tup L) StB.nil (VW.tup _ _) rfl) M (by simp [belows, below, bL 0]) be
  · cases hp
section
variable {M : List MO} {q : D} {d : Nat} {rs : List (List Int)}
theorem v_tightened (h : Pl d rs) (hB : StB M) (hv : VW M q (rs.map rowT)) (hq : noPtu q = true) : F_tightened [q] M = .ok (.ref M.length) (M ++ [.lst ((tight d rs).map rowT)]) := by
  have rr := vc_reqrows h hv hq
  have li := vli9 hv hq
  have hd := h.days
  have g : Gp rs [] = rs := List.filter_eq_self.mpr fun _ _ => by simp
  have me := m_ends h (d + 1) 110 [] (by simp) (by omega) (by rw [g]; exact h.ne)
  rw [g] at me
  have ti := tight_is h
  have me : F_tight_ends [.lst (rs.map rowT), .int 0] [] = .ok (.ref 0) [.lst ((tgF (d + 1) rs 0).map rowT)] := me
  rw [ti] at me
  have cf := c_flatO me M (by simp [belows, below]) (by simp)
  have bt := rowsT_below M.length (tight d rs)
  have hM := hB.cut [.lst ((tight d rs).map rowT)]
  generalize (tight d rs).map rowT = TM at *
  generalize rs.map rowT = RM at *
  simp [F_tightened, b_tightened, runF, rr, li, cf, fin, hM, retR, bt]
theorem vc_tightened (h : Pl d rs) (hv : VW M q (rs.map rowT)) (hq : noPtu q = true) : callF F_tightened [q] M = .ok (.ref M.length) (M ++ [.lst ((tight d rs).map rowT)]) := c_viewO (fun m => rowsT_below m rs) (rowsT_below 0 _) (fun M q hB hv hq => v_tightened h hB hv hq) hv hq
end
/-! the law's -/
theorem tl_day {d : Nat} {rs : List (List Int)} (h : Pl d rs) {r : List Int} (hr : r ∈ rs) (fo : List D) : ∀ (m j : Nat), j + m = d →
    gForL (gToT (gToCons (gTo 4) (gToCons (gTo 5) (gToNil)))) lb_law_tight_2 (enumL (j : Int) ((r.drop j).map D.int)) [some (.lst (rs.map rowT)), some (.ref 0), some (rowT r), some (.ref 1), none, none, none, none] [.lst fo, .lst (((List.range j).map (rk rs r)).map D.int)]
      = .nx [some (.lst (rs.map rowT)), some (.ref 0), some (rowT r), some (.ref 1), none, none, none, none] [.lst fo, .lst ((tgt d rs r).map D.int)]
  | 0, j, hj => by
    have lr := h.len r hr
    rw [List.drop_eq_nil_of_le (by omega)]
    have : j = d := by omega
    subst this
    simp [enumL, tgt]
  | m + 1, j, hj => by
    have sz : 200000 ≤ sizeLine := by rw [sizeLine_eq]; omega
    have lr := h.len r hr
    have hf := h.few
    have hd := h.days
    have ih := tl_day h hr fo m (j + 1) (by omega)
    have jl : j < r.length := by omega
    have gv : r.getD j 0 = r[j] := by simp [List.getD_eq_getElem?_getD, jl]
    rw [List.drop_eq_getElem_cons jl, List.map_cons, enumL]
    have ej : ((j + 1 : Nat) : Int) = (j : Int) + 1 := by omega
    rw [ej] at ih
    refine (forL_cons (Γ1 := [some (.lst (rs.map rowT)), some (.ref 0), some (rowT r), some (.ref 1), some (.int (j : Nat)), some (.int r[j]), none, none]) (by simp) ?_).trans ih
    have v12 := getD_nn9 h hr j
    rw [gv] at v12
    have l1 := lcL_sel (gg := gTo 7) (gt := gVal (gOp2 dEqA (gSl (gV 7) (gNoO) (gO (gV 4))) (gSl (gV 2) (gNoO) (gO (gV 4))))) (ge := le_law_tight_1) (Γ := [some (.lst (rs.map rowT)), some (.ref 0), some (rowT r), some (.ref 1), some (.int (j : Nat)), some (.int r[j]), none, none]) (M := [.lst fo, .lst (((List.range j).map (rk rs r)).map D.int)]) rowT (fun s => D.int (s.getD j 0)) (fun s => decide (s.take j = r.take j)) rs [] (by rw [List.length_nil]; omega) fun s hs => by
      have c1 := fun M => rowT_cut M s j
      have c2 := fun M => rowT_cut M r j
      have eq := fun M => rowT_eq M (s.take j) (r.take j)
      have ix := fun M => rowT_ix M s (i := j) (by rw [h.len s hs]; omega)
      refine ⟨[some (.lst (rs.map rowT)), some (.ref 0), some (rowT r), some (.ref 1), some (.int (j : Nat)), some (.int r[j]), none, some (rowT s)], by simp, ?_, fun _ => ?_⟩
      · generalize ((List.range j).map (rk rs r)).map D.int = KM at *
        generalize rs.map rowT = RM at *
        generalize rowT (s.take j) = A at *
        generalize rowT (r.take j) = B at *
        generalize rowT s = S at *
        generalize rowT r = T at *
        simp [c1, c2, eq]
      · generalize ((List.range j).map (rk rs r)).map D.int = KM at *
        generalize rs.map rowT = RM at *
        generalize rowT s = S at *
        generalize rowT r = T at *
        simp [-e_ix, le_law_tight_1, ix]
    have en : ((rs.filter fun s => decide (s.take j = r.take j)).map fun s => D.int (s.getD j 0)) = (nums rs j (r.take j)).map D.int := by
      unfold nums
      rw [List.map_map]
      rfl
    rw [List.nil_append, en] at l1
    have l2 := lcL_sel (gg := gTo 7) (gt := gVal (gOp2 dIn (gV 7) (gV 6))) (ge := gV 7) (Γ := [some (.lst (rs.map rowT)), some (.ref 0), some (rowT r), some (.ref 1), some (.int (j : Nat)), some (.int r[j]), some (.lst ((nums rs j (r.take j)).map D.int)), none]) (M := [.lst fo, .lst (((List.range j).map (rk rs r)).map D.int)]) D.int D.int (fun x => decide (x ∈ nums rs j (r.take j))) (intR 0 (r[j]).toNat) [] (by rw [intR_lenN, List.length_nil]; omega) fun x _ => by
      have eI := fun M => e_inL M x (nums rs j (r.take j))
      refine ⟨[some (.lst (rs.map rowT)), some (.ref 0), some (rowT r), some (.ref 1), some (.int (j : Nat)), some (.int r[j]), some (.lst ((nums rs j (r.take j)).map D.int)), some (.int x)], by simp, ?_, fun _ => by simp⟩
      generalize ((List.range j).map (rk rs r)).map D.int = KM at *
      generalize rs.map rowT = RM at *
      generalize (nums rs j (r.take j)).map D.int = NM at *
      simp [-e_inL, eI]
    have ef := rkN_filter (nums rs j (r.take j)) (r[j]).toNat
    rw [List.nil_append, ← rngL_int] at l2
    have ll : ∀ M, dLen M (.lst (((intR 0 (r[j]).toNat).filter fun x => decide (x ∈ nums rs j (r.take j))).map D.int)) = some (.int (rk rs r j)) := fun M => by
      rw [e_lenL, List.length_map, ef]
      unfold rk
      rw [gv]
    have r1 : rng1 [.int r[j]] = some (rngL 0 (r[j]).toNat) := by
      have i1 : Bk.inR r[j] = true := by simp [Bk.inR]; omega
      rw [u_rng1, i1]
      rfl
    have ra : (List.range (j + 1)).map (rk rs r) = (List.range j).map (rk rs r) ++ [rk rs r j] := by rw [List.range_succ, List.map_append]; rfl
    have qa : (((List.range j).map (rk rs r)).map D.int).length < sizeLine := by simp; omega
    have sq : ∀ L : List D, seqD (.lst L) = some L := fun _ => rfl
    rw [ra, List.map_append, List.map_cons, List.map_nil]
    clear ih ra ef en
    generalize ((intR 0 (r[j]).toNat).filter fun x => decide (x ∈ nums rs j (r.take j))).map D.int = FM at *
    generalize (nums rs j (r.take j)).map D.int = NM at *
    generalize ((List.range j).map (rk rs r)).map D.int = KM at *
    generalize rk rs r j = kv at *
    generalize rs.map rowT = RM at *
    generalize rowT r = T at *
    generalize rngL 0 (r[j]).toNat = RG at *
    generalize r[j] = rv at *
    simp [-u_rng1, -e_lenL, lb_law_tight_2, sq, l1, r1, l2, ll, listD, isListD, mutR, qa]
theorem tl_rows {d : Nat} {rs : List (List Int)} (h : Pl d rs) : ∀ (post acc : List (List Int)), (∀ r ∈ post, r ∈ rs) → acc.length + post.length ≤ 1000 →
    gForL (gTo 2) lb_law_tight_1 (post.map rowT) [some (.lst (rs.map rowT)), some (.ref 0), none, none, none, none, none, none] [.lst (acc.map rowT)]
      = .nx [some (.lst (rs.map rowT)), some (.ref 0), none, none, none, none, none, none] [.lst ((acc ++ post.map (tgt d rs)).map rowT)]
  | [], acc, _, _ => by simp
  | r :: post, acc, hp, hl => by
    have sz : 200000 ≤ sizeLine := by rw [sizeLine_eq]; omega
    have hd := h.days
    rw [List.length_cons] at hl
    have ih := tl_rows h post (acc ++ [tgt d rs r]) (fun x hx => hp x (by simp [hx])) (by simp; omega)
    rw [List.map_cons, List.map_cons, show acc ++ tgt d rs r :: post.map (tgt d rs) = acc ++ [tgt d rs r] ++ post.map (tgt d rs) by simp]
    refine (forL_cons (Γ1 := [some (.lst (rs.map rowT)), some (.ref 0), some (rowT r), none, none, none, none, none]) (by simp) ?_).trans ih
    have lp := tl_day h (hp r (by simp)) (acc.map rowT) d 0 (by omega)
    have lp : gForL (gToT (gToCons (gTo 4) (gToCons (gTo 5) (gToNil)))) lb_law_tight_2 (enumL 0 (r.map D.int)) [some (.lst (rs.map rowT)), some (.ref 0), some (rowT r), some (.ref 1), none, none, none, none] [.lst (acc.map rowT), .lst []] = _ := lp
    have sq : seqD (rowT r) = some (r.map D.int) := rfl
    have tu : ∀ M, dTuple M (.lst ((tgt d rs r).map D.int)) = some (rowT (tgt d rs r)) := fun M => rfl
    have qa : (acc.map rowT).length < sizeLine := by rw [List.length_map]; omega
    have b1 : belows 1 (rs.map rowT) = true := rowsT_below 1 rs
    have b2 : belows 1 (acc.map rowT) = true := rowsT_below 1 acc
    have b3 : below 1 (rowT (tgt d rs r)) = true := by simp
    rw [List.map_append, List.map_cons, List.map_nil]
    clear ih
    generalize rowT (tgt d rs r) = TT at *
    generalize (tgt d rs r).map D.int = TM at *
    generalize rowT r = T at *
    generalize r.map D.int = RD at *
    generalize rs.map rowT = RM at *
    generalize acc.map rowT = AM at *
    simp [lb_law_tight_1, sq, lp, tu, listD, isListD, mutR, qa, fzD, cutOk, belowO, b2, b3, clean, b1, below]
theorem m_ltight {d : Nat} {rs : List (List Int)} (h : Pl d rs) : F_law_tight [.lst (rs.map rowT)] [] = .ok (.lst ((tight d rs).map rowT)) [] := by
  have lp := tl_rows h rs [] (fun _ hr => hr) (by have := h.few; simpa using this)
  rw [List.nil_append] at lp
  have lp : gForL (gTo 2) lb_law_tight_1 (rs.map rowT) [some (.lst (rs.map rowT)), some (.ref 0), none, none, none, none, none, none] [.lst []] = .nx _ [.lst ((tight d rs).map rowT)] := lp
  have b0 := rowsT_below 0 (tight d rs)
  have sq : ∀ L : List D, seqD (.lst L) = some L := fun _ => rfl
  generalize (tight d rs).map rowT = TM at *
  generalize rs.map rowT = RM at *
  simp [F_law_tight, b_law_tight, runF, sq, lp, fin, cutOk, retR, below, b0]
theorem c_ltight {d : Nat} {rs : List (List Int)} (h : Pl d rs) (M : List MO) : callF F_law_tight [.lst (rs.map rowT)] M = .ok (.lst ((tight d rs).map rowT)) M := c_flat (m_ltight h) M (by simp [belows, below]) (by simp [below])
end My.Pn

set_option Elab.async false
set_option linter.all false
set_option maxRecDepth 100000
set_option maxHeartbeats 8000000
namespace My.Pn
open PySem PySem.Spec PyProof.Rows L2 Bk
/-! ### the groups of a tightened plan, judged by the law -/
theorem desc_len : ∀ (l : List Int) (lo hi : Int), l.Pairwise (fun x y => y < x) → (∀ x ∈ l, lo < x ∧ x ≤ hi) → lo ≤ hi → (l.length : Int) ≤ hi - lo
  | [], lo, hi, _, _, h => by simp; omega
  | x :: l, lo, hi, hp, hb, h => by
    obtain ⟨p1, p2⟩ := List.pairwise_cons.mp hp
    have b := hb x (by simp)
    have := desc_len l lo (x - 1) p2 (fun y hy => ⟨(hb y (by simp [hy])).1, by have := p1 y hy; omega⟩) (by omega)
    rw [List.length_cons]
    omega
theorem ne_intsG (M : List MO) (l : List Int) : dNeA M (.lst (l.map D.int)) (.lst (l.map D.int)) = some (.bl false) := by
  have d := (Dts.ints 0 l).lst
  exact dNeA_p (eqP_same d d.deref d.deref (by decide)) (fun _ h => by cases h)
theorem srt_desc {l : List Int} (h : l.Pairwise (fun x y => y < x)) : (srtI l).reverse = l := by
  have e : srtI l = l.reverse := ord_one ((srtI_perm l).trans l.reverse_perm.symm) (srtI_ord l) (by
    rw [List.pairwise_reverse]
    exact h.imp fun q => by omega)
  rw [e, List.reverse_reverse]
abbrev EG9 (rs : List (List Int)) (x : Option D) : Bk.Env := [some (.ref 0), some (.lst (rs.map rowT)), some (.ref 1), x, none, none, none, none, none]
theorem gr_turn {d : Nat} {rs : List (List Int)} (h : Pl d rs) (s : Src3) (x : D) : ∃ s' : Src3,
    lb_law_groups_right_1 (EG9 rs (some x)) [srcO s, .lst ((tight d rs).map rowT)] = .nx (EG9 rs none) [srcO s', .lst ((tight d rs).map rowT)] := by
  have sz : 200000 ≤ sizeLine := by rw [sizeLine_eq]; omega
  have hf := h.few
  have hd := h.days
  have hP := tight_pl h
  have ne1 := List.length_pos_iff.mpr h.ne
  obtain ⟨TO, hTO⟩ : ∃ TO, TO = MO.lst ((tight d rs).map rowT) := ⟨_, rfl⟩
  have t1 := t_0 s (rs.length : Nat) [TO] (by omega) (by omega)
  have a0 := tk_lo s (n := (rs.length : Nat)) (by omega)
  have a1 := tk_hi s (n := (rs.length : Nat)) (by omega)
  generalize tk s (rs.length : Nat) = lv0 at *
  generalize tn s (rs.length : Nat) = s1 at *
  obtain ⟨l, rfl⟩ := Int.eq_ofNat_of_zero_le a0
  have t2 := t_0 s1 ((d : Int) + 1) [TO] (by omega) (by omega)
  have b0 := tk_lo s1 (n := (d : Int) + 1) (by omega)
  have b1 := tk_hi s1 (n := (d : Int) + 1) (by omega)
  generalize tk s1 ((d : Int) + 1) = k0 at *
  generalize tn s1 ((d : Int) + 1) = s2 at *
  obtain ⟨k, rfl⟩ := Int.eq_ofNat_of_zero_le b0
  have kd : k ≤ d := by omega
  refine ⟨s2, ?_⟩
  have ll : l < rs.length := by omega
  obtain ⟨r, er⟩ : ∃ r, rs[l]? = some r := ⟨rs[l], List.getElem?_eq_getElem ll⟩
  have hr := List.mem_of_getElem? er
  have lr := h.len r hr
  obtain ⟨r0, e0, l0⟩ := h.row0
  have ix0 : ∀ M, dIx M (.lst (rs.map rowT)) (.int 0) = some (rowT r0) := fun M => planD_ix M false rs (i := 0) e0
  have ln0 : ∀ M, dLen M (rowT r0) = some (.int (d : Nat)) := fun M => by rw [e_lenT, List.length_map, l0]
  have lnp : ∀ M, dLen M (.lst (rs.map rowT)) = some (.int rs.length) := fun M => by simp
  have ixl : ∀ M, dIx M (.lst (rs.map rowT)) (.int (l : Nat)) = some (rowT r) := fun M => planD_ix M false rs er
  have ct := fun M => rowT_cut M r k
  have cl : ∀ M, callF F_law_levels [.lst (rs.map rowT), rowT (r.take k)] M = .ok (.lst (natD (lv rs (r.take k)))) M := fun M => c_llevels false (by omega) (r.take k) M
  obtain ⟨a, m, e, hm, _⟩ := lv_range h (r.take k)
  have lin : l ∈ lv rs (r.take k) := mem_lv.mpr ⟨r, er, by rw [List.length_take, lr, Nat.min_eq_left kd]⟩
  obtain ⟨m, rfl⟩ : ∃ m', m = m' + 1 := by
    cases m with
    | zero => rw [e] at lin; simp at lin
    | succ m => exact ⟨m, rfl⟩
  rw [e] at cl
  have f0 := fun M => natD_first M a m
  have f1 := fun M => natD_last M a m
  -- the told plan
  have etr : (tight d rs)[l]? = some (tgt d rs r) := by unfold tight; rw [List.getElem?_map, er]; rfl
  have vT : VW [srcO s2, TO] (.ref 1) ((tight d rs).map rowT) := VW.ref (by rw [hTO]; rfl)
  have ixt : dIx [srcO s2, TO] (.ref 1) (.int (l : Nat)) = some (rowT (tgt d rs r)) := ix9 vT rfl (by rw [List.getElem?_map, etr]; rfl)
  have ctt := fun M => rowT_cut M (tgt d rs r) k
  have okp : OkP d ((tgt d rs r).take k) := ⟨by rw [List.length_take, tgt_len]; omega, fun x hx => by
    have := hP.nums (tgt d rs r) (List.mem_of_getElem? etr) x (List.mem_of_mem_take hx)
    exact this.1⟩
  have cg := vc_group hP okp vT rfl
  rw [lv_tight h hr kd, e] at cg
  have g0 : grpD (List.range' a (m + 1)) = .tup [.int (a : Nat), .int ((a + m : Nat))] := by
    rw [List.range'_succ]
    simp [grpD]
  rw [g0] at cg
  have ctests := vc_tests hP okp vT rfl
  obtain ⟨T, hT⟩ : ∃ T, T = tstD d (tight d rs) ((tgt d rs r).take k) := ⟨_, rfl⟩
  rw [← hT] at ctests
  have TP : T.Pairwise (fun x y => y < x) ∧ ∀ t ∈ T, (a : Int) < t ∧ t ≤ ((a + m : Nat) : Int) := by
    rw [hT]
    unfold tstD
    rw [List.length_take, tgt_len]
    by_cases c : k < d
    · rw [if_pos (by omega)]
      exact tst_tight h hr c e
    · rw [if_neg (by omega)]
      exact ⟨List.Pairwise.nil, fun t ht => by cases ht⟩
  have Tl := desc_len T (a : Int) ((a + m : Nat) : Int) TP.1 TP.2 (by omega)
  have Tn : T.Nodup := TP.1.imp fun q => by omega
  have ls : ∀ M, dLenSetI M (.lst (T.map D.int)) = some (.int T.length) := fun M => by rw [e_lenSetI M (by omega), dupI_nodup Tn]
  have lt : ∀ M, dLen M (.lst (T.map D.int)) = some (.int T.length) := fun M => by simp
  have ni : ∀ M, dNeA M (.int (T.length : Nat)) (.int (T.length : Nat)) = some (.bl false) := fun M => by rw [dNeA_int, decide_eq_true rfl]; rfl
  have so : ∀ M, dSortR M (.lst (T.map D.int)) = some (.lst (T.map D.int)) := fun M => by rw [e_sortR, srt_desc TP.1]
  have nl := fun M => ne_intsG M T
  have nn := fun M => ne_intsG M []
  have nt : ∀ M, dNeA M (.tup [.int (a : Nat), .int ((a + m : Nat))]) (.tup [.int (a : Nat), .int ((a + m : Nat))]) = some (.bl false) := fun M => (rowT_ne M [(a : Int), ((a + m : Nat) : Int)] [(a : Int), ((a + m : Nat) : Int)]).trans (by simp)
  have lc := lcL_sel (gg := gTo 8) (gt := gNotT (gVal (gChain dLt dLe (gOp2 dIx (gV 6) (gC (.int 0))) (gV 8) (gOp2 dIx (gV 6) (gOp1 dNeg (gC (.int 1))))))) (ge := gV 8) (Γ := [some (.ref 0), some (.lst (rs.map rowT)), some (.ref 1), some x, some (.int (l : Nat)), some (.int (k : Nat)), some (.lst (natD (List.range' a (m + 1)))), some (.lst (T.map D.int)), none]) (M := [srcO s2, TO]) D.int D.int (fun _ => false) T [] (by rw [List.length_nil]; omega) fun t ht => by
    obtain ⟨q1, q2⟩ := TP.2 t ht
    have l1 : ∀ M, dLt M (.int (a : Nat)) (.int t) = some (.bl true) := fun M => by rw [e_lt, decide_eq_true q1]
    have l2 : ∀ M, dLe M (.int t) (.int ((a + m : Nat))) = some (.bl true) := fun M => by rw [e_le, decide_eq_true q2]
    refine ⟨[some (.ref 0), some (.lst (rs.map rowT)), some (.ref 1), some x, some (.int (l : Nat)), some (.int (k : Nat)), some (.lst (natD (List.range' a (m + 1)))), some (.lst (T.map D.int)), some (.int t)], by simp, ?_, fun z => by cases z⟩
    generalize natD (List.range' a (m + 1)) = LV at *
    generalize rs.map rowT = RM at *
    generalize T.map D.int = TM at *
    generalize ((a + m : Nat) : Int) = am at *
    simp [-e_ix, -e_lt, -e_le, f0, f1, l1, l2]
  have ff : (T.filter fun _ => false) = [] := List.filter_eq_nil_iff.mpr fun _ _ => by simp
  rw [ff, List.map_nil, List.append_nil] at lc
  rw [← hTO]
  unfold EG9
  have sq : ∀ L : List D, seqD (.lst L) = some L := fun _ => rfl
  have nn : ∀ M, dNeA M (.lst []) (.lst []) = some (.bl false) := nn
  clear hTO vT okp TP Tl Tn hT
  generalize rowT ((tgt d rs r).take k) = R4 at *
  generalize rowT (tgt d rs r) = R3 at *
  generalize rowT (r.take k) = R2 at *
  generalize rowT r = R1 at *
  generalize rowT r0 = R0 at *
  generalize natD (List.range' a (m + 1)) = LV at *
  generalize rs.map rowT = RM at *
  generalize T.map D.int = TM at *
  generalize (rs.length : Int) = rl at *
  generalize (T.length : Int) = tl at *
  generalize (l : Int) = li at *
  generalize (k : Int) = ki at *
  generalize (d : Int) = di at *
  generalize ((a + m : Nat) : Int) = am at *
  generalize (a : Int) = ai at *
  generalize srcO s = S0 at *
  generalize srcO s1 = S1 at *
  generalize srcO s2 = S2 at *
  simp [-e_ix, -e_lenL, -e_lenT, -dNeA_int, lb_law_groups_right_1, lnp, t1, ix0, ln0, t2, ixl, ct, cl, ixt, ctt, cg, f0, f1, nt, ctests, ls, lt, ni, so, nl, sq, lc, nn, show 2 ≤ sizeLine by omega]
theorem gr_loop {d : Nat} {rs : List (List Int)} (h : Pl d rs) : ∀ (n : Nat) (lo : Int) (s : Src3), ∃ s' : Src3,
    gForL (gTo 3) lb_law_groups_right_1 (rngL lo n) (EG9 rs none) [srcO s, .lst ((tight d rs).map rowT)] = .nx (EG9 rs none) [srcO s', .lst ((tight d rs).map rowT)]
  | 0, lo, s => ⟨s, by simp [rngL]⟩
  | n + 1, lo, s => by
    obtain ⟨s1, e1⟩ := gr_turn h s (.int lo)
    obtain ⟨s2, e2⟩ := gr_loop h n (lo + 1) s1
    refine ⟨s2, ?_⟩
    rw [rngL]
    exact (forL_cons (Γ1 := EG9 rs (some (.int lo))) (by simp [EG9]) e1).trans e2
theorem m_groupsright {d : Nat} {rs : List (List Int)} (h : Pl d rs) (s : Src3) : ∃ s' : Src3,
    F_law_groups_right [.ref 0, .lst (rs.map rowT), .ref 1] [srcO s, .lst ((tight d rs).map rowT)] = .ok (.bl true) [srcO s', .lst ((tight d rs).map rowT)] := by
  obtain ⟨s', e⟩ := gr_loop h 5 0 s
  refine ⟨s', ?_⟩
  have bt := rowsT_below 2 (tight d rs)
  unfold EG9 at e
  have r1 : rng1 [.int 5] = some (rngL 0 5) := rfl
  have sb : belowO 2 (srcO s') = true := srcO_bl 2 s'
  have bt : belowO 2 (.lst ((tight d rs).map rowT)) = true := bt
  generalize MO.lst ((tight d rs).map rowT) = TO at *
  generalize rs.map rowT = RM at *
  generalize srcO s' = S' at *
  simp [-u_rng1, F_law_groups_right, b_law_groups_right, runF, r1, e, fin, cutOk, retR, below, bt, sb]
theorem c_groupsright {d : Nat} {rs : List (List Int)} (h : Pl d rs) (s : Src3) : ∃ s' : Src3, ∀ (M : List MO) (k : Nat), 0 < k → M[0]? = some (srcO s) → M[k]? = some (.lst ((tight d rs).map rowT)) →
    callF F_law_groups_right [.ref 0, .lst (rs.map rowT), .ref k] M = .ok (.bl true) (M.set 0 (srcO s')) := by
  obtain ⟨s', e⟩ := m_groupsright h s
  refine ⟨s', fun M k hk h0 h1 => ?_⟩
  have b0 := rowsT_below 0 (tight d rs)
  have b1 := rowsT_below 0 rs
  have nk : ¬ 0 = k := by omega
  have q : (M.set 0 (srcO s')).set k (.lst ((tight d rs).map rowT)) = M.set 0 (srcO s') := set_same9 (by rw [List.getElem?_set_ne (by omega)]; exact h1)
  have sb : belowO 0 (srcO s) = true := srcO_bl 0 s
  have sb' : belowO 0 (srcO s') = true := srcO_bl 0 s'
  have b0 : belowO 0 (.lst ((tight d rs).map rowT)) = true := b0
  have td : isDead (.lst ((tight d rs).map rowT)) = false := rfl
  have sd : isDead (srcO s) = false := rfl
  generalize MO.lst ((tight d rs).map rowT) = TO at *
  generalize rs.map rowT = RM at *
  generalize srcO s' = S' at *
  generalize srcO s = S0 at *
  simp [callF, lendK, lendA, flatArgs, getAll, h0, h1, nk, lentOk, sd, td, below, b0, b1, sb, sb', e, backD, setAll, q]
end My.Pn

set_option Elab.async false
set_option linter.all false
set_option maxRecDepth 100000
set_option maxHeartbeats 8000000
namespace My.Pn
open PySem PySem.Spec PyProof.Rows L2 Bk
/-! ### tightened plans of drawn rows, judged by the law -/
theorem plan_repr9 {d : Nat} {rs : List (List Int)} (h : Pl d rs) (hs : rs.length ≤ 60) : ∃ k : Str, ∀ M, dRepr M (.lst (rs.map rowT)) = some (.str k) := by
  have hd := h.days
  have sh : Shs (rs.length * (d + 1)) (rs.map rowTP) := Shs.map (b := d) rs fun r hr => by
    have := Shs.ints (is := r) fun i hi => by have := h.nums r hr i hi; omega
    rw [h.len r hr] at this
    exact this.tup
  have hb : rs.length * (d + 1) ≤ 60 * 101 := Nat.mul_le_mul hs (by omega)
  exact ⟨_, fun M => repr_of (x := .lst (rs.map rowT)) (rowsT_dt 0 rs).lst sh.lst (Dt.deref (rowsT_dt 0 rs).lst) (by decide) (by omega) (.inr (.inl ⟨_, rfl⟩))⟩
theorem cut_most9 (M : List MO) (ds : List D) (x : D) : dCut M none (some (-1)) (.lst (ds ++ [x])) = some (.lst ds) := by
  simp only [dCut, listD, Option.map_some]
  congr 2
  unfold Bk.cutD
  rw [HT.sIx_none]
  have e : HT.sIx (ds ++ [x]).length (ds ++ [x]).length (some (-1)) = ds.length := by
    simp [HT.sIx]
    omega
  rw [e]
  simp
theorem ne_rl {M : List MO} {k : Nat} {rs : List (List Int)} (hk : M[k]? = some (.lst (rs.map rowT))) : dNeA M (.ref k) (.lst (rs.map rowT)) = some (.bl false) := by
  have dt := rowsT_dt 0 rs
  rw [dNeA_p (eqP_same dt.lst (dt.derefR hk) dt.lst.deref (by decide)) (fun _ h => by cases h)]
  rfl
theorem eq_rl {M : List MO} {k : Nat} {rs : List (List Int)} (hk : M[k]? = some (.lst (rs.map rowT))) : dEqA M (.ref k) (.lst (rs.map rowT)) = some (.bl true) := by
  have dt := rowsT_dt 0 rs
  rw [dEqA_p (eqP_same dt.lst (dt.derefR hk) dt.lst.deref (by decide)) (fun _ h => by cases h)]
theorem ne_rr {M : List MO} {k j : Nat} {rs : List (List Int)} (hk : M[k]? = some (.lst (rs.map rowT))) (hj : M[j]? = some (.lst (rs.map rowT))) : dNeA M (.ref k) (.ref j) = some (.bl false) := by
  have dt := rowsT_dt 0 rs
  rw [dNeA_p (eqP_same dt.lst (dt.derefR hk) (dt.derefR hj) (by decide)) (fun _ h => by cases h)]
  rfl
theorem isi_ref9 {M : List MO} {k : Nat} {ds : List D} (h : M[k]? = some (.lst ds)) : dIsi "list" M (.ref k) = some (.bl true) := by
  unfold dIsi tyName
  simp only [h]
  rfl
theorem zip_rows {d : Nat} (rs : List (List Int)) : ∀ l : List (List Int), zipL (l.map rowT) ((l.map (tgt d rs)).map rowT) = l.map fun r => .tup [rowT r, rowT (tgt d rs r)]
  | [] => rfl
  | r :: l => by
    rw [List.map_cons, List.map_cons, List.map_cons, zipL, zip_rows rs l, List.map_cons]
abbrev EI9 (rs : List (List Int)) (kv : Str) (a b : Option D) : Bk.Env := [some (.ref 0), some (.lst (rs.map rowT)), some (.str kv), some (.ref 1), a, b, none, none]
theorem le_turn {d : Nat} {rs : List (List Int)} (h : Pl d rs) {r : List Int} (hr : r ∈ rs) (kv : Str) (M : List MO) : lb_law_is_right_1 (EI9 rs kv (some (rowT r)) (some (rowT (tgt d rs r)))) M = .nx (EI9 rs kv none none) M := by
  have sz : 200000 ≤ sizeLine := by rw [sizeLine_eq]; omega
  have hd := h.days
  have lr := h.len r hr
  have zl : ∀ a b : List Int, zipL (a.map D.int) (b.map D.int) = (a.zip b).map fun p => .tup [.int p.1, .int p.2] := fun a => by
    induction a with
    | nil => intro b; simp [zipL]
    | cons x a ih => intro b; cases b with
      | nil => simp [zipL]
      | cons y b => simp [zipL, ih b]
  have lc := lcL_sel (gg := gToT (gToCons (gTo 6) (gToCons (gTo 7) (gToNil)))) (gt := gVal (gOp2 dGt (gV 7) (gV 6))) (ge := gC (.int 1)) (Γ := EI9 rs kv (some (rowT r)) (some (rowT (tgt d rs r)))) (M := M) (fun p : Int × Int => D.tup [.int p.1, .int p.2]) (fun _ => .int 1) (fun _ => false) (r.zip (tgt d rs r)) [] (by rw [List.length_nil, List.length_zip, tgt_len]; omega) fun p hp => by
    obtain ⟨i, hi, ei⟩ := List.getElem_of_mem hp
    rw [List.length_zip, tgt_len, lr] at hi
    rw [List.getElem_zip] at ei
    have id : i < d := by omega
    have e1 : p.1 = r.getD i 0 := by rw [← ei]; simp [List.getD_eq_getElem?_getD, show i < r.length by omega]
    have e2 : p.2 = rk rs r i := by rw [← tgt_get rs r id, ← ei]; simp [List.getD_eq_getElem?_getD, tgt_len, id]
    have le := rk_le h hr i
    have gt : dGt M (.int p.2) (.int p.1) = some (.bl false) := by rw [e_gt, decide_eq_false (by omega)]
    refine ⟨[some (.ref 0), some (.lst (rs.map rowT)), some (.str kv), some (.ref 1), some (rowT r), some (rowT (tgt d rs r)), some (.int p.1), some (.int p.2)], by simp [EI9], ?_, fun z => by cases z⟩
    generalize rowT (tgt d rs r) = R2 at *
    generalize rowT r = R1 at *
    generalize rs.map rowT = RM at *
    simp [-e_gt, gt]
  have ff : ((r.zip (tgt d rs r)).filter fun _ => false) = [] := List.filter_eq_nil_iff.mpr fun _ _ => by simp
  rw [ff, List.map_nil, List.append_nil, ← zl] at lc
  have zo : zipO (rowT r) (rowT (tgt d rs r)) = some (zipL (r.map D.int) ((tgt d rs r).map D.int)) := rfl
  have nn : ∀ M, dNeA M (.lst []) (.lst []) = some (.bl false) := fun M => ne_intsG M []
  unfold EI9 at lc ⊢
  generalize zipL (r.map D.int) ((tgt d rs r).map D.int) = ZL at *
  generalize rowT (tgt d rs r) = R2 at *
  generalize rowT r = R1 at *
  generalize rs.map rowT = RM at *
  simp [lb_law_is_right_1, zo, lc, nn]
theorem le_loop {d : Nat} {rs : List (List Int)} (h : Pl d rs) (kv : Str) {M : List MO} {w : Wt} (hw : wOk w M) : ∀ l : List (List Int), (∀ r ∈ l, r ∈ rs) →
    gForW (gToT (gToCons (gTo 4) (gToCons (gTo 5) (gToNil)))) lb_law_is_right_1 w (l.map fun r => .tup [rowT r, rowT (tgt d rs r)]) (EI9 rs kv none none) M = .nx (EI9 rs kv none none) M
  | [], _ => forW_end hw
  | r :: l, hl => by
    rw [List.map_cons]
    exact (forW_cons (Γ1 := EI9 rs kv (some (rowT r)) (some (rowT (tgt d rs r)))) hw (by simp [EI9]) (le_turn h (hl r (by simp)) kv M)).trans (le_loop h kv hw l fun x hx => hl x (by simp [hx]))
theorem m_isright (s : Src3) : ∃ s' : Src3, F_law_is_right [.ref 0] [srcO s] = .ok (.bl true) [srcO s'] := by
  have sz : 200000 ≤ sizeLine := by rw [sizeLine_eq]; omega
  have t1 := t_0 s 9 [] (by omega) (by omega)
  have a0 := tk_lo s (n := 9) (by omega)
  have a1 := tk_hi s (n := 9) (by omega)
  generalize tk s 9 = x at *
  generalize tn s 9 = s1 at *
  obtain ⟨d, rfl⟩ := Int.eq_ofNat_of_zero_le a0
  have t2 := t_0 s1 40 [] (by omega) (by omega)
  have b0 := tk_lo s1 (n := 40) (by omega)
  have b1 := tk_hi s1 (n := 40) (by omega)
  generalize tk s1 40 = y at *
  generalize tn s1 40 = s2 at *
  obtain ⟨n, hn⟩ : ∃ n : Nat, 1 + y = (n : Int) := ⟨(1 + y).toNat, by omega⟩
  obtain ⟨rs, s3, e3, h, l60⟩ := c_lrows (d := d) (by omega) (n := n) (by omega) (by omega) s2 []
  have e3 : callF F_law_rows [.ref 0, .int (d : Nat), .int (n : Nat)] [srcO s2] = .ok (.lst (rs.map rowT)) [srcO s3] := e3
  obtain ⟨kv, rp⟩ := plan_repr9 h l60
  have hT := tight_pl h
  have ct1 := vc_tightened h (M := [srcO s3]) (q := .lst (rs.map rowT)) (VW.lst _ _) rfl
  obtain ⟨T, hTT⟩ : ∃ T, T = tight d rs := ⟨_, rfl⟩
  have lt := fun M => c_ltight h M
  have ct2 := vc_tightened hT (M := [srcO s3, .lst (T.map rowT)]) (q := .ref 1) (VW.ref (by rw [hTT]; rfl)) rfl
  rw [tight_idem h] at ct2
  obtain ⟨s4, gr⟩ := c_groupsright h s3
  have gr := gr [srcO s3, .lst (T.map rowT), .lst (T.map rowT)] 1 (by omega) rfl (by rw [hTT]; rfl)
  have gr : callF F_law_groups_right [.ref 0, .lst (rs.map rowT), .ref 1] [srcO s3, .lst (T.map rowT), .lst (T.map rowT)] = .ok (.bl true) [srcO s4, .lst (T.map rowT), .lst (T.map rowT)] := gr
  refine ⟨s4, ?_⟩
  rw [← hTT] at ct1 lt ct2
  have ct1 : callF F_tightened [.lst (rs.map rowT)] [srcO s3] = .ok (.ref 1) [srcO s3, .lst (T.map rowT)] := ct1
  have ct2 : callF F_tightened [.ref 1] [srcO s3, .lst (T.map rowT)] = .ok (.ref 2) [srcO s3, .lst (T.map rowT), .lst (T.map rowT)] := ct2
  have ne1 := ne_rl (M := [srcO s3, .lst (T.map rowT)]) (k := 1) (rs := T) rfl
  have is1 := isi_ref9 (M := [srcO s3, .lst (T.map rowT)]) (k := 1) rfl
  have nek : ∀ M, dNeA M (.str kv) (.str kv) = some (.bl false) := fun M => by rw [e_neS]; simp
  have ne2 := ne_rr (M := [srcO s3, .lst (T.map rowT), .lst (T.map rowT)]) (k := 2) (j := 1) (rs := T) rfl rfl
  have zw := zipW_some (srcW_lst [srcO s4, .lst (T.map rowT), .lst (T.map rowT)] (rs.map rowT)) (srcW_ref (M := [srcO s4, .lst (T.map rowT), .lst (T.map rowT)]) (k := 1) (ds := T.map rowT) rfl)
  have lp := le_loop h kv (M := [srcO s4, .lst (T.map rowT), .lst (T.map rowT)]) (w := [(1, T.map rowT)]) (wOk_one.mpr rfl) rs fun _ hr => hr
  have eT : T.map rowT = (rs.map (tgt d rs)).map rowT := by rw [hTT]; rfl
  have ez : (rs.map fun r => D.tup [rowT r, rowT (tgt d rs r)]) = zipL (rs.map rowT) (T.map rowT) := by rw [eT, zip_rows]
  rw [ez] at lp
  have tu : ∀ M, dTuple M (.lst (rs.map rowT)) = some (.tup (rs.map rowT)) := fun M => rfl
  have ct3 := vc_tightened h (M := [srcO s4, .dead, .lst (T.map rowT)]) (q := .tup (rs.map rowT)) (VW.tup _ _) rfl
  rw [← hTT] at ct3
  have ct3 : callF F_tightened [.tup (rs.map rowT)] [srcO s4, .dead, .lst (T.map rowT)] = .ok (.ref 3) [srcO s4, .dead, .lst (T.map rowT), .lst (T.map rowT)] := ct3
  have cm := fun M => cut_most9 M (T.map rowT) .non
  have eq3 := eq_rl (M := [srcO s4, .dead, .lst (T.map rowT), .lst (T.map rowT)]) (k := 3) (rs := T) rfl
  have tl : (T.map rowT).length < sizeLine := by
    rw [List.length_map, hTT, tight, List.length_map]
    omega
  have bT := rowsT_below 1 T
  have sb : belowO 1 (srcO s4) = true := srcO_bl 1 s4
  unfold EI9 at lp
  have sq : ∀ L : List D, seqD (.lst L) = some L := fun _ => rfl
  clear hTT hT h ez eT
  generalize zipL (rs.map rowT) (T.map rowT) = ZL at *
  generalize T.map rowT = TM at *
  generalize rs.map rowT = RM at *
  generalize (d : Int) = di at *
  generalize (n : Int) = ni at *
  generalize srcO s = S0 at *
  generalize srcO s1 = S1 at *
  generalize srcO s2 = S2 at *
  generalize srcO s3 = S3 at *
  generalize srcO s4 = S4 at *
  simp [F_law_is_right, b_law_is_right, runF, t1, t2, hn, e3, rp, ct1, lt, ne1, is1, nek, ct2, ne2, gr, zw, lp, listD, isListD, mutR, tl, fzD, tu, ct3, cm, eq3, fin, cutOk, retR, below, sb]
end My.Pn

set_option Elab.async false
set_option linter.all false
set_option maxRecDepth 100000
set_option maxHeartbeats 8000000
namespace My.Pn
open PySem PySem.Spec PyProof.Rows L2 Bk
/-! ### check_plan of a plan that is a list of ours; plans for drawn calendars, tightened -/
theorem c_lend9 {F : List D → List MO → Bk.R D} {x d : D} {o : MO} {k : Nat} {M : List MO} (h : F [x, .ref 0] [o] = .ok d [o]) (hk : M[k]? = some o) (ho : isDead o = false) (hb : belowO 0 o = true) (hx : below 0 x = true) (hd : below 0 d = true)
    (fx : lendK [x] = []) : callF F [x, .ref k] M = .ok d M := by
  have nx : ∀ j, x ≠ .ref j := fun j e => by rw [e] at fx; simp [lendK] at fx
  have e1 : lendK [x, .ref k] = [k] := by
    cases x with
    | ref j => exact absurd rfl (nx j)
    | _ => rfl
  have e2 : lendA 0 [x, .ref k] = [x, .ref 0] := by
    cases x with
    | ref j => exact absurd rfl (nx j)
    | _ => rfl
  have e3 : flatArgs [x, .ref k] = true := by
    cases x with
    | ref j => exact absurd rfl (nx j)
    | _ => simp [flatArgs, hx]
  have s := set_same9 hk
  have bd : backD [k] M.length d = some d := by
    unfold backD
    split
    · simp [below] at hd
    · rw [if_pos hd]
  simp [callF, e1, e2, e3, getAll, hk, lentOk, ho, hb, h, bd, setAll, s]
structure PlA (c : Cal) (rs : List (List Int)) : Prop where
  p : Pl c.length rs
  a : ∀ r ∈ rs, Al c r
theorem v_reqplan (t : Bool) {c : Cal} {rs : List (List Int)} {M : List MO} {q : D} (hc : OkC c) (h : PlA c rs) (hB : StB M) (hv : VW M q (rs.map rowT)) (hq : noPtu q = true) : F_require_plan [calD t c, q] M = .ok .non M := by
  have hf := h.p.few
  have hd := h.p.days
  have ce := vc_entries h.p.ne (by omega) hv hq
  have lc : ∀ M, dLen M (calD t c) = some (.int c.length) := fun M => calD_len M t c
  have ixq : ∀ {i : Nat} {r : List Int}, rs[i]? = some r → dIx M q (.int (i : Nat)) = some (rowT r) := fun {i r} e => ix9 hv hq (by rw [List.getElem?_map, e]; rfl)
  obtain ⟨w, hw⟩ := hv
  have wk := srcW_ok hw
  have lp : ∀ (post pre : List (List Int)), pre ++ post = rs → gForW (gToT (gToCons (gTo 2) (gToCons (gTo 3) (gToNil)))) lb_require_plan_1 w (enumL ((pre.length : Nat) : Int) (post.map rowT)) [some (calD t c), some q, none, none] M = .nx [some (calD t c), some q, none, none] M := by
    intro post
    induction post with
    | nil => intro pre _; exact forW_end wk
    | cons r post ih =>
      intro pre e
      have hr : r ∈ rs := by rw [← e]; simp
      have ih' := ih (pre ++ [r]) (by rw [← e]; simp)
      have e3 : (((pre ++ [r]).length : Nat) : Int) = (pre.length : Nat) + 1 := by simp
      rw [e3] at ih'
      have cr := fun M => c_flat (m_rowof (h.p.len r hr) hd (h.p.nums r hr)) M (by simp) (by simp)
      have ca := fun M => c_flat (m_allowed t hc (h.p.len r hr) (h.a r hr)) M (by simp) (by simp)
      rw [List.map_cons, enumL]
      refine (forW_cons (Γ1 := [some (calD t c), some q, some (.int (pre.length : Nat)), some (rowT r)]) wk (by simp) ?_).trans ih'
      cases pre with
      | nil =>
        generalize calD t c = CD at *
        simp [-e_ix, lb_require_plan_1, cr, ca, lc]
      | cons p0 pre =>
        obtain ⟨u, hu⟩ : ∃ u, rs[pre.length]? = some u := ⟨_, List.getElem?_eq_getElem (by rw [← e]; simp; omega)⟩
        have ix := ixq hu
        have sb : (((p0 :: pre).length : Nat) : Int) - 1 = (pre.length : Nat) := by simp
        have lt : r < u := by
          obtain ⟨b1, c1⟩ := List.getElem?_eq_some_iff.mp hu
          have b2 : pre.length + 1 < rs.length := by rw [← e]; simp
          have := List.pairwise_iff_getElem.mp h.p.fall pre.length (pre.length + 1) b1 b2 (by omega)
          rw [c1] at this
          have er : rs[pre.length + 1] = r := by
            have : rs[pre.length + 1]? = some r := by
              rw [← e, List.getElem?_append_right (by simp)]
              simp
            exact (List.getElem?_eq_some_iff.mp this).2
          rw [er] at this
          exact this
        obtain ⟨j, j1, j2, j3⟩ := lt_split (by rw [h.p.len u (List.mem_of_getElem? hu), h.p.len r hr]) lt
        have ge := fun M => (e_geT M r u).trans (congrArg (fun b => some (D.bl b)) (geI_less j1 (by rw [h.p.len u (List.mem_of_getElem? hu), ← h.p.len r hr]; exact j1) j2 j3))
        have p1 : (0 : Int) < (pre.length : Int) + 1 := by omega
        simp only [List.length_cons] at sb ⊢
        generalize calD t c = CD at *
        simp [-e_ix, lb_require_plan_1, cr, ca, lc, p1, ix, ge]
  have lp0 := lp rs [] rfl
  have lp1 : gForW (gToT (gToCons (gTo 2) (gToCons (gTo 3) (gToNil)))) lb_require_plan_1 w (enumL 0 (rs.map rowT)) [some (calD t c), some q, none, none] M = _ := lp0
  have hM := hB.cut0
  generalize calD t c = CD at *
  simp [-e_ix, F_require_plan, b_require_plan, runF, ce, hw, lp1, hM, retR]
theorem vc_check (t : Bool) {c : Cal} {rs : List (List Int)} {M : List MO} {k : Nat} (hc : OkC c) (h : PlA c rs) (hk : M[k]? = some (.lst (rs.map rowT))) : callF F_check_plan [calD t c, .ref k] M = .ok .non M := by
  have b0 : belowO 0 (.lst (rs.map rowT)) = true := rowsT_below 0 rs
  have fx : lendK [calD t c] = [] := by cases t <;> rfl
  have bc : below 0 (calD t c) = true := by simp
  refine c_lend9 ?_ hk rfl b0 bc rfl fx
  have rp : callF F_require_plan [calD t c, .ref 0] [.lst (rs.map rowT)] = .ok .non [.lst (rs.map rowT)] := c_lend9 (M := [.lst (rs.map rowT)]) (k := 0) (v_reqplan t hc h (stB1 fun m => rowsT_below m rs) (VW.ref rfl) rfl) rfl rfl b0 bc rfl fx
  have rc := fun M => c_reqcal t hc M
  have b1 : belowO 1 (.lst (rs.map rowT)) = true := rowsT_below 1 rs
  generalize calD t c = CD at *
  generalize MO.lst (rs.map rowT) = O at *
  simp [F_check_plan, b_check_plan, runF, rc, rp, cutOk, fin, b1, retR]
/-! drawn rows -/
theorem row_draw (x1 x4 : Option D) (R : List MO) : ∀ (ps : Cal) (acc : List Int) (s : Src3), (∀ p ∈ ps, 0 ≤ p.1 ∧ p.1 ≤ 4) → acc.length + ps.length ≤ 1000 → ∃ (is : List Int) (s' : Src3),
    gLcL (gToT (gToCons (gTo 5) (gToCons (gTo 6) (gToNil)))) gYes le_law_calendar_right_1 [some (.ref 0), x1, none, none, x4, none, none, none] (ps.map entD) (acc.map D.int) (srcO s :: R) = .ok ((acc ++ is).map D.int) (srcO s' :: R) ∧ is.length = ps.length ∧ ∀ i ∈ is, 0 ≤ i ∧ i ≤ 12
  | [], acc, s, _, _ => ⟨[], s, by simp [gLcL], rfl, by simp⟩
  | p :: ps, acc, s, hp, hl => by
    have sz : 2000 ≤ sizeLine := by rw [sizeLine_eq]; omega
    simp only [List.length_cons] at hl
    have hb := hp p (by simp)
    have t1 := t_0 s (p.1 + 1) R (by omega) (by omega)
    have a0 := tk_lo s (n := p.1 + 1) (by omega)
    have a1 := tk_hi s (n := p.1 + 1) (by omega)
    obtain ⟨is, s', e, l, hi⟩ := row_draw x1 x4 R ps (acc ++ [tk s (p.1 + 1)]) (tn s (p.1 + 1)) (fun x hx => hp x (by simp [hx])) (by simp; omega)
    refine ⟨tk s (p.1 + 1) :: is, s', ?_, by simp [l], fun i hi' => ?_⟩
    · have ea : acc ++ tk s (p.1 + 1) :: is = acc ++ [tk s (p.1 + 1)] ++ is := by simp
      rw [ea, ← e]
      simp only [List.map_append, List.map_cons, List.map_nil]
      exact lcL_cons (Γ1 := [some (.ref 0), x1, none, none, x4, some (.int p.1), some (optD p.2), none]) (y := .int (tk s (p.1 + 1))) (M2 := srcO (tn s (p.1 + 1)) :: R) (by simp [entD]) (by simp [le_law_calendar_right_1, t1]) (by rw [List.length_map]; omega)
    · rcases List.mem_cons.mp hi' with z | z
      · rw [z]; omega
      · exact hi i z
theorem rows_draw {c : Cal} (hc : c.length ≤ 90) (hp : ∀ p ∈ c, 0 ≤ p.1 ∧ p.1 ≤ 4) : ∀ (n : Nat) (lo : Int) (acc : List (List Int)) (s : Src3), acc.length + n ≤ 60 → ∃ (rs : List (List Int)) (s' : Src3),
    gLcL (gTo 4) gYes le_law_calendar_right_2 [some (.ref 0), some (calD false c), none, none, none, none, none, none] (rngL lo n) (acc.map rowT) [srcO s] = .ok ((acc ++ rs).map rowT) [srcO s'] ∧ rs.length = n ∧ ∀ r ∈ rs, r.length = c.length ∧ ∀ i ∈ r, 0 ≤ i ∧ i ≤ 12
  | 0, lo, acc, s, _ => ⟨[], s, by simp [rngL, gLcL], rfl, by simp⟩
  | n + 1, lo, acc, s, hl => by
    have sz : 2000 ≤ sizeLine := by rw [sizeLine_eq]; omega
    obtain ⟨is, s1, e1, l1, h1⟩ := row_draw (some (calD false c)) (some (.int lo)) [] c [] s hp (by simp; omega)
    rw [List.nil_append, List.map_nil] at e1
    obtain ⟨rs, s2, e2, l2, h2⟩ := rows_draw hc hp n (lo + 1) (acc ++ [is]) s1 (by simp; omega)
    refine ⟨is :: rs, s2, ?_, by simp [l2], fun r hr => ?_⟩
    · have ea : acc ++ is :: rs = acc ++ [is] ++ rs := by simp
      rw [ea, ← e2, rngL, List.map_append, List.map_cons, List.map_nil]
      refine lcL_cons (Γ1 := [some (.ref 0), some (calD false c), none, none, some (.int lo), none, none, none]) (y := rowT is) (M2 := [srcO s1]) (by simp) ?_ (by rw [List.length_map]; omega)
      have sq : seqD (calD false c) = some (c.map entD) := rfl
      have tu : ∀ M, dTuple M (.lst (is.map D.int)) = some (rowT is) := fun M => rfl
      generalize rowT is = RT at *
      generalize is.map D.int = IM at *
      generalize c.map entD = CE at *
      generalize calD false c = CD at *
      simp [le_law_calendar_right_2, sq, e1, tu]
    · rcases List.mem_cons.mp hr with z | z
      · rw [z]; exact ⟨l1, h1⟩
      · exact h2 r z
theorem srt_ok9 {acc : List (List Int)} (hh : ∀ r ∈ acc, r ≠ []) : srtOk (uniqR acc) = true := by
  unfold srtOk
  rw [Bool.or_eq_true]
  right
  rw [List.all_eq_true]
  intro r hr
  have := hh r (mem_uniqR.mp hr)
  rw [decide_eq_true_eq]
  exact this
theorem srt_pl {acc : List (List Int)} {d : Nat} (hd : d ≤ 100) (ne : acc ≠ []) (la : acc.length ≤ 60) (hh : ∀ r ∈ acc, r.length = d ∧ ∀ x ∈ r, 0 ≤ x ∧ x ≤ 12) : Pl d (srtR (uniqR acc)).reverse ∧ ∀ r, r ∈ (srtR (uniqR acc)).reverse ↔ r ∈ acc := by
  have ul := (uniqR_len acc).1
  have pm : (srtR (uniqR acc)).Perm (uniqR acc) := List.mergeSort_perm _ _
  have mem : ∀ r, r ∈ (srtR (uniqR acc)).reverse ↔ r ∈ acc := fun r => by rw [List.mem_reverse, pm.mem_iff, mem_uniqR]
  have lp : (srtR (uniqR acc)).reverse.length ≤ 60 := by rw [List.length_reverse, pm.length_eq]; omega
  refine ⟨⟨?_, by omega, hd, fun r hr => (hh r ((mem r).mp hr)).1, fun r hr => (hh r ((mem r).mp hr)).2, ?_⟩, mem⟩
  · intro z
    obtain ⟨x, xs, hx⟩ := List.exists_cons_of_ne_nil ne
    have := (mem x).mpr (by rw [hx]; simp)
    rw [z] at this
    simp at this
  · rw [List.pairwise_reverse]
    have nd : (srtR (uniqR acc)).Nodup := pm.nodup_iff.mpr (uniqR_nodup acc)
    refine List.Pairwise.imp₂ (fun a b h1 h2 => ?_) (srtR_up (uniqR acc)) nd
    unfold leR at h1
    rw [decide_eq_true_eq] at h1
    by_cases z : a < b
    · exact z
    · exact absurd (List.le_antisymm h1 (List.not_lt.mp z)) h2
theorem eq_none9 (M : List MO) (rs : List (List Int)) : dEqA M (.lst (rs.map rowT)) (.lst []) = some (.bl (decide (rs = []))) := by
  refine dEqA_p (x := .lst (rs.map rowT)) ?_ (fun _ h => by cases h)
  rw [eqP_of (rowsT_dt 0 rs).lst (Dts.nil 1).lst (Dt.deref (rowsT_dt 0 rs).lst) (Dt.deref (Dts.nil 1).lst) (by decide) (by decide)]
  cases rs with
  | nil => rfl
  | cons x ls => rfl
theorem tight_al {c : Cal} {rs : List (List Int)} (h : PlA c rs) : PlA c (tight c.length rs) := by
  refine ⟨tight_pl h.p, fun r hr => ?_⟩
  obtain ⟨s, hs, rfl⟩ := List.mem_map.mp hr
  refine Al.mono (h.a s hs) (fun i => ?_) (fun i => ?_)
  · by_cases q : i < c.length
    · rw [tgt_get _ _ q]
      exact (rk_le h.p hs i).2
    · have a := (getD_nn9 h.p hs i).1
      have e : (tgt c.length rs s).getD i 0 = 0 := by rw [List.getD_eq_getElem?_getD, List.getElem?_eq_none (by rw [tgt_len]; omega)]; rfl
      rw [e]
      exact a
  · exact (getD_nn9 h.p hs i).1
theorem m_calright (s : Src3) : ∃ s' : Src3, F_law_calendar_right [.ref 0] [srcO s] = .ok (.bl true) [srcO s'] := by
  have sz : 200000 ≤ sizeLine := by rw [sizeLine_eq]; omega
  have t1 := t_0 s 6 [] (by omega) (by omega)
  have a0 := tk_lo s (n := 6) (by omega)
  have a1 := tk_hi s (n := 6) (by omega)
  generalize tk s 6 = x at *
  generalize tn s 6 = s1 at *
  obtain ⟨n, hn⟩ : ∃ n : Nat, 1 + x = (n : Int) := ⟨(1 + x).toNat, by omega⟩
  obtain ⟨c, s2, e2, hc⟩ := c_lcal (n := n) (most := 4) (by decide) (by decide) (by omega) s1 []
  have cl := hc.l
  have hp : ∀ p ∈ c, 0 ≤ p.1 ∧ p.1 ≤ 4 := fun p hp => by
    obtain ⟨i, hi, e⟩ := List.getElem_of_mem hp
    exact ⟨(hc.k.v i p (by rw [List.getElem?_eq_getElem hi, e])).1, hc.h p hp⟩
  obtain ⟨rows, s3, e3, l3, h3⟩ := rows_draw (c := c) (by omega) hp 30 0 [] s2 (by simp)
  rw [List.nil_append, List.map_nil] at e3
  refine ⟨s3, ?_⟩
  have lc := lcL_sel (gg := gTo 7) (gt := gVal (gCallF 2 F_law_is_allowed (gCons (gV 1) (gCons (gV 7) (gNil))))) (ge := gV 7) (Γ := [some (.ref 0), some (calD false c), some (.lst (rows.map rowT)), none, none, none, none, none]) (M := [srcO s3]) rowT rowT (alB c) rows [] (by rw [List.length_nil]; omega) fun r hr => by
    have cal := fun M => c_lallow (c := c) (r := r) (by omega) (by rw [(h3 r hr).1]; exact Nat.le_refl _) M
    refine ⟨[some (.ref 0), some (calD false c), some (.lst (rows.map rowT)), none, none, none, none, some (rowT r)], by simp, ?_, fun _ => by simp⟩
    generalize rowT r = RT at *
    generalize rows.map rowT = RM at *
    generalize calD false c = CD at *
    simp [cal]
  rw [List.nil_append] at lc
  obtain ⟨fl, hfl⟩ : ∃ fl, fl = rows.filter (alB c) := ⟨_, rfl⟩
  rw [← hfl] at lc
  have fll : fl.length ≤ 30 := by rw [hfl, ← l3]; exact List.length_filter_le _ _
  have hh : ∀ r ∈ fl, r.length = c.length ∧ ∀ x ∈ r, 0 ≤ x ∧ x ≤ 12 := fun r hr => by
    rw [hfl] at hr
    exact h3 r (List.mem_filter.mp hr).1
  have ok := srt_ok9 (acc := fl) fun r hr z => by
    have := (hh r hr).1
    rw [z] at this
    simp at this
    omega
  have so := e_sortS [srcO s3] (rs := fl) (by omega) ok
  have so : dSortS [srcO s3] (.lst (fl.map rowT)) = some (.lst ((srtR (uniqR fl)).map tupI)) := so
  obtain ⟨P, hP⟩ : ∃ P, P = (srtR (uniqR fl)).reverse := ⟨_, rfl⟩
  have rv : ((srtR (uniqR fl)).map tupI).reverse = P.map rowT := by rw [hP, List.map_reverse]
  have eqn := eq_none9 [srcO s3] P
  have r30 : rng1 [.int 30] = some (rngL 0 30) := rfl
  have sq : ∀ L : List D, seqD (.lst L) = some L := fun _ => rfl
  have sb : belowO 1 (srcO s3) = true := srcO_bl 1 s3
  have e2 : callF F_law_calendar [.ref 0, .int (n : Nat), .int 4] [srcO s1] = .ok (calD false c) [srcO s2] := e2
  by_cases z : fl = []
  · have e0 : srtR (uniqR []) = [] := List.perm_nil.mp (show (srtR (uniqR [])).Perm [] from List.mergeSort_perm (uniqR []) leR)
    have : P = [] := by rw [hP, z, e0]; rfl
    rw [this] at rv eqn
    rw [decide_eq_true rfl] at eqn
    rw [List.map_nil] at rv eqn
    clear hP hfl ok
    generalize (srtR (uniqR fl)).map tupI = SM at *
    generalize fl.map rowT = FM at *
    generalize rows.map rowT = RM at *
    generalize calD false c = CD at *
    generalize (n : Int) = nn at *
    generalize srcO s = S0 at *
    generalize srcO s1 = S1 at *
    generalize srcO s2 = S2 at *
    generalize srcO s3 = S3 at *
    simp [-u_rng1, F_law_calendar_right, b_law_calendar_right, runF, t1, hn, e2, r30, e3, sq, lc, so, rv, eqn, fin, cutOk, retR, below, sb]
  · obtain ⟨hPl, mem⟩ := srt_pl (d := c.length) (by omega) z (by omega) hh
    rw [← hP] at hPl mem
    have hA : PlA c P := ⟨hPl, fun r hr => by
      have := (mem r).mp hr
      rw [hfl] at this
      exact (alB_iff c r).mp (List.mem_filter.mp this).2⟩
    rw [decide_eq_false hPl.ne] at eqn
    have ct := vc_tightened hPl (M := [srcO s3]) (q := .lst (P.map rowT)) (VW.lst _ _) rfl
    have ct : callF F_tightened [.lst (P.map rowT)] [srcO s3] = .ok (.ref 1) [srcO s3, .lst ((tight c.length P).map rowT)] := ct
    have ck := vc_check false (M := [srcO s3, .lst ((tight c.length P).map rowT)]) (k := 1) hc.k (tight_al hA) rfl
    have ns : ∀ M, dIsN M .non .non = some (.bl true) := fun M => rfl
    clear hP hfl ok hA hPl mem
    generalize (tight c.length P).map rowT = TM at *
    generalize P.map rowT = PM at *
    generalize (srtR (uniqR fl)).map tupI = SM at *
    generalize fl.map rowT = FM at *
    generalize rows.map rowT = RM at *
    generalize calD false c = CD at *
    generalize (n : Int) = nn at *
    generalize srcO s = S0 at *
    generalize srcO s1 = S1 at *
    generalize srcO s2 = S2 at *
    generalize srcO s3 = S3 at *
    simp [-u_rng1, F_law_calendar_right, b_law_calendar_right, runF, t1, hn, e2, r30, e3, sq, lc, so, rv, eqn, ct, ck, ns, fin, cutOk, retR, below, sb]
end My.Pn

set_option Elab.async false
set_option linter.all false
set_option maxRecDepth 100000
set_option maxHeartbeats 4000000
namespace My.Pn
open PySem PySem.Spec PyProof.Rows L2 Bk
/-! ### rows with a long equal beginning and all digits behind it -/
def led (L : Nat) (z : Int) (t : List (List Int)) : List (List Int) := t.map (List.replicate L z ++ ·)
theorem led_get1 {L : Nat} {z : Int} (r : List Int) {j : Nat} (h : j < L) : (List.replicate L z ++ r).getD j 0 = z := by
  simp [List.getD_eq_getElem?_getD, List.getElem?_append_left, h]
theorem led_get2 {L : Nat} {z : Int} (r : List Int) (j : Nat) : (List.replicate L z ++ r).getD (L + j) 0 = r.getD j 0 := by
  simp [List.getD_eq_getElem?_getD, List.getElem?_append_right]
structure Full (k : Nat) (t : List (List Int)) : Prop where
  l : ∀ r ∈ t, r.length = k
  n : ∀ r ∈ t, ∀ x ∈ r, 0 ≤ x ∧ x ≤ 9
  f : ∀ r ∈ t, ∀ j, j < k → ∀ x : Nat, (x : Int) < r.getD j 0 → ∃ s ∈ t, s.take j = r.take j ∧ s.getD j 0 = (x : Int)
  o : t.Pairwise fun a b => b < a
theorem app_lt : ∀ (p : List Int) {a b : List Int}, a < b → p ++ a < p ++ b
  | [], _, _, h => h
  | x :: p, _, _, h => List.cons_lt_cons_iff.mpr (.inr ⟨rfl, app_lt p h⟩)
theorem led_pl {L k : Nat} {t : List (List Int)} (h : Full k t) (ne : t ≠ []) (l1 : t.length ≤ 1000) (l2 : L + k ≤ 100) : Pl (L + k) (led L 9 t) := by
  refine ⟨fun e => ne (List.map_eq_nil_iff.mp e), by rw [led, List.length_map]; exact l1, l2, fun r hr => ?_, fun r hr x hx => ?_, ?_⟩
  · obtain ⟨s, hs, rfl⟩ := List.mem_map.mp hr
    rw [List.length_append, List.length_replicate, h.l s hs]
  · obtain ⟨s, hs, rfl⟩ := List.mem_map.mp hr
    rcases List.mem_append.mp hx with q | q
    · rw [(List.mem_replicate.mp q).2]; decide
    · have := h.n s hs x q; omega
  · unfold led
    rw [List.pairwise_map]
    exact h.o.imp fun q => app_lt _ q
theorem led_tight {L k : Nat} {t : List (List Int)} (h : Full k t) : tight (L + k) (led L 9 t) = led L 0 t := by
  have e : ∀ r ∈ t, tgt (L + k) (led L 9 t) (List.replicate L 9 ++ r) = List.replicate L 0 ++ r := fun r hr => by
    refine List.ext_getElem (by rw [tgt_len, List.length_append, List.length_replicate, h.l r hr]) fun j h1 h2 => ?_
    rw [tgt_len] at h1
    have a := tgt_get (led L 9 t) (List.replicate L 9 ++ r) h1
    rw [List.getD_eq_getElem?_getD, List.getElem?_eq_getElem (by rw [tgt_len]; exact h1), Option.getD_some] at a
    rw [a]
    have b : (List.replicate L 0 ++ r).getD j 0 = (List.replicate L 0 ++ r)[j] := by rw [List.getD_eq_getElem?_getD, List.getElem?_eq_getElem h2, Option.getD_some]
    rw [← b]
    by_cases q : j < L
    · rw [led_get1 r q]
      unfold rk
      rcases Nat.eq_zero_or_pos (rkN (nums (led L 9 t) j ((List.replicate L 9 ++ r).take j)) ((List.replicate L (9 : Int) ++ r).getD j 0).toNat) with z | z
      · rw [z]; rfl
      · obtain ⟨u, u1, u2, _⟩ := rkN_nth z
        obtain ⟨s, hs, _, es⟩ := mem_nums.mp u2
        obtain ⟨s', _, rfl⟩ := List.mem_map.mp hs
        rw [led_get1 s' q] at es
        rw [led_get1 r q] at u1
        have : u < 9 := u1
        omega
    · obtain ⟨i, rfl⟩ : ∃ i, j = L + i := ⟨j - L, by omega⟩
      have ik : i < k := by omega
      rw [led_get2 r i]
      unfold rk
      rw [led_get2 r i]
      have v : 0 ≤ r.getD i 0 := by
        rw [List.getD_eq_getElem?_getD, List.getElem?_eq_getElem (by rw [h.l r hr]; exact ik), Option.getD_some]
        exact (h.n r hr _ (List.getElem_mem _)).1
      obtain ⟨c, hc⟩ := Int.eq_ofNat_of_zero_le v
      rw [hc, Int.toNat_natCast, rkN_full fun x hx => ?_]
      obtain ⟨s, hs, es, ex⟩ := h.f r hr i ik x (by omega)
      refine mem_nums.mpr ⟨List.replicate L 9 ++ s, List.mem_map_of_mem hs, ?_, ?_⟩
      · rw [List.take_append, List.take_append, List.length_replicate, Nat.add_sub_cancel_left, es]
      · rw [led_get2 s i, ex]
  show (t.map _).map _ = t.map _
  rw [List.map_map]
  exact List.map_congr_left e
/-! the digits -/
def dg3 (n : Nat) : List Int := [((n / 100 : Nat) : Int), ((n / 10 % 10 : Nat) : Int), ((n % 10 : Nat) : Int)]
def dg2 (n : Nat) : List Int := [((n / 10 : Nat) : Int), ((n % 10 : Nat) : Int)]
def all3 : List (List Int) := (List.range 1000).reverse.map dg3
def all2 : List (List Int) := (List.range 100).reverse.map dg2
theorem mem_all3 {r : List Int} : r ∈ all3 ↔ ∃ n, n < 1000 ∧ dg3 n = r := by simp [all3]
theorem mem_all2 {r : List Int} : r ∈ all2 ↔ ∃ n, n < 100 ∧ dg2 n = r := by simp [all2]
theorem full3 : Full 3 all3 := by
  refine ⟨fun r hr => ?_, fun r hr x hx => ?_, fun r hr j hj x hx => ?_, ?_⟩
  · obtain ⟨n, _, rfl⟩ := mem_all3.mp hr
    rfl
  · obtain ⟨n, hn, rfl⟩ := mem_all3.mp hr
    simp only [dg3, List.mem_cons, List.not_mem_nil, or_false] at hx
    rcases hx with q | q | q <;> rw [q] <;> omega
  · obtain ⟨n, hn, rfl⟩ := mem_all3.mp hr
    rcases (by omega : j = 0 ∨ j = 1 ∨ j = 2) with q | q | q
    · subst q
      have hx : (x : Int) < ((n / 100 : Nat) : Int) := hx
      refine ⟨dg3 (100 * x), mem_all3.mpr ⟨_, by omega, rfl⟩, rfl, ?_⟩
      show ((100 * x / 100 : Nat) : Int) = _
      omega
    · subst q
      have hx : (x : Int) < ((n / 10 % 10 : Nat) : Int) := hx
      refine ⟨dg3 (n / 100 * 100 + 10 * x), mem_all3.mpr ⟨_, by omega, rfl⟩, ?_, ?_⟩
      · show [(((n / 100 * 100 + 10 * x) / 100 : Nat) : Int)] = [((n / 100 : Nat) : Int)]
        rw [show (n / 100 * 100 + 10 * x) / 100 = n / 100 by omega]
      · show (((n / 100 * 100 + 10 * x) / 10 % 10 : Nat) : Int) = _
        omega
    · subst q
      have hx : (x : Int) < ((n % 10 : Nat) : Int) := hx
      refine ⟨dg3 (n / 10 * 10 + x), mem_all3.mpr ⟨_, by omega, rfl⟩, ?_, ?_⟩
      · show [(((n / 10 * 10 + x) / 100 : Nat) : Int), (((n / 10 * 10 + x) / 10 % 10 : Nat) : Int)] = [((n / 100 : Nat) : Int), ((n / 10 % 10 : Nat) : Int)]
        rw [show (n / 10 * 10 + x) / 100 = n / 100 by omega, show (n / 10 * 10 + x) / 10 % 10 = n / 10 % 10 by omega]
      · show (((n / 10 * 10 + x) % 10 : Nat) : Int) = _
        omega
  · unfold all3
    rw [List.pairwise_map, List.pairwise_reverse]
    refine List.pairwise_lt_range.imp_of_mem fun {a b} ha hb lt => ?_
    have hb := List.mem_range.mp hb
    unfold dg3
    rw [List.cons_lt_cons_iff, List.cons_lt_cons_iff, List.cons_lt_cons_iff]
    omega
theorem full2 : Full 2 all2 := by
  refine ⟨fun r hr => ?_, fun r hr x hx => ?_, fun r hr j hj x hx => ?_, ?_⟩
  · obtain ⟨n, _, rfl⟩ := mem_all2.mp hr
    rfl
  · obtain ⟨n, hn, rfl⟩ := mem_all2.mp hr
    simp only [dg2, List.mem_cons, List.not_mem_nil, or_false] at hx
    rcases hx with q | q <;> rw [q] <;> omega
  · obtain ⟨n, hn, rfl⟩ := mem_all2.mp hr
    rcases (by omega : j = 0 ∨ j = 1) with q | q
    · subst q
      have hx : (x : Int) < ((n / 10 : Nat) : Int) := hx
      refine ⟨dg2 (10 * x), mem_all2.mpr ⟨_, by omega, rfl⟩, rfl, ?_⟩
      show ((10 * x / 10 : Nat) : Int) = _
      omega
    · subst q
      have hx : (x : Int) < ((n % 10 : Nat) : Int) := hx
      refine ⟨dg2 (n / 10 * 10 + x), mem_all2.mpr ⟨_, by omega, rfl⟩, ?_, ?_⟩
      · show [(((n / 10 * 10 + x) / 10 : Nat) : Int)] = [((n / 10 : Nat) : Int)]
        rw [show (n / 10 * 10 + x) / 10 = n / 10 by omega]
      · show (((n / 10 * 10 + x) % 10 : Nat) : Int) = _
        omega
  · unfold all2
    rw [List.pairwise_map, List.pairwise_reverse]
    refine List.pairwise_lt_range.imp_of_mem fun {a b} ha hb lt => ?_
    have hb := List.mem_range.mp hb
    unfold dg2
    rw [List.cons_lt_cons_iff, List.cons_lt_cons_iff]
    omega
end My.Pn

set_option Elab.async false
set_option linter.all false
set_option maxRecDepth 100000
set_option maxHeartbeats 8000000
namespace My.Pn
open PySem PySem.Spec PyProof.Rows L2 Bk
/-! ### the law -/
theorem rngDn_is : ∀ n : Nat, rngDn ((n : Int) - 1) n = (List.range n).reverse.map fun i : Nat => D.int (i : Int)
  | 0 => rfl
  | n + 1 => by
    have e1 : ((n + 1 : Nat) : Int) - 1 = (n : Int) := by omega
    rw [e1, rngDn, rngDn_is n, List.range_succ, List.reverse_append]
    rfl
theorem mulT_one (M : List MO) (z : Int) {m : Nat} (h : m ≤ 1000) : dMulT M (.tup [.int z]) (.int (m : Nat)) = some (rowT (List.replicate m z)) := by
  rw [e_mulT M _ _ _ (by omega) (by omega) (by simp), Int.toNat_natCast]
  refine congrArg (fun l => some (D.tup l)) ?_
  clear h
  induction m with
  | zero => rfl
  | succ m ih => rw [List.replicate_succ, List.flatten_cons, ih, List.replicate_succ]; rfl
theorem addT_rows (M : List MO) (a b : List Int) (h : a.length + b.length ≤ 1000) : dAdd M (rowT a) (rowT b) = some (rowT (a ++ b)) := by
  have sz : 2000 ≤ sizeLine := by rw [sizeLine_eq]; omega
  rw [e_addT, if_pos (by simp; omega)]
  show _ = some (D.tup ((a ++ b).map D.int))
  rw [List.map_append]
theorem cut_led (M : List MO) {L : Nat} (z : Int) (r : List Int) : dCut M (some (L : Int)) none (rowT (List.replicate L z ++ r)) = some (rowT r) := by
  have e : (List.replicate L z ++ r).drop L = r := by simp
  rw [rowT_from, e]
theorem e_wide (x1 x2 x3 x4 : Option D) (d : D) (M : List MO) : gLc (gRng3 (gCons (gC (.int 999)) (gCons (gOp1 dNeg (gC (.int 1))) (gCons (gOp1 dNeg (gC (.int 1))) (gNil))))) (gTo 5) (gYes) (le_law_1) [5] [some d, x1, x2, x3, x4, none] M = .ok (.lst ((led 9 9 all3).map rowT)) M := by
  have sz : 2000 ≤ sizeLine := by rw [sizeLine_eq]; omega
  have r3 : rng3 [.int 999, .int (-1), .int (-1)] = some (rngDn 999 1000) := by
    have i1 : Bk.inR 999 = true := by decide
    have i2 : Bk.inR (-1) = true := by decide
    rw [u_rng3, i1, i2]
    rfl
  have rd := rngDn_is 1000
  have rd : rngDn 999 1000 = (List.range 1000).reverse.map fun i : Nat => D.int (i : Int) := rd
  have key := lcL_run (gg := gTo 5) (ge := le_law_1) (Γ := [some d, x1, x2, x3, x4, none]) (M := M) (fun i : Nat => D.int (i : Int)) (fun n => rowT (List.replicate 9 9 ++ dg3 n)) (List.range 1000).reverse [] (by rw [List.length_nil, List.length_reverse, List.length_range]; omega) fun n hn => by
    refine ⟨[some d, x1, x2, x3, x4, some (.int (n : Nat))], by simp, ?_⟩
    have hn : n < 1000 := by simpa using hn
    have m9 := fun M => mulT_one M 9 (m := 9) (by decide)
    have m9 : ∀ M, dMulT M (.tup [.int 9]) (.int 9) = some (rowT (List.replicate 9 9)) := m9
    have f1 : ∀ M, dFdiv M (.int (n : Nat)) (.int 100) = some (.int ((n / 100 : Nat) : Int)) := fun M => by
      rw [e_fdiv, if_pos (by rfl)]
      refine congrArg (fun i => some (D.int i)) ?_
      omega
    have f2 : ∀ M, dFdiv M (.int (n : Nat)) (.int 10) = some (.int ((n / 10 : Nat) : Int)) := fun M => by
      rw [e_fdiv, if_pos (by rfl)]
      refine congrArg (fun i => some (D.int i)) ?_
      omega
    have f3 : ∀ M (k : Nat), dMod M (.int (k : Nat)) (.int 10) = some (.int ((k % 10 : Nat) : Int)) := fun M k => by
      rw [e_mod, if_pos (by decide)]
      refine congrArg (fun i => some (D.int i)) ?_
      omega
    have ad := fun M => addT_rows M (List.replicate 9 9) (dg3 n) (by simp [dg3])
    have ed : D.tup [.int ((n / 100 : Nat) : Int), .int ((n / 10 % 10 : Nat) : Int), .int ((n % 10 : Nat) : Int)] = rowT (dg3 n) := rfl
    have f31 := fun M => f3 M (n / 10)
    have f32 := fun M => f3 M n
    generalize rowT (List.replicate 9 9 ++ dg3 n) = RR at *
    generalize hR9 : rowT (List.replicate 9 9) = R9 at *
    generalize rowT (dg3 n) = R3 at *
    generalize ((n / 10 % 10 : Nat) : Int) = v1 at *
    generalize ((n / 100 : Nat) : Int) = v2 at *
    generalize ((n / 10 : Nat) : Int) = v3 at *
    generalize ((n % 10 : Nat) : Int) = v4 at *
    generalize ((n : Nat) : Int) = v5 at *
    simp [-e_fdiv, -e_mod, -e_mulT, -e_addT, le_law_1, m9, f1, f2, f31, f32, ed, ad, show 3 ≤ sizeLine by omega, show 1 ≤ sizeLine by omega]
  rw [List.nil_append, ← rd] at key
  have em : (List.range 1000).reverse.map (fun n => rowT (List.replicate 9 9 ++ dg3 n)) = (led 9 9 all3).map rowT := by
    unfold led all3
    rw [List.map_map, List.map_map]
    rfl
  rw [em] at key
  generalize (led 9 9 all3).map rowT = RES at *
  generalize rngDn 999 1000 = RG at *
  simp [-u_rng3, r3, key]
theorem e_long (x1 x2 x3 x4 : Option D) (d : D) (M : List MO) : gLc (gRng3 (gCons (gC (.int 99)) (gCons (gOp1 dNeg (gC (.int 1))) (gCons (gOp1 dNeg (gC (.int 1))) (gNil))))) (gTo 5) (gYes) (le_law_2) [5] [some d, x1, x2, x3, x4, none] M = .ok (.lst ((led 98 9 all2).map rowT)) M := by
  have sz : 2000 ≤ sizeLine := by rw [sizeLine_eq]; omega
  have r3 : rng3 [.int 99, .int (-1), .int (-1)] = some (rngDn 99 100) := by
    have i1 : Bk.inR 99 = true := by decide
    have i2 : Bk.inR (-1) = true := by decide
    rw [u_rng3, i1, i2]
    rfl
  have rd := rngDn_is 100
  have rd : rngDn 99 100 = (List.range 100).reverse.map fun i : Nat => D.int (i : Int) := rd
  have key := lcL_run (gg := gTo 5) (ge := le_law_2) (Γ := [some d, x1, x2, x3, x4, none]) (M := M) (fun i : Nat => D.int (i : Int)) (fun n => rowT (List.replicate 98 9 ++ dg2 n)) (List.range 100).reverse [] (by rw [List.length_nil, List.length_reverse, List.length_range]; omega) fun n hn => by
    refine ⟨[some d, x1, x2, x3, x4, some (.int (n : Nat))], by simp, ?_⟩
    have hn : n < 100 := by simpa using hn
    have m9 := fun M => mulT_one M 9 (m := 98) (by decide)
    have m9 : ∀ M, dMulT M (.tup [.int 9]) (.int 98) = some (rowT (List.replicate 98 9)) := m9
    have f2 : ∀ M, dFdiv M (.int (n : Nat)) (.int 10) = some (.int ((n / 10 : Nat) : Int)) := fun M => by
      rw [e_fdiv, if_pos (by rfl)]
      refine congrArg (fun i => some (D.int i)) ?_
      omega
    have f3 : ∀ M, dMod M (.int (n : Nat)) (.int 10) = some (.int ((n % 10 : Nat) : Int)) := fun M => by
      rw [e_mod, if_pos (by decide)]
      refine congrArg (fun i => some (D.int i)) ?_
      omega
    have ad := fun M => addT_rows M (List.replicate 98 9) (dg2 n) (by simp [dg2])
    have ed : D.tup [.int ((n / 10 : Nat) : Int), .int ((n % 10 : Nat) : Int)] = rowT (dg2 n) := rfl
    generalize rowT (List.replicate 98 9 ++ dg2 n) = RR at *
    generalize rowT (List.replicate 98 9) = R9 at *
    generalize rowT (dg2 n) = R3 at *
    generalize ((n / 10 : Nat) : Int) = v3 at *
    generalize ((n % 10 : Nat) : Int) = v4 at *
    generalize ((n : Nat) : Int) = v5 at *
    simp [-e_fdiv, -e_mod, -e_mulT, -e_addT, le_law_2, m9, f2, f3, ed, ad, show 2 ≤ sizeLine by omega, show 1 ≤ sizeLine by omega]
  rw [List.nil_append, ← rd] at key
  have em : (List.range 100).reverse.map (fun n => rowT (List.replicate 98 9 ++ dg2 n)) = (led 98 9 all2).map rowT := by
    unfold led all2
    rw [List.map_map, List.map_map]
    rfl
  rw [em] at key
  generalize (led 98 9 all2).map rowT = RES at *
  generalize rngDn 99 100 = RG at *
  simp [-u_rng3, r3, key]
theorem e_cut3 (x1 x3 x4 : Option D) (d : D) (M : List MO) : gLc (gSeqI (gV 2)) (gTo 5) (gYes) (le_law_3) [5] [some d, x1, some (.lst ((led 9 9 all3).map rowT)), x3, x4, none] M = .ok (.lst ((led 9 0 all3).map rowT)) M := by
  have sz : 2000 ≤ sizeLine := by rw [sizeLine_eq]; omega
  have key := lcL_run (gg := gTo 5) (ge := le_law_3) (Γ := [some d, x1, some (.lst ((led 9 9 all3).map rowT)), x3, x4, none]) (M := M) (fun r : List Int => rowT (List.replicate 9 9 ++ r)) (fun r => rowT (List.replicate 9 0 ++ r)) all3 [] (by rw [List.length_nil, all3, List.length_map, List.length_reverse, List.length_range]; omega) fun r hr => by
    refine ⟨[some d, x1, some (.lst ((led 9 9 all3).map rowT)), x3, x4, some (rowT (List.replicate 9 9 ++ r))], by simp, ?_⟩
    have lr := full3.l r hr
    have m9 := fun M => mulT_one M 0 (m := 9) (by decide)
    have m9 : ∀ M, dMulT M (.tup [.int 0]) (.int 9) = some (rowT (List.replicate 9 0)) := m9
    have ct : ∀ M, dCut M (some 9) none (rowT (List.replicate 9 9 ++ r)) = some (rowT r) := fun M => cut_led M (L := 9) 9 r
    have ad := fun M => addT_rows M (List.replicate 9 0) r (by simp [lr])
    generalize rowT (List.replicate 9 9 ++ r) = R1 at *
    generalize rowT (List.replicate 9 0 ++ r) = R2 at *
    generalize rowT (List.replicate 9 0) = R3 at *
    generalize rowT r = R4 at *
    generalize (led 9 9 all3).map rowT = LM at *
    simp [-e_mulT, -e_addT, le_law_3, m9, ct, ad, show 1 ≤ sizeLine by omega]
  rw [List.nil_append] at key
  have e1 : all3.map (fun r => rowT (List.replicate 9 9 ++ r)) = (led 9 9 all3).map rowT := by unfold led; rw [List.map_map]; rfl
  have e2 : all3.map (fun r => rowT (List.replicate 9 0 ++ r)) = (led 9 0 all3).map rowT := by unfold led; rw [List.map_map]; rfl
  rw [e1, e2] at key
  have sq : ∀ L : List D, seqD (.lst L) = some L := fun _ => rfl
  generalize (led 9 0 all3).map rowT = RES at *
  generalize (led 9 9 all3).map rowT = LM at *
  simp [sq, key]
theorem e_cut4 (x1 x2 x4 : Option D) (d : D) (M : List MO) : gLc (gSeqI (gV 3)) (gTo 5) (gYes) (le_law_4) [5] [some d, x1, x2, some (.lst ((led 98 9 all2).map rowT)), x4, none] M = .ok (.lst ((led 98 0 all2).map rowT)) M := by
  have sz : 2000 ≤ sizeLine := by rw [sizeLine_eq]; omega
  have key := lcL_run (gg := gTo 5) (ge := le_law_4) (Γ := [some d, x1, x2, some (.lst ((led 98 9 all2).map rowT)), x4, none]) (M := M) (fun r : List Int => rowT (List.replicate 98 9 ++ r)) (fun r => rowT (List.replicate 98 0 ++ r)) all2 [] (by rw [List.length_nil, all2, List.length_map, List.length_reverse, List.length_range]; omega) fun r hr => by
    refine ⟨[some d, x1, x2, some (.lst ((led 98 9 all2).map rowT)), x4, some (rowT (List.replicate 98 9 ++ r))], by simp, ?_⟩
    have lr := full2.l r hr
    have m9 := fun M => mulT_one M 0 (m := 98) (by decide)
    have m9 : ∀ M, dMulT M (.tup [.int 0]) (.int 98) = some (rowT (List.replicate 98 0)) := m9
    have ct : ∀ M, dCut M (some 98) none (rowT (List.replicate 98 9 ++ r)) = some (rowT r) := fun M => cut_led M (L := 98) 9 r
    have ad := fun M => addT_rows M (List.replicate 98 0) r (by simp [lr])
    generalize rowT (List.replicate 98 9 ++ r) = R1 at *
    generalize rowT (List.replicate 98 0 ++ r) = R2 at *
    generalize rowT (List.replicate 98 0) = R3 at *
    generalize rowT r = R4 at *
    generalize (led 98 9 all2).map rowT = LM at *
    simp [-e_mulT, -e_addT, le_law_4, m9, ct, ad, show 1 ≤ sizeLine by omega]
  rw [List.nil_append] at key
  have e1 : all2.map (fun r => rowT (List.replicate 98 9 ++ r)) = (led 98 9 all2).map rowT := by unfold led; rw [List.map_map]; rfl
  have e2 : all2.map (fun r => rowT (List.replicate 98 0 ++ r)) = (led 98 0 all2).map rowT := by unfold led; rw [List.map_map]; rfl
  rw [e1, e2] at key
  have sq : ∀ L : List D, seqD (.lst L) = some L := fun _ => rfl
  generalize (led 98 0 all2).map rowT = RES at *
  generalize (led 98 9 all2).map rowT = LM at *
  simp [sq, key]
theorem law_turn24 (dd : D) (hb : below 0 dd = true) (i : Int) : lb_law_1 [some dd, some (.int i), none, none, none, none] [] = .nx [some dd, none, none, none, none, none] [] := by
  have c0 := c_source i []
  generalize src0 i = s0 at *
  obtain ⟨s1, e1⟩ := m_isright s0
  obtain ⟨s2, e2⟩ := m_calright s1
  have f1 : callF F_law_is_right [.ref 0] [srcO s0] = .ok (.bl true) [srcO s1] := c_lend1 (ds := []) (k := 0) (M := [srcO s0]) e1 rfl rfl (srcO_bl 0 s0) (srcO_bl 0 s1) rfl rfl
  have f2 : callF F_law_calendar_right [.ref 0] [srcO s1] = .ok (.bl true) [srcO s2] := c_lend1 (ds := []) (k := 0) (M := [srcO s1]) e2 rfl rfl (srcO_bl 0 s1) (srcO_bl 0 s2) rfl rfl
  clear e1 e2
  generalize srcO s0 = S0 at *
  generalize srcO s1 = S1 at *
  generalize srcO s2 = S2 at *
  simp [lb_law_1, c0, f1, f2, clean, cutOk, hb]
theorem law_loop24 (dd : D) (hb : below 0 dd = true) : ∀ is : List Int, gForL (gTo 1) lb_law_1 (is.map D.int) [some dd, none, none, none, none, none] [] = .nx [some dd, none, none, none, none, none] []
  | [] => by simp
  | i :: is => by
    rw [List.map_cons]
    exact (forL_cons (Γ1 := [some dd, some (.int i), none, none, none, none]) (by simp) (law_turn24 dd hb i)).trans (law_loop24 dd hb is)
theorem law_all (ns : List Int) (hl : ns.length ≤ 63) : F_law [.lst (ns.map D.int)] [] = .ok (.bl true) [] := by
  have sz : 2000 ≤ sizeLine := by rw [sizeLine_eq]; omega
  have hb : below 0 (D.lst (ns.map D.int)) = true := by simp
  have ct : ∀ M, dCut M none (some 4) (.lst (ns.map D.int)) = some (.lst ((ns.take 4).map D.int)) := fun M => by
    have := cutD_upto (ds := ns.map D.int) (n := 4)
    simp only [dCut, listD, Option.map_some]
    exact congrArg some (congrArg D.lst (this.trans List.map_take.symm))
  have ad1 : ∀ M, dAdd M (.lst [.int 0]) (.lst ((ns.take 4).map D.int)) = some (.lst ((0 :: ns.take 4).map D.int)) := fun M => by
    rw [e_addL, if_pos (by simp; omega)]
    simp
  have lp := law_loop24 (.lst (ns.map D.int)) hb (0 :: ns.take 4)
  have w1 := e_wide none none none none (.lst (ns.map D.int)) []
  have w2 := e_long none (some (.lst ((led 9 9 all3).map rowT))) none none (.lst (ns.map D.int)) []
  have p3 : Pl 12 (led 9 9 all3) := led_pl full3 (by simp [all3]) (by simp [all3]) (by decide)
  have p2 : Pl 100 (led 98 9 all2) := led_pl full2 (by simp [all2]) (by simp [all2]) (by decide)
  have c3 := vc_tightened p3 (M := []) (q := .lst ((led 9 9 all3).map rowT)) (VW.lst _ _) rfl
  have t3 : tight 12 (led 9 9 all3) = led 9 0 all3 := led_tight full3
  rw [t3] at c3
  have c3 : callF F_tightened [.lst ((led 9 9 all3).map rowT)] [] = .ok (.ref 0) [.lst ((led 9 0 all3).map rowT)] := c3
  have k3 := e_cut3 none (some (.lst ((led 98 9 all2).map rowT))) none (.lst (ns.map D.int)) [.lst ((led 9 0 all3).map rowT)]
  have n3 := ne_rl (M := [.lst ((led 9 0 all3).map rowT)]) (k := 0) rfl
  have c2 := vc_tightened p2 (M := [.lst ((led 9 0 all3).map rowT)]) (q := .lst ((led 98 9 all2).map rowT)) (VW.lst _ _) rfl
  have t2 : tight 100 (led 98 9 all2) = led 98 0 all2 := led_tight full2
  rw [t2] at c2
  have c2 : callF F_tightened [.lst ((led 98 9 all2).map rowT)] [.lst ((led 9 0 all3).map rowT)] = .ok (.ref 1) [.lst ((led 9 0 all3).map rowT), .lst ((led 98 0 all2).map rowT)] := c2
  have k2 := e_cut4 none (some (.lst ((led 9 9 all3).map rowT))) none (.lst (ns.map D.int)) [.lst ((led 9 0 all3).map rowT), .lst ((led 98 0 all2).map rowT)]
  have n2 := eq_rl (M := [.lst ((led 9 0 all3).map rowT), .lst ((led 98 0 all2).map rowT)]) (k := 1) rfl
  clear p3 p2 t3 t2
  generalize (led 9 9 all3).map rowT = A3 at *
  generalize (led 9 0 all3).map rowT = B3 at *
  generalize (led 98 9 all2).map rowT = A2 at *
  generalize (led 98 0 all2).map rowT = B2 at *
  generalize (0 :: ns.take 4) = ms at *
  generalize (ns.take 4) = ms' at *
  simp [-e_addL, -u_gLc, F_law, b_law, runF, ct, ad1, lp, w1, w2, c3, k3, n3, c2, k2, n2]
end My.Pn
namespace My
open PySem PySem.Spec PyProof.Rows L2 Bk
theorem law_true (ns : List Int) (hl : ns.length ≤ 63) : F_law [.lst (ns.map D.int)] [] = .ok (.bl true) [] := Pn.law_all ns hl
end My

set_option Elab.async false
set_option linter.all false
set_option maxRecDepth 100000
set_option maxHeartbeats 8000000
namespace My
open PySem PySem.Spec PyProof.Rows L2 Bk
theorem all_mk {l : PySem.W.OpenLaw} {w : World} {K : PySem.W.Frag} {h : Heap} {mg : Str → Option Value} {fa : Addr} (X : K.In h) (G : h.Ns mainGlobals mg) (hfa : mg "law" = some (.ref fa))
    {f_is_integer : Addr} {od_is_integer an_is_integer : Option Addr} {sl_is_integer : Array (Option Value)} {oc_is_integer kV_is_integer dc_is_integer pm_is_integer cd_is_integer ct_is_integer : Value}
    (a_is_integer : PySem.W.nsIn K mainGlobals "is_integer" = some (some (.ref f_is_integer))) (l_is_integer : K.lookup f_is_integer = some ⟨oc_is_integer, od_is_integer, .func (PySem.W.fnOf "is_integer" "is_integer" (defArgs s_is_integer) (defBody s_is_integer) (defScope s_is_integer) .none kV_is_integer dc_is_integer pm_is_integer an_is_integer cd_is_integer ct_is_integer), sl_is_integer⟩) (c_is_integer : PySem.W.codeIn K cd_is_integer "is_integer" = true) (k_is_integer : PySem.W.keepIn K (.ref f_is_integer) = true)
    {f_is_at_least : Addr} {od_is_at_least an_is_at_least : Option Addr} {sl_is_at_least : Array (Option Value)} {oc_is_at_least kV_is_at_least dc_is_at_least pm_is_at_least cd_is_at_least ct_is_at_least : Value}
    (a_is_at_least : PySem.W.nsIn K mainGlobals "is_at_least" = some (some (.ref f_is_at_least))) (l_is_at_least : K.lookup f_is_at_least = some ⟨oc_is_at_least, od_is_at_least, .func (PySem.W.fnOf "is_at_least" "is_at_least" (defArgs s_is_at_least) (defBody s_is_at_least) (defScope s_is_at_least) .none kV_is_at_least dc_is_at_least pm_is_at_least an_is_at_least cd_is_at_least ct_is_at_least), sl_is_at_least⟩) (c_is_at_least : PySem.W.codeIn K cd_is_at_least "is_at_least" = true) (k_is_at_least : PySem.W.keepIn K (.ref f_is_at_least) = true)
    {f_is_between : Addr} {od_is_between an_is_between : Option Addr} {sl_is_between : Array (Option Value)} {oc_is_between kV_is_between dc_is_between pm_is_between cd_is_between ct_is_between : Value}
    (a_is_between : PySem.W.nsIn K mainGlobals "is_between" = some (some (.ref f_is_between))) (l_is_between : K.lookup f_is_between = some ⟨oc_is_between, od_is_between, .func (PySem.W.fnOf "is_between" "is_between" (defArgs s_is_between) (defBody s_is_between) (defScope s_is_between) .none kV_is_between dc_is_between pm_is_between an_is_between cd_is_between ct_is_between), sl_is_between⟩) (c_is_between : PySem.W.codeIn K cd_is_between "is_between" = true) (k_is_between : PySem.W.keepIn K (.ref f_is_between) = true)
    {f_is_day : Addr} {od_is_day an_is_day : Option Addr} {sl_is_day : Array (Option Value)} {oc_is_day kV_is_day dc_is_day pm_is_day cd_is_day ct_is_day : Value}
    (a_is_day : PySem.W.nsIn K mainGlobals "is_day" = some (some (.ref f_is_day))) (l_is_day : K.lookup f_is_day = some ⟨oc_is_day, od_is_day, .func (PySem.W.fnOf "is_day" "is_day" (defArgs s_is_day) (defBody s_is_day) (defScope s_is_day) .none kV_is_day dc_is_day pm_is_day an_is_day cd_is_day ct_is_day), sl_is_day⟩) (c_is_day : PySem.W.codeIn K cd_is_day "is_day" = true) (k_is_day : PySem.W.keepIn K (.ref f_is_day) = true)
    {f_are_numbers : Addr} {od_are_numbers an_are_numbers : Option Addr} {sl_are_numbers : Array (Option Value)} {oc_are_numbers kV_are_numbers dc_are_numbers pm_are_numbers cd_are_numbers ct_are_numbers : Value}
    (a_are_numbers : PySem.W.nsIn K mainGlobals "are_numbers" = some (some (.ref f_are_numbers))) (l_are_numbers : K.lookup f_are_numbers = some ⟨oc_are_numbers, od_are_numbers, .func (PySem.W.fnOf "are_numbers" "are_numbers" (defArgs s_are_numbers) (defBody s_are_numbers) (defScope s_are_numbers) .none kV_are_numbers dc_are_numbers pm_are_numbers an_are_numbers cd_are_numbers ct_are_numbers), sl_are_numbers⟩) (c_are_numbers : PySem.W.codeIn K cd_are_numbers "are_numbers" = true) (k_are_numbers : PySem.W.keepIn K (.ref f_are_numbers) = true)
    {f_require_calendar : Addr} {od_require_calendar an_require_calendar : Option Addr} {sl_require_calendar : Array (Option Value)} {oc_require_calendar kV_require_calendar dc_require_calendar pm_require_calendar cd_require_calendar ct_require_calendar : Value}
    (a_require_calendar : PySem.W.nsIn K mainGlobals "require_calendar" = some (some (.ref f_require_calendar))) (l_require_calendar : K.lookup f_require_calendar = some ⟨oc_require_calendar, od_require_calendar, .func (PySem.W.fnOf "require_calendar" "require_calendar" (defArgs s_require_calendar) (defBody s_require_calendar) (defScope s_require_calendar) .none kV_require_calendar dc_require_calendar pm_require_calendar an_require_calendar cd_require_calendar ct_require_calendar), sl_require_calendar⟩) (c_require_calendar : PySem.W.codeIn K cd_require_calendar "require_calendar" = true) (k_require_calendar : PySem.W.keepIn K (.ref f_require_calendar) = true)
    {f_is_entries : Addr} {od_is_entries an_is_entries : Option Addr} {sl_is_entries : Array (Option Value)} {oc_is_entries kV_is_entries dc_is_entries pm_is_entries cd_is_entries ct_is_entries : Value}
    (a_is_entries : PySem.W.nsIn K mainGlobals "is_entries" = some (some (.ref f_is_entries))) (l_is_entries : K.lookup f_is_entries = some ⟨oc_is_entries, od_is_entries, .func (PySem.W.fnOf "is_entries" "is_entries" (defArgs s_is_entries) (defBody s_is_entries) (defScope s_is_entries) .none kV_is_entries dc_is_entries pm_is_entries an_is_entries cd_is_entries ct_is_entries), sl_is_entries⟩) (c_is_entries : PySem.W.codeIn K cd_is_entries "is_entries" = true) (k_is_entries : PySem.W.keepIn K (.ref f_is_entries) = true)
    {f_is_row_of : Addr} {od_is_row_of an_is_row_of : Option Addr} {sl_is_row_of : Array (Option Value)} {oc_is_row_of kV_is_row_of dc_is_row_of pm_is_row_of cd_is_row_of ct_is_row_of : Value}
    (a_is_row_of : PySem.W.nsIn K mainGlobals "is_row_of" = some (some (.ref f_is_row_of))) (l_is_row_of : K.lookup f_is_row_of = some ⟨oc_is_row_of, od_is_row_of, .func (PySem.W.fnOf "is_row_of" "is_row_of" (defArgs s_is_row_of) (defBody s_is_row_of) (defScope s_is_row_of) .none kV_is_row_of dc_is_row_of pm_is_row_of an_is_row_of cd_is_row_of ct_is_row_of), sl_is_row_of⟩) (c_is_row_of : PySem.W.codeIn K cd_is_row_of "is_row_of" = true) (k_is_row_of : PySem.W.keepIn K (.ref f_is_row_of) = true)
    {f_require_rows : Addr} {od_require_rows an_require_rows : Option Addr} {sl_require_rows : Array (Option Value)} {oc_require_rows kV_require_rows dc_require_rows pm_require_rows cd_require_rows ct_require_rows : Value}
    (a_require_rows : PySem.W.nsIn K mainGlobals "require_rows" = some (some (.ref f_require_rows))) (l_require_rows : K.lookup f_require_rows = some ⟨oc_require_rows, od_require_rows, .func (PySem.W.fnOf "require_rows" "require_rows" (defArgs s_require_rows) (defBody s_require_rows) (defScope s_require_rows) .none kV_require_rows dc_require_rows pm_require_rows an_require_rows cd_require_rows ct_require_rows), sl_require_rows⟩) (c_require_rows : PySem.W.codeIn K cd_require_rows "require_rows" = true) (k_require_rows : PySem.W.keepIn K (.ref f_require_rows) = true)
    {f_require_beginning : Addr} {od_require_beginning an_require_beginning : Option Addr} {sl_require_beginning : Array (Option Value)} {oc_require_beginning kV_require_beginning dc_require_beginning pm_require_beginning cd_require_beginning ct_require_beginning : Value}
    (a_require_beginning : PySem.W.nsIn K mainGlobals "require_beginning" = some (some (.ref f_require_beginning))) (l_require_beginning : K.lookup f_require_beginning = some ⟨oc_require_beginning, od_require_beginning, .func (PySem.W.fnOf "require_beginning" "require_beginning" (defArgs s_require_beginning) (defBody s_require_beginning) (defScope s_require_beginning) .none kV_require_beginning dc_require_beginning pm_require_beginning an_require_beginning cd_require_beginning ct_require_beginning), sl_require_beginning⟩) (c_require_beginning : PySem.W.codeIn K cd_require_beginning "require_beginning" = true) (k_require_beginning : PySem.W.keepIn K (.ref f_require_beginning) = true)
    {f_is_allowed_row : Addr} {od_is_allowed_row an_is_allowed_row : Option Addr} {sl_is_allowed_row : Array (Option Value)} {oc_is_allowed_row kV_is_allowed_row dc_is_allowed_row pm_is_allowed_row cd_is_allowed_row ct_is_allowed_row : Value}
    (a_is_allowed_row : PySem.W.nsIn K mainGlobals "is_allowed_row" = some (some (.ref f_is_allowed_row))) (l_is_allowed_row : K.lookup f_is_allowed_row = some ⟨oc_is_allowed_row, od_is_allowed_row, .func (PySem.W.fnOf "is_allowed_row" "is_allowed_row" (defArgs s_is_allowed_row) (defBody s_is_allowed_row) (defScope s_is_allowed_row) .none kV_is_allowed_row dc_is_allowed_row pm_is_allowed_row an_is_allowed_row cd_is_allowed_row ct_is_allowed_row), sl_is_allowed_row⟩) (c_is_allowed_row : PySem.W.codeIn K cd_is_allowed_row "is_allowed_row" = true) (k_is_allowed_row : PySem.W.keepIn K (.ref f_is_allowed_row) = true)
    {f_require_plan : Addr} {od_require_plan an_require_plan : Option Addr} {sl_require_plan : Array (Option Value)} {oc_require_plan kV_require_plan dc_require_plan pm_require_plan cd_require_plan ct_require_plan : Value}
    (a_require_plan : PySem.W.nsIn K mainGlobals "require_plan" = some (some (.ref f_require_plan))) (l_require_plan : K.lookup f_require_plan = some ⟨oc_require_plan, od_require_plan, .func (PySem.W.fnOf "require_plan" "require_plan" (defArgs s_require_plan) (defBody s_require_plan) (defScope s_require_plan) .none kV_require_plan dc_require_plan pm_require_plan an_require_plan cd_require_plan ct_require_plan), sl_require_plan⟩) (c_require_plan : PySem.W.codeIn K cd_require_plan "require_plan" = true) (k_require_plan : PySem.W.keepIn K (.ref f_require_plan) = true)
    {f_check_plan : Addr} {od_check_plan an_check_plan : Option Addr} {sl_check_plan : Array (Option Value)} {oc_check_plan kV_check_plan dc_check_plan pm_check_plan cd_check_plan ct_check_plan : Value}
    (a_check_plan : PySem.W.nsIn K mainGlobals "check_plan" = some (some (.ref f_check_plan))) (l_check_plan : K.lookup f_check_plan = some ⟨oc_check_plan, od_check_plan, .func (PySem.W.fnOf "check_plan" "check_plan" (defArgs s_check_plan) (defBody s_check_plan) (defScope s_check_plan) .none kV_check_plan dc_check_plan pm_check_plan an_check_plan cd_check_plan ct_check_plan), sl_check_plan⟩) (c_check_plan : PySem.W.codeIn K cd_check_plan "check_plan" = true) (k_check_plan : PySem.W.keepIn K (.ref f_check_plan) = true)
    {f_levels_behind : Addr} {od_levels_behind an_levels_behind : Option Addr} {sl_levels_behind : Array (Option Value)} {oc_levels_behind kV_levels_behind dc_levels_behind pm_levels_behind cd_levels_behind ct_levels_behind : Value}
    (a_levels_behind : PySem.W.nsIn K mainGlobals "levels_behind" = some (some (.ref f_levels_behind))) (l_levels_behind : K.lookup f_levels_behind = some ⟨oc_levels_behind, od_levels_behind, .func (PySem.W.fnOf "levels_behind" "levels_behind" (defArgs s_levels_behind) (defBody s_levels_behind) (defScope s_levels_behind) .none kV_levels_behind dc_levels_behind pm_levels_behind an_levels_behind cd_levels_behind ct_levels_behind), sl_levels_behind⟩) (c_levels_behind : PySem.W.codeIn K cd_levels_behind "levels_behind" = true) (k_levels_behind : PySem.W.keepIn K (.ref f_levels_behind) = true)
    {f_group : Addr} {od_group an_group : Option Addr} {sl_group : Array (Option Value)} {oc_group kV_group dc_group pm_group cd_group ct_group : Value}
    (a_group : PySem.W.nsIn K mainGlobals "group" = some (some (.ref f_group))) (l_group : K.lookup f_group = some ⟨oc_group, od_group, .func (PySem.W.fnOf "group" "group" (defArgs s_group) (defBody s_group) (defScope s_group) .none kV_group dc_group pm_group an_group cd_group ct_group), sl_group⟩) (c_group : PySem.W.codeIn K cd_group "group" = true) (k_group : PySem.W.keepIn K (.ref f_group) = true)
    {f_tests_behind : Addr} {od_tests_behind an_tests_behind : Option Addr} {sl_tests_behind : Array (Option Value)} {oc_tests_behind kV_tests_behind dc_tests_behind pm_tests_behind cd_tests_behind ct_tests_behind : Value}
    (a_tests_behind : PySem.W.nsIn K mainGlobals "tests_behind" = some (some (.ref f_tests_behind))) (l_tests_behind : K.lookup f_tests_behind = some ⟨oc_tests_behind, od_tests_behind, .func (PySem.W.fnOf "tests_behind" "tests_behind" (defArgs s_tests_behind) (defBody s_tests_behind) (defScope s_tests_behind) .none kV_tests_behind dc_tests_behind pm_tests_behind an_tests_behind cd_tests_behind ct_tests_behind), sl_tests_behind⟩) (c_tests_behind : PySem.W.codeIn K cd_tests_behind "tests_behind" = true) (k_tests_behind : PySem.W.keepIn K (.ref f_tests_behind) = true)
    {f_tests : Addr} {od_tests an_tests : Option Addr} {sl_tests : Array (Option Value)} {oc_tests kV_tests dc_tests pm_tests cd_tests ct_tests : Value}
    (a_tests : PySem.W.nsIn K mainGlobals "tests" = some (some (.ref f_tests))) (l_tests : K.lookup f_tests = some ⟨oc_tests, od_tests, .func (PySem.W.fnOf "tests" "tests" (defArgs s_tests) (defBody s_tests) (defScope s_tests) .none kV_tests dc_tests pm_tests an_tests cd_tests ct_tests), sl_tests⟩) (c_tests : PySem.W.codeIn K cd_tests "tests" = true) (k_tests : PySem.W.keepIn K (.ref f_tests) = true)
    {f_tight_ends : Addr} {od_tight_ends an_tight_ends : Option Addr} {sl_tight_ends : Array (Option Value)} {oc_tight_ends kV_tight_ends dc_tight_ends pm_tight_ends cd_tight_ends ct_tight_ends : Value}
    (a_tight_ends : PySem.W.nsIn K mainGlobals "tight_ends" = some (some (.ref f_tight_ends))) (l_tight_ends : K.lookup f_tight_ends = some ⟨oc_tight_ends, od_tight_ends, .func (PySem.W.fnOf "tight_ends" "tight_ends" (defArgs s_tight_ends) (defBody s_tight_ends) (defScope s_tight_ends) .none kV_tight_ends dc_tight_ends pm_tight_ends an_tight_ends cd_tight_ends ct_tight_ends), sl_tight_ends⟩) (c_tight_ends : PySem.W.codeIn K cd_tight_ends "tight_ends" = true) (k_tight_ends : PySem.W.keepIn K (.ref f_tight_ends) = true)
    {f_tightened : Addr} {od_tightened an_tightened : Option Addr} {sl_tightened : Array (Option Value)} {oc_tightened kV_tightened dc_tightened pm_tightened cd_tightened ct_tightened : Value}
    (a_tightened : PySem.W.nsIn K mainGlobals "tightened" = some (some (.ref f_tightened))) (l_tightened : K.lookup f_tightened = some ⟨oc_tightened, od_tightened, .func (PySem.W.fnOf "tightened" "tightened" (defArgs s_tightened) (defBody s_tightened) (defScope s_tightened) .none kV_tightened dc_tightened pm_tightened an_tightened cd_tightened ct_tightened), sl_tightened⟩) (c_tightened : PySem.W.codeIn K cd_tightened "tightened" = true) (k_tightened : PySem.W.keepIn K (.ref f_tightened) = true)
    {f_law_mix : Addr} {od_law_mix an_law_mix : Option Addr} {sl_law_mix : Array (Option Value)} {oc_law_mix kV_law_mix dc_law_mix pm_law_mix cd_law_mix ct_law_mix : Value}
    (a_law_mix : PySem.W.nsIn K mainGlobals "_law_mix" = some (some (.ref f_law_mix))) (l_law_mix : K.lookup f_law_mix = some ⟨oc_law_mix, od_law_mix, .func (PySem.W.fnOf "_law_mix" "_law_mix" (defArgs s_law_mix) (defBody s_law_mix) (defScope s_law_mix) .none kV_law_mix dc_law_mix pm_law_mix an_law_mix cd_law_mix ct_law_mix), sl_law_mix⟩) (c_law_mix : PySem.W.codeIn K cd_law_mix "_law_mix" = true) (k_law_mix : PySem.W.keepIn K (.ref f_law_mix) = true)
    {f_law_source : Addr} {od_law_source an_law_source : Option Addr} {sl_law_source : Array (Option Value)} {oc_law_source kV_law_source dc_law_source pm_law_source cd_law_source ct_law_source : Value}
    (a_law_source : PySem.W.nsIn K mainGlobals "_law_source" = some (some (.ref f_law_source))) (l_law_source : K.lookup f_law_source = some ⟨oc_law_source, od_law_source, .func (PySem.W.fnOf "_law_source" "_law_source" (defArgs s_law_source) (defBody s_law_source) (defScope s_law_source) .none kV_law_source dc_law_source pm_law_source an_law_source cd_law_source ct_law_source), sl_law_source⟩) (c_law_source : PySem.W.codeIn K cd_law_source "_law_source" = true) (k_law_source : PySem.W.keepIn K (.ref f_law_source) = true)
    {f_law_draw : Addr} {od_law_draw an_law_draw : Option Addr} {sl_law_draw : Array (Option Value)} {oc_law_draw kV_law_draw dc_law_draw pm_law_draw cd_law_draw ct_law_draw : Value}
    (a_law_draw : PySem.W.nsIn K mainGlobals "_law_draw" = some (some (.ref f_law_draw))) (l_law_draw : K.lookup f_law_draw = some ⟨oc_law_draw, od_law_draw, .func (PySem.W.fnOf "_law_draw" "_law_draw" (defArgs s_law_draw) (defBody s_law_draw) (defScope s_law_draw) .none kV_law_draw dc_law_draw pm_law_draw an_law_draw cd_law_draw ct_law_draw), sl_law_draw⟩) (c_law_draw : PySem.W.codeIn K cd_law_draw "_law_draw" = true) (k_law_draw : PySem.W.keepIn K (.ref f_law_draw) = true)
    {f_law_calendar : Addr} {od_law_calendar an_law_calendar : Option Addr} {sl_law_calendar : Array (Option Value)} {oc_law_calendar kV_law_calendar dc_law_calendar pm_law_calendar cd_law_calendar ct_law_calendar : Value}
    (a_law_calendar : PySem.W.nsIn K mainGlobals "_law_calendar" = some (some (.ref f_law_calendar))) (l_law_calendar : K.lookup f_law_calendar = some ⟨oc_law_calendar, od_law_calendar, .func (PySem.W.fnOf "_law_calendar" "_law_calendar" (defArgs s_law_calendar) (defBody s_law_calendar) (defScope s_law_calendar) .none kV_law_calendar dc_law_calendar pm_law_calendar an_law_calendar cd_law_calendar ct_law_calendar), sl_law_calendar⟩) (c_law_calendar : PySem.W.codeIn K cd_law_calendar "_law_calendar" = true) (k_law_calendar : PySem.W.keepIn K (.ref f_law_calendar) = true)
    {f_law_is_allowed : Addr} {od_law_is_allowed an_law_is_allowed : Option Addr} {sl_law_is_allowed : Array (Option Value)} {oc_law_is_allowed kV_law_is_allowed dc_law_is_allowed pm_law_is_allowed cd_law_is_allowed ct_law_is_allowed : Value}
    (a_law_is_allowed : PySem.W.nsIn K mainGlobals "_law_is_allowed" = some (some (.ref f_law_is_allowed))) (l_law_is_allowed : K.lookup f_law_is_allowed = some ⟨oc_law_is_allowed, od_law_is_allowed, .func (PySem.W.fnOf "_law_is_allowed" "_law_is_allowed" (defArgs s_law_is_allowed) (defBody s_law_is_allowed) (defScope s_law_is_allowed) .none kV_law_is_allowed dc_law_is_allowed pm_law_is_allowed an_law_is_allowed cd_law_is_allowed ct_law_is_allowed), sl_law_is_allowed⟩) (c_law_is_allowed : PySem.W.codeIn K cd_law_is_allowed "_law_is_allowed" = true) (k_law_is_allowed : PySem.W.keepIn K (.ref f_law_is_allowed) = true)
    {f_law_rows : Addr} {od_law_rows an_law_rows : Option Addr} {sl_law_rows : Array (Option Value)} {oc_law_rows kV_law_rows dc_law_rows pm_law_rows cd_law_rows ct_law_rows : Value}
    (a_law_rows : PySem.W.nsIn K mainGlobals "_law_rows" = some (some (.ref f_law_rows))) (l_law_rows : K.lookup f_law_rows = some ⟨oc_law_rows, od_law_rows, .func (PySem.W.fnOf "_law_rows" "_law_rows" (defArgs s_law_rows) (defBody s_law_rows) (defScope s_law_rows) .none kV_law_rows dc_law_rows pm_law_rows an_law_rows cd_law_rows ct_law_rows), sl_law_rows⟩) (c_law_rows : PySem.W.codeIn K cd_law_rows "_law_rows" = true) (k_law_rows : PySem.W.keepIn K (.ref f_law_rows) = true)
    {f_law_levels : Addr} {od_law_levels an_law_levels : Option Addr} {sl_law_levels : Array (Option Value)} {oc_law_levels kV_law_levels dc_law_levels pm_law_levels cd_law_levels ct_law_levels : Value}
    (a_law_levels : PySem.W.nsIn K mainGlobals "_law_levels" = some (some (.ref f_law_levels))) (l_law_levels : K.lookup f_law_levels = some ⟨oc_law_levels, od_law_levels, .func (PySem.W.fnOf "_law_levels" "_law_levels" (defArgs s_law_levels) (defBody s_law_levels) (defScope s_law_levels) .none kV_law_levels dc_law_levels pm_law_levels an_law_levels cd_law_levels ct_law_levels), sl_law_levels⟩) (c_law_levels : PySem.W.codeIn K cd_law_levels "_law_levels" = true) (k_law_levels : PySem.W.keepIn K (.ref f_law_levels) = true)
    {f_law_tight : Addr} {od_law_tight an_law_tight : Option Addr} {sl_law_tight : Array (Option Value)} {oc_law_tight kV_law_tight dc_law_tight pm_law_tight cd_law_tight ct_law_tight : Value}
    (a_law_tight : PySem.W.nsIn K mainGlobals "_law_tight" = some (some (.ref f_law_tight))) (l_law_tight : K.lookup f_law_tight = some ⟨oc_law_tight, od_law_tight, .func (PySem.W.fnOf "_law_tight" "_law_tight" (defArgs s_law_tight) (defBody s_law_tight) (defScope s_law_tight) .none kV_law_tight dc_law_tight pm_law_tight an_law_tight cd_law_tight ct_law_tight), sl_law_tight⟩) (c_law_tight : PySem.W.codeIn K cd_law_tight "_law_tight" = true) (k_law_tight : PySem.W.keepIn K (.ref f_law_tight) = true)
    {f_law_groups_right : Addr} {od_law_groups_right an_law_groups_right : Option Addr} {sl_law_groups_right : Array (Option Value)} {oc_law_groups_right kV_law_groups_right dc_law_groups_right pm_law_groups_right cd_law_groups_right ct_law_groups_right : Value}
    (a_law_groups_right : PySem.W.nsIn K mainGlobals "_law_groups_right" = some (some (.ref f_law_groups_right))) (l_law_groups_right : K.lookup f_law_groups_right = some ⟨oc_law_groups_right, od_law_groups_right, .func (PySem.W.fnOf "_law_groups_right" "_law_groups_right" (defArgs s_law_groups_right) (defBody s_law_groups_right) (defScope s_law_groups_right) .none kV_law_groups_right dc_law_groups_right pm_law_groups_right an_law_groups_right cd_law_groups_right ct_law_groups_right), sl_law_groups_right⟩) (c_law_groups_right : PySem.W.codeIn K cd_law_groups_right "_law_groups_right" = true) (k_law_groups_right : PySem.W.keepIn K (.ref f_law_groups_right) = true)
    {f_law_is_right : Addr} {od_law_is_right an_law_is_right : Option Addr} {sl_law_is_right : Array (Option Value)} {oc_law_is_right kV_law_is_right dc_law_is_right pm_law_is_right cd_law_is_right ct_law_is_right : Value}
    (a_law_is_right : PySem.W.nsIn K mainGlobals "_law_is_right" = some (some (.ref f_law_is_right))) (l_law_is_right : K.lookup f_law_is_right = some ⟨oc_law_is_right, od_law_is_right, .func (PySem.W.fnOf "_law_is_right" "_law_is_right" (defArgs s_law_is_right) (defBody s_law_is_right) (defScope s_law_is_right) .none kV_law_is_right dc_law_is_right pm_law_is_right an_law_is_right cd_law_is_right ct_law_is_right), sl_law_is_right⟩) (c_law_is_right : PySem.W.codeIn K cd_law_is_right "_law_is_right" = true) (k_law_is_right : PySem.W.keepIn K (.ref f_law_is_right) = true)
    {f_law_calendar_right : Addr} {od_law_calendar_right an_law_calendar_right : Option Addr} {sl_law_calendar_right : Array (Option Value)} {oc_law_calendar_right kV_law_calendar_right dc_law_calendar_right pm_law_calendar_right cd_law_calendar_right ct_law_calendar_right : Value}
    (a_law_calendar_right : PySem.W.nsIn K mainGlobals "_law_calendar_right" = some (some (.ref f_law_calendar_right))) (l_law_calendar_right : K.lookup f_law_calendar_right = some ⟨oc_law_calendar_right, od_law_calendar_right, .func (PySem.W.fnOf "_law_calendar_right" "_law_calendar_right" (defArgs s_law_calendar_right) (defBody s_law_calendar_right) (defScope s_law_calendar_right) .none kV_law_calendar_right dc_law_calendar_right pm_law_calendar_right an_law_calendar_right cd_law_calendar_right ct_law_calendar_right), sl_law_calendar_right⟩) (c_law_calendar_right : PySem.W.codeIn K cd_law_calendar_right "_law_calendar_right" = true) (k_law_calendar_right : PySem.W.keepIn K (.ref f_law_calendar_right) = true)
    {f_law : Addr} {od_law an_law : Option Addr} {sl_law : Array (Option Value)} {oc_law kV_law dc_law pm_law cd_law ct_law : Value}
    (a_law : PySem.W.nsIn K mainGlobals "law" = some (some (.ref f_law))) (l_law : K.lookup f_law = some ⟨oc_law, od_law, .func (PySem.W.fnOf "law" "law" (defArgs s_law) (defBody s_law) (defScope s_law) .none kV_law dc_law pm_law an_law cd_law ct_law), sl_law⟩) (c_law : PySem.W.codeIn K cd_law "law" = true) (k_law : PySem.W.keepIn K (.ref f_law) = true)
    {t_MAX_DAYS : Tok} (v_MAX_DAYS : PySem.W.nsIn K mainGlobals "MAX_DAYS" = some (some (.int 100 t_MAX_DAYS)))
    {t_MAX_LEVELS : Tok} (v_MAX_LEVELS : PySem.W.nsIn K mainGlobals "MAX_LEVELS" = some (some (.int 1000 t_MAX_LEVELS)))
    {t_MAX_OWNED : Tok} (v_MAX_OWNED : PySem.W.nsIn K mainGlobals "MAX_OWNED" = some (some (.int 12 t_MAX_OWNED)))
    (z_abs : PySem.W.nsIn K mainGlobals "abs" = some none)
    (z_all : PySem.W.nsIn K mainGlobals "all" = some none)
    (z_bool : PySem.W.nsIn K mainGlobals "bool" = some none)
    (z_enumerate : PySem.W.nsIn K mainGlobals "enumerate" = some none)
    (z_int : PySem.W.nsIn K mainGlobals "int" = some none)
    (z_isinstance : PySem.W.nsIn K mainGlobals "isinstance" = some none)
    (z_len : PySem.W.nsIn K mainGlobals "len" = some none)
    (z_list : PySem.W.nsIn K mainGlobals "list" = some none)
    (z_range : PySem.W.nsIn K mainGlobals "range" = some none)
    (z_repr : PySem.W.nsIn K mainGlobals "repr" = some none)
    (z_set : PySem.W.nsIn K mainGlobals "set" = some none)
    (z_sorted : PySem.W.nsIn K mainGlobals "sorted" = some none)
    (z_tuple : PySem.W.nsIn K mainGlobals "tuple" = some none)
    (z_zip : PySem.W.nsIn K mainGlobals "zip" = some none)
    : ∃ (fd : FuncData) (C : CT), (∀ (s : Shared) (v : Value), BindsTo s fd ⟨[v], []⟩ [("_law_script", v)]) ∧ ∀ base : Heap, K.In base → base.Ns mainGlobals mg → FnQ l.prog w K mg base C 114 fa fd ["_law_script"] F_law := by
  have e2 : fa = f_law := by
    have e := hfa.symm.trans (PySem.W.mg_of X G a_law)
    cases e
    rfl
  rw [e2]
  have F_is_integer := fun_mk (st := s_is_integer) l_is_integer c_is_integer k_is_integer
  have F_is_at_least := fun_mk (st := s_is_at_least) l_is_at_least c_is_at_least k_is_at_least
  have F_is_between := fun_mk (st := s_is_between) l_is_between c_is_between k_is_between
  have F_is_day := fun_mk (st := s_is_day) l_is_day c_is_day k_is_day
  have F_are_numbers := fun_mk (st := s_are_numbers) l_are_numbers c_are_numbers k_are_numbers
  have F_require_calendar := fun_mk (st := s_require_calendar) l_require_calendar c_require_calendar k_require_calendar
  have F_is_entries := fun_mk (st := s_is_entries) l_is_entries c_is_entries k_is_entries
  have F_is_row_of := fun_mk (st := s_is_row_of) l_is_row_of c_is_row_of k_is_row_of
  have F_require_rows := fun_mk (st := s_require_rows) l_require_rows c_require_rows k_require_rows
  have F_require_beginning := fun_mk (st := s_require_beginning) l_require_beginning c_require_beginning k_require_beginning
  have F_is_allowed_row := fun_mk (st := s_is_allowed_row) l_is_allowed_row c_is_allowed_row k_is_allowed_row
  have F_require_plan := fun_mk (st := s_require_plan) l_require_plan c_require_plan k_require_plan
  have F_check_plan := fun_mk (st := s_check_plan) l_check_plan c_check_plan k_check_plan
  have F_levels_behind := fun_mk (st := s_levels_behind) l_levels_behind c_levels_behind k_levels_behind
  have F_group := fun_mk (st := s_group) l_group c_group k_group
  have F_tests_behind := fun_mk (st := s_tests_behind) l_tests_behind c_tests_behind k_tests_behind
  have F_tests := fun_mk (st := s_tests) l_tests c_tests k_tests
  have F_tight_ends := fun_mk (st := s_tight_ends) l_tight_ends c_tight_ends k_tight_ends
  have F_tightened := fun_mk (st := s_tightened) l_tightened c_tightened k_tightened
  have F_law_mix := fun_mk (st := s_law_mix) l_law_mix c_law_mix k_law_mix
  have F_law_source := fun_mk (st := s_law_source) l_law_source c_law_source k_law_source
  have F_law_draw := fun_mk (st := s_law_draw) l_law_draw c_law_draw k_law_draw
  have F_law_calendar := fun_mk (st := s_law_calendar) l_law_calendar c_law_calendar k_law_calendar
  have F_law_is_allowed := fun_mk (st := s_law_is_allowed) l_law_is_allowed c_law_is_allowed k_law_is_allowed
  have F_law_rows := fun_mk (st := s_law_rows) l_law_rows c_law_rows k_law_rows
  have F_law_levels := fun_mk (st := s_law_levels) l_law_levels c_law_levels k_law_levels
  have F_law_tight := fun_mk (st := s_law_tight) l_law_tight c_law_tight k_law_tight
  have F_law_groups_right := fun_mk (st := s_law_groups_right) l_law_groups_right c_law_groups_right k_law_groups_right
  have F_law_is_right := fun_mk (st := s_law_is_right) l_law_is_right c_law_is_right k_law_is_right
  have F_law_calendar_right := fun_mk (st := s_law_calendar_right) l_law_calendar_right c_law_calendar_right k_law_calendar_right
  have F_law := fun_mk (st := s_law) l_law c_law k_law
  have T : Tx K mg ⟨f_is_integer, _, f_is_at_least, _, f_is_between, _, f_is_day, _, f_are_numbers, _, f_require_calendar, _, f_is_entries, _, f_is_row_of, _, f_require_rows, _, f_require_beginning, _, f_is_allowed_row, _, f_require_plan, _, f_check_plan, _, f_levels_behind, _, f_group, _, f_tests_behind, _, f_tests, _, f_tight_ends, _, f_tightened, _, f_law_mix, _, f_law_source, _, f_law_draw, _, f_law_calendar, _, f_law_is_allowed, _, f_law_rows, _, f_law_levels, _, f_law_tight, _, f_law_groups_right, _, f_law_is_right, _, f_law_calendar_right, _, f_law, _, t_MAX_DAYS, t_MAX_LEVELS, t_MAX_OWNED⟩ :=
    { g_is_integer := PySem.W.mg_of X G a_is_integer,
      F_is_integer := F_is_integer, b_is_integer := F_is_integer.binds fun _ _ _ _ _ _ us hl => match us, hl with | [_], _ => rfl,
      g_is_at_least := PySem.W.mg_of X G a_is_at_least,
      F_is_at_least := F_is_at_least, b_is_at_least := F_is_at_least.binds fun _ _ _ _ _ _ us hl => match us, hl with | [_, _], _ => rfl,
      g_is_between := PySem.W.mg_of X G a_is_between,
      F_is_between := F_is_between, b_is_between := F_is_between.binds fun _ _ _ _ _ _ us hl => match us, hl with | [_, _, _], _ => rfl,
      g_is_day := PySem.W.mg_of X G a_is_day,
      F_is_day := F_is_day, b_is_day := F_is_day.binds fun _ _ _ _ _ _ us hl => match us, hl with | [_, _], _ => rfl,
      g_are_numbers := PySem.W.mg_of X G a_are_numbers,
      F_are_numbers := F_are_numbers, b_are_numbers := F_are_numbers.binds fun _ _ _ _ _ _ us hl => match us, hl with | [_], _ => rfl,
      g_require_calendar := PySem.W.mg_of X G a_require_calendar,
      F_require_calendar := F_require_calendar, b_require_calendar := F_require_calendar.binds fun _ _ _ _ _ _ us hl => match us, hl with | [_], _ => rfl,
      g_is_entries := PySem.W.mg_of X G a_is_entries,
      F_is_entries := F_is_entries, b_is_entries := F_is_entries.binds fun _ _ _ _ _ _ us hl => match us, hl with | [_], _ => rfl,
      g_is_row_of := PySem.W.mg_of X G a_is_row_of,
      F_is_row_of := F_is_row_of, b_is_row_of := F_is_row_of.binds fun _ _ _ _ _ _ us hl => match us, hl with | [_, _], _ => rfl,
      g_require_rows := PySem.W.mg_of X G a_require_rows,
      F_require_rows := F_require_rows, b_require_rows := F_require_rows.binds fun _ _ _ _ _ _ us hl => match us, hl with | [_], _ => rfl,
      g_require_beginning := PySem.W.mg_of X G a_require_beginning,
      F_require_beginning := F_require_beginning, b_require_beginning := F_require_beginning.binds fun _ _ _ _ _ _ us hl => match us, hl with | [_, _], _ => rfl,
      g_is_allowed_row := PySem.W.mg_of X G a_is_allowed_row,
      F_is_allowed_row := F_is_allowed_row, b_is_allowed_row := F_is_allowed_row.binds fun _ _ _ _ _ _ us hl => match us, hl with | [_, _], _ => rfl,
      g_require_plan := PySem.W.mg_of X G a_require_plan,
      F_require_plan := F_require_plan, b_require_plan := F_require_plan.binds fun _ _ _ _ _ _ us hl => match us, hl with | [_, _], _ => rfl,
      g_check_plan := PySem.W.mg_of X G a_check_plan,
      F_check_plan := F_check_plan, b_check_plan := F_check_plan.binds fun _ _ _ _ _ _ us hl => match us, hl with | [_, _], _ => rfl,
      g_levels_behind := PySem.W.mg_of X G a_levels_behind,
      F_levels_behind := F_levels_behind, b_levels_behind := F_levels_behind.binds fun _ _ _ _ _ _ us hl => match us, hl with | [_, _], _ => rfl,
      g_group := PySem.W.mg_of X G a_group,
      F_group := F_group, b_group := F_group.binds fun _ _ _ _ _ _ us hl => match us, hl with | [_, _], _ => rfl,
      g_tests_behind := PySem.W.mg_of X G a_tests_behind,
      F_tests_behind := F_tests_behind, b_tests_behind := F_tests_behind.binds fun _ _ _ _ _ _ us hl => match us, hl with | [_, _], _ => rfl,
      g_tests := PySem.W.mg_of X G a_tests,
      F_tests := F_tests, b_tests := F_tests.binds fun _ _ _ _ _ _ us hl => match us, hl with | [_, _], _ => rfl,
      g_tight_ends := PySem.W.mg_of X G a_tight_ends,
      F_tight_ends := F_tight_ends, b_tight_ends := F_tight_ends.binds fun _ _ _ _ _ _ us hl => match us, hl with | [_, _], _ => rfl,
      g_tightened := PySem.W.mg_of X G a_tightened,
      F_tightened := F_tightened, b_tightened := F_tightened.binds fun _ _ _ _ _ _ us hl => match us, hl with | [_], _ => rfl,
      g_law_mix := PySem.W.mg_of X G a_law_mix,
      F_law_mix := F_law_mix, b_law_mix := F_law_mix.binds fun _ _ _ _ _ _ us hl => match us, hl with | [_, _], _ => rfl,
      g_law_source := PySem.W.mg_of X G a_law_source,
      F_law_source := F_law_source, b_law_source := F_law_source.binds fun _ _ _ _ _ _ us hl => match us, hl with | [_], _ => rfl,
      g_law_draw := PySem.W.mg_of X G a_law_draw,
      F_law_draw := F_law_draw, b_law_draw := F_law_draw.binds fun _ _ _ _ _ _ us hl => match us, hl with | [_, _], _ => rfl,
      g_law_calendar := PySem.W.mg_of X G a_law_calendar,
      F_law_calendar := F_law_calendar, b_law_calendar := F_law_calendar.binds fun _ _ _ _ _ _ us hl => match us, hl with | [_, _, _], _ => rfl,
      g_law_is_allowed := PySem.W.mg_of X G a_law_is_allowed,
      F_law_is_allowed := F_law_is_allowed, b_law_is_allowed := F_law_is_allowed.binds fun _ _ _ _ _ _ us hl => match us, hl with | [_, _], _ => rfl,
      g_law_rows := PySem.W.mg_of X G a_law_rows,
      F_law_rows := F_law_rows, b_law_rows := F_law_rows.binds fun _ _ _ _ _ _ us hl => match us, hl with | [_, _, _], _ => rfl,
      g_law_levels := PySem.W.mg_of X G a_law_levels,
      F_law_levels := F_law_levels, b_law_levels := F_law_levels.binds fun _ _ _ _ _ _ us hl => match us, hl with | [_, _], _ => rfl,
      g_law_tight := PySem.W.mg_of X G a_law_tight,
      F_law_tight := F_law_tight, b_law_tight := F_law_tight.binds fun _ _ _ _ _ _ us hl => match us, hl with | [_], _ => rfl,
      g_law_groups_right := PySem.W.mg_of X G a_law_groups_right,
      F_law_groups_right := F_law_groups_right, b_law_groups_right := F_law_groups_right.binds fun _ _ _ _ _ _ us hl => match us, hl with | [_, _, _], _ => rfl,
      g_law_is_right := PySem.W.mg_of X G a_law_is_right,
      F_law_is_right := F_law_is_right, b_law_is_right := F_law_is_right.binds fun _ _ _ _ _ _ us hl => match us, hl with | [_], _ => rfl,
      g_law_calendar_right := PySem.W.mg_of X G a_law_calendar_right,
      F_law_calendar_right := F_law_calendar_right, b_law_calendar_right := F_law_calendar_right.binds fun _ _ _ _ _ _ us hl => match us, hl with | [_], _ => rfl,
      g_law := PySem.W.mg_of X G a_law,
      F_law := F_law, b_law := F_law.binds fun _ _ _ _ _ _ us hl => match us, hl with | [_], _ => rfl,
      m_abs := PySem.W.mg_none_of X G z_abs,
      m_all := PySem.W.mg_none_of X G z_all,
      m_bool := PySem.W.mg_none_of X G z_bool,
      m_enumerate := PySem.W.mg_none_of X G z_enumerate,
      m_int := PySem.W.mg_none_of X G z_int,
      m_isinstance := PySem.W.mg_none_of X G z_isinstance,
      m_len := PySem.W.mg_none_of X G z_len,
      m_list := PySem.W.mg_none_of X G z_list,
      m_range := PySem.W.mg_none_of X G z_range,
      m_repr := PySem.W.mg_none_of X G z_repr,
      m_set := PySem.W.mg_none_of X G z_set,
      m_sorted := PySem.W.mg_none_of X G z_sorted,
      m_tuple := PySem.W.mg_none_of X G z_tuple,
      m_zip := PySem.W.mg_none_of X G z_zip,
      c_MAX_DAYS := PySem.W.mg_of X G v_MAX_DAYS,
      c_MAX_LEVELS := PySem.W.mg_of X G v_MAX_LEVELS,
      c_MAX_OWNED := PySem.W.mg_of X G v_MAX_OWNED }
  exact ⟨_, ⟨fun _ => 0, fun _ => Str.empty⟩, fun s v => .of_eq rfl, fun base _ _ => ok_law T⟩
end My
open PySem PySem.W PyProof.Rows
set_option maxRecDepth 100000 in
set_option maxHeartbeats 0 in
theorem PySem.Challenge.cw_breakrows_k24_plans_tightened_holds : PySem.Challenge.rw_breakrows_k24_plans_tightened.Holds := by
  w_on; o_law; k_head; (case hw => w_witness2)
  k_fill
  refine Bk.walk_q (l := PySem.Challenge.rw_breakrows_k24_plans_tightened) (n := 63) (k := 114) (x := "_law_script") (F := My.F_law) rfl (by decide) rfl ⟨rfl, by decide, by decide⟩ (fun w h Y => PySem.W.kIn_of Y) ?F My.law_true
  case F =>
    intro w mg fa h KX G hmg
    refine' My.all_mk KX G hmg ?a_is_integer ?l_is_integer ?c_is_integer ?k_is_integer ?a_is_at_least ?l_is_at_least ?c_is_at_least ?k_is_at_least ?a_is_between ?l_is_between ?c_is_between ?k_is_between ?a_is_day ?l_is_day ?c_is_day ?k_is_day ?a_are_numbers ?l_are_numbers ?c_are_numbers ?k_are_numbers ?a_require_calendar ?l_require_calendar ?c_require_calendar ?k_require_calendar ?a_is_entries ?l_is_entries ?c_is_entries ?k_is_entries ?a_is_row_of ?l_is_row_of ?c_is_row_of ?k_is_row_of ?a_require_rows ?l_require_rows ?c_require_rows ?k_require_rows ?a_require_beginning ?l_require_beginning ?c_require_beginning ?k_require_beginning ?a_is_allowed_row ?l_is_allowed_row ?c_is_allowed_row ?k_is_allowed_row ?a_require_plan ?l_require_plan ?c_require_plan ?k_require_plan ?a_check_plan ?l_check_plan ?c_check_plan ?k_check_plan ?a_levels_behind ?l_levels_behind ?c_levels_behind ?k_levels_behind ?a_group ?l_group ?c_group ?k_group ?a_tests_behind ?l_tests_behind ?c_tests_behind ?k_tests_behind ?a_tests ?l_tests ?c_tests ?k_tests ?a_tight_ends ?l_tight_ends ?c_tight_ends ?k_tight_ends ?a_tightened ?l_tightened ?c_tightened ?k_tightened ?a_law_mix ?l_law_mix ?c_law_mix ?k_law_mix ?a_law_source ?l_law_source ?c_law_source ?k_law_source ?a_law_draw ?l_law_draw ?c_law_draw ?k_law_draw ?a_law_calendar ?l_law_calendar ?c_law_calendar ?k_law_calendar ?a_law_is_allowed ?l_law_is_allowed ?c_law_is_allowed ?k_law_is_allowed ?a_law_rows ?l_law_rows ?c_law_rows ?k_law_rows ?a_law_levels ?l_law_levels ?c_law_levels ?k_law_levels ?a_law_tight ?l_law_tight ?c_law_tight ?k_law_tight ?a_law_groups_right ?l_law_groups_right ?c_law_groups_right ?k_law_groups_right ?a_law_is_right ?l_law_is_right ?c_law_is_right ?k_law_is_right ?a_law_calendar_right ?l_law_calendar_right ?c_law_calendar_right ?k_law_calendar_right ?a_law ?l_law ?c_law ?k_law ?v_MAX_DAYS ?v_MAX_LEVELS ?v_MAX_OWNED ?z_abs ?z_all ?z_bool ?z_enumerate ?z_int ?z_isinstance ?z_len ?z_list ?z_range ?z_repr ?z_set ?z_sorted ?z_tuple ?z_zip
    (case a_is_integer => k_is); (case l_is_integer => k_is); (case c_is_integer => k_is); (case k_is_integer => k_is); (case a_is_at_least => k_is); (case l_is_at_least => k_is); (case c_is_at_least => k_is); (case k_is_at_least => k_is); (case a_is_between => k_is); (case l_is_between => k_is); (case c_is_between => k_is); (case k_is_between => k_is); (case a_is_day => k_is); (case l_is_day => k_is); (case c_is_day => k_is); (case k_is_day => k_is); (case a_are_numbers => k_is); (case l_are_numbers => k_is); (case c_are_numbers => k_is); (case k_are_numbers => k_is); (case a_require_calendar => k_is); (case l_require_calendar => k_is); (case c_require_calendar => k_is); (case k_require_calendar => k_is); (case a_is_entries => k_is); (case l_is_entries => k_is); (case c_is_entries => k_is); (case k_is_entries => k_is); (case a_is_row_of => k_is); (case l_is_row_of => k_is); (case c_is_row_of => k_is); (case k_is_row_of => k_is); (case a_require_rows => k_is); (case l_require_rows => k_is); (case c_require_rows => k_is); (case k_require_rows => k_is); (case a_require_beginning => k_is); (case l_require_beginning => k_is); (case c_require_beginning => k_is); (case k_require_beginning => k_is); (case a_is_allowed_row => k_is); (case l_is_allowed_row => k_is); (case c_is_allowed_row => k_is); (case k_is_allowed_row => k_is); (case a_require_plan => k_is); (case l_require_plan => k_is); (case c_require_plan => k_is); (case k_require_plan => k_is); (case a_check_plan => k_is); (case l_check_plan => k_is); (case c_check_plan => k_is); (case k_check_plan => k_is); (case a_levels_behind => k_is); (case l_levels_behind => k_is); (case c_levels_behind => k_is); (case k_levels_behind => k_is); (case a_group => k_is); (case l_group => k_is); (case c_group => k_is); (case k_group => k_is); (case a_tests_behind => k_is); (case l_tests_behind => k_is); (case c_tests_behind => k_is); (case k_tests_behind => k_is); (case a_tests => k_is); (case l_tests => k_is); (case c_tests => k_is); (case k_tests => k_is); (case a_tight_ends => k_is); (case l_tight_ends => k_is); (case c_tight_ends => k_is); (case k_tight_ends => k_is); (case a_tightened => k_is); (case l_tightened => k_is); (case c_tightened => k_is); (case k_tightened => k_is); (case a_law_mix => k_is); (case l_law_mix => k_is); (case c_law_mix => k_is); (case k_law_mix => k_is); (case a_law_source => k_is); (case l_law_source => k_is); (case c_law_source => k_is); (case k_law_source => k_is); (case a_law_draw => k_is); (case l_law_draw => k_is); (case c_law_draw => k_is); (case k_law_draw => k_is); (case a_law_calendar => k_is); (case l_law_calendar => k_is); (case c_law_calendar => k_is); (case k_law_calendar => k_is); (case a_law_is_allowed => k_is); (case l_law_is_allowed => k_is); (case c_law_is_allowed => k_is); (case k_law_is_allowed => k_is); (case a_law_rows => k_is); (case l_law_rows => k_is); (case c_law_rows => k_is); (case k_law_rows => k_is); (case a_law_levels => k_is); (case l_law_levels => k_is); (case c_law_levels => k_is); (case k_law_levels => k_is); (case a_law_tight => k_is); (case l_law_tight => k_is); (case c_law_tight => k_is); (case k_law_tight => k_is); (case a_law_groups_right => k_is); (case l_law_groups_right => k_is); (case c_law_groups_right => k_is); (case k_law_groups_right => k_is); (case a_law_is_right => k_is); (case l_law_is_right => k_is); (case c_law_is_right => k_is); (case k_law_is_right => k_is); (case a_law_calendar_right => k_is); (case l_law_calendar_right => k_is); (case c_law_calendar_right => k_is); (case k_law_calendar_right => k_is); (case a_law => k_is); (case l_law => k_is); (case c_law => k_is); (case k_law => k_is); (case v_MAX_DAYS => k_is); (case v_MAX_LEVELS => k_is); (case v_MAX_OWNED => k_is); (case z_abs => k_is); (case z_all => k_is); (case z_bool => k_is); (case z_enumerate => k_is); (case z_int => k_is); (case z_isinstance => k_is); (case z_len => k_is); (case z_list => k_is); (case z_range => k_is); (case z_repr => k_is); (case z_set => k_is); (case z_sorted => k_is); (case z_tuple => k_is); (case z_zip => k_is)

