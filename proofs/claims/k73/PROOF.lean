import PyProof.Rows.All
import HandS.Codes
import HandS.Conv
import HandS.Deep
import HandS.DictComp
import HandS.ExcField
import HandS.ExcInit
import HandS.ExcIs
import HandS.ExcOwn
import HandS.ForExc
import HandS.ForMost
import HandS.IsInst
import HandS.Iter
import HandS.Rev
import HandS.SetBool
import HandS.SetFor
import HandS.SortInts
import HandS.SortKw
import HandS.SortRule
import HandS.Strs
import HandS.Style
import HandS.TupAny
import HandS.TupLe
import HandS.TupLen
import HandS.TupMul
import HandS.TupSets
import HandS.Wide
import KE.DataCmp
import KE.DataMinMax
import KE.GoesEnum
import KE.GoesEnumKw
import KE.GoesMore
import KE.GoesZip
import KE.KDictCopyH
import KE.KDictDisplayH
import KE.KDictKeyed
import KE.KDictPairs
import KE.KDictSum
import KE.KDictWalk
import KE.KDictZip
import KE.KTupSum
import KE.KeyNested
import KE.SortCalls
import KE.SortData
import OpenK.AllK
import PyProof.DictRoadsH
import PyProof.Rows.SetFrom
import PyProof.SetRoads
import PySem.Challenge.RW_breakrows_k73_unlike_pieces
import Wide.All
import Wide.FinOn
set_option Elab.async false
set_option linter.all false
set_option maxRecDepth 100000
set_option maxHeartbeats 1000000
/-! A layer of trees over the hand layer: values are trees D, what may be changed lies in a small store M of our own; each construct has a function that computes its result, and a theorem that the hand layer's reading follows from it. -/
namespace Bk
open PySem PySem.Spec PyProof.Rows L2

/-! ### data, the store, results -/
inductive D where
  | non | bl (b : Bool) | int (i : Int) | str (x : Str)
  | tup (xs : List D) | lst (xs : List D) | ref (k : Nat) | dct (ks vs : List D) | ptu (xs : List D)
inductive MO where
  | dead | lst (xs : List D) | obj (nm : Str) (fs : List (Str × D)) | dct (ks vs : List D) | dki (kvs : List (Int × D))
inductive R (α : Type) where
  | ok (a : α) (M : List MO) | exc (c : Nat) (d : D) (M : List MO) | bad
def R.bind {α β : Type} (r : R α) (f : α → List MO → R β) : R β := match r with
  | .ok a M => f a M
  | .exc c d M => .exc c d M
  | .bad => .bad
abbrev Env := List (Option D)
abbrev GE := Env → List MO → R D
abbrev GT := Env → List MO → R Bool
abbrev GA := Env → List MO → R (List D)
inductive RS where
  | nx (Γ : Env) (M : List MO) | rt (d : D) (M : List MO) | bk (Γ : Env) (M : List MO) | ct (Γ : Env) (M : List MO)
  | exc (c : Nat) (d : D) (Γ : Env) (M : List MO) | bad
abbrev GS := Env → List MO → RS

/-- a list, tracked or written, and no more than that -/
def ExL (K : PySem.W.Frag) (H : Hp) (a : Addr) (xs : List V) : Prop :=
  Rd H a (.lst xs) ∨ ∃ (its : Array Value) (m : Nat), K.lookup a = some { cls := .type "list", data := .seq its m } ∧ its.size ≤ sizeLine ∧ Vals xs its.toList
theorem ExL.sq {K : PySem.W.Frag} {H : Hp} {a : Addr} {xs : List V} : ExL K H a xs → SqL K H a xs
  | .inl h => .inl h
  | .inr ⟨its, m, h1, h2, h3⟩ => .inr ⟨_, its, m, h1, rfl, rfl, rfl, h2, h3⟩
theorem ExL.at_ {X : Cx} {pins : List (Addr × Obj)} {σ : L2.St} {H : Hp} {s : Shared} {a : Addr} {xs : List V} (I : Inv X pins σ H s) (h : ExL X.K H a xs) : ∃ (its : List Value) (m : Nat), Vals xs its ∧ s.heap.get? a = some { cls := .type "list", data := .seq its.toArray m } ∧ xs.length ≤ sizeLine := by
  rcases h with h | ⟨its, m, h1, h2, h3⟩
  · obtain ⟨z, its, m, r, e⟩ := h.ok I.hok
    exact ⟨its, m, r, e, z⟩
  · refine ⟨its.toList, m, h3, by simpa using I.kIn a _ h1, ?_⟩
    have e := h3.length
    rw [Array.length_toList] at e
    exact Nat.le_trans (Nat.le_of_eq e) h2
/-! dicts: their keys nested tuples of whole numbers and None -/
section
variable (K : PySem.W.Frag) (Z : Hp)
mutual
inductive KeyV : NestedKey → V → Prop
  | non : KeyV .none .non
  | int (i : Int) : KeyV (.num i) (.int i)
  | tup {ks : List NestedKey} {a : Addr} {xs : List V} : SqT K Z a xs → KeyVs ks xs → KeyV (.tup ks) (.ref a)
inductive KeyVs : List NestedKey → List V → Prop
  | nil : KeyVs [] []
  | cons {k : NestedKey} {v : V} {ks : List NestedKey} {vs : List V} : KeyV k v → KeyVs ks vs → KeyVs (k :: ks) (v :: vs)
end
/-- the entries of a dict: keys, where they stand, values -/
inductive Ents : List NestedKey → List V → List V → List DictEntry → Prop
  | nil : Ents [] [] [] []
  | cons {k : NestedKey} {y : V} {ku : Value} {v : V} {u : Value} {hs : Int} {ks : List NestedKey} {kv vs : List V} {es : List DictEntry} : KeyV K Z k y → RelV y ku → k.depth ≤ 8 → (∀ w : World, hs = k.hash w) → RelV v u → Ents ks kv vs es → Ents (k :: ks) (y :: kv) (v :: vs) (⟨hs, ku, u⟩ :: es)
end
/-- a tuple that is known to have no dict of its own -/
def PlT (Z : Hp) (a : Addr) (xs : List V) : Prop := ∃ o : Obj, Z a = some (.frz o (.tup xs)) ∧ o.dict = none
theorem PlT.sq {K : PySem.W.Frag} {Z : Hp} {a : Addr} {xs : List V} : PlT Z a xs → SqT K Z a xs
  | ⟨o, h, _⟩ => .inl (.inr ⟨o, h⟩)
def dnO (a : Addr) (es : Array DictEntry) (ep : Nat) : HO := .ext fun h => ∃ o, h.get? a = some o ∧ o.ExactDict ∧ o.data = .dict es ep
/-- all keys are objects -/
def AllRef (ks : List V) : Prop := ∀ x ∈ ks, ∃ b, x = V.ref b
/-- a dict that stands at a and may change: its keys lean on what is frozen -/
def DR (K : PySem.W.Frag) (H Z : Hp) (a : Addr) (nks : List NestedKey) (ks vs : List V) : Prop := ∃ (es : Array DictEntry) (ep : Nat), H a = some (dnO a es ep) ∧ (a == sysModules) = false ∧ ks.length ≤ sizeLine ∧ nks.Nodup ∧ Ents K Z nks ks vs es.toList
/-- a dict that stands at a -/
def ExD (K : PySem.W.Frag) (Z : Hp) (a : Addr) (nks : List NestedKey) (ks vs : List V) : Prop := ∃ (es : Array DictEntry) (ep : Nat), Z a = some (dnO a es ep) ∧ (a == sysModules) = false ∧ ks.length ≤ sizeLine ∧ nks.Nodup ∧ Ents K Z nks ks vs es.toList
section
variable (K : PySem.W.Frag) (Z : Hp) (ι : Nat → Addr) (n : Nat)
mutual
inductive Rp : D → V → Prop
  | non : Rp .non .non
  | bl (b : Bool) : Rp (.bl b) (.bl b)
  | int (i : Int) : Rp (.int i) (.int i)
  | str (x : Str) : Rp (.str x) (.str x)
  | tup {ds : List D} {a : Addr} {xs : List V} : SqT K Z a xs → Rps ds xs → Rp (.tup ds) (.ref a)
  | lst {ds : List D} {a : Addr} {xs : List V} : ExL K Z a xs → Rps ds xs → Rp (.lst ds) (.ref a)
  | ref {k : Nat} : k < n → Rp (.ref k) (.ref (ι k))
  | dct {ks vs : List D} {a : Addr} {nks : List NestedKey} {kx xs : List V} : ExD K Z a nks kx xs → Rps ks kx → Rps vs xs → Rp (.dct ks vs) (.ref a)
  | ptu {ds : List D} {a : Addr} {xs : List V} : PlT Z a xs → Rps ds xs → Rp (.ptu ds) (.ref a)
inductive Rps : List D → List V → Prop
  | nil : Rps [] []
  | cons {d : D} {v : V} {ds : List D} {vs : List V} : Rp d v → Rps ds vs → Rps (d :: ds) (v :: vs)
end
end

abbrev Sub (Z Z' : Hp) : Prop := ∀ a o, Z a = some o → Z' a = some o
theorem subL {K : PySem.W.Frag} {Z Z' : Hp} (h : Sub Z Z') {a : Addr} {xs : List V} : ExL K Z a xs → ExL K Z' a xs
  | .inl (.inl e) => .inl (.inl (h _ _ e))
  | .inl (.inr ⟨o, e⟩) => .inl (.inr ⟨o, h _ _ e⟩)
  | .inr q => .inr q
theorem subT {K : PySem.W.Frag} {Z Z' : Hp} (h : Sub Z Z') {a : Addr} {xs : List V} : SqT K Z a xs → SqT K Z' a xs
  | .inl (.inl e) => .inl (.inl (h _ _ e))
  | .inl (.inr ⟨o, e⟩) => .inl (.inr ⟨o, h _ _ e⟩)
  | .inr q => .inr q

section
variable {K : PySem.W.Frag} {Z Z' : Hp}
mutual
theorem KeyV.sub (hz : Sub Z Z') : ∀ (k : NestedKey) (v : V), KeyV K Z k v → KeyV K Z' k v
  | .none, _, h => by cases h; exact .non
  | .num i, _, h => by cases h; exact .int i
  | .text x, _, h => by cases h
  | .tup ks, _, h => by
    cases h with
    | tup s r => exact .tup (subT hz s) (KeyVs.sub hz ks _ r)
theorem KeyVs.sub (hz : Sub Z Z') : ∀ (ks : List NestedKey) (vs : List V), KeyVs K Z ks vs → KeyVs K Z' ks vs
  | [], _, h => by cases h; exact .nil
  | k :: ks, _, h => by
    cases h with
    | cons r s => exact .cons (KeyV.sub hz k _ r) (KeyVs.sub hz ks _ s)
end
theorem Ents.sub (hz : Sub Z Z') : ∀ {ks : List NestedKey} {kv vs : List V} {es : List DictEntry}, Ents K Z ks kv vs es → Ents K Z' ks kv vs es
  | _, _, _, _, .nil => .nil
  | _, _, _, _, .cons a y b c d e => .cons (KeyV.sub hz _ _ a) y b c d (Ents.sub hz e)
theorem subD (hz : Sub Z Z') {a : Addr} {nks : List NestedKey} {ks vs : List V} : ExD K Z a nks ks vs → ExD K Z' a nks ks vs
  | ⟨es, ep, h1, h2, h3, h4, h5⟩ => ⟨es, ep, hz _ _ h1, h2, h3, h4, h5.sub hz⟩
end

section
variable {K : PySem.W.Frag} {Z Z' : Hp} {ι ι' : Nat → Addr} {n n' : Nat}
mutual
theorem Rp.mono (hz : Sub Z Z') (hi : ∀ k, k < n → ι' k = ι k) (hn : n ≤ n') : ∀ (d : D) (v : V), Rp K Z ι n d v → Rp K Z' ι' n' d v
  | .non, _, h => by cases h; exact .non
  | .bl b, _, h => by cases h; exact .bl b
  | .int i, _, h => by cases h; exact .int i
  | .str x, _, h => by cases h; exact .str x
  | .tup ds, _, h => by
    cases h with
    | tup s r => exact .tup (subT hz s) (Rps.mono hz hi hn ds _ r)
  | .lst ds, _, h => by
    cases h with
    | lst s r => exact .lst (subL hz s) (Rps.mono hz hi hn ds _ r)
  | .ref k, _, h => by
    cases h with
    | ref q => rw [← hi k q]; exact .ref (Nat.lt_of_lt_of_le q hn)
  | .dct ks vs, _, h => by
    cases h with
    | dct s r t => exact .dct (subD hz s) (Rps.mono hz hi hn ks _ r) (Rps.mono hz hi hn vs _ t)
  | .ptu ds, _, h => by
    cases h with
    | ptu s r => exact .ptu (let ⟨o, a, b⟩ := s; ⟨o, hz _ _ a, b⟩) (Rps.mono hz hi hn ds _ r)
theorem Rps.mono (hz : Sub Z Z') (hi : ∀ k, k < n → ι' k = ι k) (hn : n ≤ n') : ∀ (ds : List D) (vs : List V), Rps K Z ι n ds vs → Rps K Z' ι' n' ds vs
  | [], _, h => by cases h; exact .nil
  | d :: ds, _, h => by
    cases h with
    | cons r s => exact .cons (Rp.mono hz hi hn d _ r) (Rps.mono hz hi hn ds _ s)
end
theorem Rps.length : ∀ {ds : List D} {vs : List V}, Rps K Z ι n ds vs → ds.length = vs.length
  | [], _, h => by cases h; rfl
  | _ :: _, _, h => by
    cases h with
    | cons _ s => rw [List.length_cons, List.length_cons, Rps.length s]
theorem Rps.get : ∀ {ds : List D} {vs : List V} {i : Nat} {d : D}, Rps K Z ι n ds vs → ds[i]? = some d → ∃ v, vs[i]? = some v ∧ Rp K Z ι n d v
  | [], _, _, _, _, e => by simp at e
  | _ :: _, _, 0, _, h, e => by
    cases h with
    | cons r _ =>
      simp at e
      subst e
      exact ⟨_, rfl, r⟩
  | _ :: _, _, i + 1, _, h, e => by
    cases h with
    | cons _ s =>
      obtain ⟨v, h1, h2⟩ := Rps.get s (i := i) (by simpa using e)
      exact ⟨v, by simpa using h1, h2⟩
theorem Rps.append : ∀ {ds es : List D} {vs us : List V}, Rps K Z ι n ds vs → Rps K Z ι n es us → Rps K Z ι n (ds ++ es) (vs ++ us)
  | [], _, _, _, h, q => by cases h; exact q
  | _ :: _, _, _, _, h, q => by
    cases h with
    | cons r s => exact .cons r (Rps.append s q)
theorem Rps.set : ∀ {ds : List D} {vs : List V} {d : D} {v : V} (i : Nat), Rps K Z ι n ds vs → Rp K Z ι n d v → Rps K Z ι n (ds.set i d) (vs.set i v)
  | [], _, _, _, _, h, _ => by cases h; exact .nil
  | _ :: _, _, _, _, 0, h, q => by
    cases h with
    | cons _ s => exact .cons q s
  | _ :: _, _, _, _, i + 1, h, q => by
    cases h with
    | cons r s => exact .cons r (Rps.set i s q)
theorem Rps.take : ∀ {ds : List D} {vs : List V} (i : Nat), Rps K Z ι n ds vs → Rps K Z ι n (ds.take i) (vs.take i)
  | _, _, 0, _ => by rw [List.take_zero, List.take_zero]; exact .nil
  | [], _, _ + 1, h => by cases h; exact .nil
  | _ :: _, _, i + 1, h => by
    cases h with
    | cons r s => exact .cons r (Rps.take i s)
theorem Rps.drop : ∀ {ds : List D} {vs : List V} (i : Nat), Rps K Z ι n ds vs → Rps K Z ι n (ds.drop i) (vs.drop i)
  | _, _, 0, h => h
  | [], _, _ + 1, h => by cases h; exact .nil
  | _ :: _, _, i + 1, h => by
    cases h with
    | cons r s => exact Rps.drop i s
theorem Rps.erase : ∀ {ds : List D} {vs : List V} (i : Nat), Rps K Z ι n ds vs → Rps K Z ι n (ds.eraseIdx i) (vs.eraseIdx i)
  | [], _, _, h => by cases h; exact .nil
  | _ :: _, _, 0, h => by
    cases h with
    | cons r s => exact s
  | _ :: _, _, i + 1, h => by
    cases h with
    | cons r s => exact .cons r (Rps.erase i s)
theorem Rps.rep {ds : List D} {vs : List V} (h : Rps K Z ι n ds vs) : ∀ k : Nat, Rps K Z ι n (List.replicate k ds).flatten (List.replicate k vs).flatten
  | 0 => .nil
  | k + 1 => by
    rw [List.replicate_succ, List.replicate_succ, List.flatten_cons, List.flatten_cons]
    exact h.append (Rps.rep h k)
theorem Rps.ints : ∀ {is : List Int} {vs : List V}, Rps K Z ι n (is.map D.int) vs → vs = is.map V.int
  | [], _, h => by cases h; rfl
  | _ :: _, _, h => by
    cases h with
    | cons r s =>
      cases r
      rw [List.map_cons, Rps.ints s]
theorem Rps.of_ints : ∀ (is : List Int), Rps K Z ι n (is.map D.int) (is.map V.int)
  | [] => .nil
  | i :: is => .cons (.int i) (Rps.of_ints is)
end

/-! refs below a bound -/
mutual
def below (m : Nat) : D → Bool
  | .tup ds => belows m ds
  | .lst ds => belows m ds
  | .ref k => decide (k < m)
  | .dct ks vs => belows m ks && belows m vs
  | .ptu ds => belows m ds
  | _ => true
def belows (m : Nat) : List D → Bool
  | [] => true
  | d :: ds => below m d && belows m ds
end
section
variable {K : PySem.W.Frag} {Z : Hp} {ι : Nat → Addr} {n m : Nat}
mutual
theorem Rp.shrink : ∀ (d : D) (v : V), Rp K Z ι n d v → below m d = true → Rp K Z ι m d v
  | .non, _, h, _ => by cases h; exact .non
  | .bl b, _, h, _ => by cases h; exact .bl b
  | .int i, _, h, _ => by cases h; exact .int i
  | .str x, _, h, _ => by cases h; exact .str x
  | .tup ds, _, h, b => by
    cases h with
    | tup s r => exact .tup s (Rps.shrink ds _ r (by simpa [below] using b))
  | .lst ds, _, h, b => by
    cases h with
    | lst s r => exact .lst s (Rps.shrink ds _ r (by simpa [below] using b))
  | .ref k, _, h, b => by
    cases h with
    | ref q => exact .ref (by simpa [below] using b)
  | .dct ks vs, _, h, b => by
    cases h with
    | dct s r t =>
      have b' : (belows m ks && belows m vs) = true := b
      rw [Bool.and_eq_true] at b'
      exact .dct s (Rps.shrink ks _ r b'.1) (Rps.shrink vs _ t b'.2)
  | .ptu ds, _, h, b => by
    cases h with
    | ptu s r => exact .ptu s (Rps.shrink ds _ r (by simpa [below] using b))
theorem Rps.shrink : ∀ (ds : List D) (vs : List V), Rps K Z ι n ds vs → belows m ds = true → Rps K Z ι m ds vs
  | [], _, h, _ => by cases h; exact .nil
  | d :: ds, _, h, b => by
    cases h with
    | cons r s =>
      simp only [belows, Bool.and_eq_true] at b
      exact .cons (Rp.shrink d _ r b.1) (Rps.shrink ds _ s b.2)
end
end

/-! ### the heap holds the store -/
def belowO (m : Nat) : MO → Bool
  | .dead => true
  | .lst ds => belows m ds
  | .obj _ fs => belows m (fs.map (·.2))
  | .dct ks vs => belows m ks && belows m vs
  | .dki kvs => belows m (kvs.map (·.2))
def OR (K : PySem.W.Frag) (H Z : Hp) (ι : Nat → Addr) (n : Nat) : MO → Addr → Prop
  | .dead, _ => True
  | .lst ds, a => ∃ xs, H a = some (.lst xs) ∧ Rps K Z ι n ds xs
  | .obj nm fs, a => ∃ C dx gs, PySem.W.nsIn K mainGlobals nm = some (some (.ref C)) ∧ H a = some (.ins C dx gs) ∧ gs.map (·.1) = fs.map (·.1) ∧ Rps K Z ι n (fs.map (·.2)) (gs.map (·.2))
  | .dct ks vs, a => ∃ nks kx xs, DR K H Z a nks kx xs ∧ Rps K Z ι n ks kx ∧ Rps K Z ι n vs xs
  | .dki kvs, a => ∃ gs : List (L2.Key × V), H a = some (.dK gs) ∧ gs.map (·.1) = kvs.map (fun p => Sum.inl p.1) ∧ Rps K Z ι n (kvs.map (·.2)) (gs.map (·.2))
section
variable {K : PySem.W.Frag} {H Z : Hp} {ι : Nat → Addr} {n : Nat}
theorem OR.mono {Z' : Hp} {ι' : Nat → Addr} {n' : Nat} {H' : Hp} {u : MO} {a : Addr} (hz : Sub Z Z') (hi : ∀ k, k < n → ι' k = ι k) (hn : n ≤ n') (hh : ∀ o, H a = some o → H' a = some o) (h : OR K H Z ι n u a) : OR K H' Z' ι' n' u a := by
  cases u with
  | dead => trivial
  | lst ds =>
    obtain ⟨xs, e1, r⟩ := h
    exact ⟨xs, hh _ e1, Rps.mono hz hi hn _ _ r⟩
  | obj nm fs =>
    obtain ⟨C, dx, gs, e0, e1, e2, r⟩ := h
    exact ⟨C, dx, gs, e0, hh _ e1, e2, Rps.mono hz hi hn _ _ r⟩
  | dct ks vs =>
    obtain ⟨nks, kx, xs, ⟨es, ep, h1, h2, h3, h4, h5⟩, r, q⟩ := h
    exact ⟨nks, kx, xs, ⟨es, ep, hh _ h1, h2, h3, h4, h5.sub hz⟩, Rps.mono hz hi hn _ _ r, Rps.mono hz hi hn _ _ q⟩
  | dki kvs =>
    obtain ⟨gs, e1, e2, r⟩ := h
    exact ⟨gs, hh _ e1, e2, Rps.mono hz hi hn _ _ r⟩
theorem OR.shrink {u : MO} {a : Addr} {m : Nat} (h : OR K H Z ι n u a) (b : belowO m u = true) : OR K H Z ι m u a := by
  cases u with
  | dead => trivial
  | lst ds =>
    obtain ⟨xs, e1, r⟩ := h
    exact ⟨xs, e1, Rps.shrink _ _ r b⟩
  | obj nm fs =>
    obtain ⟨C, dx, gs, e0, e1, e2, r⟩ := h
    exact ⟨C, dx, gs, e0, e1, e2, Rps.shrink _ _ r b⟩
  | dct ks vs =>
    obtain ⟨nks, kx, xs, d, r, q⟩ := h
    have b' : (belows m ks && belows m vs) = true := b
    rw [Bool.and_eq_true] at b'
    exact ⟨nks, kx, xs, d, Rps.shrink _ _ r b'.1, Rps.shrink _ _ q b'.2⟩
  | dki kvs =>
    obtain ⟨gs, e1, e2, r⟩ := h
    exact ⟨gs, e1, e2, Rps.shrink _ _ r b⟩
/-- what leans on nothing of ours -/
theorem OR.low {ι' : Nat → Addr} {n' : Nat} {u : MO} {a : Addr} (h : OR K H Z ι n u a) (b : belowO 0 u = true) : OR K H Z ι' n' u a :=
  OR.mono (fun _ _ z => z) (fun _ z => absurd z (Nat.not_lt_zero _)) (Nat.zero_le _) (fun _ z => z) (h.shrink b)
end
structure HR (K : PySem.W.Frag) (H Z : Hp) (ι : Nat → Addr) (M : List MO) : Prop where
  sub : Sub Z H
  ali : ∀ k, k < M.length → ∃ o, H (ι k) = some o
  sep : ∀ (k : Nat) (o : MO), M[k]? = some o → o ≠ .dead → Z (ι k) = none
  inj : ∀ (j k : Nat) (o u : MO), M[j]? = some o → M[k]? = some u → o ≠ .dead → u ≠ .dead → ι j = ι k → j = k
  obj : ∀ (k : Nat) (o : MO), M[k]? = some o → OR K H Z ι M.length o (ι k)
  ded : ∀ (k : Nat), M[k]? = some .dead → ∃ o, Z (ι k) = some o
theorem HR.apart {K : PySem.W.Frag} {H Z : Hp} {ι : Nat → Addr} {M : List MO} (h : HR K H Z ι M) {j k : Nat} {o : MO} (hj : j < M.length) (hk : M[k]? = some o) (d : o ≠ .dead) (ne : j ≠ k) : ι j ≠ ι k := fun e => by
  have ej : M[j]? = some M[j] := List.getElem?_eq_getElem hj
  by_cases dj : M[j] = .dead
  · rw [dj] at ej
    obtain ⟨u, hu⟩ := h.ded j ej
    rw [e, h.sep k o hk d] at hu
    cases hu
  · exact ne (h.inj j k _ o ej hk dj d e)
structure Ext (H Z : Hp) (ι : Nat → Addr) (n : Nat) (H' Z' : Hp) (ι' : Nat → Addr) (n' : Nat) : Prop where
  zz : Sub Z Z'
  ii : ∀ k, k < n → ι' k = ι k
  fr : ∀ a o, H a = some o → (∀ k, k < n → a ≠ ι k) → H' a = some o
  nw : ∀ k, n ≤ k → k < n' → H (ι' k) = none
  ln : n ≤ n'
  zn : ∀ a o, Z' a = some o → Z a = some o ∨ H a = none ∨ ∃ k, k < n ∧ a = ι k
theorem Ext.refl {H Z : Hp} {ι : Nat → Addr} {n : Nat} : Ext H Z ι n H Z ι n :=
  ⟨fun _ _ h => h, fun _ _ => rfl, fun _ _ h _ => h, fun k h1 h2 => absurd h2 (Nat.not_lt.mpr h1), Nat.le_refl _, fun _ _ h => .inl h⟩
theorem Ext.trans {H Z H1 Z1 H2 Z2 : Hp} {ι ι1 ι2 : Nat → Addr} {n n1 n2 : Nat} (a : Ext H Z ι n H1 Z1 ι1 n1) (b : Ext H1 Z1 ι1 n1 H2 Z2 ι2 n2) (al : ∀ k, k < n1 → ∃ o, H1 (ι1 k) = some o) : Ext H Z ι n H2 Z2 ι2 n2 where
  zz := fun x o h => b.zz x o (a.zz x o h)
  ii := fun k h => (b.ii k (Nat.lt_of_lt_of_le h a.ln)).trans (a.ii k h)
  fr := fun x o h hk => by
    refine b.fr x o (a.fr x o h hk) fun k hk1 e => ?_
    by_cases hn : k < n
    · exact hk k hn (e.trans (a.ii k hn))
    · have q := a.nw k (Nat.le_of_not_lt hn) hk1
      rw [← e, h] at q
      cases q
  nw := fun k h1 h2 => by
    by_cases hn : k < n1
    · rw [b.ii k hn]
      exact a.nw k h1 hn
    · have q := b.nw k (Nat.le_of_not_lt hn) h2
      cases e : H (ι2 k) with
      | none => rfl
      | some o =>
        by_cases z : ∀ j, j < n → ι2 k ≠ ι j
        · rw [a.fr _ _ e z] at q
          cases q
        · exfalso
          apply z
          intro j hj ej
          obtain ⟨u, hu⟩ := al j (Nat.lt_of_lt_of_le hj a.ln)
          rw [a.ii j hj, ← ej, q] at hu
          cases hu
  ln := Nat.le_trans a.ln b.ln
  zn := fun x o h => by
    have low : ∀ u, H1 x = none → H x = some u → ∃ k, k < n ∧ x = ι k := fun u h1 hu => by
      refine Classical.byContradiction fun z => ?_
      rw [a.fr x u hu fun k hk e => z ⟨k, hk, e⟩] at h1
      cases h1
    have fin : H1 x = none → Z x = some o ∨ H x = none ∨ ∃ k, k < n ∧ x = ι k := fun h1 => by
      cases e : H x with
      | none => exact .inr (.inl rfl)
      | some u => exact .inr (.inr (low u h1 e))
    rcases b.zn x o h with h | h | ⟨k, hk, e⟩
    · exact a.zn x o h
    · exact fin h
    · by_cases hn : k < n
      · exact .inr (.inr ⟨k, hn, e.trans (a.ii k hn)⟩)
      · exact .inr (.inl (by rw [e]; exact a.nw k (Nat.le_of_not_lt hn) hk))
/-- the store is cut -/
theorem Ext.cut {H Z H1 Z1 : Hp} {ι ι1 : Nat → Addr} {n n1 m : Nat} (a : Ext H Z ι n H1 Z1 ι1 n1) (h1 : n ≤ m) (h2 : m ≤ n1) : Ext H Z ι n H1 Z1 ι1 m :=
  ⟨a.zz, a.ii, a.fr, fun k q1 q2 => a.nw k q1 (Nat.lt_of_lt_of_le q2 h2), h1, a.zn⟩
section
variable {K : PySem.W.Frag} {H Z H' Z' : Hp} {ι ι' : Nat → Addr} {M : List MO} {n' : Nat}
theorem Rp.ext {d : D} {v : V} {n : Nat} (r : Rp K Z ι n d v) (e : Ext H Z ι n H' Z' ι' n') : Rp K Z' ι' n' d v := Rp.mono e.zz e.ii e.ln d v r
theorem Rps.ext {ds : List D} {vs : List V} {n : Nat} (r : Rps K Z ι n ds vs) (e : Ext H Z ι n H' Z' ι' n') : Rps K Z' ι' n' ds vs := Rps.mono e.zz e.ii e.ln ds vs r
/-- a new thing that will not be changed -/
theorem HR.frozen (h : HR K H Z ι M) {p : Addr} {o : HO} (hp : H p = none) : HR K (upd H p o) (upd Z p o) ι M ∧ Ext H Z ι M.length (upd H p o) (upd Z p o) ι M.length := by
  have zp : Z p = none := by
    cases e : Z p with
    | none => rfl
    | some u =>
      rw [h.sub _ _ e] at hp
      cases hp
  have ne : ∀ k, k < M.length → ι k ≠ p := fun k hk e => by
    obtain ⟨u, hu⟩ := h.ali k hk
    rw [e, hp] at hu
    cases hu
  have lt : ∀ {k : Nat} {u : MO}, M[k]? = some u → k < M.length := fun e => (List.getElem?_eq_some_iff.mp e).1
  have s1 : Sub Z (upd Z p o) := fun a u e => by rw [upd_ne (ne_of_none e zp)]; exact e
  refine ⟨⟨fun a u e => ?_, fun k hk => ?_, fun k u e d => ?_, h.inj, fun k u e => ?_, fun k e => ?_⟩, s1, fun _ _ => rfl, fun a u e _ => ?_, fun k h1 h2 => absurd h2 (Nat.not_lt.mpr h1), Nat.le_refl _, fun a u e => ?_⟩
  · by_cases ha : a = p
    · subst ha
      rw [upd_same] at e ⊢
      exact e
    · rw [upd_ne ha] at e ⊢
      exact h.sub _ _ e
  · rw [upd_ne (ne k hk)]
    exact h.ali k hk
  · rw [upd_ne (ne k (lt e))]
    exact h.sep k u e d
  · exact OR.mono s1 (fun _ _ => rfl) (Nat.le_refl _) (fun o z => by rw [upd_ne (ne k (lt e))]; exact z) (h.obj k u e)
  · obtain ⟨u, hu⟩ := h.ded k e
    exact ⟨u, s1 _ _ hu⟩
  · rw [upd_ne (ne_of_none e hp)]
    exact e
  · by_cases ha : a = p
    · subst ha
      exact .inr (.inl hp)
    · rw [upd_ne ha] at e
      exact .inl e
def put (ι : Nat → Addr) (m : Nat) (p : Addr) : Nat → Addr := fun k => if k = m then p else ι k
theorem put_at {ι : Nat → Addr} {m : Nat} {p : Addr} : put ι m p m = p := if_pos rfl
theorem put_lt {ι : Nat → Addr} {m k : Nat} {p : Addr} (h : k < m) : put ι m p k = ι k := if_neg (Nat.ne_of_lt h)
/-- a new thing of ours -/
theorem HR.owned (h : HR K H Z ι M) {p : Addr} {ds : List D} {xs : List V} (hp : H p = none) (r : Rps K Z ι M.length ds xs) :
    HR K (upd H p (.lst xs)) Z (put ι M.length p) (M ++ [.lst ds]) ∧ Ext H Z ι M.length (upd H p (.lst xs)) Z (put ι M.length p) (M ++ [MO.lst ds]).length := by
  have zp : Z p = none := by
    cases e : Z p with
    | none => rfl
    | some u =>
      rw [h.sub _ _ e] at hp
      cases hp
  have ne : ∀ k, k < M.length → ι k ≠ p := fun k hk e => by
    obtain ⟨u, hu⟩ := h.ali k hk
    rw [e, hp] at hu
    cases hu
  have ii : ∀ k, k < M.length → (put ι M.length p) k = ι k := fun k hk => put_lt hk
  have il : (put ι M.length p) M.length = p := put_at
  have cs : ∀ {k : Nat} {u : MO}, (M ++ [MO.lst ds])[k]? = some u → (k < M.length ∧ M[k]? = some u) ∨ (k = M.length ∧ u = .lst ds) := fun {k u} e => by
    by_cases hk : k < M.length
    · rw [List.getElem?_append_left hk] at e
      exact .inl ⟨hk, e⟩
    · rw [List.getElem?_append_right (Nat.le_of_not_lt hk)] at e
      by_cases hz : k - M.length = 0
      · rw [hz] at e
        exact .inr ⟨by omega, (Option.some.inj e).symm⟩
      · rw [List.getElem?_eq_none (by simp; omega)] at e
        cases e
  have ln : (M ++ [MO.lst ds]).length = M.length + 1 := by simp
  refine ⟨⟨fun a u e => ?_, fun k hk => ?_, fun k u e d => ?_, fun j k o u e1 e2 d1 d2 e => ?_, fun k u e => ?_, fun k e => ?_⟩, fun _ _ e => e, ii, fun a u e _ => ?_, fun k h1 h2 => ?_, by rw [ln]; omega, fun _ _ e => .inl e⟩
  · rw [upd_ne (ne_of_none e zp)]
    exact h.sub _ _ e
  · rw [ln] at hk
    by_cases hk' : k < M.length
    · rw [ii k hk', upd_ne (ne k hk')]
      exact h.ali k hk'
    · have : k = M.length := by omega
      subst this
      exact ⟨_, by rw [il, upd_same]⟩
  · rcases cs e with ⟨hk, e⟩ | ⟨rfl, rfl⟩
    · rw [ii k hk]
      exact h.sep k u e d
    · rw [il]
      exact zp
  · rcases cs e1 with ⟨hj, e1⟩ | ⟨rfl, rfl⟩ <;> rcases cs e2 with ⟨hk, e2⟩ | ⟨rfl, rfl⟩
    · rw [ii j hj, ii k hk] at e
      exact h.inj j k o u e1 e2 d1 d2 e
    · rw [ii j hj, il] at e
      exact absurd e (ne j hj)
    · rw [ii k hk, il] at e
      exact absurd e.symm (ne k hk)
    · rfl
  · rcases cs e with ⟨hk, e⟩ | ⟨rfl, rfl⟩
    · rw [ii k hk]
      exact OR.mono (fun _ _ z => z) ii (by rw [ln]; omega) (fun o z => by rw [upd_ne (ne k hk)]; exact z) (h.obj k u e)
    · rw [il]
      exact ⟨xs, upd_same, Rps.mono (fun _ _ z => z) ii (by rw [ln]; omega) _ _ r⟩
  · rcases cs e with ⟨hk, e⟩ | ⟨_, e⟩
    · rw [ii k hk]
      exact h.ded k e
    · cases e
  · rw [upd_ne (ne_of_none e hp)]
    exact e
  · rw [ln] at h2
    have : k = M.length := by omega
    subst this
    rw [il]
    exact hp
/-- one of ours is changed -/
theorem HR.change (h : HR K H Z ι M) {j : Nat} {es ds : List D} {xs : List V} (hj : M[j]? = some (.lst es)) (r : Rps K Z ι M.length ds xs) :
    HR K (upd H (ι j) (.lst xs)) Z ι (M.set j (.lst ds)) ∧ Ext H Z ι M.length (upd H (ι j) (.lst xs)) Z ι (M.set j (.lst ds)).length := by
  have lt : j < M.length := (List.getElem?_eq_some_iff.mp hj).1
  have ln : (M.set j (MO.lst ds)).length = M.length := List.length_set
  have zj : Z (ι j) = none := h.sep j _ hj (by simp)
  have cs : ∀ {k : Nat} {u : MO}, (M.set j (.lst ds))[k]? = some u → (k ≠ j ∧ M[k]? = some u) ∨ (k = j ∧ u = .lst ds) := fun {k u} e => by
    by_cases hk : k = j
    · subst hk
      rw [List.getElem?_set_self lt] at e
      exact .inr ⟨rfl, (Option.some.inj e).symm⟩
    · rw [List.getElem?_set_ne (Ne.symm hk)] at e
      exact .inl ⟨hk, e⟩
  have apart : ∀ {k : Nat} {u : MO}, k ≠ j → M[k]? = some u → u ≠ .dead → ι k ≠ ι j := fun {k u} hk e d z => hk (h.inj k j u _ e hj d (by simp) z)
  refine ⟨⟨fun a u e => ?_, fun k hk => ?_, fun k u e d => ?_, fun a b o u e1 e2 d1 d2 e => ?_, fun k u e => ?_, fun k e => ?_⟩, fun _ _ e => e, fun _ _ => rfl, fun a u e z => ?_, fun k h1 h2 => absurd h2 (by rw [ln]; exact Nat.not_lt.mpr h1), by rw [ln]; exact Nat.le_refl _, fun _ _ e => .inl e⟩
  · rw [upd_ne (ne_of_none e zj)]
    exact h.sub _ _ e
  · rw [ln] at hk
    by_cases e : ι k = ι j
    · exact ⟨_, by rw [e, upd_same]⟩
    · rw [upd_ne e]
      exact h.ali k hk
  · rcases cs e with ⟨hk, e⟩ | ⟨rfl, rfl⟩
    · exact h.sep k u e d
    · exact zj
  · have live : ∀ {k : Nat} {u : MO}, (M.set j (.lst ds))[k]? = some u → u ≠ .dead → ∃ u', M[k]? = some u' ∧ u' ≠ .dead := fun {k u} e d => by
      rcases cs e with ⟨_, e⟩ | ⟨rfl, rfl⟩
      · exact ⟨u, e, d⟩
      · exact ⟨_, hj, by simp⟩
    obtain ⟨o', e1', d1'⟩ := live e1 d1
    obtain ⟨u', e2', d2'⟩ := live e2 d2
    exact h.inj a b o' u' e1' e2' d1' d2' e
  · rw [ln]
    rcases cs e with ⟨hk, e⟩ | ⟨rfl, rfl⟩
    · by_cases du : u = .dead
      · subst du
        trivial
      · exact OR.mono (fun _ _ z => z) (fun _ _ => rfl) (Nat.le_refl _) (fun o z => by rw [upd_ne (apart hk e du)]; exact z) (h.obj k u e)
    · exact ⟨xs, upd_same, r⟩
  · rcases cs e with ⟨_, e⟩ | ⟨_, e⟩
    · exact h.ded k e
    · cases e
  · rw [upd_ne (z j lt)]
    exact e
/-- one of ours will not be changed any more -/
theorem HR.freezeG (h : HR K H Z ι M) {j : Nat} {o : MO} {ho : HO} (hj : M[j]? = some o) (hd : o ≠ .dead) (e1 : H (ι j) = some ho) :
    HR K H (upd Z (ι j) ho) ι (M.set j .dead) ∧ Ext H Z ι M.length H (upd Z (ι j) ho) ι (M.set j MO.dead).length ∧ Sub Z (upd Z (ι j) ho) := by
  have lt : j < M.length := (List.getElem?_eq_some_iff.mp hj).1
  have ln : (M.set j MO.dead).length = M.length := List.length_set
  have zj : Z (ι j) = none := h.sep j _ hj hd
  have s1 : Sub Z (upd Z (ι j) ho) := fun a u e => by rw [upd_ne (ne_of_none e zj)]; exact e
  have cs : ∀ {k : Nat} {u : MO}, (M.set j .dead)[k]? = some u → u ≠ .dead → k ≠ j ∧ M[k]? = some u := fun {k u} e d => by
    by_cases hk : k = j
    · subst hk
      rw [List.getElem?_set_self lt] at e
      exact absurd (Option.some.inj e).symm d
    · rw [List.getElem?_set_ne (Ne.symm hk)] at e
      exact ⟨hk, e⟩
  refine ⟨⟨fun a u e => ?_, fun k hk => h.ali k (by rw [ln] at hk; exact hk), fun k u e d => ?_, fun a b o u q1 q2 d1 d2 e => ?_, fun k u e => ?_, fun k e => ?_⟩, ⟨s1, fun _ _ => rfl, fun a u e _ => e, fun k h1 h2 => absurd h2 (by rw [ln]; exact Nat.not_lt.mpr h1), by rw [ln]; exact Nat.le_refl _, fun a u e => ?_⟩, s1⟩
  · by_cases ha : a = ι j
    · subst ha
      rw [upd_same] at e
      cases e
      exact e1
    · rw [upd_ne ha] at e
      exact h.sub _ _ e
  · obtain ⟨hk, e⟩ := cs e d
    rw [upd_ne fun z => hk (h.inj k j u _ e hj d hd z)]
    exact h.sep k u e d
  · exact h.inj a b o u (cs q1 d1).2 (cs q2 d2).2 d1 d2 e
  · rw [ln]
    by_cases du : u = .dead
    · subst du
      trivial
    · exact OR.mono s1 (fun _ _ => rfl) (Nat.le_refl _) (fun _ z => z) (h.obj k u (cs e du).2)
  · by_cases hk : k = j
    · subst hk
      exact ⟨_, upd_same⟩
    · rw [List.getElem?_set_ne (Ne.symm hk)] at e
      obtain ⟨u, hu⟩ := h.ded k e
      exact ⟨u, s1 _ _ hu⟩
  · by_cases ha : a = ι j
    · exact .inr (.inr ⟨j, lt, ha⟩)
    · rw [upd_ne ha] at e
      exact .inl e
/-- a list of ours will not be changed any more -/
theorem HR.freeze (h : HR K H Z ι M) {j : Nat} {ds : List D} (hj : M[j]? = some (.lst ds)) :
    ∃ xs, Rps K Z ι M.length ds xs ∧ HR K H (upd Z (ι j) (.lst xs)) ι (M.set j .dead) ∧ Ext H Z ι M.length H (upd Z (ι j) (.lst xs)) ι (M.set j MO.dead).length ∧ Rp K (upd Z (ι j) (.lst xs)) ι (M.set j MO.dead).length (.lst ds) (.ref (ι j)) := by
  have ln : (M.set j MO.dead).length = M.length := List.length_set
  obtain ⟨xs, e1, r⟩ := h.obj j _ hj
  obtain ⟨a, b, s1⟩ := h.freezeG hj (by simp) e1
  refine ⟨xs, r, a, b, ?_⟩
  rw [ln]
  exact .lst (.inl (.inl upd_same)) (Rps.mono s1 (fun _ _ => rfl) (Nat.le_refl _) _ _ r)
/-- a dict of ours will not be changed any more -/
theorem HR.freezeD (h : HR K H Z ι M) {j : Nat} {ks vs : List D} (hj : M[j]? = some (.dct ks vs)) :
    ∃ ho, H (ι j) = some ho ∧ HR K H (upd Z (ι j) ho) ι (M.set j .dead) ∧ Ext H Z ι M.length H (upd Z (ι j) ho) ι (M.set j MO.dead).length ∧ Rp K (upd Z (ι j) ho) ι (M.set j MO.dead).length (.dct ks vs) (.ref (ι j)) := by
  have ln : (M.set j MO.dead).length = M.length := List.length_set
  obtain ⟨nks, kx, xs, ⟨es, ep, h1, h2, h3, h4, h5⟩, r, q⟩ := h.obj j _ hj
  obtain ⟨a, b, s1⟩ := h.freezeG hj (by simp) h1
  refine ⟨_, h1, a, b, ?_⟩
  rw [ln]
  exact .dct ⟨es, ep, upd_same, h2, h3, h4, h5.sub s1⟩ (Rps.mono s1 (fun _ _ => rfl) (Nat.le_refl _) _ _ r) (Rps.mono s1 (fun _ _ => rfl) (Nat.le_refl _) _ _ q)
end
/-- a cut: what is left leans on nothing that was cut off -/
def cutOk (m : Nat) (M : List MO) : Bool := (M.take m).all (belowO m)
theorem HR.cut {K : PySem.W.Frag} {H Z : Hp} {ι : Nat → Addr} {M : List MO} (h : HR K H Z ι M) {m : Nat} (hm : m ≤ M.length) (c : cutOk m M = true) : HR K H Z ι (M.take m) := by
  have ln : (M.take m).length = m := by rw [List.length_take]; omega
  have cs : ∀ {k : Nat} {u : MO}, (M.take m)[k]? = some u → M[k]? = some u ∧ belowO m u = true := fun {k u} e => by
    have lk : k < m := by
      have := (List.getElem?_eq_some_iff.mp e).1
      rw [ln] at this
      exact this
    have e' := e
    rw [List.getElem?_take_of_lt lk] at e'
    exact ⟨e', List.all_eq_true.mp c u (List.mem_of_getElem? e)⟩
  refine ⟨h.sub, fun k hk => h.ali k (by rw [ln] at hk; omega), fun k u e d => h.sep k u (cs e).1 d, fun a b o u e1 e2 d1 d2 e => h.inj a b o u (cs e1).1 (cs e2).1 d1 d2 e, fun k u e => ?_, fun k e => h.ded k (cs e).1⟩
  rw [ln]
  obtain ⟨e1, b⟩ := cs e
  exact (h.obj k u e1).shrink b
end Bk

set_option Elab.async false
set_option linter.all false
set_option maxRecDepth 100000
set_option maxHeartbeats 1000000
namespace Bk
open PySem PySem.Spec PyProof.Rows L2

/-! ### what is shown of a piece of syntax -/
abbrev St := L2.St
/-- the classes of errors: where each stands, and its one attribute -/
structure CT where
  at_ : Nat → Addr
  nm : Nat → Str
def ExcR (K : PySem.W.Frag) (C : CT) (H Z : Hp) (ι : Nat → Addr) (n c : Nat) (d : D) (cls : Value) (dd : Option Addr) : Prop :=
  cls = .ref (C.at_ c) ∧ ∃ a v, dd = some a ∧ Z a = some (.xd [(C.nm c, v)]) ∧ Rp K Z ι n d v
def Slots (K : PySem.W.Frag) (Z : Hp) (ι : Nat → Addr) (n : Nat) (Γ : Env) (σ : St) : Prop :=
  Γ.length = σ.length ∧ ∀ (i : Nat) (d : D), Γ[i]? = some (some d) → ∃ v, σ[i]? = some (some v) ∧ Rp K Z ι n d v
theorem Slots.ext {K : PySem.W.Frag} {H Z H' Z' : Hp} {ι ι' : Nat → Addr} {n n' : Nat} {Γ : Env} {σ : St} (s : Slots K Z ι n Γ σ) (e : Ext H Z ι n H' Z' ι' n') : Slots K Z' ι' n' Γ σ :=
  ⟨s.1, fun i d h => let ⟨v, h1, h2⟩ := s.2 i d h; ⟨v, h1, h2.ext e⟩⟩
theorem Slots.set {K : PySem.W.Frag} {Z : Hp} {ι : Nat → Addr} {n : Nat} {Γ : Env} {σ : St} (s : Slots K Z ι n Γ σ) (i : Nat) {d : D} {v : V} (r : Rp K Z ι n d v) : Slots K Z ι n (Γ.set i (some d)) (σ.set i (some v)) := by
  refine ⟨by rw [List.length_set, List.length_set]; exact s.1, fun j e h => ?_⟩
  by_cases hj : i = j
  · subst hj
    have lt : i < Γ.length := by
      have := (List.getElem?_eq_some_iff.mp h).1
      rw [List.length_set] at this
      exact this
    rw [List.getElem?_set_self lt] at h
    have q := Option.some.inj (Option.some.inj h)
    subst q
    exact ⟨v, List.getElem?_set_self (by rw [← s.1]; exact lt), r⟩
  · rw [List.getElem?_set_ne hj] at h
    rw [List.getElem?_set_ne hj]
    exact s.2 j e h
/-- slots are forgotten -/
def forget (Γ : Env) : List Nat → Env
  | [] => Γ
  | i :: is => forget (Γ.set i none) is
theorem Slots.forget {K : PySem.W.Frag} {Z : Hp} {ι : Nat → Addr} {n : Nat} {σ : St} : ∀ (is : List Nat) {Γ : Env}, Slots K Z ι n Γ σ → Slots K Z ι n (forget Γ is) σ
  | [], _, s => s
  | i :: is, Γ, s => Slots.forget is ⟨by rw [List.length_set]; exact s.1, fun j e h => by
      by_cases hj : i = j
      · subst hj
        have lt : i < Γ.length := by
          have := (List.getElem?_eq_some_iff.mp h).1
          rw [List.length_set] at this
          exact this
        rw [List.getElem?_set_self lt] at h
        cases h
      · rw [List.getElem?_set_ne hj] at h
        exact s.2 j e h⟩
/-- what leans on nothing that is cut off stays -/
def clean (m : Nat) (Γ : Env) : Env := Γ.map fun o => match o with
  | some d => if below m d = true then some d else none
  | none => none
theorem Slots.cut {K : PySem.W.Frag} {Z : Hp} {ι : Nat → Addr} {n m : Nat} {Γ : Env} {σ : St} (s : Slots K Z ι n Γ σ) : Slots K Z ι m (clean m Γ) σ := by
  refine ⟨by unfold clean; rw [List.length_map]; exact s.1, fun i d h => ?_⟩
  unfold clean at h
  rw [List.getElem?_map] at h
  cases e : Γ[i]? with
  | none => rw [e] at h; cases h
  | some o =>
    cases o with
    | none => rw [e] at h; cases h
    | some d' =>
      rw [e] at h
      have h' : (if below m d' = true then some d' else none) = some d := Option.some.inj h
      by_cases hb : below m d' = true
      · rw [if_pos hb] at h'
        have q := Option.some.inj h'
        subst q
        obtain ⟨v, h1, h2⟩ := s.2 i d' e
        exact ⟨v, h1, h2.shrink _ _ hb⟩
      · rw [if_neg hb] at h'
        cases h'

abbrev RpK (α β : Type) := Hp → (Nat → Addr) → Nat → α → β → Prop
abbrev rpE (K : PySem.W.Frag) : RpK D V := fun Z ι n d v => Rp K Z ι n d v
abbrev rpA (K : PySem.W.Frag) : RpK (List D) (List V) := fun Z ι n d v => Rps K Z ι n d v
abbrev rpT : RpK Bool Bool := fun _ _ _ a b => a = b
def Post {α β : Type} (X : Cx) (C : CT) (W : WX) (rp : RpK α β) (σ : St) (H Z : Hp) (ι : Nat → Addr) (M : List MO) (r : R α) (Q : β → Hp → Prop) : Prop := match r with
  | .ok a M' => ∀ (b : β) (H' Z' : Hp) (ι' : Nat → Addr), Ext H Z ι M.length H' Z' ι' M'.length → HR X.K H' Z' ι' M' → rp Z' ι' M'.length a b → Q b H'
  | .exc c d M' => ∀ (cls : Value) (dd : Option Addr) (H' Z' : Hp) (ι' : Nat → Addr), Ext H Z ι M.length H' Z' ι' M'.length → HR X.K H' Z' ι' M' → ExcR X.K C H' Z' ι' M'.length c d cls dd → W cls dd σ H'
  | .bad => False
section
variable {X : Cx} {C : CT} {W : WX} {σ : St} {H Z H1 Z1 : Hp} {ι ι1 : Nat → Addr} {M M1 : List MO}
theorem Post.shift {α β : Type} {rp : RpK α β} {r : R α} {Q : β → Hp → Prop} (h : Post X C W rp σ H Z ι M r Q) (e : Ext H Z ι M.length H1 Z1 ι1 M1.length) (hr : HR X.K H1 Z1 ι1 M1) : Post X C W rp σ H1 Z1 ι1 M1 r Q := by
  cases r with
  | ok a M' => exact fun b H' Z' ι' e' hr' rb => h b H' Z' ι' (e.trans e' hr.ali) hr' rb
  | exc c d M' => exact fun cls dd H' Z' ι' e' hr' rb => h cls dd H' Z' ι' (e.trans e' hr.ali) hr' rb
  | bad => exact h
theorem Post.bind {α β γ δ : Type} {rp1 : RpK α β} {rp2 : RpK γ δ} {r : R α} {f : α → List MO → R γ} {Q : δ → Hp → Prop} {Q1 : β → Hp → Prop} (h : Post X C W rp2 σ H Z ι M (r.bind f) Q)
    (k : ∀ (a : α) (M1 : List MO) (b : β) (H1 Z1 : Hp) (ι1 : Nat → Addr), Ext H Z ι M.length H1 Z1 ι1 M1.length → HR X.K H1 Z1 ι1 M1 → rp1 Z1 ι1 M1.length a b → Post X C W rp2 σ H1 Z1 ι1 M1 (f a M1) Q → Q1 b H1) :
    Post X C W rp1 σ H Z ι M r Q1 := by
  cases r with
  | ok a M' => exact fun b H' Z' ι' e' hr' rb => k a M' b H' Z' ι' e' hr' rb (Post.shift (r := f a M') h e' hr')
  | exc c d M' => exact h
  | bad => exact h
end

/-- an expression is computed by g -/
def QE (X : Cx) (C : CT) (W : WX) (e : Expr) (g : GE) : Prop := ∃ te, PE X e te ∧ ∀ (σ : St) (H Z : Hp) (ι : Nat → Addr) (Γ : Env) (M : List MO) (Q : VK), Slots X.K Z ι M.length Γ σ → HR X.K H Z ι M → Post X C W (rpE X.K) σ H Z ι M (g Γ M) Q → te σ H Q
def QT (X : Cx) (C : CT) (W : WX) (e : Expr) (g : GT) : Prop := ∃ te, PT X e te ∧ ∀ (σ : St) (H Z : Hp) (ι : Nat → Addr) (Γ : Env) (M : List MO) (Q : Bool → Hp → Prop), Slots X.K Z ι M.length Γ σ → HR X.K H Z ι M → Post X C W rpT σ H Z ι M (g Γ M) Q → te σ H Q
def QW (X : Cx) (C : CT) (W : WX) (e : Expr) (g : GT) : Prop := ∃ te, PW X e te ∧ ∀ (σ : St) (H Z : Hp) (ι : Nat → Addr) (Γ : Env) (M : List MO) (Q : Bool → Hp → Prop), Slots X.K Z ι M.length Γ σ → HR X.K H Z ι M → Post X C W rpT σ H Z ι M (g Γ M) Q → te σ H Q
def QA (X : Cx) (C : CT) (W : WX) (es : List Expr) (g : GA) : Prop := ∃ te, PA X es te ∧ ∀ (σ : St) (H Z : Hp) (ι : Nat → Addr) (Γ : Env) (M : List MO) (Q : List V → Hp → Prop), Slots X.K Z ι M.length Γ σ → HR X.K H Z ι M → Post X C W (rpA X.K) σ H Z ι M (g Γ M) Q → te σ H Q

/-! ### the functions that compute -/
def opR {α : Type} (o : Option α) (M : List MO) : R α := match o with
  | some a => .ok a M
  | none => .bad
def gV (i : Nat) : GE := fun Γ M => match Γ[i]? with
  | some (some d) => .ok d M
  | _ => .bad
def gC (d : D) : GE := fun _ M => .ok d M
def gOp2 (f : List MO → D → D → Option D) (ga gb : GE) : GE := fun Γ M => (ga Γ M).bind fun x M1 => (gb Γ M1).bind fun y M2 => opR (f M2 x y) M2
def gOp1 (f : List MO → D → Option D) (ga : GE) : GE := fun Γ M => (ga Γ M).bind fun x M1 => opR (f M1 x) M1
def gNil : GA := fun _ M => .ok [] M
def gCons (ga : GE) (gr : GA) : GA := fun Γ M => (ga Γ M).bind fun x M1 => (gr Γ M1).bind fun xs M2 => .ok (x :: xs) M2
def gTup (ga : GA) : GE := fun Γ M => (ga Γ M).bind fun xs M1 => if xs.length ≤ sizeLine then .ok (.tup xs) M1 else .bad
def gLst (ga : GA) : GE := fun Γ M => (ga Γ M).bind fun xs M1 => if xs.length ≤ sizeLine then .ok (.lst xs) M1 else .bad
def gLstO (ga : GA) : GE := fun Γ M => (ga Γ M).bind fun xs M1 => if xs.length ≤ sizeLine then .ok (.ref M1.length) (M1 ++ [.lst xs]) else .bad
def gCall (f : List MO → List D → Option D) (ga : GA) : GE := fun Γ M => (ga Γ M).bind fun xs M1 => opR (f M1 xs) M1
def toBl : D → Option Bool
  | .bl b => some b
  | _ => none
def gVal (ga : GE) : GT := fun Γ M => (ga Γ M).bind fun x M1 => opR (toBl x) M1
def gAndT (a b : GT) : GT := fun Γ M => (a Γ M).bind fun c M1 => if c = true then b Γ M1 else .ok false M1
def gOrT (a b : GT) : GT := fun Γ M => (a Γ M).bind fun c M1 => if c = true then .ok true M1 else b Γ M1
def gNotT (a : GT) : GT := fun Γ M => (a Γ M).bind fun c M1 => .ok (!c) M1
def gIfE (c : GT) (a b : GE) : GE := fun Γ M => (c Γ M).bind fun k M1 => if k = true then a Γ M1 else b Γ M1
def gAndV (a b : GE) : GE := fun Γ M => (a Γ M).bind fun x M1 => match x with
  | .bl c => if c = true then b Γ M1 else .ok (.bl false) M1
  | _ => .bad
def gOrV (a b : GE) : GE := fun Γ M => (a Γ M).bind fun x M1 => match x with
  | .bl c => if c = true then .ok (.bl true) M1 else b Γ M1
  | _ => .bad
def gChain (f f' : List MO → D → D → Option D) (ga gb gc : GE) : GE := fun Γ M => (ga Γ M).bind fun x M1 => (gb Γ M1).bind fun y M2 => (opR (f M2 x y) M2).bind fun k M3 => match k with
  | .bl c => if c = true then (gc Γ M3).bind fun z M4 => opR (f' M4 y z) M4 else .ok (.bl false) M3
  | _ => .bad

section
variable {X : Cx} {C : CT} {W : WX}
/-- a result that is new and will not be changed, or an old one -/
def After (X : Cx) (H Z : Hp) (ι : Nat → Addr) (M : List MO) (d : D) (Q : VK) : Prop := ∀ (v : V) (H' Z' : Hp), Ext H Z ι M.length H' Z' ι M.length → HR X.K H' Z' ι M → Rp X.K Z' ι M.length d v → Q v H'
theorem After.now {H Z : Hp} {ι : Nat → Addr} {M : List MO} {d : D} {Q : VK} {v : V} (h : After X H Z ι M d Q) (hr : HR X.K H Z ι M) (r : Rp X.K Z ι M.length d v) : Q v H := h v H Z .refl hr r
theorem After.lst {H Z : Hp} {ι : Nat → Addr} {M : List MO} {ds : List D} {Q : VK} {xs : List V} (h : After X H Z ι M (.lst ds) Q) (hr : HR X.K H Z ι M) (r : Rps X.K Z ι M.length ds xs) : ∀ p, H p = none → Q (.ref p) (upd H p (.lst xs)) := fun p hp => by
  obtain ⟨h1, e1⟩ := hr.frozen (o := .lst xs) hp
  exact h _ _ _ e1 h1 (.lst (.inl (.inl upd_same)) (r.ext e1))
theorem After.tup {H Z : Hp} {ι : Nat → Addr} {M : List MO} {ds : List D} {Q : VK} {xs : List V} (h : After X H Z ι M (.tup ds) Q) (hr : HR X.K H Z ι M) (r : Rps X.K Z ι M.length ds xs) : ∀ p, H p = none → Q (.ref p) (upd H p (.tup xs)) := fun p hp => by
  obtain ⟨h1, e1⟩ := hr.frozen (o := .tup xs) hp
  exact h _ _ _ e1 h1 (.tup (.inl (.inl upd_same)) (r.ext e1))
theorem Post.after {σ : St} {H Z : Hp} {ι : Nat → Addr} {M : List MO} {d : D} {Q : VK} (h : Post X C W (rpE X.K) σ H Z ι M (.ok d M) Q) : After X H Z ι M d Q := fun v H' Z' e hr r => h v H' Z' ι e hr r
/-- an operation on values is computed by f -/
def Ok2 (X : Cx) (r : R2) (f : List MO → D → D → Option D) : Prop := ∀ (x y : V) (H Z : Hp) (ι : Nat → Addr) (M : List MO) (dx dy d : D) (Q : VK), HR X.K H Z ι M → Rp X.K Z ι M.length dx x → Rp X.K Z ι M.length dy y → f M dx dy = some d → After X H Z ι M d Q → r x y H Q
def Ok1 (X : Cx) (r : V → Hp → VK → Prop) (f : List MO → D → Option D) : Prop := ∀ (x : V) (H Z : Hp) (ι : Nat → Addr) (M : List MO) (dx d : D) (Q : VK), HR X.K H Z ι M → Rp X.K Z ι M.length dx x → f M dx = some d → After X H Z ι M d Q → r x H Q
def OkA (X : Cx) (r : List V → Hp → VK → Prop) (f : List MO → List D → Option D) : Prop := ∀ (xs : List V) (H Z : Hp) (ι : Nat → Addr) (M : List MO) (ds : List D) (d : D) (Q : VK), HR X.K H Z ι M → Rps X.K Z ι M.length ds xs → f M ds = some d → After X H Z ι M d Q → r xs H Q
theorem Post.of_opR {α β γ δ : Type} {rp1 : RpK α β} {σ : St} {H Z : Hp} {ι : Nat → Addr} {M : List MO} {o : Option α} {Q : β → Hp → Prop} (h : Post X C W rp1 σ H Z ι M (opR o M) Q) : ∃ a, o = some a ∧ Post X C W rp1 σ H Z ι M (.ok a M) Q := by
  cases o with
  | none => exact h.elim
  | some a => exact ⟨a, rfl, h⟩

/-! ### the rules -/
theorem qe_v (i : Nat) {x : Str} {pos : Pos} (hN : X.N[i]? = some x := by rfl) (hv : Vis X.env.scope x := by first | exact Or.inl rfl | exact Or.inr (Or.inl rfl) | exact Or.inr (Or.inr rfl)) (hd : (x == ("__debug__" : Str)) = false := by decide)
    (hcd : (x == ("__classdict__" : Str)) = false := by decide) : QE X C W (.Name x pos) (gV i) := by
  refine ⟨_, pe_var hN hv hd hcd, fun σ H Z ι Γ M Q sl hr h => ?_⟩
  unfold gV at h
  cases e : Γ[i]? with
  | none => rw [e] at h; exact h.elim
  | some o =>
    cases o with
    | none => rw [e] at h; exact h.elim
    | some d =>
      rw [e] at h
      obtain ⟨v, h1, h2⟩ := sl.2 i d e
      exact ⟨v, h1, h v H Z ι .refl hr h2⟩
theorem qe_int {i : Int} {j pos} : QE X C W (.Constant (.int i) j pos) (gC (.int i)) := ⟨_, pe_int, fun σ H Z ι Γ M Q sl hr h => h _ H Z ι .refl hr (.int i)⟩
theorem qe_bl {b : Bool} {j pos} : QE X C W (.Constant (.bool b) j pos) (gC (.bl b)) := ⟨_, pe_bl, fun σ H Z ι Γ M Q sl hr h => h _ H Z ι .refl hr (.bl b)⟩
theorem qe_non {j pos} : QE X C W (.Constant .none j pos) (gC .non) := ⟨_, pe_non, fun σ H Z ι Γ M Q sl hr h => h _ H Z ι .refl hr .non⟩
theorem qe_str {x : Str} {j pos} : QE X C W (.Constant (.str x) j pos) (gC (.str x)) := ⟨_, pe_str, fun σ H Z ι Γ M Q sl hr h => h _ H Z ι .refl hr (.str x)⟩
/-- a module's number -/
theorem qe_gint {x : Str} {i : Int} {t : Tok} {pos : Pos} (hg : Gl X x) (hm : X.mg x = some (.int i t)) (hd : (x == ("__debug__" : Str)) = false := by decide) : QE X C W (.Name x pos) (gC (.int i)) :=
  ⟨_, pe_glob (v := .int i) hg hm ⟨t, rfl⟩ hd, fun σ H Z ι Γ M Q sl hr h => h _ H Z ι .refl hr (.int i)⟩
variable {e a b c : Expr} {es : List Expr} {ga gb gc g : GE} {gt gu : GT} {gs : GA} {pos : Pos} {f f' : List MO → D → D → Option D}
abbrev Rd1 (X : Cx) (C : CT) (W : WX) (g : GE) (te : TE) : Prop := ∀ (σ : St) (H Z : Hp) (ι : Nat → Addr) (Γ : Env) (M : List MO) (Q : VK), Slots X.K Z ι M.length Γ σ → HR X.K H Z ι M → Post X C W (rpE X.K) σ H Z ι M (g Γ M) Q → te σ H Q
theorem op_read {r : R2} {ta tb : TE} (hf : Ok2 X r f) (qa : Rd1 X C W ga ta) (qb : Rd1 X C W gb tb) : Rd1 X C W (gOp2 f ga gb) (tOp r ta tb) := fun σ H Z ι Γ M Q sl hr h =>
  qa σ H Z ι Γ M _ sl hr (Post.bind h fun x M1 v H1 Z1 ι1 e1 hr1 r1 h1 => qb σ H1 Z1 ι1 Γ M1 _ (sl.ext e1) hr1 (h1.bind fun y M2 u H2 Z2 ι2 e2 hr2 r2 h2 => by
    obtain ⟨d, hd, h3⟩ := Post.of_opR (γ := D) (δ := V) h2
    exact hf v u H2 Z2 ι2 M2 x y d Q hr2 (r1.ext e2) r2 hd h3.after))
theorem qe_bin {op : Operator} {r : R2} (ho : OpR X (binaryOp op) r) (hf : Ok2 X r f) (ha : QE X C W a ga) (hb : QE X C W b gb) : QE X C W (.BinOp a op b pos) (gOp2 f ga gb) := by
  obtain ⟨ta, pa, qa⟩ := ha
  obtain ⟨tb, pb, qb⟩ := hb
  exact ⟨_, pe_op ho pa pb, op_read hf qa qb⟩
theorem qe_cmp {op : CmpOp} {r : R2} (ho : OpR X (compareOp op) r) (hf : Ok2 X r f) (ha : QE X C W a ga) (hb : QE X C W b gb) (hm : behindInMarks op b = false) : QE X C W (.Compare a [op] [b] pos) (gOp2 f ga gb) := by
  obtain ⟨ta, pa, qa⟩ := ha
  obtain ⟨tb, pb, qb⟩ := hb
  exact ⟨_, pe_cmpR ho pa pb hm, op_read hf qa qb⟩
theorem qe_ix {r : R2} (ho : IxR X r) (hf : Ok2 X r f) (ha : QE X C W a ga) (hb : QE X C W b gb) (hs : PlainIx b := by exact fun _ _ => rfl) : QE X C W (.Subscript a b pos) (gOp2 f ga gb) := by
  obtain ⟨ta, pa, qa⟩ := ha
  obtain ⟨tb, pb, qb⟩ := hb
  exact ⟨_, pe_ix ho pa pb hs, op_read hf qa qb⟩
theorem qe_un {op : UnaryOp} {r : V → Hp → VK → Prop} {f : List MO → D → Option D} (ho : UnR X (unaryOp op) r) (hf : Ok1 X r f) (ha : QE X C W a ga) : QE X C W (.UnaryOp op a pos) (gOp1 f ga) := by
  obtain ⟨ta, pa, qa⟩ := ha
  refine ⟨_, pe_un ho pa, fun σ H Z ι Γ M Q sl hr h => qa σ H Z ι Γ M _ sl hr (h.bind fun x M1 v H1 Z1 ι1 e1 hr1 r1 h1 => ?_)⟩
  obtain ⟨d, hd, h3⟩ := Post.of_opR (γ := D) (δ := V) h1
  exact hf v H1 Z1 ι1 M1 x d Q hr1 r1 hd h3.after
theorem chain_read {r r' : R2} {ta tb tc : TE} (hf : Ok2 X r f) (hf' : Ok2 X r' f') (qa : Rd1 X C W ga ta) (qb : Rd1 X C W gb tb) (qc : Rd1 X C W gc tc) : Rd1 X C W (gChain f f' ga gb gc) (tChain r r' ta tb tc) := by
  intro σ H Z ι Γ M Q sl hr h
  refine qa σ H Z ι Γ M _ sl hr (Post.bind h fun x M1 v H1 Z1 ι1 e1 hr1 r1 h1 => qb σ H1 Z1 ι1 Γ M1 _ (sl.ext e1) hr1 (h1.bind fun y M2 u H2 Z2 ι2 e2 hr2 r2 h2 => ?_))
  cases hd : f M2 x y with
  | none => rw [hd] at h2; exact h2.elim
  | some d =>
    rw [hd] at h2
    refine hf v u H2 Z2 ι2 M2 x y d _ hr2 (r1.ext e2) r2 hd fun w H3 Z3 e3 hr3 r3 => ?_
    have h3 := Post.shift h2 e3 hr3
    cases r3 with
    | bl k =>
      refine ⟨k, rfl, ?_⟩
      cases k with
      | false => exact h3 _ H3 Z3 ι2 .refl hr3 (.bl false)
      | true =>
        have h4 : Post X C W (rpE X.K) σ H3 Z3 ι2 M2 ((gc Γ M2).bind fun z M4 => opR (f' M4 y z) M4) Q := h3
        refine qc σ H3 Z3 ι2 Γ M2 _ ((sl.ext e1).ext e2 |>.ext e3) hr3 (h4.bind fun z M4 w' H4 Z4 ι4 e4 hr4 r4 h5 => ?_)
        obtain ⟨d', hd', h6⟩ := Post.of_opR (γ := D) (δ := V) h5
        exact hf' u w' H4 Z4 ι4 M4 y z d' Q hr4 ((r2.ext e3).ext e4) r4 hd' h6.after
    | _ => exact h3.elim
theorem qa_nil : QA X C W [] gNil := ⟨_, pa_nil, fun σ H Z ι Γ M Q sl hr h => h [] H Z ι .refl hr .nil⟩
theorem qa_cons (ha : QE X C W e g) (hb : QA X C W es gs) (hs : starEach (e :: es) X.env = (false, eval e X.env) :: starEach es X.env := by rfl) : QA X C W (e :: es) (gCons g gs) := by
  obtain ⟨ta, pa, qa⟩ := ha
  obtain ⟨tb, pb, qb⟩ := hb
  exact ⟨_, pa_cons pa pb hs, fun σ H Z ι Γ M Q sl hr h => qa σ H Z ι Γ M _ sl hr (h.bind fun x M1 v H1 Z1 ι1 e1 hr1 r1 h1 => qb σ H1 Z1 ι1 Γ M1 _ (sl.ext e1) hr1 (h1.bind fun y M2 u H2 Z2 ι2 e2 hr2 r2 h2 => h2 _ H2 Z2 ι2 .refl hr2 (.cons (r1.ext e2) r2)))⟩
theorem qe_tup {x1} (ha : QA X C W es gs) : QE X C W (.Tuple es x1 pos) (gTup gs) := by
  obtain ⟨ta, pa, qa⟩ := ha
  refine ⟨_, pe_tup pa, fun σ H Z ι Γ M Q sl hr h => qa σ H Z ι Γ M _ sl hr (h.bind fun x M1 v H1 Z1 ι1 e1 hr1 r1 h1 => ?_)⟩
  by_cases hz : x.length ≤ sizeLine
  · rw [if_pos hz] at h1
    exact ⟨by rw [← r1.length]; exact hz, h1.after.tup hr1 r1⟩
  · rw [if_neg hz] at h1
    exact h1.elim
theorem qe_lst (ha : QA X C W es gs) : QE X C W (.List es pos) (gLst gs) := by
  obtain ⟨ta, pa, qa⟩ := ha
  refine ⟨_, pe_lst pa, fun σ H Z ι Γ M Q sl hr h => qa σ H Z ι Γ M _ sl hr (h.bind fun x M1 v H1 Z1 ι1 e1 hr1 r1 h1 => ?_)⟩
  by_cases hz : x.length ≤ sizeLine
  · rw [if_pos hz] at h1
    exact ⟨by rw [← r1.length]; exact hz, h1.after.lst hr1 r1⟩
  · rw [if_neg hz] at h1
    exact h1.elim
theorem qe_lstO (ha : QA X C W es gs) : QE X C W (.List es pos) (gLstO gs) := by
  obtain ⟨ta, pa, qa⟩ := ha
  refine ⟨_, pe_lst pa, fun σ H Z ι Γ M Q sl hr h => qa σ H Z ι Γ M _ sl hr (h.bind fun x M1 v H1 Z1 ι1 e1 hr1 r1 h1 => ?_)⟩
  by_cases hz : x.length ≤ sizeLine
  · rw [if_pos hz] at h1
    refine ⟨by rw [← r1.length]; exact hz, fun p hp => ?_⟩
    obtain ⟨hr2, e2⟩ := hr1.owned hp r1
    refine h1 _ _ _ _ e2 hr2 ?_
    have q : Rp X.K Z1 (put ι1 M1.length p) (M1 ++ [MO.lst x]).length (.ref M1.length) (.ref (put ι1 M1.length p M1.length)) := .ref (by simp)
    rw [put_at] at q
    exact q
  · rw [if_neg hz] at h1
    exact h1.elim
theorem qe_callB {x : Str} {p : Pos} {id : String} {r : List V → Hp → VK → Prop} {f : List MO → List D → Option D} (ho : CallR X (.builtin id) r) (hf : OkA X r f) (hg : Gl X x) (hm : X.mg x = none) (hv : bootBuiltins x = some (.builtin id)) (ha : QA X C W (e :: es) gs)
    (hn : x ≠ "__name__" := by decide) (hdb : (x == ("__debug__" : Str)) = false := by decide) (he : starEach (e :: es) X.env = (false, eval e X.env) :: starEach es X.env := by rfl) (hpl : (backTo pos (starEach es X.env)).any (·.1) = false := by rfl) :
    QE X C W (.Call (.Name x p) (e :: es) [] pos) (gCall f gs) := by
  obtain ⟨ta, pa, qa⟩ := ha
  refine ⟨_, pe_callB ho hg hm hv pa hn hdb he hpl, fun σ H Z ι Γ M Q sl hr h => qa σ H Z ι Γ M _ sl hr (h.bind fun x M1 v H1 Z1 ι1 e1 hr1 r1 h1 => ?_)⟩
  obtain ⟨d, hd, h3⟩ := Post.of_opR (γ := D) (δ := V) h1
  exact hf v H1 Z1 ι1 M1 x d Q hr1 r1 hd h3.after
theorem qe_callTy {x T : Str} {p : Pos} {id : String} {r : List V → Hp → VK → Prop} {f : List MO → List D → Option D} (ho : CallR X (.type id) r) (hf : OkA X r f) (hg : Gl X x) (hm : X.mg x = none) (hv : bootBuiltins x = some (.type id)) (ha : QA X C W (e :: es) gs)
    (hn : x ≠ "__name__" := by decide) (hdb : (x == ("__debug__" : Str)) = false := by decide) (he : starEach (e :: es) X.env = (false, eval e X.env) :: starEach es X.env := by rfl) (hpl : (backTo pos (starEach es X.env)).any (·.1) = false := by rfl) :
    QE X C W (.Call (.Name x p) (e :: es) [] pos) (gCall f gs) := by
  obtain ⟨ta, pa, qa⟩ := ha
  refine ⟨_, pe_callTy ho hg hm hv pa hn hdb he hpl, fun σ H Z ι Γ M Q sl hr h => qa σ H Z ι Γ M _ sl hr (h.bind fun x M1 v H1 Z1 ι1 e1 hr1 r1 h1 => ?_)⟩
  obtain ⟨d, hd, h3⟩ := Post.of_opR (γ := D) (δ := V) h1
  exact hf v H1 Z1 ι1 M1 x d Q hr1 r1 hd h3.after

/-! tests -/
theorem qt_val (ha : QE X C W a ga) (he : ∀ whole, isTrue a X.env whole = (do let v ← whole; standAt a.pos; holding [v] (truthy v)) := by intro _; rfl) : QT X C W a (gVal ga) := by
  obtain ⟨ta, pa, qa⟩ := ha
  refine ⟨_, pt_val pa he, fun σ H Z ι Γ M Q sl hr h => qa σ H Z ι Γ M _ sl hr (h.bind fun x M1 v H1 Z1 ι1 e1 hr1 r1 h1 => ?_)⟩
  cases r1 with
  | bl k => exact ⟨k, rfl, h1 k H1 Z1 ι1 .refl hr1 rfl⟩
  | _ => exact h1.elim
theorem val_read {te : TE} (q : Rd1 X C W ga te) (σ : St) (H Z : Hp) (ι : Nat → Addr) (Γ : Env) (M : List MO) (Q : Bool → Hp → Prop) (sl : Slots X.K Z ι M.length Γ σ) (hr : HR X.K H Z ι M) (h : Post X C W rpT σ H Z ι M (gVal ga Γ M) Q) : tTest te σ H Q :=
  q σ H Z ι Γ M _ sl hr (Post.bind h fun x M1 v H1 Z1 ι1 e1 hr1 r1 h1 => by
    cases r1 with
    | bl k => exact ⟨k, rfl, h1 k H1 Z1 ι1 .refl hr1 rfl⟩
    | _ => exact h1.elim)
theorem qt_cmp {op : CmpOp} {r : R2} (ho : OpR X (compareOp op) r) (hf : Ok2 X r f) (ha : QE X C W a ga) (hb : QE X C W b gb) (hm : behindInMarks op b = false) : QT X C W (.Compare a [op] [b] pos) (gVal (gOp2 f ga gb)) := by
  obtain ⟨ta, pa, qa⟩ := ha
  obtain ⟨tb, pb, qb⟩ := hb
  exact ⟨_, pt_cmpR ho pa pb hm, val_read (op_read hf qa qb)⟩
theorem qt_chain {op op' : CmpOp} {r r' : R2} (ho : OpR X (compareOp op) r) (hf : Ok2 X r f) (ho' : OpR X (compareOp op') r') (hf' : Ok2 X r' f') (ha : QE X C W a ga) (hb : QE X C W b gb) (hc : QE X C W c gc) (hm : lastMarks [op, op'] [b, c] = false := by with_unfolding_all rfl) :
    QT X C W (.Compare a [op, op'] [b, c] pos) (gVal (gChain f f' ga gb gc)) := by
  obtain ⟨ta, pa, qa⟩ := ha
  obtain ⟨tb, pb, qb⟩ := hb
  obtain ⟨tc, pc, qc⟩ := hc
  exact ⟨_, pt_chain ho ho' pa pb pc (hm := hm), val_read (chain_read hf hf' qa qb qc)⟩
theorem qt_of (h : QW X C W a gt) : QT X C W a gt := let ⟨t, p, q⟩ := h; ⟨t, p.pt, q⟩
theorem qw_or1 (h : QT X C W a gt) : QW X C W (.BoolOp .Or [a] pos) gt := let ⟨t, p, q⟩ := h; ⟨t, pw_or1 p, q⟩
theorem qw_or {rest : List Expr} (ha : QT X C W a gt) (hb : QW X C W (.BoolOp .Or (b :: rest) pos) gu) : QW X C W (.BoolOp .Or (a :: b :: rest) pos) (gOrT gt gu) := by
  obtain ⟨ta, pa, qa⟩ := ha
  obtain ⟨tb, pb, qb⟩ := hb
  refine ⟨_, pw_or pa pb, fun σ H Z ι Γ M Q sl hr h => qa σ H Z ι Γ M _ sl hr (h.bind fun x M1 v H1 Z1 ι1 e1 hr1 r1 h1 => ?_)⟩
  have r1' : x = v := r1
  subst r1'
  cases x with
  | true => exact h1 true H1 Z1 ι1 .refl hr1 rfl
  | false => exact qb σ H1 Z1 ι1 Γ M1 _ (sl.ext e1) hr1 h1
theorem qt_not (ha : QT X C W a gt) : QT X C W (.UnaryOp .Not a pos) (gNotT gt) := by
  obtain ⟨ta, pa, qa⟩ := ha
  refine ⟨_, pt_not pa, fun σ H Z ι Γ M Q sl hr h => qa σ H Z ι Γ M _ sl hr (h.bind fun x M1 v H1 Z1 ι1 e1 hr1 r1 h1 => ?_)⟩
  have r1' : x = v := r1
  subst r1'
  exact h1 _ H1 Z1 ι1 .refl hr1 rfl
theorem qe_if (hc : QT X C W c gt) (ha : QE X C W a ga) (hb : QE X C W b gb) : QE X C W (.IfExp c a b pos) (gIfE gt ga gb) := by
  obtain ⟨tc, pc, qc⟩ := hc
  obtain ⟨ta, pa, qa⟩ := ha
  obtain ⟨tb, pb, qb⟩ := hb
  refine ⟨_, pe_ifExp pc pa pb, fun σ H Z ι Γ M Q sl hr h => qc σ H Z ι Γ M _ sl hr (h.bind fun x M1 v H1 Z1 ι1 e1 hr1 r1 h1 => ?_)⟩
  have r1' : x = v := r1
  subst r1'
  cases x with
  | true => exact qa σ H1 Z1 ι1 Γ M1 _ (sl.ext e1) hr1 h1
  | false => exact qb σ H1 Z1 ι1 Γ M1 _ (sl.ext e1) hr1 h1
theorem qe_one {op} (h : QE X C W a ga) : QE X C W (.BoolOp op [a] pos) ga := let ⟨t, p, q⟩ := h; ⟨t, pe_one p, q⟩
theorem qe_and {rest : List Expr} (ha : QE X C W a ga) (hb : QE X C W (.BoolOp .And (b :: rest) pos) gb) : QE X C W (.BoolOp .And (a :: b :: rest) pos) (gAndV ga gb) := by
  obtain ⟨ta, pa, qa⟩ := ha
  obtain ⟨tb, pb, qb⟩ := hb
  refine ⟨_, pe_and pa pb, fun σ H Z ι Γ M Q sl hr h => qa σ H Z ι Γ M _ sl hr (h.bind fun x M1 v H1 Z1 ι1 e1 hr1 r1 h1 => ?_)⟩
  cases r1 with
  | bl k =>
    refine ⟨k, rfl, ?_⟩
    cases k with
    | true => exact qb σ H1 Z1 ι1 Γ M1 _ (sl.ext e1) hr1 h1
    | false => exact h1 _ H1 Z1 ι1 .refl hr1 (.bl false)
  | _ => exact h1.elim
theorem qe_or {rest : List Expr} (ha : QE X C W a ga) (hb : QE X C W (.BoolOp .Or (b :: rest) pos) gb) : QE X C W (.BoolOp .Or (a :: b :: rest) pos) (gOrV ga gb) := by
  obtain ⟨ta, pa, qa⟩ := ha
  obtain ⟨tb, pb, qb⟩ := hb
  refine ⟨_, pe_or pa pb, fun σ H Z ι Γ M Q sl hr h => qa σ H Z ι Γ M _ sl hr (h.bind fun x M1 v H1 Z1 ι1 e1 hr1 r1 h1 => ?_)⟩
  cases r1 with
  | bl k =>
    refine ⟨k, rfl, ?_⟩
    cases k with
    | true => exact h1 _ H1 Z1 ι1 .refl hr1 (.bl true)
    | false => exact qb σ H1 Z1 ι1 Γ M1 _ (sl.ext e1) hr1 h1
  | _ => exact h1.elim
def dNot (_ : List MO) : D → Option D
  | .bl b => some (.bl (!b))
  | _ => none
theorem qe_not (ha : QE X C W a ga) : QE X C W (.UnaryOp .Not a pos) (gOp1 dNot ga) := by
  obtain ⟨ta, pa, qa⟩ := ha
  refine ⟨_, pe_not pa, fun σ H Z ι Γ M Q sl hr h => qa σ H Z ι Γ M _ sl hr (h.bind fun x M1 v H1 Z1 ι1 e1 hr1 r1 h1 => ?_)⟩
  cases r1 with
  | bl k => exact ⟨k, rfl, h1 _ H1 Z1 ι1 .refl hr1 (.bl _)⟩
  | _ => exact h1.elim
end
end Bk

set_option Elab.async false
set_option linter.all false
set_option maxRecDepth 100000
set_option maxHeartbeats 1000000
namespace Bk
open PySem PySem.Spec PyProof.Rows L2

/-! ### what is walked -/
abbrev GI := GA
/-- cd: what must hold of the store at each turn -/
def ItC (cd : List MO → Prop) (K : PySem.W.Frag) (J : It) (items : List D) (Z : Hp) (ι : Nat → Addr) (n : Nat) : Prop :=
  ∀ (i : Nat) (H' Z' : Hp) (ι' : Nat → Addr) (M' : List MO), Sub Z Z' → (∀ k, k < n → ι' k = ι k) → n ≤ M'.length → HR K H' Z' ι' M' → cd M' →
    (items.length = i → J.stop i H') ∧ ∀ d, items[i]? = some d → J.go i H' ∧ ∀ x H2, J.yld i H' x H2 → ∃ Z2, Ext H' Z' ι' M'.length H2 Z2 ι' M'.length ∧ HR K H2 Z2 ι' M' ∧ Rp K Z2 ι' M'.length d x
abbrev anyM : List MO → Prop := fun _ => True
abbrev ItR := ItC anyM
abbrev rpI (K : PySem.W.Frag) : RpK (List D) It := fun Z ι n items J => ItR K J items Z ι n
def QI (X : Cx) (C : CT) (W : WX) (tg e : Expr) (g : GI) : Prop := ∃ wi, PI X tg e wi ∧ ∀ (σ : St) (H Z : Hp) (ι : Nat → Addr) (Γ : Env) (M : List MO) (Q : It → Hp → Prop), Slots X.K Z ι M.length Γ σ → HR X.K H Z ι M → Post X C W (rpI X.K) σ H Z ι M (g Γ M) Q → wi σ H Q
def rngL (lo : Int) : Nat → List D
  | 0 => []
  | n + 1 => .int lo :: rngL (lo + 1) n
theorem rngL_get : ∀ (n : Nat) (lo : Int) (i : Nat) (d : D), (rngL lo n)[i]? = some d → i < n ∧ d = .int (lo + i)
  | 0, _, _, _, h => by simp [rngL] at h
  | n + 1, lo, 0, d, h => by
    simp [rngL] at h
    exact ⟨Nat.succ_pos _, by rw [← h]; simp⟩
  | n + 1, lo, i + 1, d, h => by
    simp only [rngL, List.getElem?_cons_succ] at h
    obtain ⟨h1, h2⟩ := rngL_get n (lo + 1) i d h
    refine ⟨Nat.succ_lt_succ h1, ?_⟩
    rw [h2]
    congr 1
    push_cast
    omega
theorem rngL_length : ∀ (n : Nat) (lo : Int), (rngL lo n).length = n
  | 0, _ => rfl
  | n + 1, lo => by simp [rngL, rngL_length n]
def seqD : D → Option (List D)
  | .lst ds => some ds
  | .tup ds => some ds
  | .ptu ds => some ds
  | _ => none
def gSeqI (ge : GE) : GI := fun Γ M => (ge Γ M).bind fun d M1 => opR (seqD d) M1
def inR (i : Int) : Bool := decide (-(2 ^ 62) ≤ i) && decide (i < 2 ^ 62)
def rng1 : List D → Option (List D)
  | [.int j] => if inR j then some (rngL 0 j.toNat) else none
  | _ => none
def rng2 : List D → Option (List D)
  | [.int i, .int j] => if inR i && inR j then some (rngL i (j - i).toNat) else none
  | _ => none
def gRng1 (ga : GA) : GI := fun Γ M => (ga Γ M).bind fun ds M1 => opR (rng1 ds) M1
def gRng2 (ga : GA) : GI := fun Γ M => (ga Γ M).bind fun ds M1 => opR (rng2 ds) M1
section
variable {X : Cx} {C : CT} {W : WX} {tg e a b : Expr} {g ga gb : GE} {gs : GA} {pos : Pos}
theorem itr_l {K : PySem.W.Frag} {Z : Hp} {ι : Nat → Addr} {n : Nat} {a : Addr} {xs : List V} {ds : List D} (s : ExL K Z a xs) (r : Rps K Z ι n ds xs) : ItR K (Itl K a) ds Z ι n := by
  intro i H' Z' ι' M' hz hi hn hr _
  have sH : SqL K H' a xs := (subL (fun a o h => hr.sub _ _ (hz _ _ h)) s).sq
  refine ⟨fun hl => ⟨xs, sH, by rw [← r.length]; exact Nat.le_of_eq hl⟩, fun d hd => ?_⟩
  obtain ⟨v, hv, rv⟩ := r.get hd
  refine ⟨⟨xs, v, sH, hv⟩, fun x H2 hy => ?_⟩
  obtain ⟨rfl, hx⟩ := hy
  have ex : xs[i]? = some x := hx _ sH
  rw [hv] at ex
  cases ex
  exact ⟨Z', .refl, hr, Rp.mono hz hi hn _ _ rv⟩
theorem itr_t {K : PySem.W.Frag} {Z : Hp} {ι : Nat → Addr} {n : Nat} {a : Addr} {xs : List V} {ds : List D} (s : SqT K Z a xs) (r : Rps K Z ι n ds xs) : ItR K (Itt K a) ds Z ι n := by
  intro i H' Z' ι' M' hz hi hn hr _
  have sH : SqT K H' a xs := subT (fun a o h => hr.sub _ _ (hz _ _ h)) s
  refine ⟨fun hl => ⟨xs, sH, by rw [← r.length]; exact Nat.le_of_eq hl⟩, fun d hd => ?_⟩
  obtain ⟨v, hv, rv⟩ := r.get hd
  refine ⟨⟨xs, v, sH, hv⟩, fun x H2 hy => ?_⟩
  obtain ⟨rfl, hx⟩ := hy
  have ex : xs[i]? = some x := hx _ sH
  rw [hv] at ex
  cases ex
  exact ⟨Z', .refl, hr, Rp.mono hz hi hn _ _ rv⟩
theorem itr_r {K : PySem.W.Frag} {Z : Hp} {ι : Nat → Addr} {n : Nat} {lo : Int} {m : Nat} : ItR K (Itr lo m) (rngL lo m) Z ι n := by
  intro i H' Z' ι' M' hz hi hn hr _
  refine ⟨fun hl => by rw [rngL_length] at hl; exact Nat.le_of_eq hl, fun d hd => ?_⟩
  obtain ⟨h1, rfl⟩ := rngL_get _ _ _ _ hd
  refine ⟨h1, fun x H2 hy => ?_⟩
  obtain ⟨rfl, rfl⟩ := hy
  exact ⟨Z', .refl, hr, .int _⟩
/-- a list or a tuple -/
def iSeq (K : PySem.W.Frag) (tl : TE) : TI := fun σ H R => tl σ H fun x H1 => ∃ a, x = .ref a ∧ (((∃ xs, SqL K H1 a xs) ∧ R (Itl K a) H1) ∨ ((∃ xs, SqT K H1 a xs) ∧ R (Itt K a) H1))
theorem pi_seq {tl : TE} (hl : PE X e tl) : PI X tg e (iSeq X.K tl) := by
  refine ⟨fun pins s σ H R I h => thn (hl.run pins s σ H _ I h) fun v s1 ⟨x, H1, J1, r1, a, ex, q1⟩ => ?_⟩
  subst ex
  cases r1
  have fp : ∀ b ∈ [s1.heap.objs.size], H1 b = none ∧ FpOk X pins H1 b := fun b hb => by
    obtain rfl : b = s1.heap.objs.size := by simpa using hb
    have z := J1.hok.fresh (Nat.le_refl _)
    exact ⟨z, J1.fpOk (Nat.le_refl _) z⟩
  rcases q1 with ⟨⟨xs, hq⟩, q⟩ | ⟨⟨xs, hq⟩, q⟩
  · obtain ⟨its, rv, p, hz⟩ := J1.list hq
    refine wpAny_pyIter_list p.isList ⟨_, _, _, _, H1, rfl, J1.kept (t' := s1.toks) fun b o e => Heap.get?_push_of_some _ e, turn_list a s1.heap.objs.size, ⟨_, Heap.get?_push_size _ rfl, rfl, rfl⟩, fun b hb => (fp b hb).2, q⟩
  · obtain ⟨its, rv, p, hz⟩ := J1.tuple hq
    refine wpAny_pyIter_tuple (show s1.heap.IsTuple a its.toArray from p) ⟨_, _, _, _, H1, rfl, J1.kept (t' := s1.toks) fun b o e => Heap.get?_push_of_some _ e, turn_tuple a s1.heap.objs.size, ⟨_, Heap.get?_push_size _ rfl, rfl, rfl⟩, fun b hb => (fp b hb).2, q⟩
theorem qi_seq (ha : QE X C W e g) : QI X C W tg e (gSeqI g) := by
  obtain ⟨ta, pa, qa⟩ := ha
  refine ⟨_, pi_seq pa, fun σ H Z ι Γ M Q sl hr h => qa σ H Z ι Γ M _ sl hr (h.bind fun x M1 v H1 Z1 ι1 e1 hr1 r1 h1 => ?_)⟩
  obtain ⟨ds, hd, h2⟩ := Post.of_opR (γ := D) (δ := V) h1
  cases r1 with
  | lst s r =>
    cases hd
    exact ⟨_, rfl, .inl ⟨⟨_, (subL hr1.sub s).sq⟩, h2 _ H1 Z1 ι1 .refl hr1 (itr_l s r)⟩⟩
  | tup s r =>
    cases hd
    exact ⟨_, rfl, .inr ⟨⟨_, subT hr1.sub s⟩, h2 _ H1 Z1 ι1 .refl hr1 (itr_t s r)⟩⟩
  | ptu s r =>
    cases hd
    exact ⟨_, rfl, .inr ⟨⟨_, subT hr1.sub s.sq⟩, h2 _ H1 Z1 ι1 .refl hr1 (itr_t s.sq r)⟩⟩
  | _ => cases hd
theorem qi_rng1 {p : Pos} (hg : Gl X "range") (hm : X.mg "range" = none) (ha : QA X C W [a] gs) (hs : starEach [a] X.env = [(false, eval a X.env)] := by rfl) : QI X C W tg (.Call (.Name "range" p) [a] [] pos) (gRng1 gs) := by
  obtain ⟨ta, pa, qa⟩ := ha
  refine ⟨_, pi_range1 hg hm pa hs, fun σ H Z ι Γ M Q sl hr h => qa σ H Z ι Γ M _ sl hr (h.bind fun x M1 v H1 Z1 ι1 e1 hr1 r1 h1 => ?_)⟩
  obtain ⟨ds, hd, h2⟩ := Post.of_opR (γ := D) (δ := V) h1
  unfold rng1 at hd
  split at hd
  · rename_i j
    cases r1 with
    | cons r rr =>
      cases r
      cases rr
      by_cases hj : inR j = true
      · rw [if_pos hj] at hd
        cases hd
        simp only [inR, Bool.and_eq_true, decide_eq_true_eq] at hj
        exact ⟨j, rfl, hj.1, hj.2, h2 _ H1 Z1 ι1 .refl hr1 itr_r⟩
      · rw [if_neg hj] at hd
        cases hd
  · cases hd
end

/-! ### targets -/
abbrev GG := D → Env → Option Env
abbrev GGs := List D → Env → Option Env
def gTo (i : Nat) : GG := fun d Γ => some (Γ.set i (some d))
def gToT (gs : GGs) : GG := fun d Γ => match d with
  | .tup ds => gs ds Γ
  | _ => none
def gToNil : GGs := fun ds Γ => match ds with
  | [] => some Γ
  | _ :: _ => none
def gToCons (g : GG) (gs : GGs) : GGs := fun ds Γ => match ds with
  | [] => none
  | d :: r => (g d Γ).bind fun Γ1 => gs r Γ1
def Wip (is : List Nat) (σ σ' : St) : Prop := ∀ vs : List Nat, (∀ i ∈ is, i ∈ vs) → wipe σ' vs = wipe σ vs
theorem wipe_set {σ : St} {i : Nat} {v : V} : ∀ {vs : List Nat}, i ∈ vs → wipe (σ.set i (some v)) vs = wipe σ vs
  | [], h => nomatch h
  | j :: vs, h => by
    show (wipe (σ.set i (some v)) vs).set j none = (wipe σ vs).set j none
    by_cases hm : i ∈ vs
    · rw [wipe_set hm]
    · have e : i = j := by
        rcases List.mem_cons.mp h with e | e
        · exact e
        · exact absurd e hm
      subst e
      have z : ∀ vs : List Nat, i ∉ vs → wipe (σ.set i (some v)) vs = (wipe σ vs).set i (some v) := by
        intro vs
        induction vs with
        | nil => intro _; rfl
        | cons k vs ih =>
          intro hk
          show (wipe (σ.set i (some v)) vs).set k none = ((wipe σ vs).set k none).set i (some v)
          rw [ih fun q => hk (List.mem_cons_of_mem _ q), List.set_comm _ _ (fun q => hk (by rw [q]; exact List.mem_cons_self))]
      rw [z vs hm, List.set_set]
def QG (X : Cx) (tg : Expr) (g : GG) (is : List Nat) : Prop := ∃ t, PG X tg t ∧ ∀ (v : V) (σ : St) (H Z : Hp) (ι : Nat → Addr) (n : Nat) (d : D) (Γ Γ' : Env) (Q : L2.St → Hp → Prop), Sub Z H → Slots X.K Z ι n Γ σ → Rp X.K Z ι n d v → g d Γ = some Γ' →
  (∀ σ', Slots X.K Z ι n Γ' σ' → Wip is σ σ' → Q σ' H) → t v σ H Q
def QGs (X : Cx) (tgs : List Expr) (g : GGs) (is : List Nat) : Prop := ∃ t, PGs X tgs t ∧ ∀ (vs : List V) (σ : St) (H Z : Hp) (ι : Nat → Addr) (n : Nat) (ds : List D) (Γ Γ' : Env) (Q : L2.St → Hp → Prop), Sub Z H → Slots X.K Z ι n Γ σ → Rps X.K Z ι n ds vs → g ds Γ = some Γ' →
  (∀ σ', Slots X.K Z ι n Γ' σ' → Wip is σ σ' → Q σ' H) → t vs σ H Q
section
variable {X : Cx} {e : Expr} {es : List Expr} {g : GG} {gs : GGs} {is js : List Nat} {pos : Pos}
theorem qg_name (i : Nat) {x : Str} (hN : X.N.Nodup) (hi : X.N[i]? = some x := by rfl) (hx : Loc X.env.scope x := by first | exact Or.inl rfl | exact Or.inr rfl)
    (hf : X.fn x = true ∨ X.env.scope.names.lookup x = some .local := by first | exact Or.inl rfl | exact Or.inr rfl) : QG X (.Name x pos) (gTo i) [i] := by
  refine ⟨_, pg_name hN hi hx hf, fun v σ H Z ι n d Γ Γ' Q hs sl r e h => ?_⟩
  cases e
  exact h _ (sl.set i r) fun vs hv => wipe_set (hv i (by simp))
theorem qgs_nil : QGs X [] gToNil [] := by
  refine ⟨_, pgs_nil, fun vs σ H Z ι n ds Γ Γ' Q hs sl r e h => ?_⟩
  cases r with
  | nil =>
    cases e
    exact ⟨rfl, h _ sl fun _ _ => rfl⟩
  | cons _ _ => cases e
theorem qgs_cons (h1 : QG X e g is) (h2 : QGs X es gs js) (hs : (assignEach (e :: es) X.env).map (·.2) = assign e X.env :: (assignEach es X.env).map (·.2) := by rfl) : QGs X (e :: es) (gToCons g gs) (is ++ js) := by
  obtain ⟨t1, p1, q1⟩ := h1
  obtain ⟨t2, p2, q2⟩ := h2
  refine ⟨_, pgs_cons p1 p2 hs, fun vs σ H Z ι n ds Γ Γ' Q hs sl r e h => ?_⟩
  cases r with
  | nil => cases e
  | cons r1 r2 =>
    rename_i d v ds vs
    have e' : (g d Γ).bind (fun Γ1 => gs ds Γ1) = some Γ' := e
    cases eg : g d Γ with
    | none => rw [eg] at e'; cases e'
    | some Γ1 =>
      rw [eg] at e'
      refine ⟨v, vs, rfl, q1 v σ H Z ι n d Γ Γ1 _ hs sl r1 eg fun σ1 s1 w1 => q2 vs σ1 H Z ι n ds Γ1 Γ' _ hs s1 r2 e' fun σ2 s2 w2 => h σ2 s2 fun us hu => ?_⟩
      rw [w2 us fun i hi => hu i (List.mem_append_right _ hi), w1 us fun i hi => hu i (List.mem_append_left _ hi)]
theorem qg_tup {k : Nat} {n : Nat} (hc : X.calm = true) (h : QGs X es gs is) (hn : (assignEach es X.env).length = n := by rfl) (hst : (assignEach es X.env).findIdx? (·.1) = none := by rfl) (hlen : ∀ ds Γ Γ', gs ds Γ = some Γ' → ds.length = n) : QG X (.Tuple es k pos) (gToT gs) is := by
  obtain ⟨t, p, q⟩ := h
  refine ⟨_, pg_tup hc p hn (hst := hst), fun v σ H Z ι m d Γ Γ' Q hs sl r e h => ?_⟩
  cases r with
  | tup s r =>
    have e' : gs _ Γ = some Γ' := e
    exact ⟨_, _, rfl, subT hs s, by rw [← r.length]; exact hlen _ _ _ e', q _ σ H Z ι m _ Γ Γ' Q hs sl r e' h⟩
  | _ => cases e
theorem len_nil : ∀ (ds : List D) (Γ Γ' : Env), gToNil ds Γ = some Γ' → ds.length = 0 := fun ds Γ Γ' e => by
  cases ds with
  | nil => rfl
  | cons _ _ => cases e
theorem len_cons {g : GG} {gs : GGs} {n : Nat} (h : ∀ (ds : List D) (Γ Γ' : Env), gs ds Γ = some Γ' → ds.length = n) : ∀ (ds : List D) (Γ Γ' : Env), gToCons g gs ds Γ = some Γ' → ds.length = n + 1 := fun ds Γ Γ' e => by
  cases ds with
  | nil => cases e
  | cons d ds =>
    have e' : (g d Γ).bind (fun Γ1 => gs ds Γ1) = some Γ' := e
    cases eg : g d Γ with
    | none => rw [eg] at e'; cases e'
    | some Γ1 =>
      rw [eg] at e'
      rw [List.length_cons, h _ _ _ e']
end

/-! ### statements -/
def PostS (X : Cx) (C : CT) (W : WX) (H Z : Hp) (ι : Nat → Addr) (M : List MO) (r : RS) (Dd : Ends) : Prop := match r with
  | .nx Γ M' => ∀ (σ' : L2.St) (H' Z' : Hp) (ι' : Nat → Addr), Ext H Z ι M.length H' Z' ι' M'.length → HR X.K H' Z' ι' M' → Slots X.K Z' ι' M'.length Γ σ' → Dd.nx σ' H'
  | .bk Γ M' => ∀ (σ' : L2.St) (H' Z' : Hp) (ι' : Nat → Addr), Ext H Z ι M.length H' Z' ι' M'.length → HR X.K H' Z' ι' M' → Slots X.K Z' ι' M'.length Γ σ' → Dd.bk σ' H'
  | .ct Γ M' => ∀ (σ' : L2.St) (H' Z' : Hp) (ι' : Nat → Addr), Ext H Z ι M.length H' Z' ι' M'.length → HR X.K H' Z' ι' M' → Slots X.K Z' ι' M'.length Γ σ' → Dd.ct σ' H'
  | .rt d M' => ∀ (v : V) (H' Z' : Hp) (ι' : Nat → Addr), Ext H Z ι M.length H' Z' ι' M'.length → HR X.K H' Z' ι' M' → Rp X.K Z' ι' M'.length d v → Dd.rt v H'
  | .exc c d Γ M' => ∀ (cls : Value) (dd : Option Addr) (σ' : L2.St) (H' Z' : Hp) (ι' : Nat → Addr), Ext H Z ι M.length H' Z' ι' M'.length → HR X.K H' Z' ι' M' → Slots X.K Z' ι' M'.length Γ σ' → ExcR X.K C H' Z' ι' M'.length c d cls dd → W cls dd σ' H'
  | .bad => False
def QS (X : Cx) (C : CT) (W : WX) (st : Stmt) (g : GS) : Prop := ∃ ts, PS X st ts ∧ ∀ (Dd : Ends) (σ : L2.St) (H Z : Hp) (ι : Nat → Addr) (Γ : Env) (M : List MO), Slots X.K Z ι M.length Γ σ → HR X.K H Z ι M → PostS X C W H Z ι M (g Γ M) Dd → ts Dd σ H
def QSs (X : Cx) (C : CT) (W : WX) (st : List Stmt) (g : GS) : Prop := ∃ ts, PSs X st ts ∧ ∀ (Dd : Ends) (σ : L2.St) (H Z : Hp) (ι : Nat → Addr) (Γ : Env) (M : List MO), Slots X.K Z ι M.length Γ σ → HR X.K H Z ι M → PostS X C W H Z ι M (g Γ M) Dd → ts Dd σ H
def R.thenS {α : Type} (Γ : Env) (r : R α) (f : α → List MO → RS) : RS := match r with
  | .ok a M => f a M
  | .exc c d M => .exc c d Γ M
  | .bad => .bad
def RS.next (r : RS) (f : Env → List MO → RS) : RS := match r with
  | .nx Γ M => f Γ M
  | r => r
def gPass : GS := fun Γ M => .nx Γ M
def gSeq (a b : GS) : GS := fun Γ M => (a Γ M).next b
def gExpr (ge : GE) : GS := fun Γ M => (ge Γ M).thenS Γ fun _ M1 => .nx Γ M1
def gRet (ge : GE) : GS := fun Γ M => (ge Γ M).thenS Γ fun d M1 => .rt d M1
def gRetN : GS := fun _ M => .rt .non M
def gIf (c : GT) (a b : GS) : GS := fun Γ M => (c Γ M).thenS Γ fun k M1 => if k = true then a Γ M1 else b Γ M1
def gAsg (ge : GE) (gg : GG) : GS := fun Γ M => (ge Γ M).thenS Γ fun d M1 => match gg d Γ with
  | some Γ' => .nx Γ' M1
  | none => .bad
def gBad : GS := fun _ _ => .bad
def gForget (is : List Nat) : GS := fun Γ M => .nx (forget Γ is) M
/-- a list of ours that stands in a slot is left as it is from now on -/
def gFz (i : Nat) : GS := fun Γ M => match Γ[i]? with
  | some (some (.ref k)) => match M[k]? with
    | some (.lst ds) => .nx (Γ.set i (some (.lst ds))) (M.set k .dead)
    | some (.dct ks vs) => .nx (Γ.set i (some (.dct ks vs))) (M.set k .dead)
    | _ => .bad
  | _ => .bad
/-- what the turn has made is dropped -/
def gCut (m : Nat) (r : RS) : RS := match r with
  | .nx Γ M => if m ≤ M.length ∧ cutOk m M = true then .nx (clean m Γ) (M.take m) else .bad
  | .ct Γ M => if m ≤ M.length ∧ cutOk m M = true then .ct (clean m Γ) (M.take m) else .bad
  | r => r
def gScope (a : GS) : GS := fun Γ M => gCut M.length (a Γ M)
/-- behind a loop's turn -/
def RS.turn (r : RS) (f : Env → List MO → RS) : RS := match r with
  | .nx Γ M => f Γ M
  | .ct Γ M => f Γ M
  | .bk Γ M => .nx Γ M
  | r => r
def optS (o : Option Env) (f : Env → RS) : RS := match o with
  | some Γ => f Γ
  | none => .bad
def gForL (gg : GG) (body : GS) : List D → GS
  | [] => gPass
  | d :: ds => fun Γ M => optS (gg d Γ) fun Γ1 => (body Γ1 M).turn (gForL gg body ds)
def gFor (gi : GI) (gg : GG) (body : GS) : GS := fun Γ M => (gi Γ M).thenS Γ fun ds M1 => gForL gg body ds Γ M1
section
variable {X : Cx} {C : CT} {W : WX} {H Z H1 Z1 : Hp} {ι ι1 : Nat → Addr} {M M1 : List MO} {Dd : Ends}
theorem PostS.shift {r : RS} (h : PostS X C W H Z ι M r Dd) (e : Ext H Z ι M.length H1 Z1 ι1 M1.length) (hr : HR X.K H1 Z1 ι1 M1) : PostS X C W H1 Z1 ι1 M1 r Dd := by
  cases r with
  | nx Γ M' => exact fun σ' H' Z' ι' e' => h σ' H' Z' ι' (e.trans e' hr.ali)
  | bk Γ M' => exact fun σ' H' Z' ι' e' => h σ' H' Z' ι' (e.trans e' hr.ali)
  | ct Γ M' => exact fun σ' H' Z' ι' e' => h σ' H' Z' ι' (e.trans e' hr.ali)
  | rt d M' => exact fun σ' H' Z' ι' e' => h σ' H' Z' ι' (e.trans e' hr.ali)
  | exc c d Γ M' => exact fun cls dd σ' H' Z' ι' e' => h cls dd σ' H' Z' ι' (e.trans e' hr.ali)
  | bad => exact h
theorem PostS.bind {α β : Type} {rp1 : RpK α β} {r : R α} {f : α → List MO → RS} {Γ : Env} {σ : St} {Q1 : β → Hp → Prop} (h : PostS X C W H Z ι M (r.thenS Γ f) Dd) (sl : Slots X.K Z ι M.length Γ σ)
    (k : ∀ (a : α) (M1 : List MO) (b : β) (H1 Z1 : Hp) (ι1 : Nat → Addr), Ext H Z ι M.length H1 Z1 ι1 M1.length → HR X.K H1 Z1 ι1 M1 → rp1 Z1 ι1 M1.length a b → PostS X C W H1 Z1 ι1 M1 (f a M1) Dd → Q1 b H1) :
    Post X C W rp1 σ H Z ι M r Q1 := by
  cases r with
  | ok a M' => exact fun b H' Z' ι' e' hr' rb => k a M' b H' Z' ι' e' hr' rb (PostS.shift (r := f a M') h e' hr')
  | exc c d M' => exact fun cls dd H' Z' ι' e' hr' rb => h cls dd σ H' Z' ι' e' hr' (sl.ext e') rb
  | bad => exact h
theorem PostS.next {r : RS} {f : Env → List MO → RS} {nx : L2.St → Hp → Prop} (h : PostS X C W H Z ι M (r.next f) Dd)
    (k : ∀ (Γ1 : Env) (M1 : List MO) (σ1 : L2.St) (H1 Z1 : Hp) (ι1 : Nat → Addr), Ext H Z ι M.length H1 Z1 ι1 M1.length → HR X.K H1 Z1 ι1 M1 → Slots X.K Z1 ι1 M1.length Γ1 σ1 → PostS X C W H1 Z1 ι1 M1 (f Γ1 M1) Dd → nx σ1 H1) :
    PostS X C W H Z ι M r { Dd with nx := nx } := by
  cases r with
  | nx Γ M' => exact fun σ' H' Z' ι' e' hr' sl => k Γ M' σ' H' Z' ι' e' hr' sl (PostS.shift (r := f Γ M') h e' hr')
  | bk Γ M' => exact h
  | ct Γ M' => exact h
  | rt d M' => exact h
  | exc c d Γ M' => exact h
  | bad => exact h
variable {st : Stmt} {rest : List Stmt} {e tg : Expr} {ge : GE} {gt : GT} {gg : GG} {g g2 : GS} {pos : Pos}
theorem qss_nil : QSs X C W [] gPass := ⟨_, pss_nil, fun Dd σ H Z ι Γ M sl hr h => h σ H Z ι .refl hr sl⟩
theorem qss_cons (h1 : QS X C W st g) (h2 : QSs X C W rest g2) : QSs X C W (st :: rest) (gSeq g g2) := by
  obtain ⟨t1, p1, q1⟩ := h1
  obtain ⟨t2, p2, q2⟩ := h2
  exact ⟨_, pss_cons p1 p2, fun Dd σ H Z ι Γ M sl hr h => q1 _ σ H Z ι Γ M sl hr (PostS.next h fun Γ1 M1 σ1 H1 Z1 ι1 e1 hr1 sl1 h1 => q2 Dd σ1 H1 Z1 ι1 Γ1 M1 sl1 hr1 h1)⟩
theorem qss_one (h1 : QS X C W st g) : QSs X C W [st] g := let ⟨t, p, q⟩ := h1; ⟨t, pss_one p, q⟩
/-- a step of our own behind a statement -/
theorem qs_ghost {g3 : GS} (h1 : QS X C W st g) (h : ∀ (Dd : Ends) (σ : L2.St) (H Z : Hp) (ι : Nat → Addr) (Γ : Env) (M : List MO), Slots X.K Z ι M.length Γ σ → HR X.K H Z ι M → PostS X C W H Z ι M (g3 Γ M) Dd → Dd.nx σ H) : QS X C W st (gSeq g g3) := by
  obtain ⟨t1, p1, q1⟩ := h1
  exact ⟨_, p1, fun Dd σ H Z ι Γ M sl hr hp => q1 Dd σ H Z ι Γ M sl hr (PostS.next (nx := Dd.nx) hp fun Γ1 M1 σ1 H1 Z1 ι1 e1 hr1 sl1 h1 => h Dd σ1 H1 Z1 ι1 Γ1 M1 sl1 hr1 h1)⟩
theorem qs_forget (is : List Nat) (h1 : QS X C W st g) : QS X C W st (gSeq g (gForget is)) := qs_ghost h1 fun Dd σ H Z ι Γ M sl hr h => h σ H Z ι .refl hr (sl.forget is)
theorem qs_fz (i : Nat) (h1 : QS X C W st g) : QS X C W st (gSeq g (gFz i)) := qs_ghost h1 fun Dd σ H Z ι Γ M sl hr h => by
  unfold gFz at h
  cases e : Γ[i]? with
  | none => rw [e] at h; exact h.elim
  | some o =>
    rw [e] at h
    cases o with
    | none => exact h.elim
    | some d =>
      cases d with
      | ref k =>
        simp only at h
        cases e2 : M[k]? with
        | none => rw [e2] at h; exact h.elim
        | some u =>
          rw [e2] at h
          cases u with
          | dead => exact h.elim
          | dki kvs0 => exact h.elim
          | obj nm fs => exact h.elim
          | lst ds =>
            obtain ⟨xs, r, hr1, x1, rp⟩ := hr.freeze e2
            obtain ⟨v, hv, rv⟩ := sl.2 i _ e
            cases rv
            have q := (sl.ext x1).set i rp
            have es : σ.set i (some (V.ref (ι k))) = σ := by
              have lt : i < σ.length := (List.getElem?_eq_some_iff.mp hv).1
              have ev : σ[i] = some (V.ref (ι k)) := (List.getElem?_eq_some_iff.mp hv).2
              rw [← ev, List.set_getElem_self]
            rw [es] at q
            exact h σ H _ ι x1 hr1 q
          | dct ks vs =>
            obtain ⟨ho, r, hr1, x1, rp⟩ := hr.freezeD e2
            obtain ⟨v, hv, rv⟩ := sl.2 i _ e
            cases rv
            have q := (sl.ext x1).set i rp
            have es : σ.set i (some (V.ref (ι k))) = σ := by
              have lt : i < σ.length := (List.getElem?_eq_some_iff.mp hv).1
              have ev : σ[i] = some (V.ref (ι k)) := (List.getElem?_eq_some_iff.mp hv).2
              rw [← ev, List.set_getElem_self]
            rw [es] at q
            exact h σ H _ ι x1 hr1 q
      | _ => exact h.elim
theorem qs_expr (ha : QE X C W e ge) (hs : swapsWith e none pos.line X.env = pure false := by rfl) : QS X C W (.Expr e pos) (gExpr ge) := by
  obtain ⟨ta, pa, qa⟩ := ha
  exact ⟨_, ps_expr pa hs, fun Dd σ H Z ι Γ M sl hr h => qa σ H Z ι Γ M _ sl hr (PostS.bind h sl fun x M1 v H1 Z1 ι1 e1 hr1 r1 h1 => h1 σ H1 Z1 ι1 .refl hr1 (sl.ext e1))⟩
theorem qs_ret (ha : QE X C W e ge) : QS X C W (.Return (some e) pos) (gRet ge) := by
  obtain ⟨ta, pa, qa⟩ := ha
  exact ⟨_, ps_ret pa, fun Dd σ H Z ι Γ M sl hr h => qa σ H Z ι Γ M _ sl hr (PostS.bind h sl fun x M1 v H1 Z1 ι1 e1 hr1 r1 h1 => h1 v H1 Z1 ι1 .refl hr1 r1)⟩
theorem qs_if {c : Expr} {a b : List Stmt} (hc : QT X C W c gt) (ha : QSs X C W a g) (hb : QSs X C W b g2) : QS X C W (.If c a b pos) (gIf gt g g2) := by
  obtain ⟨tc, pc, qc⟩ := hc
  obtain ⟨ta, pa, qa⟩ := ha
  obtain ⟨tb, pb, qb⟩ := hb
  refine ⟨_, ps_if pc pa pb, fun Dd σ H Z ι Γ M sl hr h => qc σ H Z ι Γ M _ sl hr (PostS.bind h sl fun x M1 v H1 Z1 ι1 e1 hr1 r1 h1 => ?_)⟩
  have r1' : x = v := r1
  subst r1'
  cases x with
  | true => exact qa Dd σ H1 Z1 ι1 Γ M1 (sl.ext e1) hr1 h1
  | false => exact qb Dd σ H1 Z1 ι1 Γ M1 (sl.ext e1) hr1 h1
theorem qs_asg {is : List Nat} (ha : QE X C W e ge) (hg : QG X tg gg is) (hs : swapsWithSole [tg] e pos.line X.env = pure false := by rfl) (hp : swappedStores [tg] e X.env = pure none := by rfl) (h1 : (assignEach [tg] X.env).map (·.2) = [assign tg X.env] := by rfl) : QS X C W (.Assign [tg] e pos) (gAsg ge gg) := by
  obtain ⟨ta, pa, qa⟩ := ha
  obtain ⟨t2, p2, q2⟩ := hg
  refine ⟨_, ps_asg pa p2 hs (hw := hp) (h1 := h1), fun Dd σ H Z ι Γ M sl hr h => qa σ H Z ι Γ M _ sl hr (PostS.bind h sl fun x M1 v H1 Z1 ι1 e1 hr1 r1 h1 => ?_)⟩
  cases eg : gg x Γ with
  | none => rw [eg] at h1; exact h1.elim
  | some Γ' =>
    rw [eg] at h1
    exact q2 v σ H1 Z1 ι1 M1.length x Γ Γ' _ hr1.sub (sl.ext e1) r1 eg fun σ' s' _ => h1 σ' H1 Z1 ι1 .refl hr1 s'

theorem qss_scope (h1 : QSs X C W rest g) : QSs X C W rest (gScope g) := by
  obtain ⟨t1, p1, q1⟩ := h1
  refine ⟨_, p1, fun Dd σ H Z ι Γ M sl hr h => q1 Dd σ H Z ι Γ M sl hr ?_⟩
  have h' : PostS X C W H Z ι M (gCut M.length (g Γ M)) Dd := h
  cases er : g Γ M with
  | nx Γ' M' =>
    rw [er] at h'
    by_cases hc : M.length ≤ M'.length ∧ cutOk M.length M' = true
    · have h2 : PostS X C W H Z ι M (if M.length ≤ M'.length ∧ cutOk M.length M' = true then .nx (clean M.length Γ') (M'.take M.length) else .bad) Dd := h'
      rw [if_pos hc] at h2
      have ln : (M'.take M.length).length = M.length := by rw [List.length_take]; omega
      intro σ' H' Z' ι' e1 hr1 sl1
      refine h2 σ' H' Z' ι' (by rw [ln]; exact e1.cut (Nat.le_refl _) hc.1) (hr1.cut hc.1 hc.2) (by rw [ln]; exact sl1.cut)
    · have h2 : PostS X C W H Z ι M (if M.length ≤ M'.length ∧ cutOk M.length M' = true then .nx (clean M.length Γ') (M'.take M.length) else .bad) Dd := h'
      rw [if_neg hc] at h2
      exact h2.elim
  | ct Γ' M' =>
    rw [er] at h'
    by_cases hc : M.length ≤ M'.length ∧ cutOk M.length M' = true
    · have h2 : PostS X C W H Z ι M (if M.length ≤ M'.length ∧ cutOk M.length M' = true then .ct (clean M.length Γ') (M'.take M.length) else .bad) Dd := h'
      rw [if_pos hc] at h2
      have ln : (M'.take M.length).length = M.length := by rw [List.length_take]; omega
      intro σ' H' Z' ι' e1 hr1 sl1
      refine h2 σ' H' Z' ι' (by rw [ln]; exact e1.cut (Nat.le_refl _) hc.1) (hr1.cut hc.1 hc.2) (by rw [ln]; exact sl1.cut)
    · have h2 : PostS X C W H Z ι M (if M.length ≤ M'.length ∧ cutOk M.length M' = true then .ct (clean M.length Γ') (M'.take M.length) else .bad) Dd := h'
      rw [if_neg hc] at h2
      exact h2.elim
  | bk Γ' M' => rw [er] at h'; exact h'
  | rt d M' => rw [er] at h'; exact h'
  | exc c d Γ' M' => rw [er] at h'; exact h'
  | bad => rw [er] at h'; exact h'
/-- a loop's turn: what is wanted behind it -/
theorem PostS.turn {r : RS} {f : Env → List MO → RS} {N : L2.St → Hp → Prop} (h : PostS X C W H Z ι M (r.turn f) Dd)
    (k : ∀ (Γ1 : Env) (M1 : List MO) (σ1 : L2.St) (H1 Z1 : Hp) (ι1 : Nat → Addr), Ext H Z ι M.length H1 Z1 ι1 M1.length → HR X.K H1 Z1 ι1 M1 → Slots X.K Z1 ι1 M1.length Γ1 σ1 → PostS X C W H1 Z1 ι1 M1 (f Γ1 M1) Dd → N σ1 H1) :
    PostS X C W H Z ι M r { Dd with nx := N, ct := N, bk := Dd.nx } := by
  cases r with
  | nx Γ M' => exact fun σ' H' Z' ι' e' hr' sl => k Γ M' σ' H' Z' ι' e' hr' sl (PostS.shift (r := f Γ M') h e' hr')
  | ct Γ M' => exact fun σ' H' Z' ι' e' hr' sl => k Γ M' σ' H' Z' ι' e' hr' sl (PostS.shift (r := f Γ M') h e' hr')
  | bk Γ M' => exact h
  | rt d M' => exact h
  | exc c d Γ M' => exact h
  | bad => exact h
theorem qs_for {iter : Expr} {body : List Stmt} {gi : GI} {is : List Nat} (hp : PassesOwn (model X.prog X.w) X.A X.env X.xe) (hc : X.calm = true) (hi : QI X C W tg iter gi) (hg : QG X tg gg is) (hb : QSs X C W body g)
    (hs : ∀ x, foldedSetIterable iter X.env x = pure x := by intro _; rfl) : QS X C W (.For tg iter body [] pos) (gFor gi gg g) := by
  obtain ⟨wi, pi, qi⟩ := hi
  obtain ⟨tg', pg, qg⟩ := hg
  obtain ⟨tb, pb, qb⟩ := hb
  refine ⟨_, ps_for hp hc pi pg pb hs, fun Dd σ H Z ι Γ M sl hr h => qi σ H Z ι Γ M _ sl hr (PostS.bind h sl fun ds M1 J H1 Z1 ι1 e1 hr1 rJ h1 => ?_)⟩
  refine ⟨fun i m σ' H' => ∃ (Z' : Hp) (ι' : Nat → Addr) (Γ' : Env) (M' : List MO), m = ds.length - i ∧ i ≤ ds.length ∧ Sub Z1 Z' ∧ (∀ k, k < M1.length → ι' k = ι1 k) ∧ M1.length ≤ M'.length ∧ HR X.K H' Z' ι' M' ∧ Slots X.K Z' ι' M'.length Γ' σ' ∧
    PostS X C W H' Z' ι' M' (gForL gg g (ds.drop i) Γ' M') Dd, ⟨ds.length, Z1, ι1, Γ, M1, rfl, Nat.zero_le _, fun _ _ z => z, fun _ _ => rfl, Nat.le_refl _, hr1, sl.ext e1, h1⟩, ?_⟩
  rintro i m σ' H' ⟨Z', ι', Γ', M', em, hle, hz, hii, hn, hr', sl', hp'⟩
  obtain ⟨hstop, hgo⟩ := rJ i H' Z' ι' M' hz hii hn hr' trivial
  by_cases hi : i < ds.length
  · refine .inr ?_
    have ed : ds.drop i = ds[i] :: ds.drop (i + 1) := List.drop_eq_getElem_cons hi
    obtain ⟨go, yl⟩ := hgo ds[i] (List.getElem?_eq_getElem hi)
    refine ⟨go, fun σ2 H2 => ∃ (Z2 : Hp) (ι2 : Nat → Addr) (Γ2 : Env) (M2 : List MO), Sub Z1 Z2 ∧ (∀ k, k < M1.length → ι2 k = ι1 k) ∧ M1.length ≤ M2.length ∧ HR X.K H2 Z2 ι2 M2 ∧ Slots X.K Z2 ι2 M2.length Γ2 σ2 ∧
      PostS X C W H2 Z2 ι2 M2 (gForL gg g (ds.drop (i + 1)) Γ2 M2) Dd, fun σ2 H2 hN => ?_, fun x H2 hy => ?_⟩
    · obtain ⟨Z2, ι2, Γ2, M2, a1, a2, a3, a4, a5, a6⟩ := hN
      exact ⟨ds.length - (i + 1), by omega, Z2, ι2, Γ2, M2, rfl, by omega, a1, a2, a3, a4, a5, a6⟩
    · obtain ⟨Z2, e2, hr2, rx⟩ := yl x H2 hy
      rw [ed] at hp'
      have hp2 := PostS.shift hp' e2 hr2
      have hb : PostS X C W H2 Z2 ι' M' (optS (gg ds[i] Γ') fun Γ1 => (g Γ1 M').turn (gForL gg g (ds.drop (i + 1)))) Dd := hp2
      cases eg : gg ds[i] Γ' with
      | none =>
        rw [eg] at hb
        exact hb.elim
      | some Γ1 =>
        rw [eg] at hb
        exact qg x σ' H2 Z2 ι' M'.length ds[i] Γ' Γ1 _ hr2.sub (sl'.ext e2) rx eg fun σ3 s3 _ => qb _ σ3 H2 Z2 ι' Γ1 M' s3 hr2 (PostS.turn hb fun Γ4 M4 σ4 H4 Z4 ι4 e4 hr4 s4 h4 =>
          ⟨Z4, ι4, Γ4, M4, fun a o z => e4.zz _ _ (e2.zz _ _ (hz _ _ z)), fun k hk => (e4.ii k (Nat.lt_of_lt_of_le hk hn)).trans (hii k hk), Nat.le_trans hn e4.ln, hr4, s4, h4⟩)
  · refine .inl ⟨hstop (by omega), ?_⟩
    rw [List.drop_eq_nil_of_le (Nat.le_of_not_lt hi)] at hp'
    exact hp' σ' H' Z' ι' .refl hr' sl'
end
end Bk

set_option Elab.async false
set_option linter.all false
set_option maxRecDepth 100000
set_option maxHeartbeats 2000000
namespace Bk
open PySem PySem.Spec PyProof.Rows L2

/-! ### a list made by a comprehension -/
/-- nothing may be raised -/
abbrev noW : WX := fun _ _ _ _ => False
theorem takes_no {X : Cx} : Takes X noW := fun u s' h => by
  unfold XE at h
  obtain ⟨_, _, _, _, _, _, _, h⟩ := h
  simp_all
/-- no exception goes on -/
def R.only {α β : Type} (r : R α) (f : α → List MO → R β) : R β := match r with
  | .ok a M => f a M
  | _ => .bad
def gLcL (gg : GG) (gt : GT) (ge : GE) (Γ : Env) : List D → List D → List MO → R (List D)
  | [], acc, M => .ok acc M
  | d :: ds, acc, M => match gg d Γ with
    | none => .bad
    | some Γ1 => (gt Γ1 M).only fun k M1 => if k = true then (ge Γ1 M1).only fun y M2 => if acc.length < sizeLine then gLcL gg gt ge Γ ds (acc ++ [y]) M2 else .bad else gLcL gg gt ge Γ ds acc M1
def gYes : GT := fun _ M => .ok true M
/-- the new list will not be changed -/
def gLc (gi : GI) (gg : GG) (gt : GT) (ge : GE) (own : List Nat) : GE := fun Γ M => (gi Γ M).bind fun ds M1 => (gLcL gg gt ge (forget Γ own) ds [] M1).bind fun acc M2 => .ok (.lst acc) M2
/-- the new list is ours -/
def gLcO (gi : GI) (gg : GG) (gt : GT) (ge : GE) (own : List Nat) : GE := fun Γ M => (gi Γ M).bind fun ds M1 => (gLcL gg gt ge (forget Γ own) ds [] M1).bind fun acc M2 => .ok (.ref M2.length) (M2 ++ [.lst acc])

section
variable {K : PySem.W.Frag} {H Z H0 Z0 : Hp} {ι ι0 : Nat → Addr} {M : List MO} {n0 : Nat} {p : Addr} {xs : List V} {ds : List D} {o : HO}
/-- a thing that is neither frozen nor ours -/
structure Odd (Z : Hp) (ι : Nat → Addr) (n : Nat) (p : Addr) : Prop where
  z : Z p = none
  i : ∀ k, k < n → ι k ≠ p
theorem HR.odd (h : HR K H Z ι M) (q : Odd Z ι M.length p) : HR K (upd H p o) Z ι M := by
  have lt : ∀ {k : Nat} {u : MO}, M[k]? = some u → k < M.length := fun e => (List.getElem?_eq_some_iff.mp e).1
  refine ⟨fun a u e => by rw [upd_ne (ne_of_none e q.z)]; exact h.sub _ _ e, fun k hk => by rw [upd_ne (q.i k hk)]; exact h.ali k hk, h.sep, h.inj, fun k u e => ?_, h.ded⟩
  exact OR.mono (fun _ _ z => z) (fun _ _ => rfl) (Nat.le_refl _) (fun o z => by rw [upd_ne (q.i k (lt e))]; exact z) (h.obj k u e)
theorem Odd.new (h : HR K H Z ι M) (hp : H p = none) : Odd Z ι M.length p := by
  refine ⟨?_, fun k hk e => ?_⟩
  · cases e : Z p with
    | none => rfl
    | some u =>
      rw [h.sub _ _ e] at hp
      cases hp
  · obtain ⟨u, hu⟩ := h.ali k hk
    rw [e, hp] at hu
    cases hu
theorem Odd.ext {H1 Z1 : Hp} {ι1 : Nat → Addr} {n n1 : Nat} {u : HO} (q : Odd Z ι n p) (hp : H p = some u) (e : Ext H Z ι n H1 Z1 ι1 n1) : Odd Z1 ι1 n1 p ∧ H1 p = some u := by
  refine ⟨⟨?_, fun k hk z => ?_⟩, e.fr p u hp fun k hk z => q.i k hk z.symm⟩
  · cases z : Z1 p with
    | none => rfl
    | some w =>
      rcases e.zn p w z with a | a | ⟨k, hk, a⟩
      · rw [q.z] at a; cases a
      · rw [hp] at a; cases a
      · exact absurd a.symm (q.i k hk)
  · by_cases hn : k < n
    · exact q.i k hn ((e.ii k hn).symm.trans z)
    · have w := e.nw k (Nat.le_of_not_lt hn) hk
      rw [z, hp] at w
      cases w
theorem Ext.touch {n : Nat} (e : Ext H0 Z0 ι0 n0 H Z ι n) (hp : H0 p = none) : Ext H0 Z0 ι0 n0 (upd H p o) Z ι n :=
  ⟨e.zz, e.ii, fun a u h1 h2 => by rw [upd_ne (ne_of_none h1 hp)]; exact e.fr a u h1 h2, e.nw, e.ln, e.zn⟩
theorem HR.adoptZ (h : HR K H Z ι M) (q : Odd Z ι M.length p) (hp : H p = some o) : HR K H (upd Z p o) ι M := by
  have s1 : Sub Z (upd Z p o) := fun a u e => by rw [upd_ne (ne_of_none e q.z)]; exact e
  refine ⟨fun a u e => ?_, h.ali, fun k u e d => by rw [upd_ne (q.i k (List.getElem?_eq_some_iff.mp e).1)]; exact h.sep k u e d, h.inj, fun k u e => ?_, fun k e => let ⟨u, hu⟩ := h.ded k e; ⟨u, s1 _ _ hu⟩⟩
  · by_cases ha : a = p
    · subst ha
      rw [upd_same] at e
      rw [← e]
      exact hp
    · rw [upd_ne ha] at e
      exact h.sub _ _ e
  · exact OR.mono s1 (fun _ _ => rfl) (Nat.le_refl _) (fun _ z => z) (h.obj k u e)
theorem Ext.adoptZ {n : Nat} (e : Ext H0 Z0 ι0 n0 H Z ι n) (hz : Z p = none) (hp : H0 p = none) : Ext H0 Z0 ι0 n0 H (upd Z p o) ι n :=
  ⟨fun a u h => by rw [upd_ne (ne_of_none (e.zz _ _ h) hz)]; exact e.zz _ _ h, e.ii, e.fr, e.nw, e.ln, fun a u h => by
    by_cases ha : a = p
    · subst ha
      exact .inr (.inl hp)
    · rw [upd_ne ha] at h
      exact e.zn a u h⟩
theorem HR.adoptM (h : HR K H Z ι M) (q : Odd Z ι M.length p) (hp : H p = some (.lst xs)) (r : Rps K Z ι M.length ds xs) : HR K H Z (put ι M.length p) (M ++ [.lst ds]) := by
  have ln : (M ++ [MO.lst ds]).length = M.length + 1 := by simp
  have cs : ∀ {k : Nat} {u : MO}, (M ++ [MO.lst ds])[k]? = some u → (k < M.length ∧ M[k]? = some u) ∨ (k = M.length ∧ u = .lst ds) := fun {k u} e => by
    by_cases hk : k < M.length
    · rw [List.getElem?_append_left hk] at e
      exact .inl ⟨hk, e⟩
    · rw [List.getElem?_append_right (Nat.le_of_not_lt hk)] at e
      by_cases hz : k - M.length = 0
      · rw [hz] at e
        exact .inr ⟨by omega, (Option.some.inj e).symm⟩
      · rw [List.getElem?_eq_none (by simp; omega)] at e
        cases e
  refine ⟨h.sub, fun k hk => ?_, fun k u e d => ?_, fun j k o u e1 e2 d1 d2 e => ?_, fun k u e => ?_, fun k e => ?_⟩
  · rw [ln] at hk
    by_cases hk' : k < M.length
    · rw [put_lt hk']
      exact h.ali k hk'
    · have : k = M.length := by omega
      subst this
      exact ⟨_, by rw [put_at]; exact hp⟩
  · rcases cs e with ⟨hk, e⟩ | ⟨rfl, rfl⟩
    · rw [put_lt hk]
      exact h.sep k u e d
    · rw [put_at]
      exact q.z
  · rcases cs e1 with ⟨hj, e1⟩ | ⟨rfl, rfl⟩ <;> rcases cs e2 with ⟨hk, e2⟩ | ⟨rfl, rfl⟩
    · rw [put_lt hj, put_lt hk] at e
      exact h.inj j k o u e1 e2 d1 d2 e
    · rw [put_lt hj, put_at] at e
      exact absurd e (q.i j hj)
    · rw [put_lt hk, put_at] at e
      exact absurd e.symm (q.i k hk)
    · rfl
  · rcases cs e with ⟨hk, e⟩ | ⟨rfl, rfl⟩
    · rw [put_lt hk]
      exact OR.mono (fun _ _ z => z) (fun _ z => put_lt z) (by rw [ln]; omega) (fun _ z => z) (h.obj k u e)
    · rw [put_at]
      exact ⟨xs, hp, Rps.mono (fun _ _ z => z) (fun _ z => put_lt z) (by rw [ln]; omega) _ _ r⟩
  · rcases cs e with ⟨hk, e⟩ | ⟨_, e⟩
    · rw [put_lt hk]
      exact h.ded k e
    · cases e
theorem Ext.adoptM (e : Ext H0 Z0 ι0 n0 H Z ι M.length) (hp : H0 p = none) : Ext H0 Z0 ι0 n0 H Z (put ι M.length p) (M ++ [MO.lst ds]).length := by
  have ln : (M ++ [MO.lst ds]).length = M.length + 1 := by simp
  refine ⟨e.zz, fun k hk => (put_lt (Nat.lt_of_lt_of_le hk e.ln)).trans (e.ii k hk), e.fr, fun k h1 h2 => ?_, by rw [ln]; have := e.ln; omega, e.zn⟩
  rw [ln] at h2
  by_cases hk : k < M.length
  · rw [put_lt hk]
    exact e.nw k h1 hk
  · have : k = M.length := by omega
    subst this
    rw [put_at]
    exact hp
end
theorem wipe_at {σ : St} : ∀ (vs : List Nat) (i : Nat), (wipe σ vs)[i]? = if i ∈ vs ∧ i < σ.length then some none else σ[i]?
  | [], i => by simp [wipe]
  | v :: vs, i => by
    have ih := wipe_at (σ := σ) vs i
    have ln := wipe_length σ vs
    show ((wipe σ vs).set v none)[i]? = _
    by_cases hv : v = i
    · subst hv
      by_cases hl : v < σ.length
      · rw [List.getElem?_set_self (by rw [ln]; exact hl), if_pos ⟨List.mem_cons_self, hl⟩]
      · rw [if_neg (fun z => hl z.2), List.getElem?_eq_none (by rw [List.length_set, ln]; omega), List.getElem?_eq_none (by omega)]
    · rw [List.getElem?_set_ne hv, ih]
      have : (i ∈ v :: vs) ↔ i ∈ vs := by simp only [List.mem_cons]; exact ⟨fun z => z.elim (fun e => absurd e.symm hv) id, .inr⟩
      simp only [this]
theorem wipe_wipe {σ : St} (vs : List Nat) : wipe (wipe σ vs) vs = wipe σ vs := by
  refine List.ext_getElem? fun i => ?_
  rw [wipe_at, wipe_length, wipe_at]
  split <;> rfl
theorem slots_wipe {K : PySem.W.Frag} {Z : Hp} {ι : Nat → Addr} {n : Nat} {σ : St} : ∀ (vs : List Nat) {Γ : Env}, Slots K Z ι n Γ σ → Slots K Z ι n (forget Γ vs) (wipe σ vs) := by
  have one : ∀ (vs : List Nat) (Γ : Env) (i : Nat) (d : D), (forget Γ vs)[i]? = some (some d) → Γ[i]? = some (some d) ∧ i ∉ vs := by
    intro vs
    induction vs with
    | nil => intro Γ i d h; exact ⟨h, by simp⟩
    | cons v vs ih =>
      intro Γ i d h
      obtain ⟨h1, h2⟩ := ih (Γ.set v none) i d h
      by_cases hv : v = i
      · subst hv
        have lt : v < Γ.length := by
          have := (List.getElem?_eq_some_iff.mp h1).1
          rw [List.length_set] at this
          exact this
        rw [List.getElem?_set_self lt] at h1
        cases h1
      · rw [List.getElem?_set_ne hv] at h1
        exact ⟨h1, by simp only [List.mem_cons, not_or]; exact ⟨fun e => hv e.symm, h2⟩⟩
  have keep : ∀ (vs : List Nat) (i : Nat), i ∉ vs → (wipe σ vs)[i]? = σ[i]? := by
    intro vs
    induction vs with
    | nil => intro i _; rfl
    | cons v vs ih =>
      intro i h
      show ((wipe σ vs).set v none)[i]? = _
      rw [List.getElem?_set_ne (fun e => h (by rw [e]; exact List.mem_cons_self))]
      exact ih i fun z => h (List.mem_cons_of_mem _ z)
  have len : ∀ (vs : List Nat) (Γ : Env), (forget Γ vs).length = Γ.length := by
    intro vs
    induction vs with
    | nil => intro Γ; rfl
    | cons v vs ih => intro Γ; exact (ih _).trans List.length_set
  intro vs Γ sl
  refine ⟨by rw [len, wipe_length]; exact sl.1, fun i d h => ?_⟩
  obtain ⟨h1, h2⟩ := one vs Γ i d h
  obtain ⟨v, e, r⟩ := sl.2 i d h1
  exact ⟨v, by rw [keep vs i h2]; exact e, r⟩
section
variable {X : Cx} {C : CT} {W : WX}
abbrev Blk (X : Cx) (scope : Scope) (F : Cx → Prop) : Prop := ∀ (s : Shared) (H : Hp) (c : Addr) (cl : List (Str × Addr)) (fp : List Addr), F (X.blk s H scope (compEnvC scope cl c X.env) fp)
/-- the readings that the functions are: the same in every block -/
def liftE (K : PySem.W.Frag) (X : Cx) (C : CT) (W : WX) (g : GE) : TE := fun σ H Q => ∃ (Z : Hp) (ι : Nat → Addr) (Γ : Env) (M : List MO), Slots K Z ι M.length Γ σ ∧ HR K H Z ι M ∧ Post X C W (rpE K) σ H Z ι M (g Γ M) Q
def liftT (K : PySem.W.Frag) (X : Cx) (C : CT) (W : WX) (g : GT) : TT := fun σ H Q => ∃ (Z : Hp) (ι : Nat → Addr) (Γ : Env) (M : List MO), Slots K Z ι M.length Γ σ ∧ HR K H Z ι M ∧ Post X C W rpT σ H Z ι M (g Γ M) Q
def liftG (K : PySem.W.Frag) (g : GG) (is : List Nat) : TG := fun v σ H Q => ∃ (Z : Hp) (ι : Nat → Addr) (n : Nat) (d : D) (Γ Γ' : Env), Sub Z H ∧ Slots K Z ι n Γ σ ∧ Rp K Z ι n d v ∧ g d Γ = some Γ' ∧ ∀ σ', Slots K Z ι n Γ' σ' → Wip is σ σ' → Q σ' H
def QTs (X : Cx) (C : CT) (W : WX) (es : List Expr) (g : GT) : Prop := ∃ te, PTs X es te ∧ ∀ (σ : St) (H Z : Hp) (ι : Nat → Addr) (Γ : Env) (M : List MO) (Q : Bool → Hp → Prop), Slots X.K Z ι M.length Γ σ → HR X.K H Z ι M → Post X C W rpT σ H Z ι M (g Γ M) Q → te σ H Q
theorem qts_nil : QTs X C W [] gYes := ⟨_, pts_nil, fun σ H Z ι Γ M Q sl hr h => h true H Z ι .refl hr rfl⟩
theorem qts_one {c : Expr} {g : GT} (h : QT X C W c g) : QTs X C W [c] g := let ⟨t, p, q⟩ := h; ⟨t, pts_one p, q⟩
theorem Post.blk {α β : Type} {X Y : Cx} {rp : RpK α β} {σ : St} {H Z : Hp} {ι : Nat → Addr} {M : List MO} {r : R α} {Q : β → Hp → Prop} (e : X.K = Y.K) (h : Post X C W rp σ H Z ι M r Q) : Post Y C W rp σ H Z ι M r Q := by
  cases r with
  | ok a M' =>
    intro b H' Z' ι' e' hr rb
    exact h b H' Z' ι' e' (by rw [e]; exact hr) rb
  | exc c d M' =>
    intro cls dd H' Z' ι' e' hr rb
    exact h cls dd H' Z' ι' e' (by rw [e]; exact hr) (by rw [e]; exact rb)
  | bad => exact h
theorem gLcL_run {cd : List MO → Prop} {gg : GG} {gt : GT} {ge : GE} {is own : List Nat} {σ : St} {Γ0 : Env} {fin : List D → List MO → R D} {Q : VK} {J : It} {p : Addr}
    {ds : List D} {H0 Z0 : Hp} {ι0 : Nat → Addr} {M0 : List MO} (hsub : ∀ i ∈ is, i ∈ own) (sl : Slots X.K Z0 ι0 M0.length Γ0 (wipe σ own)) (rJ : ItC cd X.K J ds Z0 ι0 M0.length) (cd0 : cd M0) (cdt : ∀ Γ M d M', gt Γ M = .ok d M' → cd M → cd M') (cde : ∀ Γ M d M', ge Γ M = .ok d M' → cd M → cd M') (hp0 : H0 p = none) (hr0 : HR X.K H0 Z0 ι0 M0)
    (h : Post X C W (rpE X.K) σ H0 Z0 ι0 M0 ((gLcL gg gt ge Γ0 ds [] M0).bind fin) Q)
    (hfin : ∀ (acc : List D) (accV : List V) (M : List MO) (H Z : Hp) (ι : Nat → Addr), Ext H0 Z0 ι0 M0.length H Z ι M.length → HR X.K H Z ι M → Odd Z ι M.length p → H p = some (.lst accV) → Rps X.K Z ι M.length acc accV → Post X C W (rpE X.K) σ H0 Z0 ι0 M0 (fin acc M) Q → Q (.ref p) H) :
    ∃ Wv : Nat → Nat → Hp → Prop, (∃ m, Wv 0 m (upd H0 p (.lst []))) ∧ ∀ i m H, Wv i m H →
      (J.stop i H ∧ Q (.ref p) H) ∨ (J.go i H ∧ ∃ Nx : Hp → Prop, (∀ H', Nx H' → ∃ m', m' < m ∧ Wv (i + 1) m' H') ∧ ∀ x H', J.yld i H x H' → liftG X.K gg is x (wipe σ own) H' fun σ2 H2 => wipe σ2 own = wipe σ own ∧ liftT X.K X C noW gt σ2 H2 fun b H3 =>
        if b = true then liftE X.K X C noW ge σ2 H3 fun y H4 => ∃ acc, H4 p = some (.lst acc) ∧ acc.length < sizeLine ∧ Nx (upd H4 p (.lst (acc ++ [y]))) else Nx H3) := by
  let Inv' : Nat → Hp → Prop := fun i H => ∃ (Z : Hp) (ι : Nat → Addr) (M : List MO) (acc : List D) (accV : List V), Ext H0 Z0 ι0 M0.length H Z ι M.length ∧ HR X.K H Z ι M ∧ Odd Z ι M.length p ∧ H p = some (.lst accV) ∧ Rps X.K Z ι M.length acc accV ∧ cd M ∧
    Post X C W (rpE X.K) σ H0 Z0 ι0 M0 ((gLcL gg gt ge Γ0 (ds.drop i) acc M).bind fin) Q
  have q0 : Odd Z0 ι0 M0.length p := .new hr0 hp0
  refine ⟨fun i m H => m = ds.length - i ∧ i ≤ ds.length ∧ Inv' i H, ⟨ds.length, rfl, Nat.zero_le _, Z0, ι0, M0, [], [], (Ext.refl).touch hp0, hr0.odd q0, q0, upd_same, .nil, cd0, h⟩, ?_⟩
  rintro i m H ⟨em, hle, Z, ι, M, acc, accV, e1, hr1, od, hp, ra, cdM, hpost⟩
  obtain ⟨hstop, hgo⟩ := rJ i H Z ι M e1.zz e1.ii e1.ln hr1 cdM
  by_cases hi : i < ds.length
  · refine .inr ?_
    have ed : ds.drop i = ds[i] :: ds.drop (i + 1) := List.drop_eq_getElem_cons hi
    obtain ⟨go, yl⟩ := hgo ds[i] (List.getElem?_eq_getElem hi)
    refine ⟨go, Inv' (i + 1), fun H' hN => ⟨ds.length - (i + 1), by omega, rfl, by omega, hN⟩, fun x H2 hy => ?_⟩
    obtain ⟨Z2, e2, hr2, rx⟩ := yl x H2 hy
    obtain ⟨od2, hp2⟩ := od.ext hp e2
    have e12 := e1.trans e2 hr1.ali
    rw [ed] at hpost
    cases eg : gg ds[i] Γ0 with
    | none =>
      have z : gLcL gg gt ge Γ0 (ds[i] :: ds.drop (i + 1)) acc M = .bad := by
        unfold gLcL
        rw [eg]
      rw [z] at hpost
      exact hpost.elim
    | some Γ1 =>
      have z : gLcL gg gt ge Γ0 (ds[i] :: ds.drop (i + 1)) acc M = ((gt Γ1 M).only fun k M1 => if k = true then (ge Γ1 M1).only fun y M2 => if acc.length < sizeLine then gLcL gg gt ge Γ0 (ds.drop (i + 1)) (acc ++ [y]) M2 else .bad
          else gLcL gg gt ge Γ0 (ds.drop (i + 1)) acc M1) := by
        conv => lhs; unfold gLcL
        rw [eg]
      rw [z] at hpost
      refine ⟨Z2, ι, M.length, ds[i], Γ0, Γ1, hr2.sub, sl.ext e12, rx, eg, fun σ2 s2 w2 => ⟨(w2 own hsub).trans (wipe_wipe own), Z2, ι, Γ1, M, s2, hr2, ?_⟩⟩
      cases et : gt Γ1 M with
      | bad => rw [et] at hpost; exact hpost.elim
      | exc c d M' => rw [et] at hpost; exact hpost.elim
      | ok k M3 =>
        rw [et] at hpost
        intro b H3 Z3 ι3 e3 hr3 hb
        have hb' : k = b := hb
        subst hb'
        obtain ⟨od3, hp3⟩ := od2.ext hp2 e3
        have e13 := e12.trans e3 hr2.ali
        have ra3 := (ra.ext e2).ext e3
        cases k with
        | false => exact ⟨Z3, ι3, M3, acc, accV, e13, hr3, od3, hp3, ra3, cdt _ _ _ _ et cdM, hpost⟩
        | true =>
          rw [if_pos rfl]
          refine ⟨Z3, ι3, Γ1, M3, s2.ext e3, hr3, ?_⟩
          have hpost2 : Post X C W (rpE X.K) σ H0 Z0 ι0 M0 (((ge Γ1 M3).only fun y M2 => if acc.length < sizeLine then gLcL gg gt ge Γ0 (ds.drop (i + 1)) (acc ++ [y]) M2 else .bad).bind fin) Q := hpost
          cases ee : ge Γ1 M3 with
          | bad => rw [ee] at hpost2; exact hpost2.elim
          | exc c d M' => rw [ee] at hpost2; exact hpost2.elim
          | ok y M4 =>
            rw [ee] at hpost2
            have hpost3 : Post X C W (rpE X.K) σ H0 Z0 ι0 M0 ((if acc.length < sizeLine then gLcL gg gt ge Γ0 (ds.drop (i + 1)) (acc ++ [y]) M4 else .bad).bind fin) Q := hpost2
            by_cases hz : acc.length < sizeLine
            · rw [if_pos hz] at hpost3
              intro v H4 Z4 ι4 e4 hr4 rv
              obtain ⟨od4, hp4⟩ := od3.ext hp3 e4
              have ra4 := ra3.ext e4
              exact ⟨accV, hp4, by rw [← ra4.length]; exact hz, Z4, ι4, M4, acc ++ [y], accV ++ [v], (e13.trans e4 hr3.ali).touch hp0, hr4.odd od4, od4, upd_same, ra4.append (.cons rv .nil), cde _ _ _ _ ee (cdt _ _ _ _ et cdM), hpost3⟩
            · rw [if_neg hz] at hpost3
              exact hpost3.elim
  · refine .inl ⟨hstop (by omega), ?_⟩
    rw [List.drop_eq_nil_of_le (Nat.le_of_not_lt hi)] at hpost
    exact hfin acc accV M H Z ι e1 hr1 od hp ra hpost

theorem lc_read {own : List Nat} {gi : GI} {gg : GG} {gt : GT} {ge : GE} {is : List Nat} {wi : TI} {fin : List D → List MO → R D}
    (qi : ∀ (σ : St) (H Z : Hp) (ι : Nat → Addr) (Γ : Env) (M : List MO) (Q : It → Hp → Prop), Slots X.K Z ι M.length Γ σ → HR X.K H Z ι M → Post X C W (rpI X.K) σ H Z ι M (gi Γ M) Q → wi σ H Q) (hsub : ∀ i ∈ is, i ∈ own)
    (hfin : ∀ (σ : St) (H0 Z0 : Hp) (ι0 : Nat → Addr) (M0 : List MO) (p : Addr) (Q : VK) (acc : List D) (accV : List V) (M : List MO) (H Z : Hp) (ι : Nat → Addr), H0 p = none → Ext H0 Z0 ι0 M0.length H Z ι M.length → HR X.K H Z ι M → Odd Z ι M.length p → H p = some (.lst accV) →
      Rps X.K Z ι M.length acc accV → Post X C W (rpE X.K) σ H0 Z0 ι0 M0 (fin acc M) Q → Q (.ref p) H)
    (σ : St) (H Z : Hp) (ι : Nat → Addr) (Γ : Env) (M : List MO) (Q : VK) (sl : Slots X.K Z ι M.length Γ σ) (hr : HR X.K H Z ι M)
    (h : Post X C W (rpE X.K) σ H Z ι M ((gi Γ M).bind fun ds M1 => (gLcL gg gt ge (forget Γ own) ds [] M1).bind fin) Q) :
    tLc wi (liftG X.K gg is) (liftT X.K X C noW gt) (liftE X.K X C noW ge) own σ H Q :=
  qi σ H Z ι Γ M _ sl hr (h.bind fun ds M1 J H1 Z1 ι1 e1 hr1 rJ h1 => fun p hp =>
    gLcL_run hsub (slots_wipe _ (sl.ext e1)) rJ trivial (fun _ _ _ _ _ _ => trivial) (fun _ _ _ _ _ _ => trivial) hp hr1 h1 fun acc accV M' H' Z' ι' a1 a2 a3 a4 a5 a6 => hfin σ H1 Z1 ι1 M1 p Q acc accV M' H' Z' ι' hp a1 a2 a3 a4 a5 a6)
theorem blk_g {tg : Expr} {scope : Scope} {gg : GG} {is : List Nat} (hg : Blk X scope fun Y => QG Y tg gg is) : Blk X scope fun Y => PG Y tg (liftG X.K gg is) := fun s H c cl fp => by
  obtain ⟨t, p, q⟩ := hg s H c cl fp
  exact ⟨fun pins s σ H v u Q I r h => p.run pins s σ H v u Q I r (let ⟨Z, ι, n, d, Γ, Γ', h1, h2, h3, h4, h5⟩ := h; q v σ H Z ι n d Γ Γ' Q h1 h2 h3 h4 h5)⟩
theorem blk_t {ifs : List Expr} {scope : Scope} {gt : GT} (ht : Blk X scope fun Y => QTs Y C noW ifs gt) : Blk X scope fun Y => PTs Y ifs (liftT X.K X C noW gt) := fun s H c cl fp => by
  obtain ⟨t, p, q⟩ := ht s H c cl fp
  exact ⟨fun pins s σ H Q I h => p.run pins s σ H Q I (let ⟨Z, ι, Γ, M, h1, h2, h3⟩ := h; q σ H Z ι Γ M Q h1 h2 (h3.blk rfl))⟩
theorem blk_e {elt : Expr} {scope : Scope} {ge : GE} (he : Blk X scope fun Y => QE Y C noW elt ge) : Blk X scope fun Y => PE Y elt (liftE X.K X C noW ge) := fun s H c cl fp => by
  obtain ⟨t, p, q⟩ := he s H c cl fp
  exact ⟨fun pins s σ H Q I h => p.run pins s σ H Q I (let ⟨Z, ι, Γ, M, h1, h2, h3⟩ := h; q σ H Z ι Γ M Q h1 h2 (h3.blk rfl))⟩
theorem fin_z {σ : St} {H0 Z0 : Hp} {ι0 : Nat → Addr} {M0 : List MO} {p : Addr} {Q : VK} {acc : List D} {accV : List V} {M : List MO} {H Z : Hp} {ι : Nat → Addr} (h0 : H0 p = none) (e : Ext H0 Z0 ι0 M0.length H Z ι M.length) (hr : HR X.K H Z ι M) (od : Odd Z ι M.length p) (hp : H p = some (.lst accV))
    (ra : Rps X.K Z ι M.length acc accV) (h : Post X C W (rpE X.K) σ H0 Z0 ι0 M0 (.ok (.lst acc) M) Q) : Q (.ref p) H :=
  h _ H _ ι (e.adoptZ od.z h0) (hr.adoptZ od hp) (.lst (.inl (.inl upd_same)) (Rps.mono (fun a u q => by rw [upd_ne (ne_of_none q od.z)]; exact q) (fun _ _ => rfl) (Nat.le_refl _) _ _ ra))
theorem fin_m {σ : St} {H0 Z0 : Hp} {ι0 : Nat → Addr} {M0 : List MO} {p : Addr} {Q : VK} {acc : List D} {accV : List V} {M : List MO} {H Z : Hp} {ι : Nat → Addr} (h0 : H0 p = none) (e : Ext H0 Z0 ι0 M0.length H Z ι M.length) (hr : HR X.K H Z ι M) (od : Odd Z ι M.length p) (hp : H p = some (.lst accV))
    (ra : Rps X.K Z ι M.length acc accV) (h : Post X C W (rpE X.K) σ H0 Z0 ι0 M0 (.ok (.ref M.length) (M ++ [.lst acc])) Q) : Q (.ref p) H := by
  have q : Rp X.K Z (put ι M.length p) (M ++ [MO.lst acc]).length (.ref M.length) (.ref (put ι M.length p M.length)) := .ref (by simp)
  rw [put_at] at q
  exact h _ H Z _ (e.adoptM h0) (hr.adoptM od hp ra) q
section
variable {elt tg iter : Expr} {ifs : List Expr} {scope : Scope} {own : List (Str × Nat)} {pos spos py : Pos} {gi : GI} {gg : GG} {gt : GT} {ge : GE} {is ixs : List Nat}
theorem qe_lc (hc : X.calm = true) (hN : X.N.Nodup) (hi : QI X C W tg iter gi) (ok : BlkOk X.N X.env.scope scope own)
    (hg : Blk X scope fun Y => QG Y tg gg is) (ht : Blk X scope fun Y => QTs Y C noW ifs gt) (he : Blk X scope fun Y => QE Y C noW elt ge) (hix : ixs = own.map (·.2) := by rfl) (hsub : ∀ i ∈ is, i ∈ own.map (·.2) := by decide) (hs : ∀ x, foldedSetIterable iter X.env x = pure x := by intro _; rfl) :
    QE X C W (.ListComp elt [⟨tg, iter, ifs, 0⟩] scope pos) (gLc gi gg gt ge ixs) := by
  subst hix
  obtain ⟨wi, pi, qi⟩ := hi
  exact ⟨_, pe_lc hc hN pi ok (blk_g hg) (blk_t ht) (blk_e he) hs, lc_read qi hsub fun σ H0 Z0 ι0 M0 p Q acc accV M H Z ι h0 e hr od hp ra h => fin_z h0 e hr od hp ra h⟩
theorem qe_lcO (hc : X.calm = true) (hN : X.N.Nodup) (hi : QI X C W tg iter gi) (ok : BlkOk X.N X.env.scope scope own)
    (hg : Blk X scope fun Y => QG Y tg gg is) (ht : Blk X scope fun Y => QTs Y C noW ifs gt) (he : Blk X scope fun Y => QE Y C noW elt ge) (hix : ixs = own.map (·.2) := by rfl) (hsub : ∀ i ∈ is, i ∈ own.map (·.2) := by decide) (hs : ∀ x, foldedSetIterable iter X.env x = pure x := by intro _; rfl) :
    QE X C W (.ListComp elt [⟨tg, iter, ifs, 0⟩] scope pos) (gLcO gi gg gt ge ixs) := by
  subst hix
  obtain ⟨wi, pi, qi⟩ := hi
  exact ⟨_, pe_lc hc hN pi ok (blk_g hg) (blk_t ht) (blk_e he) hs, lc_read qi hsub fun σ H0 Z0 ι0 M0 p Q acc accV M H Z ι h0 e hr od hp ra h => fin_m h0 e hr od hp ra h⟩
/-- y = [..]: the model stores the list within the comprehension -/
theorem qs_lc {i : Nat} {y : Str} (hc : X.calm = true) (hN : X.N.Nodup) (hy : X.N[i]? = some y) (hyl : X.env.scope.names.lookup y = some .local) (hsw : swapsWith (.ListComp elt [⟨tg, iter, ifs, 0⟩] scope pos) (some (.Name y py)) spos.line X.env = pure true)
    (hi : QI X C W tg iter gi) (ok : BlkOk X.N X.env.scope scope own) (hg : Blk X scope fun Y => QG Y tg gg is) (ht : Blk X scope fun Y => QTs Y C noW ifs gt) (he : Blk X scope fun Y => QE Y C noW elt ge)
    (hix : ixs = own.map (·.2) := by rfl) (hsub : ∀ i ∈ is, i ∈ own.map (·.2) := by decide) (hs : ∀ x, foldedSetIterable iter X.env x = pure x := by intro _; rfl) : QS X C W (.Assign [.Name y py] (.ListComp elt [⟨tg, iter, ifs, 0⟩] scope pos) spos) (gAsg (gLc gi gg gt ge ixs) (gTo i)) := by
  subst hix
  obtain ⟨wi, pi, qi⟩ := hi
  refine ⟨_, ps_setLc hc hN hy hyl hsw pi ok (blk_g hg) (blk_t ht) (blk_e he) hs, fun Dd σ H Z ι Γ M sl hr h => ?_⟩
  refine lc_read qi hsub (fin := fun acc M2 => .ok (.lst acc) M2) (fun σ H0 Z0 ι0 M0 p Q acc accV M H Z ι h0 e hr od hp ra h => fin_z h0 e hr od hp ra h) σ H Z ι Γ M _ sl hr (PostS.bind (Γ := Γ) h sl fun x M1 v H1 Z1 ι1 e1 hr1 r1 h1 => ?_)
  exact h1 _ H1 Z1 ι1 .refl hr1 ((sl.ext e1).set i r1)
end
end
end Bk

set_option Elab.async false
set_option linter.all false
set_option maxRecDepth 100000
set_option maxHeartbeats 2000000
namespace Bk
open PySem PySem.Spec PyProof.Rows L2

/-! ### calls: what of ours is handed over is lent, and comes back changed -/
/-- the arguments as the callee sees them, and which things of ours are lent -/
def lendA : Nat → List D → List D
  | _, [] => []
  | m, .ref _ :: r => .ref m :: lendA (m + 1) r
  | m, d :: r => d :: lendA m r
def lendK : List D → List Nat
  | [] => []
  | .ref k :: r => k :: lendK r
  | _ :: r => lendK r
def getAll (M : List MO) : List Nat → Option (List MO)
  | [] => some []
  | k :: ks => match M[k]?, getAll M ks with
    | some o, some os => some (o :: os)
    | _, _ => none
def setAll (M : List MO) : List Nat → List MO → List MO
  | k :: ks, o :: os => setAll (M.set k o) ks os
  | _, _ => M
def isDead : MO → Bool
  | .dead => true
  | _ => false
/-- no refs but at the top -/
def flatArgs : List D → Bool
  | [] => true
  | .ref _ :: r => flatArgs r
  | d :: r => below 0 d && flatArgs r
def lentOk (os : List MO) : Bool := os.all fun o => !isDead o && belowO 0 o
def backD (ks : List Nat) (n : Nat) : D → Option D
  | .ref j => if j < ks.length then (ks[j]?).map D.ref else some (.ref (n + (j - ks.length)))
  | d => if below 0 d = true then some d else none
/-- nothing is lent: nothing comes back -/
def callF (F : List D → List MO → R D) (ds : List D) (M : List MO) : R D := match getAll M (lendK ds) with
  | none => .bad
  | some os => if (lendK ds).Nodup ∧ flatArgs ds = true ∧ lentOk os = true then
      match F (lendA 0 ds) os with
      | .ok d os' => if (lendK ds).length ≤ os'.length ∧ os'.all (belowO 0) = true then
          match backD (lendK ds) M.length d with
          | some d' => .ok d' (setAll M (lendK ds) os' ++ os'.drop (lendK ds).length)
          | none => .bad
        else .bad
      | .exc c d os' => if (lendK ds).length ≤ os'.length ∧ os'.all (belowO 0) = true ∧ below 0 d = true then .exc c d (setAll M (lendK ds) os' ++ os'.drop (lendK ds).length) else .bad
      | .bad => .bad
    else .bad
def gCallF (n : Nat) (F : List D → List MO → R D) (ga : GA) : GE := fun Γ M => (ga Γ M).bind fun ds M1 => if ds.length = n then callF F ds M1 else .bad
/-- positional values, then the keywords' values, in the parameters' order -/
def pick {α : Type} (l : List α) : List Nat → List α
  | [] => []
  | i :: is => match l[i]? with
    | some a => a :: pick l is
    | none => pick l is
def gCallK (n : Nat) (F : List D → List MO → R D) (is : List Nat) (ga gk : GA) : GE := fun Γ M => (ga Γ M).bind fun ds M1 => (gk Γ M1).bind fun es M2 => if (pick (ds ++ es) is).length = n then callF F (pick (ds ++ es) is) M2 else .bad

section
variable {K : PySem.W.Frag} {Z : Hp} {ι : Nat → Addr} {n : Nat}
/-- which address stands for which lent thing -/
def lentι (ι : Nat → Addr) (ks : List Nat) : Nat → Addr := fun j => ι (ks.getD j 0)
theorem lend_rps : ∀ (ds : List D) (vs : List V) (pre : List Nat), flatArgs ds = true → Rps K Z ι n ds vs → Rps K Z (lentι ι (pre ++ lendK ds)) (pre ++ lendK ds).length (lendA pre.length ds) vs
  | [], _, _, _, h => by cases h; exact .nil
  | .ref k :: r, _, pre, hf, h => by
    cases h with
    | cons r1 rs =>
      cases r1 with
      | ref hk =>
        have ih := lend_rps r _ (pre ++ [k]) (by simpa [flatArgs] using hf) rs
        have e : pre ++ [k] ++ lendK r = pre ++ lendK (.ref k :: r) := by simp [lendK]
        rw [e] at ih
        have el : (pre ++ [k]).length = pre.length + 1 := by simp
        rw [el] at ih
        refine .cons ?_ ih
        have q : Rp K Z (lentι ι (pre ++ lendK (.ref k :: r))) (pre ++ lendK (.ref k :: r)).length (.ref pre.length) (.ref (lentι ι (pre ++ lendK (.ref k :: r)) pre.length)) := .ref (by simp [lendK])
        have ek : lentι ι (pre ++ lendK (.ref k :: r)) pre.length = ι k := by
          unfold lentι
          congr 1
          simp [lendK]
        rw [ek] at q
        exact q
  | .non :: r, _, pre, hf, h => by
    cases h with
    | cons r1 rs =>
      cases r1
      exact .cons .non (lend_rps r _ pre (by simpa [flatArgs, below] using hf) rs)
  | .bl b :: r, _, pre, hf, h => by
    cases h with
    | cons r1 rs =>
      cases r1
      exact .cons (.bl b) (lend_rps r _ pre (by simpa [flatArgs, below] using hf) rs)
  | .int i :: r, _, pre, hf, h => by
    cases h with
    | cons r1 rs =>
      cases r1
      exact .cons (.int i) (lend_rps r _ pre (by simpa [flatArgs, below] using hf) rs)
  | .str x :: r, _, pre, hf, h => by
    cases h with
    | cons r1 rs =>
      cases r1
      exact .cons (.str x) (lend_rps r _ pre (by simpa [flatArgs, below] using hf) rs)
  | .tup ds :: r, _, pre, hf, h => by
    cases h with
    | cons r1 rs =>
      have hf' : below 0 (.tup ds) = true ∧ flatArgs r = true := by simpa [flatArgs] using hf
      exact .cons (Rp.mono (fun _ _ z => z) (fun k hk => absurd hk (Nat.not_lt_zero _)) (Nat.zero_le _) _ _ (r1.shrink _ _ hf'.1)) (lend_rps r _ pre hf'.2 rs)
  | .lst ds :: r, _, pre, hf, h => by
    cases h with
    | cons r1 rs =>
      have hf' : below 0 (.lst ds) = true ∧ flatArgs r = true := by simpa [flatArgs] using hf
      exact .cons (Rp.mono (fun _ _ z => z) (fun k hk => absurd hk (Nat.not_lt_zero _)) (Nat.zero_le _) _ _ (r1.shrink _ _ hf'.1)) (lend_rps r _ pre hf'.2 rs)
  | .dct ks ws :: r, _, pre, hf, h => by
    cases h with
    | cons r1 rs =>
      have hf' : below 0 (.dct ks ws) = true ∧ flatArgs r = true := by simpa [flatArgs] using hf
      exact .cons (Rp.mono (fun _ _ z => z) (fun k hk => absurd hk (Nat.not_lt_zero _)) (Nat.zero_le _) _ _ (r1.shrink _ _ hf'.1)) (lend_rps r _ pre hf'.2 rs)
  | .ptu ds :: r, _, pre, hf, h => by
    cases h with
    | cons r1 rs =>
      have hf' : below 0 (.ptu ds) = true ∧ flatArgs r = true := by simpa [flatArgs] using hf
      exact .cons (Rp.mono (fun _ _ z => z) (fun k hk => absurd hk (Nat.not_lt_zero _)) (Nat.zero_le _) _ _ (r1.shrink _ _ hf'.1)) (lend_rps r _ pre hf'.2 rs)
theorem getAll_at {M : List MO} : ∀ {ks : List Nat} {os : List MO}, getAll M ks = some os → os.length = ks.length ∧ ∀ (j : Nat) (o : MO), os[j]? = some o → ∃ k, ks[j]? = some k ∧ M[k]? = some o
  | [], os, h => by
    cases h
    exact ⟨rfl, fun j o e => by simp at e⟩
  | k :: ks, os, h => by
    unfold getAll at h
    cases e1 : M[k]? with
    | none => rw [e1] at h; simp at h
    | some o =>
      cases e2 : getAll M ks with
      | none => rw [e1, e2] at h; simp at h
      | some os' =>
        rw [e1, e2] at h
        cases h
        obtain ⟨l, f⟩ := getAll_at e2
        refine ⟨by simp [l], fun j o' e => ?_⟩
        cases j with
        | zero =>
          simp at e
          subst e
          exact ⟨k, rfl, e1⟩
        | succ j =>
          obtain ⟨k', h1, h2⟩ := f j o' (by simpa using e)
          exact ⟨k', by simpa using h1, h2⟩
theorem setAll_length : ∀ (ks : List Nat) (os : List MO) (M : List MO), (setAll M ks os).length = M.length
  | [], _, _ => by simp [setAll]
  | _ :: _, [], _ => by simp [setAll]
  | k :: ks, o :: os, M => by
    show (setAll (M.set k o) ks os).length = _
    rw [setAll_length ks os, List.length_set]
/-- what stands where, behind -/
theorem setAll_at : ∀ (ks : List Nat) (os : List MO) (M : List MO) (k : Nat) (o : MO), ks.Nodup → ks.length ≤ os.length → (setAll M ks os)[k]? = some o → (k ∉ ks ∧ M[k]? = some o) ∨ ∃ j : Nat, j < ks.length ∧ ks[j]? = some k ∧ os[j]? = some o
  | [], _, M, k, o, _, _, h => .inl ⟨by simp, by simpa [setAll] using h⟩
  | _ :: _, [], _, _, _, _, hl, _ => by simp at hl
  | k0 :: ks, o0 :: os, M, k, o, nd, hl, h => by
    have nd' := List.nodup_cons.mp nd
    rcases setAll_at ks os (M.set k0 o0) k o nd'.2 (by simpa using hl) h with ⟨h1, h2⟩ | ⟨j, h1, h2, h3⟩
    · by_cases e : k0 = k
      · subst e
        have lt : k0 < M.length := by
          have := (List.getElem?_eq_some_iff.mp h2).1
          rw [List.length_set] at this
          exact this
        rw [List.getElem?_set_self lt] at h2
        exact .inr ⟨0, by simp, rfl, by simpa using h2⟩
      · rw [List.getElem?_set_ne e] at h2
        exact .inl ⟨by simp only [List.mem_cons, not_or]; exact ⟨fun z => e z.symm, h1⟩, h2⟩
    · exact .inr ⟨j + 1, by simp; omega, by simpa using h2, by simpa using h3⟩
end
/-- the things that are lent, as the callee has them -/
theorem HR.lend {K : PySem.W.Frag} {H Z : Hp} {ι : Nat → Addr} {M os : List MO} {ks : List Nat} (h : HR K H Z ι M) (nd : ks.Nodup) (g : getAll M ks = some os) (lo : lentOk os = true) : HR K H Z (lentι ι ks) os := by
  obtain ⟨l, f⟩ := getAll_at g
  have at_ : ∀ {j k : Nat}, ks[j]? = some k → lentι ι ks j = ι k := fun {j k} e => by
    unfold lentι
    rw [List.getD_eq_getElem?_getD, e]
    rfl
  have ok : ∀ {j : Nat} {o : MO}, os[j]? = some o → belowO 0 o = true ∧ o ≠ .dead := fun {j o} e => by
    have q := List.all_eq_true.mp lo o (List.mem_of_getElem? e)
    simp only [Bool.and_eq_true, Bool.not_eq_true'] at q
    exact ⟨q.2, fun z => by rw [z] at q; exact absurd q.1 (by simp [isDead])⟩
  refine ⟨h.sub, fun j hj => ?_, fun j o e d => ?_, fun i j o u e1 e2 d1 d2 e => ?_, fun j o e => ?_, fun j e => absurd rfl (ok e).2⟩
  · obtain ⟨k, h1, h2⟩ := f j os[j] (List.getElem?_eq_getElem hj)
    rw [at_ h1]
    exact h.ali k (List.getElem?_eq_some_iff.mp h2).1
  · obtain ⟨k, h1, h2⟩ := f j o e
    rw [at_ h1]
    exact h.sep k o h2 d
  · obtain ⟨k1, a1, b1⟩ := f i o e1
    obtain ⟨k2, a2, b2⟩ := f j u e2
    rw [at_ a1, at_ a2] at e
    have ek := h.inj k1 k2 o u b1 b2 d1 d2 e
    subst ek
    obtain ⟨i1, i2⟩ := List.getElem?_eq_some_iff.mp a1
    obtain ⟨j1, j2⟩ := List.getElem?_eq_some_iff.mp a2
    exact (List.getElem_inj nd).mp (i2.trans j2.symm)
  · obtain ⟨k, h1, h2⟩ := f j o e
    rw [at_ h1]
    exact (h.obj k o h2).low (ok e).1
/-- where everything stands behind a call -/
def backι (ι ι' : Nat → Addr) (n m : Nat) : Nat → Addr := fun k => if k < n then ι k else ι' (m + (k - n))
theorem HR.back {K : PySem.W.Frag} {H Z H' Z' : Hp} {ι ι' : Nat → Addr} {M os os' : List MO} {ks : List Nat} (h : HR K H Z ι M) (nd : ks.Nodup) (g : getAll M ks = some os) (lo : lentOk os = true) (e : Ext H Z (lentι ι ks) os.length H' Z' ι' os'.length) (h' : HR K H' Z' ι' os')
    (hl : ks.length ≤ os'.length) (hb : os'.all (belowO 0) = true) :
    HR K H' Z' (backι ι ι' M.length ks.length) (setAll M ks os' ++ os'.drop ks.length) ∧ Ext H Z ι M.length H' Z' (backι ι ι' M.length ks.length) (setAll M ks os' ++ os'.drop ks.length).length := by
  obtain ⟨l, f⟩ := getAll_at g
  have ln : (setAll M ks os' ++ os'.drop ks.length).length = M.length + (os'.length - ks.length) := by rw [List.length_append, setAll_length, List.length_drop]
  have bl : ∀ {k : Nat}, k < M.length → backι ι ι' M.length ks.length k = ι k := fun hk => if_pos hk
  have bn : ∀ {k : Nat}, ¬ k < M.length → backι ι ι' M.length ks.length k = ι' (ks.length + (k - M.length)) := fun hk => if_neg hk
  have at_ : ∀ {j k : Nat}, ks[j]? = some k → lentι ι ks j = ι k := fun {j k} e => by
    unfold lentι
    rw [List.getD_eq_getElem?_getD, e]
    rfl
  have at' : ∀ {j k : Nat}, ks[j]? = some k → ι' j = ι k := fun {j k} z => (e.ii j (by rw [l]; exact (List.getElem?_eq_some_iff.mp z).1)).trans (at_ z)
  have cs : ∀ {k : Nat} {o : MO}, (setAll M ks os' ++ os'.drop ks.length)[k]? = some o → (k < M.length ∧ k ∉ ks ∧ M[k]? = some o) ∨ (k < M.length ∧ ∃ j : Nat, ks[j]? = some k ∧ os'[j]? = some o) ∨ (¬ k < M.length ∧ os'[ks.length + (k - M.length)]? = some o) := fun {k o} z => by
    by_cases hk : k < M.length
    · rw [List.getElem?_append_left (by rw [setAll_length]; exact hk)] at z
      rcases setAll_at ks os' M k o nd hl z with ⟨h1, h2⟩ | ⟨j, _, h2, h3⟩
      · exact .inl ⟨hk, h1, h2⟩
      · exact .inr (.inl ⟨hk, j, h2, h3⟩)
    · rw [List.getElem?_append_right (by rw [setAll_length]; exact Nat.le_of_not_lt hk), setAll_length, List.getElem?_drop] at z
      exact .inr (.inr ⟨hk, z⟩)
  have dd : ∀ {j : Nat} {o : MO}, os[j]? = some o → o ≠ .dead := fun {j o} e => by
    have q := List.all_eq_true.mp lo o (List.mem_of_getElem? e)
    simp only [Bool.and_eq_true, Bool.not_eq_true'] at q
    exact fun z => by rw [z] at q; exact absurd q.1 (by simp [isDead])
  -- a live thing that was not lent stands apart from all that were
  have apart : ∀ {k j : Nat} {o : MO}, k ∉ ks → M[k]? = some o → o ≠ .dead → j < os.length → ι k ≠ lentι ι ks j := fun {k j o} hk ho hd hj z => by
    obtain ⟨k', h1, h2⟩ := f j os[j] (List.getElem?_eq_getElem hj)
    rw [at_ h1] at z
    have ek := h.inj k k' o os[j] ho h2 hd (dd (List.getElem?_eq_getElem hj)) z
    subst ek
    exact hk (List.mem_of_getElem? h1)
  have old : ∀ {k : Nat}, k < M.length → ∃ u, H (ι k) = some u := fun hk => h.ali _ hk
  have nw : ∀ {k j : Nat}, k < M.length → os.length ≤ j → j < os'.length → ι k ≠ ι' j := fun {k j} hk h1 h2 z => by
    obtain ⟨u, hu⟩ := old hk
    have w := e.nw j h1 h2
    rw [← z, hu] at w
    cases w
  refine ⟨⟨h'.sub, fun k hk => ?_, fun k o z d => ?_, fun a b o u z1 z2 d1 d2 z => ?_, fun k o z => ?_, fun k z => ?_⟩, e.zz, fun k hk => bl hk, fun a o h1 h2 => e.fr a o h1 fun j hj z => ?_, fun k h1 h2 => ?_, by rw [ln]; omega, fun a o z => ?_⟩
  · by_cases hk' : k < M.length
    · rw [bl hk']
      obtain ⟨u, hu⟩ := old hk'
      by_cases z : ∃ j, j < os.length ∧ ι k = lentι ι ks j
      · obtain ⟨j, hj, z⟩ := z
        rw [z, ← e.ii j hj]
        exact h'.ali j (Nat.lt_of_lt_of_le hj e.ln)
      · exact ⟨u, e.fr _ _ hu fun j hj q => z ⟨j, hj, q⟩⟩
    · rw [bn hk']
      rw [ln] at hk
      exact h'.ali _ (by omega)
  · rcases cs z with ⟨hk, hn, ho⟩ | ⟨hk, j, hj, ho⟩ | ⟨hk, ho⟩
    · rw [bl hk]
      cases q : Z' (ι k) with
      | none => rfl
      | some w =>
        rcases e.zn _ _ q with a | a | ⟨j, hj, a⟩
        · rw [h.sep k o ho d] at a; cases a
        · obtain ⟨u, hu⟩ := old hk
          rw [hu] at a; cases a
        · exact absurd a (apart hn ho d hj)
    · rw [bl hk, ← at' hj]
      exact h'.sep j o ho d
    · rw [bn hk]
      exact h'.sep _ o ho d
  · rcases cs z1 with ⟨ha, hn, ho⟩ | ⟨ha, i, hi, ho⟩ | ⟨ha, ho⟩ <;> rcases cs z2 with ⟨hb', hn', hu⟩ | ⟨hb', j, hj, hu⟩ | ⟨hb', hu⟩
    · rw [bl ha, bl hb'] at z
      exact h.inj a b o u ho hu d1 d2 z
    · rw [bl ha, bl hb'] at z
      exact absurd (z.trans (at_ hj).symm) (apart hn ho d1 (by rw [l]; exact (List.getElem?_eq_some_iff.mp hj).1))
    · rw [bl ha, bn hb'] at z
      exact absurd z (nw ha (by rw [l]; omega) (List.getElem?_eq_some_iff.mp hu).1)
    · rw [bl ha, bl hb'] at z
      exact absurd (z.symm.trans (at_ hi).symm) (apart hn' hu d2 (by rw [l]; exact (List.getElem?_eq_some_iff.mp hi).1))
    · rw [bl ha, bl hb', ← at' hi, ← at' hj] at z
      have ij := h'.inj i j o u ho hu d1 d2 z
      subst ij
      rw [hi] at hj
      exact Option.some.inj hj
    · rw [bl ha, bn hb', ← at' hi] at z
      have ij := h'.inj i _ o u ho hu d1 d2 z
      have := (List.getElem?_eq_some_iff.mp hi).1
      omega
    · rw [bn ha, bl hb'] at z
      exact absurd z.symm (nw hb' (by rw [l]; omega) (List.getElem?_eq_some_iff.mp ho).1)
    · rw [bn ha, bl hb', ← at' hj] at z
      have ij := h'.inj _ j o u ho hu d1 d2 z
      have := (List.getElem?_eq_some_iff.mp hj).1
      omega
    · rw [bn ha, bn hb'] at z
      have ij := h'.inj _ _ o u ho hu d1 d2 z
      omega
  · have low : ∀ {j : Nat} {o : MO}, os'[j]? = some o → belowO 0 o = true := fun q => List.all_eq_true.mp hb _ (List.mem_of_getElem? q)
    rcases cs z with ⟨hk, hn, ho⟩ | ⟨hk, j, hj, ho⟩ | ⟨hk, ho⟩
    · rw [bl hk]
      by_cases du : o = .dead
      · subst du
        trivial
      · exact OR.mono e.zz (fun k hk => bl hk) (by rw [ln]; omega) (fun u z => e.fr _ _ z fun j hj => apart hn ho du hj) (h.obj k o ho)
    · rw [bl hk, ← at' hj]
      exact (h'.obj j o ho).low (low ho)
    · rw [bn hk]
      exact (h'.obj _ o ho).low (low ho)
  · rcases cs z with ⟨hk, _, ho⟩ | ⟨hk, j, hj, ho⟩ | ⟨hk, ho⟩
    · rw [bl hk]
      obtain ⟨u, hu⟩ := h.ded k ho
      exact ⟨u, e.zz _ _ hu⟩
    · rw [bl hk, ← at' hj]
      exact h'.ded j ho
    · rw [bn hk]
      exact h'.ded _ ho
  · obtain ⟨k, q1, q2⟩ := f j os[j] (List.getElem?_eq_getElem hj)
    rw [at_ q1] at z
    exact h2 k (List.getElem?_eq_some_iff.mp q2).1 z
  · rw [bn (Nat.not_lt.mpr h1)]
    rw [ln] at h2
    exact e.nw _ (by rw [l]; omega) (by omega)
  · rcases e.zn a o z with q | q | ⟨j, hj, q⟩
    · exact .inl q
    · exact .inr (.inl q)
    · obtain ⟨k, q1, q2⟩ := f j os[j] (List.getElem?_eq_getElem hj)
      rw [at_ q1] at q
      exact .inr (.inr ⟨k, (List.getElem?_eq_some_iff.mp q2).1, q⟩)
theorem backD_rp {K : PySem.W.Frag} {Z' : Hp} {ι ι' : Nat → Addr} {ks : List Nat} {n m N : Nat} {d d' : D} {v : V} (hk : ∀ k ∈ ks, k < n) (hi : ∀ (j k : Nat), ks[j]? = some k → ι' j = ι k) (hN : n + (m - ks.length) ≤ N) (r : Rp K Z' ι' m d v) (h : backD ks n d = some d') :
    Rp K Z' (backι ι ι' n ks.length) N d' v := by
  have flat : ∀ {d : D}, below 0 d = true → Rp K Z' ι' m d v → Rp K Z' (backι ι ι' n ks.length) N d v := fun b r => Rp.mono (fun _ _ z => z) (fun _ z => absurd z (Nat.not_lt_zero _)) (Nat.zero_le _) _ _ (r.shrink _ _ b)
  cases r with
  | ref hj =>
    rename_i j
    have h' : (if j < ks.length then (ks[j]?).map D.ref else some (.ref (n + (j - ks.length)))) = some d' := h
    by_cases hl : j < ks.length
    · rw [if_pos hl, List.getElem?_eq_getElem hl] at h'
      cases h'
      have hk' := hk _ (List.getElem_mem hl)
      have q : Rp K Z' (backι ι ι' n ks.length) N (.ref ks[j]) (.ref (backι ι ι' n ks.length ks[j])) := .ref (by omega)
      rw [show backι ι ι' n ks.length ks[j] = ι' j by unfold backι; rw [if_pos hk']; exact (hi j _ (List.getElem?_eq_getElem hl)).symm] at q
      exact q
    · rw [if_neg hl] at h'
      cases h'
      have q : Rp K Z' (backι ι ι' n ks.length) N (.ref (n + (j - ks.length))) (.ref (backι ι ι' n ks.length (n + (j - ks.length)))) := .ref (by omega)
      rw [show backι ι ι' n ks.length (n + (j - ks.length)) = ι' j by unfold backι; rw [if_neg (by omega)]; congr 1; omega] at q
      exact q
  | non => cases h; exact .non
  | bl b => cases h; exact .bl b
  | int i => cases h; exact .int i
  | str x => cases h; exact .str x
  | tup s r =>
    rename_i ds a xs
    have h' : (if below 0 (.tup ds) = true then some (D.tup ds) else none) = some d' := h
    by_cases b : below 0 (.tup ds) = true
    · rw [if_pos b] at h'
      cases h'
      exact flat b (.tup s r)
    · rw [if_neg b] at h'
      cases h'
  | lst s r =>
    rename_i ds a xs
    have h' : (if below 0 (.lst ds) = true then some (D.lst ds) else none) = some d' := h
    by_cases b : below 0 (.lst ds) = true
    · rw [if_pos b] at h'
      cases h'
      exact flat b (.lst s r)
    · rw [if_neg b] at h'
      cases h'
  | dct s r t =>
    rename_i ks ws a nks kx xs
    have h' : (if below 0 (.dct ks ws) = true then some (D.dct ks ws) else none) = some d' := h
    by_cases b : below 0 (.dct ks ws) = true
    · rw [if_pos b] at h'
      cases h'
      exact flat b (.dct s r t)
    · rw [if_neg b] at h'
      cases h'
  | ptu s r =>
    rename_i ds a xs
    have h' : (if below 0 (.ptu ds) = true then some (D.ptu ds) else none) = some d' := h
    by_cases b : below 0 (.ptu ds) = true
    · rw [if_pos b] at h'
      cases h'
      exact flat b (.ptu s r)
    · rw [if_neg b] at h'
      cases h'
end Bk

set_option Elab.async false
set_option linter.all false
set_option maxRecDepth 100000
set_option maxHeartbeats 2000000
namespace Bk
open PySem PySem.Spec PyProof.Rows L2

/-! ### defs -/
def PostF (K : PySem.W.Frag) (C : CT) (E : XK) (H Z : Hp) (ι : Nat → Addr) (M : List MO) (r : R D) (Q : VK) : Prop := match r with
  | .ok d M' => ∀ (v : V) (H' Z' : Hp) (ι' : Nat → Addr), Ext H Z ι M.length H' Z' ι' M'.length → HR K H' Z' ι' M' → Rp K Z' ι' M'.length d v → Q v H'
  | .exc c d M' => ∀ (cls : Value) (dd : Option Addr) (H' Z' : Hp) (ι' : Nat → Addr), Ext H Z ι M.length H' Z' ι' M'.length → HR K H' Z' ι' M' → ExcR K C H' Z' ι' M'.length c d cls dd → E cls dd H'
  | .bad => False
/-- the def at f computes F, by at most k calls one in another -/
structure FnQ (P : Program) (w : World) (K : PySem.W.Frag) (mg : Str → Option Value) (base : Heap) (C : CT) (k : Nat) (f : Addr) (fd : FuncData) (ps : List Str) (F : List D → List MO → R D) : Prop where
  run : ∀ (A : Around) (outer : List PySem.Env) (s : Shared) (H : Hp) (args : Args) (us : List Value) (vs : List V) (Q : VK) (E : XK) (ds : List D) (Z : Hp) (ι : Nat → Addr) (M : List MO), Room k A → A.guards = some [] → Env0 P w K mg base A outer s H →
    BindsTo s fd args (ps.zip us) → Vals vs us → vs.length = ps.length → Rps K Z ι M.length ds vs → HR K H Z ι M → PostF K C E H Z ι M (F ds M) Q → codeAny (model P w) A (.call (.ref f) args) (CR (L2.CX P w) outer P w H s Q E) s
theorem FnQ.mono {P : Program} {w : World} {K : PySem.W.Frag} {mg : Str → Option Value} {base : Heap} {C : CT} {j k : Nat} {f : Addr} {fd : FuncData} {ps : List Str} {F : List D → List MO → R D} (x : FnQ P w K mg base C j f fd ps F) (h : j ≤ k) : FnQ P w K mg base C k f fd ps F :=
  ⟨fun A outer s H args us vs Q E ds Z ι M hr => x.run A outer s H args us vs Q E ds Z ι M (hr.mono h)⟩
/-- what a body's end gives the caller: what it made besides is dropped -/
def retR (m : Nat) (M' : List MO) : D → R D
  | .ref k => if k < m then .ok (.ref k) (M'.take m) else match M'[k]? with
    | some (.lst ds) => if belows m ds = true then .ok (.ref m) (M'.take m ++ [.lst ds]) else .bad
    | _ => .bad
  | d => if below m d = true then .ok d (M'.take m) else .bad
def fin (m : Nat) : RS → R D
  | .rt d M' => if m ≤ M'.length ∧ cutOk m M' = true then retR m M' d else .bad
  | .nx _ M' => if m ≤ M'.length ∧ cutOk m M' = true then .ok .non (M'.take m) else .bad
  | .exc c d _ M' => if m ≤ M'.length ∧ cutOk m M' = true ∧ below m d = true then .exc c d (M'.take m) else .bad
  | _ => .bad
/-- a def of n names with the body g -/
def runF (n : Nat) (g : GS) (ds : List D) (M : List MO) : R D := fin M.length (g (ds.map some ++ List.replicate (n - ds.length) none) M)

section
variable {K : PySem.W.Frag} {C : CT} {H Z H' Z' : Hp} {ι ι' : Nat → Addr} {M M' : List MO} {E : XK} {Q : VK}
theorem take_len {α : Type} {l : List α} {m : Nat} (h : m ≤ l.length) : (l.take m).length = m := by rw [List.length_take]; omega
theorem retR_run {d : D} {v : V} (e : Ext H Z ι M.length H' Z' ι' M'.length) (hr : HR K H' Z' ι' M') (r : Rp K Z' ι' M'.length d v) (c1 : M.length ≤ M'.length) (c2 : cutOk M.length M' = true) (h : PostF K C E H Z ι M (retR M.length M' d) Q) : Q v H' := by
  have ln := take_len c1
  have flat : ∀ {d : D}, Rp K Z' ι' M'.length d v → PostF K C E H Z ι M (if below M.length d = true then .ok d (M'.take M.length) else .bad) Q → Q v H' := fun {d} r h => by
    by_cases b : below M.length d = true
    · rw [if_pos b] at h
      exact h v H' Z' ι' (by rw [ln]; exact e.cut (Nat.le_refl _) c1) (hr.cut c1 c2) (by rw [ln]; exact r.shrink _ _ b)
    · rw [if_neg b] at h
      exact h.elim
  cases r with
  | ref hk =>
    rename_i k
    have h2 : PostF K C E H Z ι M (if k < M.length then .ok (.ref k) (M'.take M.length) else match M'[k]? with
      | some (.lst ds) => if belows M.length ds = true then .ok (.ref M.length) (M'.take M.length ++ [.lst ds]) else .bad
      | _ => .bad) Q := h
    by_cases hm : k < M.length
    · rw [if_pos hm] at h2
      exact h2 _ H' Z' ι' (by rw [ln]; exact e.cut (Nat.le_refl _) c1) (hr.cut c1 c2) (by rw [ln]; exact .ref hm)
    · rw [if_neg hm] at h2
      cases e1 : M'[k]? with
      | none => rw [e1] at h2; exact h2.elim
      | some o =>
        rw [e1] at h2
        cases o with
        | dead => exact h2.elim
        | dct ks0 vs0 => exact h2.elim
        | dki kvs0 => exact h2.elim
        | obj nm fs => exact h2.elim
        | lst ds =>
          have h3 : PostF K C E H Z ι M (if belows M.length ds = true then .ok (.ref M.length) (M'.take M.length ++ [.lst ds]) else .bad) Q := h2
          by_cases b : belows M.length ds = true
          · rw [if_pos b] at h3
            obtain ⟨xs, e2, r2⟩ := hr.obj k _ e1
            have hc := hr.cut c1 c2
            have lk : k < M'.length := (List.getElem?_eq_some_iff.mp e1).1
            have od : Odd Z' ι' (M'.take M.length).length (ι' k) := ⟨hr.sep k _ e1 (by simp), fun j hj => by
              rw [ln] at hj
              exact hr.apart (by omega) e1 (by simp) (by omega)⟩
            have q : Rp K Z' (put ι' (M'.take M.length).length (ι' k)) (M'.take M.length ++ [MO.lst ds]).length (.ref (M'.take M.length).length) (.ref (put ι' (M'.take M.length).length (ι' k) (M'.take M.length).length)) := .ref (by simp)
            rw [put_at] at q
            have n0 : H (ι' k) = none := e.nw k (by omega) lk
            have x := Ext.adoptM (M := M'.take M.length) (ds := ds) (p := ι' k) (by rw [ln]; exact e.cut (Nat.le_refl _) c1) n0
            have z := hc.adoptM od e2 (by rw [ln]; exact Rps.shrink _ _ r2 b)
            have h4 : PostF K C E H Z ι M (.ok (.ref (M'.take M.length).length) (M'.take M.length ++ [.lst ds])) Q := by rw [ln]; exact h3
            exact h4 _ H' Z' _ x z q
          · rw [if_neg b] at h3
            exact h3.elim
  | non => exact flat .non h
  | bl b => exact flat (.bl b) h
  | int i => exact flat (.int i) h
  | str x => exact flat (.str x) h
  | tup s r => exact flat (.tup s r) h
  | lst s r => exact flat (.lst s r) h
  | dct s r t => exact flat (.dct s r t) h
  | ptu s r => exact flat (.ptu s r) h

theorem fin_run {X : Cx} {W : WX} {r : RS} (hW : ∀ c d σ H, E c d H → W c d σ H) (eK : X.K = K) (h : PostF K C E H Z ι M (fin M.length r) Q) : PostS X C W H Z ι M r { nx := fun _ H' => Q .non H', rt := Q } := by
  subst eK
  cases r with
  | bad => exact h
  | bk Γ M' => exact h.elim
  | ct Γ M' => exact h.elim
  | nx Γ M' =>
    have h2 : PostF X.K C E H Z ι M (if M.length ≤ M'.length ∧ cutOk M.length M' = true then .ok .non (M'.take M.length) else .bad) Q := h
    by_cases c : M.length ≤ M'.length ∧ cutOk M.length M' = true
    · rw [if_pos c] at h2
      intro σ' H' Z' ι' e hr sl
      have ln := take_len c.1
      exact h2 .non H' Z' ι' (by rw [ln]; exact e.cut (Nat.le_refl _) c.1) (hr.cut c.1 c.2) .non
    · rw [if_neg c] at h2
      exact h2.elim
  | rt d M' =>
    have h2 : PostF X.K C E H Z ι M (if M.length ≤ M'.length ∧ cutOk M.length M' = true then retR M.length M' d else .bad) Q := h
    by_cases c : M.length ≤ M'.length ∧ cutOk M.length M' = true
    · rw [if_pos c] at h2
      intro v H' Z' ι' e hr r
      exact retR_run e hr r c.1 c.2 h2
    · rw [if_neg c] at h2
      exact h2.elim
  | exc n d Γ M' =>
    have h2 : PostF X.K C E H Z ι M (if M.length ≤ M'.length ∧ cutOk M.length M' = true ∧ below M.length d = true then .exc n d (M'.take M.length) else .bad) Q := h
    by_cases c : M.length ≤ M'.length ∧ cutOk M.length M' = true ∧ below M.length d = true
    · rw [if_pos c] at h2
      intro cls dd σ' H' Z' ι' e hr sl x
      have ln := take_len c.1
      obtain ⟨x1, a, v, x2, x3, x4⟩ := x
      exact hW _ _ _ _ (h2 cls dd H' Z' ι' (by rw [ln]; exact e.cut (Nat.le_refl _) c.1) (hr.cut c.1 c.2.1) ⟨x1, a, v, x2, x3, by rw [ln]; exact x4.shrink _ _ c.2.2⟩)
    · rw [if_neg c] at h2
      exact h2.elim
theorem slots_start {ds : List D} {vs : List V} {N : List Str} {n : Nat} (r : Rps K Z ι n ds vs) (hl : vs.length ≤ N.length) : Slots K Z ι n (ds.map some ++ List.replicate (N.length - ds.length) none) (L2.start N vs) := by
  have l := r.length
  refine ⟨by unfold L2.start; simp [l], fun i d h => ?_⟩
  by_cases hi : i < ds.length
  · rw [List.getElem?_append_left (by simpa using hi), List.getElem?_map] at h
    cases e : ds[i]? with
    | none => rw [e] at h; cases h
    | some d' =>
      rw [e] at h
      cases h
      obtain ⟨v, e2, r2⟩ := r.get e
      refine ⟨v, ?_, r2⟩
      unfold L2.start
      rw [List.getElem?_append_left (by rw [List.length_map, ← l]; exact hi), List.getElem?_map, e2]
      rfl
  · rw [List.getElem?_append_right (by simpa using Nat.le_of_not_lt hi), List.getElem?_replicate] at h
    split at h <;> cases h
end
section
variable {P : Program} {w : World} {K : PySem.W.Frag} {mg : Str → Option Value} {base : Heap} {C : CT}
/-- THE RULE for a def: its body computes g -/
theorem fq_of {x qual : Str} {st : Stmt} {f : Addr} {fd : FuncData} {N ps : List Str} {k : Nat} {g : GS} (F : Fun K x qual st f fd) (S : FnScope N ps (defScope st))
    (hbody : ∀ (cdv : Value) (A : Around) (outer : List PySem.Env) (s : Shared) (H : Hp) (E : XK), Room k (A.deeper (envOfC qual (defScope st) s.heap.objs.size f cdv)) → A.guards = some [] →
      QSs (cxOf (L2.CX P w) P w K mg base N qual (defScope st) f cdv A outer s H E) C (fun cls d _ H => E cls d H) (defBody st) g) : FnQ P w K mg base C (k + 1) f fd ps (runF N.length g) := by
  obtain ⟨oc, od, kV, doc, pm, an, cdv, ct, osl, rfl, lk, hcd⟩ := F.ex
  refine ⟨fun A outer s H args us vs Q E ds Z ι M room hgu env0 hbind rvs hlen rds hr hpost => ?_⟩
  have hK : K.In s.heap := env0.mod.kin.keeps fun b o z => (env0.bs b o z).1
  have hlim : s.heap.NoLimit := env0.mod.nolimit.keeps fun b o z => (env0.bs b o z).1
  have kinds : ∀ y ∈ ps.zip us, (defScope st).names.lookup y.1 = some .local ∨ ((defScope st).names.lookup y.1 = some .cell ∧ ((cellsFrom (s.heap.objs.size + 1) (defScope st).names []).lookup y.1).isSome = true) := fun y hy => by
    rcases S.par y.1 (List.of_mem_zip (a := y.1) (b := y.2) hy).1 with z | z
    · exact .inl z
    · exact .inr ⟨z, PySem.W.cellsFrom_some _ _ _ (.inl z)⟩
  refine codeAny_call_function room.depth (hK _ _ lk) rfl S.co S.gen rfl (PySem.W.codeRec_of hK hcd) (hbind _ _ _ _ (wpAny_newFunctionEnv_cells S.kind kinds fun env he s1 ic => ?_))
  subst he
  refine ⟨hlim.keeps ic.toInCall.keep, codeAny_func ?_⟩
  obtain ⟨ts, pts, qts⟩ := hbody cdv A outer s H E (room.deeper _) hgu
  have J : Inv (cxOf (L2.CX P w) P w K mg base N qual (defScope st) f cdv A outer s H E) [] (L2.start N vs) H s1 := inv_start S room.hd env0 hlen rvs ic
  have lN : vs.length ≤ N.length := by
    have z := congrArg List.length S.pre
    rw [List.length_take] at z
    omega
  have hq := qts _ (L2.start N vs) H Z ι _ M (slots_start rds lN) hr (fin_run (E := E) (fun _ _ _ _ z => z) rfl hpost)
  refine wpAny_mono (pts.run [] s1 _ H _ J hq) (fun fl s' hs => ?_) fun _ _ hs => hs
  have ends : ∀ {σ' : L2.St} {H' : Hp} {v : V} {u : Value}, Inv (cxOf (L2.CX P w) P w K mg base N qual (defScope st) f cdv A outer s H E) [] σ' H' s' → RelV v u → Q v H' → CE outer P w H s Q u s' :=
    fun {σ' H' v u} J2 rv q => ⟨v, H', J2.os, J2.bare, J2.base, J2.hok, rv, q⟩
  cases fl with
  | ret u => exact let ⟨v, σ', H', J2, rv, q⟩ := hs; ends J2 rv q
  | next => exact let ⟨σ', H', J2, q⟩ := hs; ends (v := V.non) (u := Value.none) J2 rfl q
  | brk => exact let ⟨_, _, _, q⟩ := hs; q.elim
  | cont => exact let ⟨_, _, _, q⟩ := hs; q.elim
end

/-! ### calls of defs -/
section
variable {X : Cx} {C : CT} {W : WX} {k : Nat} {f : Addr} {fd : FuncData} {ps : List Str} {F : List D → List MO → R D} {x : Str} {p pos : Pos} {e : Expr} {es : List Expr} {gs : GA}
/-- what a call asks -/
def rCallQ (K : PySem.W.Frag) (C : CT) (ps : List Str) (F : List D → List MO → R D) (E : XK) (vs : List V) (H : Hp) (Q : VK) : Prop :=
  vs.length = ps.length ∧ ∃ (ds : List D) (Z : Hp) (ι : Nat → Addr) (M : List MO), Rps K Z ι M.length ds vs ∧ HR K H Z ι M ∧ PostF K C E H Z ι M (F ds M) Q
theorem run_q {pins : List (Addr × Obj)} {σ : St} {H : Hp} {s : Shared} {Q : VK} {vs : List V} {us : List Value} {args : Args} (F0 : FnQ X.prog X.w X.K X.mg X.base C k f fd ps F) (hr : Room k X.A) (hgu : X.A.guards = some []) (tk : Takes X W) (I : Inv X pins σ H s)
    (hb : BindsTo s fd args (ps.zip us)) (r : Vals vs us) (h : rCallQ X.K C ps F (WE W σ) vs H Q) : codeAny (model X.prog X.w) X.A (.call (.ref f) args) (fun r s' => match r with
      | .ok (.ret u) => EP X pins σ Q u s'
      | .ok _ => False
      | .error e => X.xe e s') s := by
  obtain ⟨hl, ds, Z, ι, M, rd, hr', hp⟩ := h
  refine codeAny_mono (F0.run X.A X.stack s H args us vs Q (WE W σ) ds Z ι M hr hgu I.env0 hb r hl rd hr' hp) fun r s' hq => ?_
  cases r with
  | error e => exact passAt tk σ pins H s e s' I hq
  | ok fl =>
    cases fl with
    | ret u => exact I.after hq
    | next => exact hq.elim
    | brk => exact hq.elim
    | cont => exact hq.elim
theorem lent_post {σ : St} {H Z : Hp} {ι : Nat → Addr} {ds : List D} {vs : List V} {M : List MO} {Q : VK} (hr : HR X.K H Z ι M) (r : Rps X.K Z ι M.length ds vs) (hl : vs.length = ps.length) (h : Post X C W (rpE X.K) σ H Z ι M (callF F ds M) Q) : rCallQ X.K C ps F (WE W σ) vs H Q := by
  unfold callF at h
  cases eg : getAll M (lendK ds) with
  | none => rw [eg] at h; exact h.elim
  | some os =>
    rw [eg] at h
    simp only at h
    by_cases c : (lendK ds).Nodup ∧ flatArgs ds = true ∧ lentOk os = true
    · rw [if_pos c] at h
      obtain ⟨l, fa⟩ := getAll_at eg
      have r2 := lend_rps ds vs [] c.2.1 r
      simp only [List.nil_append, List.length_nil] at r2
      rw [← l] at r2
      have hr2 := hr.lend c.1 eg c.2.2
      refine ⟨hl, lendA 0 ds, Z, lentι ι (lendK ds), os, r2, hr2, ?_⟩
      have kl : ∀ k ∈ lendK ds, k < M.length := fun k hk => by
        obtain ⟨j, hj, ej⟩ := List.mem_iff_getElem.mp hk
        obtain ⟨k', q1, q2⟩ := fa j os[j] (List.getElem?_eq_getElem (by rw [l]; exact hj))
        rw [List.getElem?_eq_getElem hj] at q1
        cases q1
        rw [← ej]
        exact (List.getElem?_eq_some_iff.mp q2).1
      cases eF : F (lendA 0 ds) os with
      | bad => rw [eF] at h; exact h.elim
      | exc n d os' =>
        rw [eF] at h
        simp only at h
        by_cases c2 : (lendK ds).length ≤ os'.length ∧ os'.all (belowO 0) = true ∧ below 0 d = true
        · rw [if_pos c2] at h
          intro cls dd H' Z' ι' e' hr' x
          obtain ⟨b1, b2⟩ := hr.back c.1 eg c.2.2 e' hr' c2.1 c2.2.1
          obtain ⟨x1, a, v, x2, x3, x4⟩ := x
          exact h cls dd H' Z' _ b2 b1 ⟨x1, a, v, x2, x3, Rp.mono (fun _ _ z => z) (fun _ z => absurd z (Nat.not_lt_zero _)) (Nat.zero_le _) _ _ (x4.shrink _ _ c2.2.2)⟩
        · rw [if_neg c2] at h
          exact h.elim
      | ok d os' =>
        rw [eF] at h
        simp only at h
        by_cases c2 : (lendK ds).length ≤ os'.length ∧ os'.all (belowO 0) = true
        · rw [if_pos c2] at h
          intro v H' Z' ι' e' hr' x
          obtain ⟨b1, b2⟩ := hr.back c.1 eg c.2.2 e' hr' c2.1 c2.2
          cases eb : backD (lendK ds) M.length d with
          | none => rw [eb] at h; exact h.elim
          | some d' =>
            rw [eb] at h
            have ln : (setAll M (lendK ds) os' ++ os'.drop (lendK ds).length).length = M.length + (os'.length - (lendK ds).length) := by rw [List.length_append, setAll_length, List.length_drop]
            refine h v H' Z' _ b2 b1 (backD_rp kl (fun j k q => ?_) (by rw [ln]; exact Nat.le_refl _) x eb)
            rw [e'.ii j (by rw [l]; exact (List.getElem?_eq_some_iff.mp q).1)]
            unfold lentι
            rw [List.getD_eq_getElem?_getD, q]
            rfl
        · rw [if_neg c2] at h
          exact h.elim
    · rw [if_neg c] at h
      exact h.elim
/-- the callee runs, its arguments bound -/
theorem run_call {pins : List (Addr × Obj)} {σ : St} {H : Hp} {s : Shared} {Q : VK} {vs : List V} {us ts : List Value} {kw : List (Str × Value)} (F0 : FnQ X.prog X.w X.K X.mg X.base C k f fd ps F) (hr : Room k X.A) (hgu : X.A.guards = some []) (tk : Takes X W) (I : Inv X pins σ H s)
    (hb : BindsTo s fd ⟨us, kw⟩ (ps.zip ts)) (r : Vals vs ts) (h : rCallQ X.K C ps F (WE W σ) vs H Q) : wpAny (model X.prog X.w) X.A (call (.ref f) us kw) (EP X pins σ Q) X.xe s :=
  wpAny_call (codeAny_mono (run_q F0 hr hgu tk I hb r h) fun r s' hq => by
    cases r with
    | error e => exact hq
    | ok fl =>
      cases fl with
      | ret u => exact hq
      | next => exact hq.elim
      | brk => exact hq.elim
      | cont => exact hq.elim)
/-- f(e, ..) -/
theorem qe_call {n : Nat} (F0 : FnQ X.prog X.w X.K X.mg X.base C k f fd ps F) (hr : Room k X.A) (hgu : X.A.guards = some []) (tk : Takes X W) (hg : Gl X x) (hm : X.mg x = some (.ref f)) (hk : PySem.W.keepIn X.K (.ref f) = true) (hb : Binds X.K fd ps []) (ha : QA X C W (e :: es) gs) (hn : n = ps.length := by rfl)
    (hdb : (x == ("__debug__" : Str)) = false := by decide) (he : starEach (e :: es) X.env = (false, eval e X.env) :: starEach es X.env := by rfl) (hpl : (backTo pos (starEach es X.env)).any (·.1) = false := by rfl) :
    QE X C W (.Call (.Name x p) (e :: es) [] pos) (gCallF n F gs) := by
  subst hn
  obtain ⟨ta, pa, qa⟩ := ha
  refine ⟨fun σ H Q => ta σ H fun vs H1 => rCallQ X.K C ps F (WE W σ) vs H1 Q, ⟨fun pins s σ H Q I h => wpAny_Call_Name_kw (ld_glob I hg hm ?_ hdb)⟩, fun σ H Z ι Γ M Q sl hr h => qa σ H Z ι Γ M _ sl hr (h.bind fun ds M1 vs H1 Z1 ι1 e1 hr1 r1 h1 => ?_)⟩
  · refine PySem.W.callWith_K (h₀ := X.base) I.ok.mod.kin hk (thn (pa.run pos pins s σ H _ I h) fun us s1 hh => ?_) he hpl
    obtain ⟨vs, H1, J, r, q⟩ := hh
    have hl : us.length = ps.length := r.length.symm.trans q.1
    have hbb := hb s1 us J.kIn (by rw [List.append_nil]; exact hl)
    rw [List.append_nil] at hbb
    exact ⟨J.kIn, run_call F0 hr hgu tk J hbb r q⟩
  · by_cases c : ds.length = ps.length
    · rw [if_pos c] at h1
      exact lent_post hr1 r1 (by rw [← r1.length]; exact c) h1
    · rw [if_neg c] at h1
      exact h1.elim
theorem vals_pick {vs : List V} {us : List Value} (r : Vals vs us) : ∀ is : List Nat, Vals (pick vs is) (pick us is)
  | [] => .nil
  | i :: is => by
    unfold pick
    cases e : vs[i]? with
    | none =>
      rw [r.none_of e]
      exact vals_pick r is
    | some v =>
      obtain ⟨u, e2, r2⟩ := r.get e
      rw [e2]
      exact .cons r2 (vals_pick r is)
theorem rps_pick {K : PySem.W.Frag} {Z : Hp} {ι : Nat → Addr} {n : Nat} {ds : List D} {vs : List V} (r : Rps K Z ι n ds vs) : ∀ is : List Nat, Rps K Z ι n (pick ds is) (pick vs is)
  | [] => .nil
  | i :: is => by
    unfold pick
    cases e : ds[i]? with
    | none =>
      have l := r.length
      have : vs[i]? = none := by
        rw [List.getElem?_eq_none_iff] at e ⊢
        omega
      rw [this]
      exact rps_pick r is
    | some d =>
      obtain ⟨v, e2, r2⟩ := r.get e
      rw [e2]
      exact .cons r2 (rps_pick r is)
/-- how a call with keywords binds -/
def KwBinds (K : PySem.W.Frag) (fd : FuncData) (ps ks : List Str) (np : Nat) (is : List Nat) : Prop := ∀ (s : Shared) (us ws : List Value), K.In s.heap → us.length = np → ws.length = ks.length → BindsTo s fd ⟨us, ks.zip ws⟩ (ps.zip (pick (us ++ ws) is))
def QK (X : Cx) (C : CT) (W : WX) (es : List Keyword) (g : GA) : Prop := ∃ te, PK X es te ∧ ∀ (σ : St) (H Z : Hp) (ι : Nat → Addr) (Γ : Env) (M : List MO) (Q : List V → Hp → Prop), Slots X.K Z ι M.length Γ σ → HR X.K H Z ι M → Post X C W (rpA X.K) σ H Z ι M (g Γ M) Q → te σ H Q
theorem qk_nil : QK X C W [] gNil := ⟨_, pk_nil, fun σ H Z ι Γ M Q sl hr h => h [] H Z ι .refl hr .nil⟩
theorem qk_cons {nm : Option Str} {kpos : Pos} {kws : List Keyword} {g : GE} (ha : QE X C W e g) (hb : QK X C W kws gs) : QK X C W (⟨nm, e, kpos⟩ :: kws) (gCons g gs) := by
  obtain ⟨ta, pa, qa⟩ := ha
  obtain ⟨tb, pb, qb⟩ := hb
  exact ⟨_, pk_cons pa pb, fun σ H Z ι Γ M Q sl hr h => qa σ H Z ι Γ M _ sl hr (h.bind fun x M1 v H1 Z1 ι1 e1 hr1 r1 h1 => qb σ H1 Z1 ι1 Γ M1 _ (sl.ext e1) hr1 (h1.bind fun y M2 u H2 Z2 ι2 e2 hr2 r2 h2 => h2 _ H2 Z2 ι2 .refl hr2 (.cons (r1.ext e2) r2)))⟩
variable {kws : List Keyword} {gk : GA} {ks : List Str} {is : List Nat} {np : Nat}
/-- f(k = v, ..) -/
theorem qe_callK0 {n : Nat} (F0 : FnQ X.prog X.w X.K X.mg X.base C k f fd ps F) (hr : Room k X.A) (hgu : X.A.guards = some []) (tk : Takes X W) (hg : Gl X x) (hm : X.mg x = some (.ref f)) (hk : PySem.W.keepIn X.K (.ref f) = true) (hb : KwBinds X.K fd ps ks 0 is) (hkw : QK X C W kws gk)
    (hlen : ∀ (Γ : Env) (M M' : List MO) (ds : List D), gk Γ M = .ok ds M' → ds.length = ks.length) (hn : n = ps.length := by rfl)
    (hall : (backToKw pos (keywordEach kws X.env)).all (·.1.isSome) = true := by rfl) (hks : (backToKw pos (keywordEach kws X.env)).filterMap (·.1) = ks := by rfl) (hdb : (x == ("__debug__" : Str)) = false := by decide)
    (hpl : ((backTo pos (starEach [] X.env)).any (·.1) || (backToKw pos (keywordEach kws X.env)).any (·.1.isNone)) = false := by rfl) :
    QE X C W (.Call (.Name x p) [] kws pos) (gCallK n F is gNil gk) := by
  subst hn
  obtain ⟨tk', pk, qk⟩ := hkw
  refine ⟨fun σ H Q => tk' σ H fun zs H2 => zs.length = ks.length ∧ rCallQ X.K C ps F (WE W σ) (pick zs is) H2 Q, ⟨fun pins s σ H Q I h => wpAny_Call_Name_kw (ld_glob I hg hm ?_ hdb)⟩, fun σ H Z ι Γ M Q sl hr h => ?_⟩
  · refine PySem.W.callWith_KW0 (h₀ := X.base) I.ok.mod.kin hk hall (thn (pk.run pos pins s σ H _ I h) fun ws s2 hh => ?_) hpl
    obtain ⟨zs, H2, J, r, hz, q⟩ := hh
    have hl : ws.length = ks.length := r.length.symm.trans hz
    refine ⟨J.kIn, ?_⟩
    rw [hks]
    exact run_call (us := []) F0 hr hgu tk J (by simpa using hb s2 [] ws J.kIn rfl hl) (vals_pick r is) q
  · have h1 : Post X C W (rpE X.K) σ H Z ι M ((gk Γ M).bind fun es M2 => if (pick ([] ++ es) is).length = ps.length then callF F (pick ([] ++ es) is) M2 else .bad) Q := h
    cases eg : gk Γ M with
    | bad => rw [eg] at h1; exact h1.elim
    | exc c d M' =>
      refine qk σ H Z ι Γ M _ sl hr ?_
      rw [eg] at h1 ⊢
      exact h1
    | ok es M' =>
      refine qk σ H Z ι Γ M _ sl hr ?_
      have hle := hlen _ _ _ _ eg
      rw [eg] at h1 ⊢
      intro vs H1 Z1 ι1 e1 hr1 r1
      have h2 : Post X C W (rpE X.K) σ H Z ι M (if (pick es is).length = ps.length then callF F (pick es is) M' else .bad) Q := h1
      have r2 := rps_pick r1 is
      refine ⟨by rw [← r1.length]; exact hle, ?_⟩
      by_cases c : (pick es is).length = ps.length
      · rw [if_pos c] at h2
        exact lent_post hr1 r2 (by rw [← r2.length]; exact c) (Post.shift h2 e1 hr1)
      · rw [if_neg c] at h2
        exact h2.elim
end
/-- an argument list's length -/
theorem gNil_len {Γ : Env} {M M' : List MO} {ds : List D} (h : gNil Γ M = .ok ds M') : ds.length = 0 := by cases h; rfl
theorem gCons_len {g : GE} {gs : GA} {n : Nat} (hs : ∀ (Γ : Env) (M M' : List MO) (ds : List D), gs Γ M = .ok ds M' → ds.length = n) (Γ : Env) (M M' : List MO) (ds : List D) (h : gCons g gs Γ M = .ok ds M') : ds.length = n + 1 := by
  unfold gCons at h
  cases e : g Γ M with
  | bad => rw [e] at h; cases h
  | exc c d M1 => rw [e] at h; cases h
  | ok d M1 =>
    rw [e] at h
    have h2 : ((gs Γ M1).bind fun xs M2 => (.ok (d :: xs) M2 : R (List D))) = .ok ds M' := h
    cases e2 : gs Γ M1 with
    | bad => rw [e2] at h2; cases h2
    | exc c d M1 => rw [e2] at h2; cases h2
    | ok xs M2 =>
      rw [e2] at h2
      cases h2
      rw [List.length_cons, hs _ _ _ _ e2]
end Bk

set_option Elab.async false
set_option linter.all false
set_option maxRecDepth 100000
set_option maxHeartbeats 2000000
namespace Bk
open PySem PySem.Spec PyProof.Rows L2

/-! ### the law's own call -/
theorem no_cx {P : Program} {w : World} {outer : List PySem.Env} {H : Hp} {s s' : Shared} {u : Value} : ¬ L2.CX P w outer H s (fun _ _ _ => False) u s' := by
  intro h
  unfold L2.CX at h
  simp_all
theorem rps_ints {K : PySem.W.Frag} {Z : Hp} {ι : Nat → Addr} {n : Nat} (is : List Int) : Rps K Z ι n (is.map D.int) (is.map V.int) := Rps.of_ints is
theorem law_q {P : Program} {w : World} {K : PySem.W.Frag} {mg mb : Str → Option Value} {C : CT} {k : Nat} {fa a : Addr} {fd : FuncData} {x : Str} {F : List D → List MO → R D} {s₁ : Shared} {vs : List Value} {ns : List Int}
    (KX : K.In s₁.heap) (hns : s₁.heap.Ns mainGlobals mg) (hb : s₁.heap.Ns builtinsNs mb) (hbb : ∀ x : Str, x ≠ "__name__" → mb x = bootBuiltins x) (hlim : s₁.heap.NoLimit) (hg : s₁.gens = #[])
    (ha : s₁.heap.get? a = some { cls := .type "list", data := .seq vs.toArray }) (hi : IntsAre vs ns) (hl : ns.length ≤ sizeLine) (hr : Room k callerA)
    (hF : ∀ base : Heap, K.In base → base.Ns mainGlobals mg → FnQ P w K mg base C k fa fd [x] F) (hbind : ∀ (s : Shared) (u : Value), BindsTo s fd ⟨[u], []⟩ [(x, u)]) (hlaw : F [.lst (ns.map D.int)] [] = .ok (.bl true) []) :
    codeAny (model P w) callerA (.call (.ref fa) ⟨[.ref a], []⟩) (fun r s' => r = .ok (.ret (.bool true)) ∧ OldK s₁.heap s'.heap ∧ s'.os = s₁.os ∧ AllBare s'.gens) s₁ := by
  have hvals := vals_ints hi
  have hlen := hi.length
  have main : ∀ H : Hp, Only H → ExL K H a (ns.map V.int) → HOk P w H s₁.heap → (∀ b, H b ≠ none → b = a) → (H a ≠ none → K.lookup a = none) →
      codeAny (model P w) callerA (.call (.ref fa) ⟨[.ref a], []⟩) (fun r s' => r = .ok (.ret (.bool true)) ∧ OldK s₁.heap s'.heap ∧ s'.os = s₁.os ∧ AllBare s'.gens) s₁ := by
    intro H only seq hok alone apart
    have free : ∀ {b : Addr} {o : Obj} {es : Array DictEntry} {ep : Nat}, s₁.heap.get? b = some o → o.data = .dict es ep → H b = none := fun {b o es ep} e d => by
      refine Classical.byContradiction fun z => ?_
      have eb : b = a := alone b z
      rw [eb, ha] at e
      cases e
      cases (show Data.seq vs.toArray _ = Data.dict es ep from d)
    have stays : ∀ {b : Addr} {m : Str → Option Value}, s₁.heap.Ns b m → (hidT s₁.heap H).Ns b m := fun {b m} z =>
      let ⟨o, es, ep, e, d, r⟩ := z
      ⟨o, es, ep, hidT_get e (free e d), d, r⟩
    have kin : K.In (hidT s₁.heap H) := fun b o e => hidT_get (KX b o e) (by
      refine Classical.byContradiction fun z => ?_
      have eb : b = a := alone b z
      subst eb
      rw [apart z] at e
      cases e)
    have hmod : Mod K mg (hidT s₁.heap H) := ⟨kin, stays hns, ⟨mb, stays hb, hbb⟩, let ⟨m, h1, h2⟩ := hlim; ⟨m, stays h1, h2⟩⟩
    have env0 : Env0 P w K mg (hidT s₁.heap H) callerA [] s₁ H :=
      ⟨rfl, hmod, fun b o e => of_hidT e, Nat.le_of_eq (hidT_size _ _), trivial, fun b z => absurd (show b ∈ ([] : List Addr) from z) (by simp), hok, AllBare.of_eq hg⟩
    have hr0 : HR K H H (fun _ => 0) [] := ⟨fun _ _ h => h, fun k h => absurd h (Nat.not_lt_zero _), fun k o h => by simp at h, fun j k o u h => by simp at h, fun k o h => by simp at h, fun k h => by simp at h⟩
    refine codeAny_mono ((hF _ kin (stays hns)).run callerA [] s₁ H ⟨[.ref a], []⟩ [.ref a] [.ref a] (fun v _ => v = .bl true) (fun _ _ _ => False) [.lst (ns.map D.int)] H (fun _ => 0) [] hr rfl env0 (hbind s₁ (.ref a)) (.cons rfl .nil) rfl
      (.cons (.lst seq (rps_ints ns)) .nil) hr0 ?_) fun r s' h => ?_
    · rw [hlaw]
      intro v H' Z' ι' _ _ rv
      cases rv
      rfl
    · cases r with
      | error e => exact absurd h no_cx
      | ok fl =>
        cases fl with
        | next => exact h.elim
        | brk => exact h.elim
        | cont => exact h.elim
        | ret u =>
          obtain ⟨v, H', os, bare, un, hok', rv, q⟩ := h
          obtain rfl : v = .bl true := q
          obtain rfl : u = Value.bool true := rv
          refine ⟨rfl, .of_keep fun b o e => ?_, os, bare⟩
          cases hb2 : H b with
          | none => exact un.keep b o e hb2 (fun z => absurd (show b ∈ ([] : List Addr) from z) (by simp)) (by simp)
          | some u =>
            rcases only b with z | ⟨ob, xs, z⟩
            · rw [hb2] at z
              cases z
            · have e1 := (hok b _ z).1
              have e2 := (hok' b _ (un.frzs b ob _ z)).1
              rw [e] at e1
              cases e1
              exact e2
  cases hk : K.lookup a with
  | some o =>
    have e := KX a o hk
    rw [ha] at e
    cases e
    exact main (fun _ => none) (fun _ => .inl rfl) (.inr ⟨vs.toArray, _, hk, by rw [List.size_toArray, hlen]; exact hl, by simpa using hvals⟩) (fun b u z => absurd z (by simp)) (fun b z => absurd rfl z) fun z => absurd rfl z
  | none =>
    have at_ : ∀ b u, (if b = a then some (HO.frz { cls := .type "list", data := .seq vs.toArray } (.lst (ns.map V.int))) else none) = some u → b = a ∧ u = HO.frz { cls := .type "list", data := .seq vs.toArray } (.lst (ns.map V.int)) := fun b u z => by
      by_cases hb : b = a
      · rw [if_pos hb] at z
        exact ⟨hb, (Option.some.inj z).symm⟩
      · rw [if_neg hb] at z
        cases z
    refine main (fun b => if b = a then some (.frz { cls := .type "list", data := .seq vs.toArray } (.lst (ns.map V.int))) else none) (fun b => ?_) (.inl (.inr ⟨_, if_pos rfl⟩)) (fun b u z => ?_) (fun b z => ?_) fun _ => hk
    · by_cases hb : b = a
      · exact .inr ⟨_, _, if_pos hb⟩
      · exact .inl (if_neg hb)
    · obtain ⟨rfl, rfl⟩ := at_ b u z
      exact ⟨ha, by rw [List.length_map]; exact hl, vs, _, hvals, ha⟩
    · exact Classical.byContradiction fun hb => z (if_neg hb)
/-- what k_head leaves -/
theorem walk_q {l : PySem.W.OpenLaw} {n k : Nat} {q : Program} {loose : List Str} {XP : (Str → Option Value) → Heap → Prop} {YP : World → Heap → Prop} {d : DefRec} {K : Params → PySem.W.Frag} {x : Str} {F : List D → List MO → R D}
    (hn : l.most = some n) (hn2 : n ≤ sizeLine) (hdf : d.params.defaults = []) (hr : Room k callerA) (hY : ∀ (w : World) (h : Heap), YP w h → (K w.params).In h)
    (hF : ∀ (w : World) (mg : Str → Option Value) (fa : Addr) (h : Heap), (K w.params).In h → h.Ns mainGlobals mg → mg d.name = some (.ref fa) →
      ∃ (fd : FuncData) (C : CT), (∀ (s : Shared) (u : Value), BindsTo s fd ⟨[u], []⟩ [(x, u)]) ∧ ∀ base : Heap, (K w.params).In base → base.Ns mainGlobals mg → FnQ l.prog w (K w.params) mg base C k fa fd [x] F)
    (hlaw : ∀ ns : List Int, ns.length ≤ n → F [.lst (ns.map D.int)] [] = .ok (.bl true) []) :
    PySem.W.WalkO q loose XP YP l.row.toRowW d [] (fun f vs => PySem.call f vs) := by
  refine Att.attach_call hn hdf fun w s₀ s₁ mg mb fa o pm cd doc a vs ns G Y ho hd hcd hmg hobj hints hlen hg => ?_
  have kx := hY w _ Y
  obtain ⟨fd, C, hb, hF'⟩ := hF w mg fa _ kx G.T.g hmg
  exact law_q kx G.T.g G.T.b G.T.builtins G.T.nolimit hg hobj hints (Nat.le_trans hlen hn2) hr hF' hb (hlaw ns hlen)
end Bk

set_option Elab.async false
set_option linter.all false
set_option maxRecDepth 100000
set_option maxHeartbeats 2000000
namespace Bk
open PySem PySem.Spec PyProof.Rows L2

/-! ### what operations compute -/
def listD (M : List MO) : D → Option (List D)
  | .lst ds => some ds
  | .ref k => match M[k]? with
    | some (.lst ds) => some ds
    | _ => none
  | _ => none
def itemsD (M : List MO) : D → Option (List D)
  | .tup ds => some ds
  | .ptu ds => some ds
  | d => listD M d
section
variable {K : PySem.W.Frag} {H Z : Hp} {ι : Nat → Addr} {M : List MO} {d : D} {ds : List D} {v : V}
theorem listD_run (hr : HR K H Z ι M) (r : Rp K Z ι M.length d v) (h : listD M d = some ds) : ∃ a xs, v = .ref a ∧ ExL K H a xs ∧ Rps K Z ι M.length ds xs := by
  cases r with
  | lst s r =>
    cases h
    exact ⟨_, _, rfl, subL hr.sub s, r⟩
  | ref hk =>
    rename_i k
    have h' : (match M[k]? with
      | some (.lst ds) => some ds
      | _ => none) = some ds := h
    cases e : M[k]? with
    | none => rw [e] at h'; cases h'
    | some o =>
      rw [e] at h'
      cases o with
      | dead => cases h'
      | dct ks0 vs0 => cases h'
      | dki kvs0 => cases h'
      | obj nm fs => cases h'
      | lst es =>
        cases h'
        obtain ⟨xs, e1, r1⟩ := hr.obj k _ e
        exact ⟨_, xs, rfl, .inl (.of e1), r1⟩
  | _ => cases h
theorem itemsD_run (hr : HR K H Z ι M) (r : Rp K Z ι M.length d v) (h : itemsD M d = some ds) : ∃ a xs, v = .ref a ∧ (ExL K H a xs ∨ SqT K H a xs) ∧ Rps K Z ι M.length ds xs := by
  cases r with
  | tup s r =>
    cases h
    exact ⟨_, _, rfl, .inr (subT hr.sub s), r⟩
  | ptu s r =>
    cases h
    exact ⟨_, _, rfl, .inr (subT hr.sub s.sq), r⟩
  | lst s r =>
    obtain ⟨a, xs, h1, h2, h3⟩ := listD_run hr (.lst s r) h
    exact ⟨a, xs, h1, .inl h2, h3⟩
  | ref hk =>
    obtain ⟨a, xs, h1, h2, h3⟩ := listD_run hr (.ref hk) h
    exact ⟨a, xs, h1, .inl h2, h3⟩
  | _ => cases h
end
def iop (c : Int → Int → Bool) (g : Int → Int → D) (_ : List MO) : D → D → Option D
  | .int i, .int j => if c i j = true then some (g i j) else none
  | _, _ => none
section
variable {X : Cx}
theorem OpR.or {f : Value → Value → Sem Value} {r r' : R2} (h : OpR X f r) (h' : OpR X f r') : OpR X f (fun x y H Q => r x y H Q ∨ r' x y H Q) := fun pins s σ H x y v u Q I rx ry q =>
  q.elim (h pins s σ H x y v u Q I rx ry) (h' pins s σ H x y v u Q I rx ry)
theorem UnR.or {f : Value → Sem Value} {r r' : V → Hp → VK → Prop} (h : UnR X f r) (h' : UnR X f r') : UnR X f (fun x H Q => r x H Q ∨ r' x H Q) := fun pins s σ H x v Q I rx q => q.elim (h pins s σ H x v Q I rx) (h' pins s σ H x v Q I rx)
/-- either of two functions, as the second finds none -/
def orD (f f' : List MO → D → D → Option D) (M : List MO) (x y : D) : Option D := (f M x y).or (f' M x y)
theorem Ok2.or {r r' : R2} {f f' : List MO → D → D → Option D} (h : Ok2 X r f) (h' : Ok2 X r' f') : Ok2 X (fun x y H Q => r x y H Q ∨ r' x y H Q) (orD f f') := fun x y H Z ι M dx dy d Q hr rx ry e q => by
  unfold orD at e
  cases e1 : f M dx dy with
  | some d' =>
    rw [e1] at e
    cases e
    exact .inl (h x y H Z ι M dx dy _ Q hr rx ry e1 q)
  | none =>
    rw [e1] at e
    exact .inr (h' x y H Z ι M dx dy _ Q hr rx ry e q)
/-- how a value without parts is handed on -/
def flatVD : V → Option D
  | .non => some .non
  | .bl b => some (.bl b)
  | .int i => some (.int i)
  | .str x => some (.str x)
  | _ => none
theorem flat_rp {K : PySem.W.Frag} {Z : Hp} {ι : Nat → Addr} {n : Nat} {v : V} {d : D} (h : flatVD v = some d) : Rp K Z ι n d v := by
  cases v with
  | non => cases h; exact .non
  | bl b => cases h; exact .bl b
  | int i => cases h; exact .int i
  | str x => cases h; exact .str x
  | _ => cases h
theorem ok_rI {P : Int → Int → Prop} {gV : Int → Int → V} {c : Int → Int → Bool} {g : Int → Int → D} (hc : ∀ i j, c i j = true → P i j) (hg : ∀ i j, flatVD (gV i j) = some (g i j)) : Ok2 X (rI P gV) (iop c g) := fun x y H Z ι M dx dy d Q hr rx ry e q => by
  cases rx with
  | int i =>
    cases ry with
    | int j =>
      have e' : (if c i j = true then some (g i j) else none) = some d := e
      by_cases hh : c i j = true
      · rw [if_pos hh] at e'
        cases e'
        exact ⟨i, j, rfl, rfl, hc i j hh, q.now hr (flat_rp (hg i j))⟩
      · rw [if_neg hh] at e'
        cases e'
    | _ => cases e
  | _ => cases ry <;> cases e
def yes2 (_ _ : Int) : Bool := true
theorem ok_rI0 {gV : Int → Int → V} {g : Int → Int → D} (hg : ∀ i j, flatVD (gV i j) = some (g i j)) : Ok2 X (rI0 gV) (iop yes2 g) := fun x y H Z ι M dx dy d Q hr rx ry e q => by
  cases rx with
  | int i =>
    cases ry with
    | int j =>
      cases e
      exact ⟨i, j, rfl, rfl, q.now hr (flat_rp (hg i j))⟩
    | _ => cases e
  | _ => cases ry <;> cases e
/-! numbers -/
def dSub := iop yes2 fun i j => .int (i - j)
def mulOk (i j : Int) : Bool := (decide (-(2 ^ 64) < i) && decide (i < 2 ^ 64)) || (decide (-(2 ^ 64) < j) && decide (j < 2 ^ 64)) || decide (i.natAbs.log2 + j.natAbs.log2 < 1000000)
def fdivOk (_ j : Int) : Bool := decide (0 < j) && decide (j.natAbs.log2 < 9000)
def dFdiv := iop fdivOk fun i j => .int (i / j)
def modOk (_ j : Int) : Bool := decide (0 < j)
def dMod := iop modOk fun i j => .int (i % j)
def dMul := iop mulOk fun i j => .int (i * j)
def powOk (i j : Int) : Bool := decide (0 ≤ j) && decide (j ≤ 1000000) && decide (i.natAbs < 2 ^ 64)
def dPow := iop powOk fun i j => .int (i ^ j.toNat)
theorem ok_sub : Ok2 X (rI0 fun i j => .int (i - j)) dSub := ok_rI0 fun _ _ => rfl
theorem ok_fdiv : Ok2 X (rI CDivW fun i j => .int (i / j)) dFdiv := ok_rI (fun i j h => by
  simp only [fdivOk, Bool.and_eq_true, decide_eq_true_eq] at h
  exact h) fun _ _ => rfl
theorem op_modP : OpR X (binaryOp .Mod) (rI (fun _ j => 0 < j) fun i j => .int (i % j)) := fun pins s σ H x y v u Q I rx ry ⟨i, j, h1, h2, h3, q⟩ =>
  op_modN pins s σ H x y v u Q I rx ry ⟨i, j, h1, h2, by omega, by
    have h4 : (0 : Int) < j := h3
    show Q (V.int (i.fmod j)) H
    rw [Int.fmod_eq_emod_of_nonneg i (by omega)]
    exact q⟩
theorem ok_mod : Ok2 X (rI (fun _ j => 0 < j) fun i j => .int (i % j)) dMod := ok_rI (fun i j h => of_decide_eq_true h) fun _ _ => rfl
theorem op_mulA : OpR X (binaryOp .Mult) (rI (fun i j => mulOk i j = true) fun i j => .int (i * j)) := fun pins s σ H x y v u Q I rx ry ⟨i, j, h1, h2, h3, q⟩ => by
  simp only [mulOk, Bool.or_eq_true, Bool.and_eq_true, decide_eq_true_eq] at h3
  rcases h3 with h3 | h3
  · exact op_mul pins s σ H x y v u Q I rx ry ⟨i, j, h1, h2, h3, q⟩
  · exact op_mulW pins s σ H x y v u Q I rx ry ⟨i, j, h1, h2, h3, q⟩
theorem ok_mul : Ok2 X (rI (fun i j => mulOk i j = true) fun i j => .int (i * j)) dMul := ok_rI (fun i j h => h) fun _ _ => rfl
theorem ok_pow : Ok2 X (rI CPow fun i j => .int (i ^ j.toNat)) dPow := ok_rI (fun i j h => by
  simp only [powOk, Bool.and_eq_true, decide_eq_true_eq] at h
  exact ⟨h.1.1, h.1.2, h.2⟩) fun _ _ => rfl
def dLt := iop yes2 fun i j => .bl (decide (i < j))
def dLe := iop yes2 fun i j => .bl (decide (i ≤ j))
def dGt := iop yes2 fun i j => .bl (decide (j < i))
def dGe := iop yes2 fun i j => .bl (decide (j ≤ i))
theorem ok_lt : Ok2 X (rI0 fun i j => .bl (decide (i < j))) dLt := ok_rI0 fun _ _ => rfl
theorem ok_le : Ok2 X (rI0 fun i j => .bl (decide (i ≤ j))) dLe := ok_rI0 fun _ _ => rfl
theorem ok_gt : Ok2 X (rI0 fun i j => .bl (decide (j < i))) dGt := ok_rI0 fun _ _ => rfl
theorem ok_ge : Ok2 X (rI0 fun i j => .bl (decide (j ≤ i))) dGe := ok_rI0 fun _ _ => rfl

/-! adding -/
def catT (_ : List MO) : D → D → Option D
  | .tup a, .tup b => if a.length + b.length ≤ sizeLine then some (.tup (a ++ b)) else none
  | _, _ => none
def catL (M : List MO) (x y : D) : Option D := match listD M x, listD M y with
  | some a, some b => if a.length + b.length ≤ sizeLine then some (.lst (a ++ b)) else none
  | _, _ => none
def addI (M : List MO) : D → D → Option D
  | .int i, .int j => some (.int (i + j))
  | .str x, .str y => if x.length + y.length ≤ sizeLine then some (.str (x ++ y)) else none
  | .tup a, y => catT M (.tup a) y
  | x, y => catL M x y
def dAdd := addI
def rCatS (K : PySem.W.Frag) : R2 := fun x y H Q => ∃ l b xs zs, x = .ref l ∧ y = .ref b ∧ ExL K H l xs ∧ ExL K H b zs ∧ xs.length + zs.length ≤ sizeLine ∧ ∀ p, H p = none → Q (.ref p) (upd H p (.lst (xs ++ zs)))
theorem op_catS : OpR X (binaryOp .Add) (rCatS X.K) := by
  intro pins s σ H x y v u Q I rx ry h
  obtain ⟨l, b, xs, zs, rfl, rfl, hx, hz, hs, q⟩ := h
  cases rx
  cases ry
  obtain ⟨its, m1, r1, e1, _⟩ := hx.at_ I
  obtain ⟨its2, m2, r2, e2, _⟩ := hz.at_ I
  refine PySem.P.add_list e1 e2 ?_ (by rw [List.size_toArray, List.size_toArray, ← r1.length, ← r2.length]; exact hs)
  have ea : its.toArray ++ its2.toArray = (its ++ its2).toArray := by simp
  rw [ea]
  exact ⟨.ref _, _, I.lnew (t' := s.toks) (r1.append r2) (by rw [List.length_append]; exact hs), rfl, q _ I.fresh⟩
abbrev rAdd (K : PySem.W.Frag) : R2 := fun x y H Q => (rI0 (fun i j => .int (i + j)) x y H Q ∨ (∃ i j, x = .str i ∧ y = .str j ∧ i.length + j.length ≤ sizeLine ∧ Q (.str (i ++ j)) H)) ∨ (rCatA K x y H Q ∨ rCatS K x y H Q)
theorem op_addA : OpR X (binaryOp .Add) (rAdd X.K) := (op_add.or op_add_str).or (op_catA.or op_catS)
theorem ok_add : Ok2 X (rAdd X.K) dAdd := fun x y H Z ι M dx dy d Q hr rx ry e q => by
  have lists : ∀ {dx : D}, Rp X.K Z ι M.length dx x → catL M dx dy = some d → rAdd X.K x y H Q := fun {dx} rx e => by
    unfold catL at e
    cases e1 : listD M dx with
    | none => rw [e1] at e; cases e
    | some a =>
      cases e2 : listD M dy with
      | none => rw [e1, e2] at e; cases e
      | some b =>
        rw [e1, e2] at e
        simp only at e
        by_cases c : a.length + b.length ≤ sizeLine
        · rw [if_pos c] at e
          cases e
          obtain ⟨p1, xs, rfl, s1, r1⟩ := listD_run hr rx e1
          obtain ⟨p2, ys, rfl, s2, r2⟩ := listD_run hr ry e2
          exact .inr (.inr ⟨p1, p2, xs, ys, rfl, rfl, s1, s2, by rw [← r1.length, ← r2.length]; exact c, q.lst hr (r1.append r2)⟩)
        · rw [if_neg c] at e
          cases e
  cases rx with
  | int i =>
    cases ry with
    | int j =>
      cases e
      exact .inl (.inl ⟨i, j, rfl, rfl, q.now hr (.int _)⟩)
    | _ => cases e
  | dct s r t => cases e
  | ptu s r => cases e
  | str a =>
    cases ry with
    | str b =>
      have e' : (if a.length + b.length ≤ sizeLine then some (D.str (a ++ b)) else none) = some d := e
      by_cases c : a.length + b.length ≤ sizeLine
      · rw [if_pos c] at e'
        cases e'
        exact .inl (.inr ⟨a, b, rfl, rfl, c, q.now hr (.str _)⟩)
      · rw [if_neg c] at e'
        cases e'
    | _ => cases e
  | tup s1 r1 =>
    rename_i a p1 xs
    cases ry with
    | tup s2 r2 =>
      rename_i b p2 ys
      have e' : (if a.length + b.length ≤ sizeLine then some (D.tup (a ++ b)) else none) = some d := e
      by_cases c : a.length + b.length ≤ sizeLine
      · rw [if_pos c] at e'
        cases e'
        refine .inr (.inl ⟨p1, p2, xs, ys, rfl, rfl, subT hr.sub s1, subT hr.sub s2, by rw [← r1.length, ← r2.length]; exact c, fun z => ?_, fun _ z => ?_, fun _ _ => q.tup hr (r1.append r2)⟩)
        · have : a = [] := List.length_eq_zero_iff.mp (by rw [r1.length, z]; rfl)
          subst this
          exact q.now hr (.tup s2 r2)
        · have : b = [] := List.length_eq_zero_iff.mp (by rw [r2.length, z]; rfl)
          subst this
          rw [List.append_nil] at q
          exact q.now hr (.tup s1 r1)
      · rw [if_neg c] at e'
        cases e'
    | _ => cases e
  | lst s1 r1 => exact lists (.lst s1 r1) e
  | ref hk => exact lists (.ref hk) e
  | non => cases ry <;> cases e
  | bl b => cases ry <;> cases e

/-! is None -/
def dIsN (_ : List MO) : D → D → Option D
  | .non, .non => some (.bl true)
  | _, .non => some (.bl false)
  | _, _ => none
def dNotN (_ : List MO) : D → D → Option D
  | .non, .non => some (.bl false)
  | _, .non => some (.bl true)
  | _, _ => none
theorem ok_isN : Ok2 X (fun x y H Q => y = .non ∧ Q (.bl (decide (x = .non))) H) dIsN := fun x y H Z ι M dx dy d Q hr rx ry e q => by
  cases ry with
  | non =>
    refine ⟨rfl, ?_⟩
    cases rx with
    | non =>
      cases e
      exact q.now hr (.bl true)
    | _ =>
      cases e
      exact q.now hr (.bl false)
  | _ => cases rx <;> cases e
theorem ok_notN : Ok2 X (fun x y H Q => y = .non ∧ Q (.bl (!decide (x = .non))) H) dNotN := fun x y H Z ι M dx dy d Q hr rx ry e q => by
  cases ry with
  | non =>
    refine ⟨rfl, ?_⟩
    cases rx with
    | non =>
      cases e
      exact q.now hr (.bl false)
    | _ =>
      cases e
      exact q.now hr (.bl true)
  | _ => cases rx <;> cases e

/-! equal data -/
mutual
/-- data without refs -/
def toP : D → Option PyData
  | .non => some .none
  | .bl b => some (.bool b)
  | .int i => some (.int i)
  | .str x => some (.str x)
  | .tup ds => (toPs ds).map .tuple
  | .lst ds => (toPs ds).map .list
  | .ref _ => none
  | .dct _ _ => none
  | .ptu ds => (toPs ds).map .tuple
def toPs : List D → Option (List PyData)
  | [] => some []
  | d :: ds => match toP d, toPs ds with
    | some p, some ps => some (p :: ps)
    | _, _ => none
end
/-- a list of ours, and those in it, as they stand -/
def deref1 (M : List MO) : D → D
  | .ref k => match M[k]? with
    | some (.lst ds) => .lst ds
    | _ => .ref k
  | d => d
def deref (M : List MO) (d : D) : D := match deref1 M d with
  | .lst ds => .lst (ds.map (deref1 M))
  | d => d
section
variable {K : PySem.W.Frag} {H Z : Hp} {ι : Nat → Addr} {n : Nat} {M : List MO}
mutual
theorem toP_dp (hs : Sub Z H) : ∀ (d : D) (v : V) (p : PyData), Rp K Z ι n d v → toP d = some p → Dp K H v p
  | .non, _, p, h, e => by cases h; cases e; exact .non
  | .bl b, _, p, h, e => by cases h; cases e; exact .bl b
  | .int i, _, p, h, e => by cases h; cases e; exact .int i
  | .str x, _, p, h, e => by cases h; cases e; exact .str x
  | .tup ds, _, p, h, e => by
    cases h with
    | tup s r =>
      have e' : (toPs ds).map PyData.tuple = some p := e
      cases e2 : toPs ds with
      | none => rw [e2] at e'; cases e'
      | some ps =>
        rw [e2] at e'
        cases e'
        exact .tup (subT hs s) (toPs_dp hs ds _ ps r e2)
  | .lst ds, _, p, h, e => by
    cases h with
    | lst s r =>
      have e' : (toPs ds).map PyData.list = some p := e
      cases e2 : toPs ds with
      | none => rw [e2] at e'; cases e'
      | some ps =>
        rw [e2] at e'
        cases e'
        exact .lst (subL hs s).sq (toPs_dp hs ds _ ps r e2)
  | .ref k, _, p, h, e => by cases e
  | .dct _ _, _, p, h, e => by cases e
  | .ptu ds, _, p, h, e => by
    cases h with
    | ptu s r =>
      have e' : (toPs ds).map PyData.tuple = some p := e
      cases e2 : toPs ds with
      | none => rw [e2] at e'; cases e'
      | some ps =>
        rw [e2] at e'
        cases e'
        exact .tup (subT hs s.sq) (toPs_dp hs ds _ ps r e2)
theorem toPs_dp (hs : Sub Z H) : ∀ (ds : List D) (vs : List V) (ps : List PyData), Rps K Z ι n ds vs → toPs ds = some ps → DpAll K H vs ps
  | [], _, ps, h, e => by cases h; cases e; exact .nil
  | d :: ds, _, ps, h, e => by
    cases h with
    | cons r rs =>
      have e' : (match toP d, toPs ds with
        | some p, some ps => some (p :: ps)
        | _, _ => none) = some ps := e
      cases e1 : toP d with
      | none => rw [e1] at e'; cases e'
      | some p =>
        cases e2 : toPs ds with
        | none => rw [e1, e2] at e'; cases e'
        | some qs =>
          rw [e1, e2] at e'
          cases e'
          exact .cons (toP_dp hs d _ p r e1) (toPs_dp hs ds _ qs rs e2)
end
theorem deref1_dp (hr : HR K H Z ι M) {d : D} {v : V} {p : PyData} (r : Rp K Z ι M.length d v) (e : toP (deref1 M d) = some p) : Dp K H v p := by
  cases r with
  | ref hk =>
    rename_i k
    have e' : toP (match M[k]? with
      | some (.lst ds) => .lst ds
      | _ => .ref k) = some p := e
    cases e1 : M[k]? with
    | none => rw [e1] at e'; cases e'
    | some o =>
      rw [e1] at e'
      cases o with
      | dead => cases e'
      | dct ks0 vs0 => cases e'
      | dki kvs0 => cases e'
      | obj nm fs => cases e'
      | lst ds =>
        have e2 : (toPs ds).map PyData.list = some p := e'
        obtain ⟨xs, h1, r1⟩ := hr.obj k _ e1
        cases e3 : toPs ds with
        | none => rw [e3] at e2; cases e2
        | some ps =>
          rw [e3] at e2
          cases e2
          exact .lst (.of h1) (toPs_dp hr.sub ds _ ps r1 e3)
  | non => exact toP_dp (ι := ι) (n := M.length) hr.sub _ _ _ .non e
  | bl b => exact toP_dp (ι := ι) (n := M.length) hr.sub _ _ _ (.bl b) e
  | int i => exact toP_dp (ι := ι) (n := M.length) hr.sub _ _ _ (.int i) e
  | str x => exact toP_dp (ι := ι) (n := M.length) hr.sub _ _ _ (.str x) e
  | tup s r => exact toP_dp hr.sub _ _ _ (.tup s r) e
  | dct s r t => cases e
  | ptu s r => exact toP_dp hr.sub _ _ _ (.ptu s r) e
  | lst s r => exact toP_dp hr.sub _ _ _ (.lst s r) e
theorem deref1s_dp (hr : HR K H Z ι M) : ∀ {ds : List D} {vs : List V} {ps : List PyData}, Rps K Z ι M.length ds vs → toPs (ds.map (deref1 M)) = some ps → DpAll K H vs ps
  | [], _, ps, h, e => by cases h; cases e; exact .nil
  | d :: ds, _, ps, h, e => by
    cases h with
    | cons r rs =>
      have e' : (match toP (deref1 M d), toPs (ds.map (deref1 M)) with
        | some p, some ps => some (p :: ps)
        | _, _ => none) = some ps := e
      cases e1 : toP (deref1 M d) with
      | none => rw [e1] at e'; cases e'
      | some p =>
        cases e2 : toPs (ds.map (deref1 M)) with
        | none => rw [e1, e2] at e'; cases e'
        | some qs =>
          rw [e1, e2] at e'
          cases e'
          exact .cons (deref1_dp hr r e1) (deref1s_dp hr rs e2)
theorem deref_dp (hr : HR K H Z ι M) {d : D} {v : V} {p : PyData} (r : Rp K Z ι M.length d v) (e : toP (deref M d) = some p) : Dp K H v p := by
  have two : ∀ {ds : List D} {a : Addr} {xs : List V}, SqL K H a xs → Rps K Z ι M.length ds xs → toP (.lst (ds.map (deref1 M))) = some p → Dp K H (.ref a) p := fun {ds a xs} s r e => by
    have e' : (toPs (ds.map (deref1 M))).map PyData.list = some p := e
    cases e2 : toPs (ds.map (deref1 M)) with
    | none => rw [e2] at e'; cases e'
    | some ps =>
      rw [e2] at e'
      cases e'
      exact .lst s (deref1s_dp hr r e2)
  cases r with
  | lst s r => exact two (subL hr.sub s).sq r e
  | ref hk =>
    rename_i k
    cases e1 : M[k]? with
    | none =>
      have : deref M (.ref k) = .ref k := by simp [deref, deref1, e1]
      rw [this] at e
      cases e
    | some o =>
      cases o with
      | dead =>
        have : deref M (.ref k) = .ref k := by simp [deref, deref1, e1]
        rw [this] at e
        cases e
      | dct ks0 vs0 =>
        have : deref M (.ref k) = .ref k := by simp [deref, deref1, e1]
        rw [this] at e
        cases e
      | dki kvs0 =>
        have : deref M (.ref k) = .ref k := by simp [deref, deref1, e1]
        rw [this] at e
        cases e
      | obj nm fs =>
        have : deref M (.ref k) = .ref k := by simp [deref, deref1, e1]
        rw [this] at e
        cases e
      | lst ds =>
        have : deref M (.ref k) = .lst (ds.map (deref1 M)) := by simp [deref, deref1, e1]
        rw [this] at e
        obtain ⟨xs, h1, r1⟩ := hr.obj k _ e1
        exact two (.of h1) r1 e
  | non => exact toP_dp (ι := ι) (n := M.length) hr.sub _ _ _ .non e
  | bl b => exact toP_dp (ι := ι) (n := M.length) hr.sub _ _ _ (.bl b) e
  | int i => exact toP_dp (ι := ι) (n := M.length) hr.sub _ _ _ (.int i) e
  | str x => exact toP_dp (ι := ι) (n := M.length) hr.sub _ _ _ (.str x) e
  | tup s r => exact toP_dp hr.sub _ _ _ (.tup s r) e
  | dct s r t => cases e
  | ptu s r => exact toP_dp hr.sub _ _ _ (.ptu s r) e
end
def eqP (M : List MO) (x y : D) : Option Bool := match toP (deref M x), toP (deref M y) with
  | some p, some q => if (SeqAt.shaped p && SeqAt.shaped q) = true then some (PyData.eqv p q) else none
  | _, _ => none
def dEq (M : List MO) (x y : D) : Option D := (eqP M x y).map D.bl
def dNe (M : List MO) (x y : D) : Option D := (eqP M x y).map fun b => D.bl (!b)
theorem eqP_run {K : PySem.W.Frag} {H Z : Hp} {ι : Nat → Addr} {M : List MO} {dx dy : D} {x y : V} {b : Bool} (hr : HR K H Z ι M) (rx : Rp K Z ι M.length dx x) (ry : Rp K Z ι M.length dy y) (e : eqP M dx dy = some b) :
    ∃ p q, Dp K H x p ∧ Dp K H y q ∧ SeqAt.shaped p = true ∧ SeqAt.shaped q = true ∧ PyData.eqv p q = b := by
  unfold eqP at e
  cases e1 : toP (deref M dx) with
  | none => rw [e1] at e; cases e
  | some p =>
    cases e2 : toP (deref M dy) with
    | none => rw [e1, e2] at e; cases e
    | some q =>
      rw [e1, e2] at e
      simp only at e
      by_cases c : (SeqAt.shaped p && SeqAt.shaped q) = true
      · rw [if_pos c] at e
        rw [Bool.and_eq_true] at c
        exact ⟨p, q, deref_dp hr rx e1, deref_dp hr ry e2, c.1, c.2, Option.some.inj e⟩
      · rw [if_neg c] at e
        cases e
theorem ok_eq : Ok2 X (rEqD X.K) dEq := fun x y H Z ι M dx dy d Q hr rx ry e q => by
  unfold dEq at e
  cases e1 : eqP M dx dy with
  | none => rw [e1] at e; cases e
  | some b =>
    rw [e1] at e
    cases e
    obtain ⟨p, p', h1, h2, h3, h4, h5⟩ := eqP_run hr rx ry e1
    exact ⟨p, p', h1, h2, h3, h4, by rw [h5]; exact q.now hr (.bl b)⟩
theorem ok_ne : Ok2 X (rNeD X.K) dNe := fun x y H Z ι M dx dy d Q hr rx ry e q => by
  unfold dNe at e
  cases e1 : eqP M dx dy with
  | none => rw [e1] at e; cases e
  | some b =>
    rw [e1] at e
    cases e
    obtain ⟨p, p', h1, h2, h3, h4, h5⟩ := eqP_run hr rx ry e1
    exact ⟨p, p', h1, h2, h3, h4, by rw [h5]; exact q.now hr (.bl _)⟩
end
end Bk

set_option Elab.async false
set_option linter.all false
set_option maxRecDepth 100000
set_option maxHeartbeats 2000000
namespace Bk
open PySem PySem.Spec PyProof.Rows L2
section
variable {X : Cx}
/-! a list times a number -/
def rRepS (K : PySem.W.Frag) : R2 := fun x y H Q => ∃ l k xs, x = .ref l ∧ y = .int k ∧ ExL K H l xs ∧ -(2 ^ 63) ≤ k ∧ k < 2 ^ 63 ∧ xs.length * k.toNat ≤ sizeLine ∧ ∀ p, H p = none → Q (.ref p) (upd H p (.lst (List.replicate k.toNat xs).flatten))
theorem op_repS : OpR X (binaryOp .Mult) (rRepS X.K) := by
  intro pins s σ H x y v u Q I rx ry h
  obtain ⟨l, k, xs, rfl, rfl, hx, k1, k2, hz, q⟩ := h
  cases rx
  obtain ⟨tk, rfl⟩ := ry
  obtain ⟨its, m, rv, eo, _⟩ := hx.at_ I
  have hl := rv.length
  have size : its.toArray.size * k.toNat ≤ sizeLine := by rw [List.size_toArray, ← hl]; exact hz
  have cap : ¬ its.toArray.size * k.toNat > (2 ^ 63 - 1) / 8 := Nat.not_lt.mpr (Nat.le_trans size (by decide))
  have fit : ¬ (!Builtin.List.listFitsIndex k) = true := by
    rw [fitsIndex_both k1 k2]
    exact Bool.false_ne_true
  have long : ¬ Builtin.List.listTooLong (its.toArray.size * k.toNat) = true := by
    rw [notLongL size]
    exact Bool.false_ne_true
  have made : List.foldl (fun a b => a ++ b) #[] (List.replicate (if its.toArray.isEmpty = true then 0 else k.toNat) its.toArray) = (List.replicate k.toNat its).flatten.toArray := by
    have any : ∀ j : Nat, List.foldl (fun a b => a ++ b) #[] (List.replicate j its.toArray) = (List.replicate j its).flatten.toArray := fun j => by simpa using foldl_rep its j []
    rw [any]
    cases its with
    | nil => simp
    | cons a r' => simp
  refine wpAny_binaryOp_repeat_ref (T := "list") (U := "int") (by decide) ⟨_, eo, rfl⟩ (fun s' => typeIs_int s' k tk) noFill_list_mul F.fills_int_mul F.slot_int_rmul repeat_list F.slot_int_index.lookup ?_
  refine call_meets F.slot_int_rmul (typeIs_int s k tk) F.entry_int_rmul (F.args_int_rmul_2 _ _) (int___rmul___int_list k tk l its.toArray m) ⟨eo, rfl, ⟨_, eo, rfl⟩, ?_⟩
  refine call_meets F.slot_list_mul ⟨_, eo, rfl⟩ F.entry_list_mul (F.args_list_mul_2 _ _) (AutoListH.list___mul___list_int_3 l its.toArray m k tk fit cap long) ⟨eo, ?_⟩
  rw [made]
  exact ⟨.ref _, _, I.lnew (t' := s.toks) (rv.rep k.toNat) (by rw [PyProof.Rows.lm_len_rep_flat, Nat.mul_comm]; exact hz), rfl, q _ I.fresh⟩
def repI (M : List MO) (x : D) : D → Option D
  | .int k => match listD M x with
    | some a => if decide (k < 2 ^ 63) && decide (-(2 ^ 63) ≤ k) && decide (a.length * k.toNat ≤ sizeLine) then some (.lst (List.replicate k.toNat a).flatten) else none
    | none => none
  | _ => none
def dMulA (M : List MO) : D → D → Option D
  | .int i, y => dMul M (.int i) y
  | x, y => repI M x y
abbrev rMulA (K : PySem.W.Frag) : R2 := fun x y H Q => rI (fun i j => mulOk i j = true) (fun i j => .int (i * j)) x y H Q ∨ rRepS K x y H Q
theorem op_mulL : OpR X (binaryOp .Mult) (rMulA X.K) := op_mulA.or op_repS
theorem ok_mulL : Ok2 X (rMulA X.K) dMulA := fun x y H Z ι M dx dy d Q hr rx ry e q => by
  have lists : ∀ {dx : D}, Rp X.K Z ι M.length dx x → repI M dx dy = some d → rMulA X.K x y H Q := fun {dx} rx e => by
    cases ry with
    | int k =>
      have e' : (match listD M dx with
        | some a => if decide (k < 2 ^ 63) && decide (-(2 ^ 63) ≤ k) && decide (a.length * k.toNat ≤ sizeLine) then some (D.lst (List.replicate k.toNat a).flatten) else none
        | none => none) = some d := e
      cases e1 : listD M dx with
      | none => rw [e1] at e'; cases e'
      | some a =>
        rw [e1] at e'
        simp only at e'
        by_cases c : (decide (k < 2 ^ 63) && decide (-(2 ^ 63) ≤ k) && decide (a.length * k.toNat ≤ sizeLine)) = true
        · rw [if_pos c] at e'
          cases e'
          simp only [Bool.and_eq_true, decide_eq_true_eq] at c
          obtain ⟨p1, xs, rfl, s1, r1⟩ := listD_run hr rx e1
          exact .inr ⟨p1, k, xs, rfl, rfl, s1, c.1.2, c.1.1, by rw [← r1.length]; exact c.2, q.lst hr (r1.rep k.toNat)⟩
        · rw [if_neg c] at e'
          cases e'
    | _ => cases e
  cases rx with
  | dct s_ r_ t_ => first | (cases e; done) | (cases hd; done) | (cases h; done) | (cases h1; done) | (cases e1; done) | (cases h'; done) | (cases ei; done) | (cases e'; done) | exact h.elim | exact h1.elim | exact h2.elim | exact .inl (lists (.dct s_ r_ t_) hd) | exact lists (.dct s_ r_ t_) e
  | ptu s_ r_ => first | exact seqs (.ptu s_ r_) e | (cases e; exact .base (.tup (subT hr.sub s_.sq))) | (cases e; done) | (cases hd; done) | (cases h; done) | (cases h1; done) | (cases e1; done) | (cases h'; done) | (cases ei; done) | (cases e'; done) | exact h.elim | exact h1.elim | exact h2.elim | exact .inl (lists (.ptu s_ r_) hd) | exact lists (.ptu s_ r_) e
  | int i => exact .inl (ok_mul (X := X) _ _ H Z ι M _ _ d Q hr (.int i) ry e q)
  | lst s1 r1 => exact lists (.lst s1 r1) e
  | ref hk => exact lists (.ref hk) e
  | tup s1 r1 => exact lists (.tup s1 r1) e
  | non => exact lists .non e
  | bl b => exact lists (.bl b) e
  | str b => exact lists (.str b) e
/-! minus -/
def dNeg (_ : List MO) : D → Option D
  | .int i => some (.int (-i))
  | _ => none
theorem ok_neg : Ok1 X (rU fun i => .int (-i)) dNeg := fun x H Z ι M dx d Q hr rx e q => by
  cases rx with
  | int i =>
    cases e
    exact ⟨i, rfl, q.now hr (.int _)⟩
  | _ => cases e
/-! items -/
def dIx (M : List MO) (x : D) : D → Option D
  | .int i => (itemsD M x).bind fun ds => atI ds i
  | _ => none
theorem atI_rp {K : PySem.W.Frag} {Z : Hp} {ι : Nat → Addr} {n : Nat} {ds : List D} {vs : List V} {i : Int} {d : D} (r : Rps K Z ι n ds vs) (h : atI ds i = some d) : ∃ v, atI vs i = some v ∧ Rp K Z ι n d v := by
  unfold atI at h
  cases e : ixN ds.length i with
  | none => rw [e] at h; cases h
  | some j =>
    rw [e] at h
    obtain ⟨v, h1, h2⟩ := r.get (i := j) h
    refine ⟨v, ?_, h2⟩
    unfold atI
    rw [← r.length, e]
    exact h1
abbrev rIxA (K : PySem.W.Frag) : R2 := fun x y H Q => rIxL K x y H Q ∨ rIxT K x y H Q
theorem ix_A : IxR X (rIxA X.K) := ix_list.or ix_tup
theorem ok_ix : Ok2 X (rIxA X.K) dIx := fun x y H Z ι M dx dy d Q hr rx ry e q => by
  cases ry with
  | int i =>
    have e' : (itemsD M dx).bind (fun ds => atI ds i) = some d := e
    cases e1 : itemsD M dx with
    | none => rw [e1] at e'; cases e'
    | some ds =>
      rw [e1] at e'
      obtain ⟨a, xs, rfl, s, r⟩ := itemsD_run hr rx e1
      obtain ⟨v, h1, h2⟩ := atI_rp r e'
      rcases s with s | s
      · exact .inl ⟨a, xs, i, v, rfl, rfl, s.sq, h1, q.now hr h2⟩
      · exact .inr ⟨a, xs, i, v, rfl, rfl, s, h1, q.now hr h2⟩
  | _ => cases e
/-! in -/
def toV : D → Option V
  | .non => some .non
  | .bl b => some (.bl b)
  | .int i => some (.int i)
  | .str x => some (.str x)
  | _ => none
def toVs : List D → Option (List V)
  | [] => some []
  | d :: ds => match toV d, toVs ds with
    | some v, some vs => some (v :: vs)
    | _, _ => none
theorem toV_is {K : PySem.W.Frag} {Z : Hp} {ι : Nat → Addr} {n : Nat} {d : D} {v w : V} (r : Rp K Z ι n d v) (h : toV d = some w) : v = w ∧ flatV v = true := by
  cases r with
  | non => cases h; exact ⟨rfl, rfl⟩
  | bl b => cases h; exact ⟨rfl, rfl⟩
  | int i => cases h; exact ⟨rfl, rfl⟩
  | str x => cases h; exact ⟨rfl, rfl⟩
  | _ => cases h
theorem toVs_is {K : PySem.W.Frag} {Z : Hp} {ι : Nat → Addr} {n : Nat} : ∀ {ds : List D} {vs ws : List V}, Rps K Z ι n ds vs → toVs ds = some ws → vs = ws ∧ vs.all flatV = true
  | [], _, _, r, h => by cases r; cases h; exact ⟨rfl, rfl⟩
  | d :: ds, _, _, r, h => by
    cases r with
    | cons r rs =>
      have h' : (match toV d, toVs ds with
        | some v, some vs => some (v :: vs)
        | _, _ => none) = some _ := h
      cases e1 : toV d with
      | none => rw [e1] at h'; cases h'
      | some v =>
        cases e2 : toVs ds with
        | none => rw [e1, e2] at h'; cases h'
        | some vs =>
          rw [e1, e2] at h'
          cases h'
          obtain ⟨a1, a2⟩ := toV_is r e1
          obtain ⟨b1, b2⟩ := toVs_is rs e2
          exact ⟨by rw [a1, b1], by simp [a2, b2]⟩
def inP (M : List MO) (x y : D) : Option Bool := match toV x, (itemsD M y).bind toVs with
  | some v, some vs => some (inV v vs)
  | _, _ => none
def dIn (M : List MO) (x y : D) : Option D := (inP M x y).map D.bl
def dNotIn (M : List MO) (x y : D) : Option D := (inP M x y).map fun b => D.bl (!b)
theorem inP_run {K : PySem.W.Frag} {H Z : Hp} {ι : Nat → Addr} {M : List MO} {dx dy : D} {x y : V} {b : Bool} (hr : HR K H Z ι M) (rx : Rp K Z ι M.length dx x) (ry : Rp K Z ι M.length dy y) (e : inP M dx dy = some b) :
    ∃ p xs, y = .ref p ∧ (SqL K H p xs ∨ SqT K H p xs) ∧ flatV x = true ∧ xs.all flatV = true ∧ inV x xs = b := by
  unfold inP at e
  cases e1 : toV dx with
  | none => rw [e1] at e; cases e
  | some v =>
    cases e2 : itemsD M dy with
    | none => rw [e1, e2] at e; cases e
    | some ds =>
      cases e3 : toVs ds with
      | none => rw [e1, e2, Option.bind_some, e3] at e; cases e
      | some vs =>
        rw [e1, e2, Option.bind_some, e3] at e
        cases e
        obtain ⟨a1, a2⟩ := toV_is rx e1
        obtain ⟨p, xs, rfl, s, r⟩ := itemsD_run hr ry e2
        obtain ⟨b1, b2⟩ := toVs_is r e3
        subst a1 b1
        exact ⟨p, _, rfl, s.elim (fun s => .inl s.sq) .inr, a2, b2, rfl⟩
/-! slices -/
abbrev GO := Env → List MO → R (Option Int)
abbrev rpO : RpK (Option Int) (Option Int) := fun _ _ _ a b => a = b
def QO (X : Cx) (C : CT) (W : WX) (e : Option Expr) (g : GO) : Prop := ∃ te, PO X e te ∧ ∀ (σ : St) (H Z : Hp) (ι : Nat → Addr) (Γ : Env) (M : List MO) (Q : Option Int → Hp → Prop), Slots X.K Z ι M.length Γ σ → HR X.K H Z ι M → Post X C W rpO σ H Z ι M (g Γ M) Q → te σ H Q
def gNoO : GO := fun _ M => .ok none M
def toI : D → Option Int
  | .int i => some i
  | _ => none
def gO (ge : GE) : GO := fun Γ M => (ge Γ M).bind fun d M1 => opR ((toI d).map some) M1
variable {C : CT} {W : WX}
theorem qo_none : QO X C W none gNoO := ⟨_, po_none, fun σ H Z ι Γ M Q sl hr h => h none H Z ι .refl hr rfl⟩
theorem qo_some {e : Expr} {g : GE} (h : QE X C W e g) : QO X C W (some e) (gO g) := by
  obtain ⟨t, p, q⟩ := h
  refine ⟨_, po_some p, fun σ H Z ι Γ M Q sl hr h => q σ H Z ι Γ M _ sl hr (h.bind fun x M1 v H1 Z1 ι1 e1 hr1 r1 h1 => ?_)⟩
  cases r1 with
  | int i => exact ⟨i, rfl, h1 _ H1 Z1 ι1 .refl hr1 rfl⟩
  | _ => exact h1.elim
def cutD (ds : List D) (lo hi : Option Int) : List D := (ds.drop (HT.sIx ds.length 0 lo)).take (HT.sIx ds.length ds.length hi - HT.sIx ds.length 0 lo)
def dCut (M : List MO) (lo hi : Option Int) : D → Option D
  | .tup ds => some (.tup (cutD ds lo hi))
  | d => (listD M d).map fun ds => .lst (cutD ds lo hi)
def gSl (ge : GE) (lo hi : GO) : GE := fun Γ M => (ge Γ M).bind fun x M1 => (lo Γ M1).bind fun a M2 => (hi Γ M2).bind fun b M3 => opR (dCut M3 a b x) M3
theorem cut_rps {K : PySem.W.Frag} {Z : Hp} {ι : Nat → Addr} {n : Nat} {ds : List D} {vs : List V} (r : Rps K Z ι n ds vs) (lo hi : Option Int) : Rps K Z ι n (cutD ds lo hi) (cutV vs lo hi) := by
  unfold cutD cutV
  rw [r.length]
  exact (r.drop _).take _
theorem qe_slice {e : Expr} {lo hi : Option Expr} {g : GE} {gl gh : GO} {pos p2 : Pos} (he : QE X C W e g) (hl : QO X C W lo gl) (hh : QO X C W hi gh) : QE X C W (.Subscript e (.Slice lo hi none p2) pos) (gSl g gl gh) := by
  obtain ⟨t, p, q⟩ := he
  obtain ⟨tl, pl, ql⟩ := hl
  obtain ⟨th, ph, qh⟩ := hh
  refine ⟨_, pe_slice (sl_list.or sl_tupA) p pl ph, fun σ H Z ι Γ M Q sl hr h => q σ H Z ι Γ M _ sl hr (h.bind fun x M1 v H1 Z1 ι1 e1 hr1 r1 h1 => ql σ H1 Z1 ι1 Γ M1 _ (sl.ext e1) hr1 (h1.bind fun a M2 a' H2 Z2 ι2 e2 hr2 ra h2 =>
    qh σ H2 Z2 ι2 Γ M2 _ ((sl.ext e1).ext e2) hr2 (h2.bind fun b M3 b' H3 Z3 ι3 e3 hr3 rb h3 => ?_)))⟩
  have ra' : a = a' := ra
  have rb' : b = b' := rb
  subst ra' rb'
  obtain ⟨d, hd, h4⟩ := Post.of_opR (γ := D) (δ := V) h3
  have r3 := (r1.ext e2).ext e3
  have q3 := h4.after
  have lists : ∀ {dx : D}, Rp X.K Z3 ι3 M3.length dx v → (listD M3 dx).map (fun ds => D.lst (cutD ds a b)) = some d → rSlL X.K v a b H3 Q := fun {dx} rx e => by
    cases e1 : listD M3 dx with
    | none => rw [e1] at e; cases e
    | some ds =>
      rw [e1] at e
      cases e
      obtain ⟨p1, xs, rfl, s1, r1⟩ := listD_run hr3 rx e1
      exact ⟨p1, xs, rfl, s1.sq, q3.lst hr3 (cut_rps r1 a b)⟩
  cases r3 with
  | dct s_ r_ t_ => first | (cases e; done) | (cases hd; done) | (cases h; done) | (cases h1; done) | (cases e1; done) | (cases h'; done) | (cases ei; done) | (cases e'; done) | exact h.elim | exact h1.elim | exact h2.elim | exact .inl (lists (.dct s_ r_ t_) hd) | exact lists (.dct s_ r_ t_) e
  | ptu s_ r_ => first | exact seqs (.ptu s_ r_) e | (cases e; exact .base (.tup (subT hr.sub s_.sq))) | (cases e; done) | (cases hd; done) | (cases h; done) | (cases h1; done) | (cases e1; done) | (cases h'; done) | (cases ei; done) | (cases e'; done) | exact h.elim | exact h1.elim | exact h2.elim | exact .inl (lists (.ptu s_ r_) hd) | exact lists (.ptu s_ r_) e
  | tup s r =>
    rename_i ds a0 xs
    cases hd
    refine .inr ⟨a0, xs, rfl, subT hr3.sub s, fun z => ?_, fun _ => q3.tup hr3 (cut_rps r a b)⟩
    have ec : cutD ds a b = ds := by
      unfold cutD
      rw [r.length, z.1, z.2, List.drop_zero, Nat.sub_zero, ← r.length, List.take_length]
    rw [ec] at q3
    exact q3.now hr3 (.tup s r)
  | lst s r => exact .inl (lists (.lst s r) hd)
  | ref hk => exact .inl (lists (.ref hk) hd)
  | non => cases hd
  | bl b => cases hd
  | int b => cases hd
  | str b => cases hd
end
end Bk

set_option Elab.async false
set_option linter.all false
set_option maxRecDepth 100000
set_option maxHeartbeats 2000000
namespace Bk
open PySem PySem.Spec PyProof.Rows L2
section
variable {X : Cx}
theorem rps1 {K : PySem.W.Frag} {Z : Hp} {ι : Nat → Addr} {n : Nat} {d : D} {vs : List V} (r : Rps K Z ι n [d] vs) : ∃ v, vs = [v] ∧ Rp K Z ι n d v := by
  cases r with
  | cons r rs =>
    cases rs
    exact ⟨_, rfl, r⟩
theorem rps2 {K : PySem.W.Frag} {Z : Hp} {ι : Nat → Addr} {n : Nat} {d e : D} {vs : List V} (r : Rps K Z ι n [d, e] vs) : ∃ v u, vs = [v, u] ∧ Rp K Z ι n d v ∧ Rp K Z ι n e u := by
  cases r with
  | cons r rs =>
    obtain ⟨u, rfl, r2⟩ := rps1 rs
    exact ⟨_, u, rfl, r, r2⟩
/-- a function of one argument -/
def fn1 (f : List MO → D → Option D) (M : List MO) : List D → Option D
  | [d] => f M d
  | _ => none
theorem OkA.of1 {r : List V → Hp → VK → Prop} {f : List MO → D → Option D} (h : Ok1 X (fun x H Q => r [x] H Q) f) : OkA X r (fn1 f) := fun xs H Z ι M ds d Q hr rx e q => by
  match ds, e, rx with
  | [d0], e, rx =>
    obtain ⟨v, rfl, r1⟩ := rps1 rx
    exact h v H Z ι M d0 d Q hr r1 e q
def fn2 (f : List MO → D → D → Option D) (M : List MO) : List D → Option D
  | [d, e] => f M d e
  | _ => none
theorem OkA.of2 {r : List V → Hp → VK → Prop} {f : List MO → D → D → Option D} (h : Ok2 X (fun x y H Q => r [x, y] H Q) f) : OkA X r (fn2 f) := fun xs H Z ι M ds d Q hr rx e q => by
  match ds, e, rx with
  | [d0, d1], e, rx =>
    obtain ⟨v, u, rfl, r1, r2⟩ := rps2 rx
    exact h v u H Z ι M d0 d1 d Q hr r1 r2 e q
/-! len -/
def dLen (M : List MO) : D → Option D
  | .str x => if x.length ≤ sizeLine then some (.int x.length) else none
  | d => (itemsD M d).map fun ds => .int ds.length
theorem ok_len : Ok1 X (fun x H Q => ∃ x' n, [x] = [x'] ∧ LenV X.K x' H n ∧ Q (.int n) H) dLen := fun x H Z ι M dx d Q hr rx e q => by
  have seqs : ∀ {dx : D}, Rp X.K Z ι M.length dx x → (itemsD M dx).map (fun ds => D.int ds.length) = some d → ∃ x' n, [x] = [x'] ∧ LenV X.K x' H n ∧ Q (.int n) H := fun {dx} rx e => by
    cases e1 : itemsD M dx with
    | none => rw [e1] at e; cases e
    | some ds =>
      rw [e1] at e
      cases e
      obtain ⟨a, xs, rfl, s, r⟩ := itemsD_run hr rx e1
      refine ⟨_, xs.length, rfl, ?_, by rw [← r.length]; exact q.now hr (.int _)⟩
      rcases s with s | s
      · exact .inl ⟨xs, s.sq, rfl⟩
      · exact .inr ⟨xs, s, rfl⟩
  cases rx with
  | dct s_ r_ t_ => first | (cases e; done) | (cases hd; done) | (cases h; done) | (cases h1; done) | (cases e1; done) | (cases h'; done) | (cases ei; done) | (cases e'; done) | exact h.elim | exact h1.elim | exact h2.elim | exact .inl (lists (.dct s_ r_ t_) hd) | exact lists (.dct s_ r_ t_) e
  | ptu s_ r_ => first | exact seqs (.ptu s_ r_) e | (cases e; exact .base (.tup (subT hr.sub s_.sq))) | (cases e; done) | (cases hd; done) | (cases h; done) | (cases h1; done) | (cases e1; done) | (cases h'; done) | (cases ei; done) | (cases e'; done) | exact h.elim | exact h1.elim | exact h2.elim | exact .inl (lists (.ptu s_ r_) hd) | exact lists (.ptu s_ r_) e
  | str z =>
    have e' : (if z.length ≤ sizeLine then some (D.int z.length) else none) = some d := e
    by_cases c : z.length ≤ sizeLine
    · rw [if_pos c] at e'
      cases e'
      exact ⟨_, z.length, rfl, ⟨c, rfl⟩, q.now hr (.int _)⟩
    · rw [if_neg c] at e'
      cases e'
  | tup s r => exact seqs (.tup s r) e
  | lst s r => exact seqs (.lst s r) e
  | ref hk => exact seqs (.ref hk) e
  | non => exact seqs .non e
  | bl b => exact seqs (.bl b) e
  | int b => exact seqs (.int b) e
/-! int -/
def dInt (_ : List MO) : D → Option D
  | .int i => some (.int i)
  | .bl b => some (.int (if b then 1 else 0))
  | _ => none
/-! str of a number -/
def dStr (_ : List MO) : D → Option D
  | .int i => if i.natAbs.log2 < 1920 then some (.str (toString i)) else none
  | _ => none
/-! min, max, sum, all, any -/
def dMin2 (_ : List MO) : D → D → Option D
  | .int i, .int j => some (.int (if j < i then j else i))
  | _, _ => none
def dMax2 (_ : List MO) : D → D → Option D
  | .int i, .int j => some (.int (if j > i then j else i))
  | _, _ => none
theorem ok_min2 : Ok2 X (fun x y H Q => ∃ i j, [x, y] = [V.int i, .int j] ∧ Q (.int (if j < i then j else i)) H) dMin2 := fun x y H Z ι M dx dy d Q hr rx ry e q => by
  cases rx with
  | int i =>
    cases ry with
    | int j =>
      cases e
      exact ⟨i, j, rfl, q.now hr (.int _)⟩
    | _ => cases e
  | _ => cases ry <;> cases e
def intsD : List D → Option (List Int)
  | [] => some []
  | .int i :: ds => (intsD ds).map (i :: ·)
  | _ => none
def blsD : List D → Option (List Bool)
  | [] => some []
  | .bl i :: ds => (blsD ds).map (i :: ·)
  | _ => none
theorem intsD_is {K : PySem.W.Frag} {Z : Hp} {ι : Nat → Addr} {n : Nat} : ∀ {ds : List D} {vs : List V} {is : List Int}, Rps K Z ι n ds vs → intsD ds = some is → vs = is.map V.int
  | [], _, _, r, h => by cases r; cases h; rfl
  | .int i :: ds, _, _, r, h => by
    cases r with
    | cons r rs =>
      have h' : (intsD ds).map (i :: ·) = some _ := h
      cases e : intsD ds with
      | none => rw [e] at h'; cases h'
      | some js =>
        rw [e] at h'
        cases h'
        cases r
        rw [intsD_is rs e]
        rfl
  | .non :: _, _, _, _, h => by cases h
  | .bl _ :: _, _, _, _, h => by cases h
  | .str _ :: _, _, _, _, h => by cases h
  | .tup _ :: _, _, _, _, h => by cases h
  | .lst _ :: _, _, _, _, h => by cases h
  | .ref _ :: _, _, _, _, h => by cases h
@[simp] theorem intsD_map (is : List Int) : intsD (is.map D.int) = some is := by
  induction is with
  | nil => rfl
  | cons i is ih => simp [intsD, ih]
@[simp] theorem blsD_map (is : List Bool) : blsD (is.map D.bl) = some is := by
  induction is with
  | nil => rfl
  | cons i is ih => simp [blsD, ih]
def maxI : List Int → Int
  | [] => 0
  | [i] => i
  | i :: j :: r => let m := maxI (j :: r); if m ≤ i then i else m
theorem maxI_is : ∀ (is : List Int) (m : Int), m ∈ is → (∀ y, y ∈ is → y ≤ m) → maxI is = m
  | [], _, h, _ => by cases h
  | [i], m, h, _ => by
    have : m = i := by simpa using h
    rw [this]
    rfl
  | i :: j :: r, m, h, hl => by
    have h1 : i ≤ m := hl i List.mem_cons_self
    have up : ∀ l : List Int, l ≠ [] → maxI l ∈ l := by
      intro l
      induction l with
      | nil => intro z; exact absurd rfl z
      | cons a l ih =>
        intro _
        cases l with
        | nil => simp [maxI]
        | cons b l =>
          have q := ih (by simp)
          show (if maxI (b :: l) ≤ a then a else maxI (b :: l)) ∈ a :: b :: l
          split
          · exact List.mem_cons_self
          · exact List.mem_cons_of_mem _ q
    show (if maxI (j :: r) ≤ i then i else maxI (j :: r)) = m
    have hm := up (j :: r) (by simp)
    have h2 : maxI (j :: r) ≤ m := hl _ (List.mem_cons_of_mem _ hm)
    rcases List.mem_cons.mp h with e | e
    · subst e
      rw [if_pos h2]
    · have q := maxI_is (j :: r) m e fun y hy => hl y (List.mem_cons_of_mem _ hy)
      rw [q]
      split
      · omega
      · rfl
def ofInts (f : List Int → Option D) (M : List MO) (d : D) : Option D := ((listD M d).bind intsD).bind f
def dSum := ofInts fun is => some (.int is.sum)
def dMax := ofInts fun is => if is = [] then none else some (.int (maxI is))
theorem ofInts_run {K : PySem.W.Frag} {H Z : Hp} {ι : Nat → Addr} {M : List MO} {f : List Int → Option D} {dx d : D} {x : V} (hr : HR K H Z ι M) (r : Rp K Z ι M.length dx x) (e : ofInts f M dx = some d) : ∃ a is, x = .ref a ∧ SqL K H a (is.map V.int) ∧ f is = some d := by
  unfold ofInts at e
  cases e1 : listD M dx with
  | none => rw [e1] at e; cases e
  | some ds =>
    rw [e1, Option.bind_some] at e
    cases e2 : intsD ds with
    | none => rw [e2] at e; cases e
    | some is =>
      rw [e2] at e
      obtain ⟨a, xs, rfl, s, r2⟩ := listD_run hr r e1
      rw [intsD_is r2 e2] at s
      exact ⟨a, is, rfl, s.sq, e⟩
theorem ok_sum : Ok1 X (fun x H Q => rSum X.K [x] H Q) dSum := fun x H Z ι M dx d Q hr rx e q => by
  obtain ⟨a, is, rfl, s, e2⟩ := ofInts_run hr rx e
  cases e2
  exact ⟨a, is, rfl, s, q.now hr (.int _)⟩
theorem ok_max : Ok1 X (fun x H Q => rMax X.K [x] H Q) dMax := fun x H Z ι M dx d Q hr rx e q => by
  obtain ⟨a, is, rfl, s, e2⟩ := ofInts_run hr rx e
  by_cases c : is = []
  · rw [if_pos c] at e2
    cases e2
  · rw [if_neg c] at e2
    cases e2
    refine ⟨a, is, rfl, s, List.length_pos_iff.mpr c, fun m h1 h2 => ?_⟩
    rw [← maxI_is is m h1 h2]
    exact q.now hr (.int _)
/-! list(x), tuple(x) -/
def dList (M : List MO) (d : D) : Option D := (itemsD M d).map D.lst
def dTuple (M : List MO) (d : D) : Option D := (itemsD M d).map D.tup
theorem ok_list : Ok1 X (fun x H Q => ∃ p ys, [x] = [.ref p] ∧ (SqL X.K H p ys ∨ SqT X.K H p ys) ∧ ∀ l, H l = none → Q (.ref l) (upd H l (.lst ys))) dList := fun x H Z ι M dx d Q hr rx e q => by
  unfold dList at e
  cases e1 : itemsD M dx with
  | none => rw [e1] at e; cases e
  | some ds =>
    rw [e1] at e
    cases e
    obtain ⟨a, xs, rfl, s, r⟩ := itemsD_run hr rx e1
    exact ⟨a, xs, rfl, s.elim (fun s => .inl s.sq) .inr, q.lst hr r⟩
theorem ok_tuple : Ok1 X (fun x H Q => ∃ p ys, [x] = [.ref p] ∧ ((SqL X.K H p ys ∧ ∀ l, H l = none → Q (.ref l) (upd H l (.tup ys))) ∨ (SqT X.K H p ys ∧ Q (.ref p) H))) dTuple := fun x H Z ι M dx d Q hr rx e q => by
  unfold dTuple at e
  cases rx with
  | tup s r =>
    cases e
    exact ⟨_, _, rfl, .inr ⟨subT hr.sub s, q.now hr (.tup s r)⟩⟩
  | ptu s r =>
    cases e
    exact ⟨_, _, rfl, .inr ⟨subT hr.sub s.sq, q.now hr (.tup s.sq r)⟩⟩
  | lst s r =>
    cases e
    exact ⟨_, _, rfl, .inl ⟨(subL hr.sub s).sq, q.tup hr r⟩⟩
  | ref hk =>
    rename_i k
    cases e1 : itemsD M (.ref k) with
    | none => rw [e1] at e; cases e
    | some ds =>
      rw [e1] at e
      cases e
      obtain ⟨a, xs, ea, s, r⟩ := listD_run hr (.ref hk) e1
      cases ea
      exact ⟨_, _, rfl, .inl ⟨s.sq, q.tup hr r⟩⟩
  | _ => cases e
end
/-! list(range(..)) -/
section
variable {X : Cx} {C : CT} {W : WX} {a b e : Expr} {ga gb : GE} {p pos p2 pos2 : Pos}
def rngOk (i j : Int) : Bool := inR i && inR j && decide ((j - i).toNat ≤ 2 ^ 24)
def gRgL (own : Bool) (ga gb : GE) : GE := fun Γ M => (ga Γ M).bind fun x M1 => (gb Γ M1).bind fun y M2 => match x, y with
  | .int i, .int j => if rngOk i j = true then (if own = true then .ok (.ref M2.length) (M2 ++ [.lst (rngL i (j - i).toNat)]) else .ok (.lst (rngL i (j - i).toNat)) M2) else .bad
  | _, _ => .bad
/-! isinstance -/
def tyName (M : List MO) : D → Option String
  | .non => some "NoneType"
  | .bl _ => some "bool"
  | .int _ => some "int"
  | .str _ => some "str"
  | .tup _ => some "tuple"
  | .lst _ => some "list"
  | .dct _ _ => none
  | .ptu _ => some "tuple"
  | .ref k => match M[k]? with
    | some (.lst _) => some "list"
    | _ => none
theorem tyName_run {K : PySem.W.Frag} {H Z : Hp} {ι : Nat → Addr} {M : List MO} {d : D} {x : V} {t : String} (hr : HR K H Z ι M) (r : Rp K Z ι M.length d x) (e : tyName M d = some t) : TyX K H x (.type t) := by
  have lists : ∀ {a : Addr} {xs : List V}, ExL K H a xs → TyX K H (.ref a) (.type "list") := fun {a xs} s => by
    rcases s with (s | ⟨o, s⟩) | ⟨its, m, s, _, _⟩
    · exact .base (.lst s)
    · exact .base (.frz s)
    · exact .kList s rfl
  cases r with
  | dct s_ r_ t_ => first | (cases e; done) | (cases hd; done) | (cases h; done) | (cases h1; done) | (cases e1; done) | (cases h'; done) | (cases ei; done) | (cases e'; done) | exact h.elim | exact h1.elim | exact h2.elim | exact .inl (lists (.dct s_ r_ t_) hd) | exact lists (.dct s_ r_ t_) e
  | ptu s r =>
    cases e
    obtain ⟨o, s, _⟩ := s
    exact .fTuple (hr.sub _ _ s)
  | non => cases e; exact .base .non
  | bl b => cases e; exact .base (.bl b)
  | int i => cases e; exact .base (.int i)
  | str z => cases e; exact .base (.str z)
  | tup s r =>
    cases e
    rcases subT hr.sub s with (s | ⟨o, s⟩) | ⟨o, its, m, s, c, _⟩
    · exact .base (.tup s)
    · exact .fTuple s
    · exact .kTuple s c
  | lst s r =>
    cases e
    exact lists (subL hr.sub s)
  | ref hk =>
    rename_i k
    have e' : (match M[k]? with
      | some (.lst _) => some "list"
      | _ => none) = some t := e
    cases e1 : M[k]? with
    | none => rw [e1] at e'; cases e'
    | some o =>
      rw [e1] at e'
      cases o with
      | dead => cases e'
      | dct ks0 vs0 => cases e'
      | dki kvs0 => cases e'
      | obj nm fs => cases e'
      | lst ds =>
        cases e'
        obtain ⟨xs, h1, _⟩ := hr.obj k _ e1
        exact lists (.inl (.of h1))
def dIsi (T : String) (M : List MO) (d : D) : Option D := (tyName M d).bind fun t => (kitB t T).map D.bl
def anyB (t : String) : List String → Option Bool
  | [] => some false
  | T :: Ts => match kitB t T with
    | some true => some true
    | some false => anyB t Ts
    | none => none
def dIsiT (Ts : List String) (M : List MO) (d : D) : Option D := (tyName M d).bind fun t => (anyB t Ts).map D.bl
theorem anyB_kit {K : PySem.W.Frag} {t : String} : ∀ {Ts : List String} {b : Bool}, anyB t Ts = some b → PySem.W.kitAny K (.type t) (Ts.map Value.type) = some b
  | [], b, h => by cases h; rfl
  | T :: Ts, b, h => by
    unfold anyB at h
    show (match PySem.W.kitOne K (.type t) (.type T) with
      | some true => some true
      | some false => PySem.W.kitAny K (.type t) (Ts.map Value.type)
      | none => none) = some b
    cases e : kitB t T with
    | none => rw [e] at h; cases h
    | some k =>
      rw [e] at h
      rw [kit_ty e]
      cases k with
      | true => exact h
      | false => exact anyB_kit h
theorem qe_isi {T : String} {TN : Str} {q : Pos} (hg : Gl X "isinstance") (hm : X.mg "isinstance" = none) (hT : Gl X TN) (hmT : X.mg TN = none) (hv : bootBuiltins TN = some (.type T)) (ha : QE X C W e ga) (hn : TN ≠ "__name__" := by decide) (hd : (TN == ("__debug__" : Str)) = false := by decide)
    (he : starEach [e, Expr.Name TN q] X.env = (false, eval e X.env) :: starEach [Expr.Name TN q] X.env := by rfl) (he2 : starEach [Expr.Name TN q] X.env = (false, eval (Expr.Name TN q) X.env) :: starEach [] X.env := by rfl) (hpl : (backTo pos (starEach [Expr.Name TN q] X.env)).any (·.1) = false := by rfl) :
    QE X C W (.Call (.Name "isinstance" p) [e, .Name TN q] [] pos) (gOp1 (dIsi T) ga) := by
  obtain ⟨ta, pa, qa⟩ := ha
  refine ⟨_, pe_callB call_isi hg hm (by decide +kernel) (pa_cons pa (pa_cons (pe_bltn (v := .ty T) hT hmT hv rfl hn hd) pa_nil he2) he) (he := he) (hpl := hpl), fun σ H Z ι Γ M Q sl hr h => qa σ H Z ι Γ M _ sl hr (h.bind fun x M1 v H1 Z1 ι1 e1 hr1 r1 h1 => ?_)⟩
  obtain ⟨d, hd, h3⟩ := Post.of_opR (γ := D) (δ := V) h1
  unfold dIsi at hd
  cases e2 : tyName M1 x with
  | none => rw [e2] at hd; cases hd
  | some t =>
    rw [e2, Option.bind_some] at hd
    cases e3 : kitB t T with
    | none => rw [e3] at hd; cases hd
    | some b =>
      rw [e3] at hd
      cases hd
      exact ⟨v, .ty T, .type t, .type T, b, rfl, .ty T, tyName_run hr1 r1 e2, kit_ty e3, h3.after.now hr1 (.bl b)⟩
theorem qe_isi2 {T1 T2 : String} {N1 N2 : Str} {q1 q2 q3 : Pos} {kk : Nat} (hg : Gl X "isinstance") (hm : X.mg "isinstance" = none) (hT1 : Gl X N1) (hm1 : X.mg N1 = none) (hv1 : bootBuiltins N1 = some (.type T1)) (hT2 : Gl X N2) (hm2 : X.mg N2 = none) (hv2 : bootBuiltins N2 = some (.type T2)) (ha : QE X C W e ga)
    (hn1 : N1 ≠ "__name__" := by decide) (hd1 : (N1 == ("__debug__" : Str)) = false := by decide) (hn2 : N2 ≠ "__name__" := by decide) (hd2 : (N2 == ("__debug__" : Str)) = false := by decide)
    (he : starEach [e, Expr.Tuple [.Name N1 q1, .Name N2 q2] kk q3] X.env = (false, eval e X.env) :: starEach [Expr.Tuple [.Name N1 q1, .Name N2 q2] kk q3] X.env := by rfl) (he2 : starEach [Expr.Tuple [.Name N1 q1, .Name N2 q2] kk q3] X.env = (false, eval (Expr.Tuple [.Name N1 q1, .Name N2 q2] kk q3) X.env) :: starEach [] X.env := by rfl)
    (hpl : (backTo pos (starEach [Expr.Tuple [.Name N1 q1, .Name N2 q2] kk q3] X.env)).any (·.1) = false := by rfl)
    (hs1 : starEach [Expr.Name N1 q1, Expr.Name N2 q2] X.env = (false, eval (Expr.Name N1 q1) X.env) :: starEach [Expr.Name N2 q2] X.env := by rfl) (hs2 : starEach [Expr.Name N2 q2] X.env = (false, eval (Expr.Name N2 q2) X.env) :: starEach [] X.env := by rfl) :
    QE X C W (.Call (.Name "isinstance" p) [e, .Tuple [.Name N1 q1, .Name N2 q2] kk q3] [] pos) (gOp1 (dIsiT [T1, T2]) ga) := by
  obtain ⟨ta, pa, qa⟩ := ha
  refine ⟨_, pe_callB call_isiT hg hm (by decide +kernel) (pa_cons pa (pa_cons (pe_tup (pa_cons (pe_bltn (v := .ty T1) hT1 hm1 hv1 rfl hn1 hd1) (pa_cons (pe_bltn (v := .ty T2) hT2 hm2 hv2 rfl hn2 hd2) pa_nil hs2) hs1)) pa_nil he2) he) (he := he) (hpl := hpl),
    fun σ H Z ι Γ M Q sl hr h => qa σ H Z ι Γ M _ sl hr (h.bind fun x M1 v H1 Z1 ι1 e1 hr1 r1 h1 => ?_)⟩
  obtain ⟨d, hd, h3⟩ := Post.of_opR (γ := D) (δ := V) h1
  unfold dIsiT at hd
  cases e2 : tyName M1 x with
  | none => rw [e2] at hd; cases hd
  | some t =>
    rw [e2, Option.bind_some] at hd
    cases e3 : anyB t [T1, T2] with
    | none => rw [e3] at hd; cases hd
    | some b =>
      rw [e3] at hd
      cases hd
      refine ⟨by show 2 ≤ sizeLine; decide, fun tp hp => ?_⟩
      obtain ⟨hr2, x2⟩ := hr1.frozen (o := .tup [.ty T1, .ty T2]) hp
      exact ⟨v, tp, [.ty T1, .ty T2], .type t, [.type T1, .type T2], b, rfl, upd_same, .cons (.ty T1) (.cons (.ty T2) .nil), tyName_run hr2 (r1.ext x2) e2, anyB_kit (Ts := [T1, T2]) e3, h3.after _ _ _ x2 hr2 (.bl b)⟩
end
end Bk

set_option Elab.async false
set_option linter.all false
set_option maxRecDepth 100000
set_option maxHeartbeats 2000000
namespace Bk
open PySem PySem.Spec PyProof.Rows L2
/-! ### what changes a list of ours -/
/-- a method: the list as it was, the argument; the list as it is, the answer -/
abbrev MF := List MO → List D → D → Option (List D × D)
abbrev MF0 := List D → Option (List D × D)
def isListD (M : List MO) (d : D) : Bool := (listD M d).isSome
def mutR (M : List MO) (x : D) (f : List D → Option (List D × D)) : R D := match x with
  | .ref k => match M[k]? with
    | some (.lst ds) => match f ds with
      | some (ds', r) => .ok r (M.set k (.lst ds'))
      | none => .bad
    | _ => .bad
  | _ => .bad
def gMeth1 (f : MF) (go ge : GE) : GE := fun Γ M => (go Γ M).bind fun x M1 => if isListD M1 x = true then (ge Γ M1).bind fun y M2 => mutR M2 x fun ds => f M2 ds y else .bad
def gMeth0 (f : MF0) (go : GE) : GE := fun Γ M => (go Γ M).bind fun x M1 => mutR M1 x f
section
variable {X : Cx} {C : CT} {W : WX}
def OkM (X : Cx) (r : V → List V → Hp → VK → Prop) (f : MF) : Prop := ∀ (p : Addr) (xs : List V) (y : V) (H Z : Hp) (ι : Nat → Addr) (M : List MO) (ds ds' : List D) (dy d : D) (Q : VK), HR X.K H Z ι M → H p = some (.lst xs) → Rps X.K Z ι M.length ds xs → Rp X.K Z ι M.length dy y → f M ds dy = some (ds', d) →
  (∀ (xs' : List V) (w : V), Rps X.K Z ι M.length ds' xs' → Rp X.K Z ι M.length d w → Q w (upd H p (.lst xs'))) → r (.ref p) [y] H Q
def OkM0 (X : Cx) (r : V → List V → Hp → VK → Prop) (f : MF0) : Prop := ∀ (p : Addr) (xs : List V) (H Z : Hp) (ι : Nat → Addr) (n : Nat) (ds ds' : List D) (d : D) (Q : VK), H p = some (.lst xs) → Rps X.K Z ι n ds xs → f ds = some (ds', d) →
  (∀ (xs' : List V) (w : V), Rps X.K Z ι n ds' xs' → Rp X.K Z ι n d w → Q w (upd H p (.lst xs'))) → r (.ref p) [] H Q
theorem mutR_run {σ : St} {H Z : Hp} {ι : Nat → Addr} {M : List MO} {x : D} {v : V} {f : List D → Option (List D × D)} {Q : VK} (hr : HR X.K H Z ι M) (r : Rp X.K Z ι M.length x v) (h : Post X C W (rpE X.K) σ H Z ι M (mutR M x f) Q) :
    ∃ (k : Nat) (ds ds' : List D) (d : D) (xs : List V), v = .ref (ι k) ∧ H (ι k) = some (.lst xs) ∧ Rps X.K Z ι M.length ds xs ∧ f ds = some (ds', d) ∧ ∀ (xs' : List V) (w : V), Rps X.K Z ι M.length ds' xs' → Rp X.K Z ι M.length d w → Q w (upd H (ι k) (.lst xs')) := by
  cases r with
  | ref hk =>
    rename_i k
    have h' : Post X C W (rpE X.K) σ H Z ι M (match M[k]? with
      | some (.lst ds) => match f ds with
        | some (ds', r) => .ok r (M.set k (.lst ds'))
        | none => .bad
      | _ => .bad) Q := h
    cases e1 : M[k]? with
    | none => rw [e1] at h'; exact h'.elim
    | some o =>
      rw [e1] at h'
      cases o with
      | dead => exact h'.elim
      | dct ks0 vs0 => exact h'.elim
      | dki kvs0 => exact h'.elim
      | obj nm fs => exact h'.elim
      | lst ds =>
        have h2 : Post X C W (rpE X.K) σ H Z ι M (match f ds with
          | some (ds', r) => .ok r (M.set k (.lst ds'))
          | none => .bad) Q := h'
        cases e2 : f ds with
        | none => rw [e2] at h2; exact h2.elim
        | some q =>
          obtain ⟨ds', d⟩ := q
          rw [e2] at h2
          obtain ⟨xs, a1, a2⟩ := hr.obj k _ e1
          refine ⟨k, ds, ds', d, xs, rfl, a1, a2, e2, fun xs' w r1 r2 => ?_⟩
          obtain ⟨b1, b2⟩ := hr.change e1 r1
          exact h2 w _ Z ι b2 b1 (r2.ext b2)
  | _ => exact h.elim
theorem isListD_run {K : PySem.W.Frag} {H Z : Hp} {ι : Nat → Addr} {M : List MO} {d : D} {v : V} (hr : HR K H Z ι M) (r : Rp K Z ι M.length d v) (h : isListD M d = true) : tyV K "list" v H := by
  unfold isListD at h
  cases e : listD M d with
  | none => rw [e] at h; cases h
  | some ds =>
    obtain ⟨a, xs, rfl, s, _⟩ := listD_run hr r e
    exact .inl ⟨rfl, xs, s.sq⟩
theorem qe_meth1 {o e : Expr} {go ge : GE} {f : MF} {id : String} {name : Str} {pos apos : Pos} {r : V → List V → Hp → VK → Prop} (slot : Slot "list" name id) (hty : typeOf (.builtin id) = pure (.type "method_descriptor")) (hm : MtR X id r) (ok : OkM X r f) (ho : QE X C W o go) (he : QE X C W e ge)
    (hbase : attributeBase o name X.env (eval o X.env) = eval o X.env := by rfl) (hs : starEach [e] X.env = (false, eval e X.env) :: starEach [] X.env := by rfl)
    (hfew : ((backTo pos (starEach [e] X.env)).all (fun x => !x.1) && (backToKw pos (keywordEach [] X.env)).all (fun x => x.1.isSome) && decide ([e].length + ([] : List Keyword).length + (if ([] : List Keyword).isEmpty then 0 else 1) < 30)) = true := by rfl)
    (hline : (apos.endLine == pos.line) = true := by rfl) : QE X C W (.Call (.Attribute o name apos) [e] [] pos) (gMeth1 f go ge) := by
  obtain ⟨ta, pa, qa⟩ := ho
  obtain ⟨tb, pb, qb⟩ := he
  refine ⟨_, pe_bm PySem.F.plainAttrs_list slot hty hm pa (pa_cons pb pa_nil hs) hbase hfew hline hs rfl, fun σ H Z ι Γ M Q sl hr h => qa σ H Z ι Γ M _ sl hr (h.bind fun x M1 v H1 Z1 ι1 e1 hr1 r1 h1 => ?_)⟩
  by_cases c : isListD M1 x = true
  · rw [if_pos c] at h1
    refine ⟨isListD_run hr1 r1 c, qb σ H1 Z1 ι1 Γ M1 _ (sl.ext e1) hr1 (h1.bind fun y M2 u H2 Z2 ι2 e2 hr2 r2 h2 => ?_)⟩
    obtain ⟨k, ds, ds', d, xs, ev, a1, a2, a3, a4⟩ := mutR_run hr2 (r1.ext e2) h2
    rw [ev]
    exact ok _ xs u H2 Z2 ι2 M2 ds ds' y d Q hr2 a1 a2 r2 a3 a4
  · rw [if_neg c] at h1
    exact h1.elim
theorem qe_meth0 {o : Expr} {go : GE} {f : MF0} {id : String} {name : Str} {pos apos : Pos} {r : V → List V → Hp → VK → Prop} (slot : Slot "list" name id) (hty : typeOf (.builtin id) = pure (.type "method_descriptor")) (hm : MtR X id r) (ok : OkM0 X r f) (ho : QE X C W o go)
    (hbase : attributeBase o name X.env (eval o X.env) = eval o X.env := by rfl) (hline : (apos.endLine == pos.line) = true := by rfl) : QE X C W (.Call (.Attribute o name apos) [] [] pos) (gMeth0 f go) := by
  obtain ⟨ta, pa, qa⟩ := ho
  refine ⟨_, pe_bm0 PySem.F.plainAttrs_list slot hty hm pa hbase hline, fun σ H Z ι Γ M Q sl hr h => qa σ H Z ι Γ M _ sl hr (h.bind fun x M1 v H1 Z1 ι1 e1 hr1 r1 h1 => ?_)⟩
  obtain ⟨k, ds, ds', d, xs, ev, a1, a2, a3, a4⟩ := mutR_run hr1 r1 h1
  rw [ev]
  exact ⟨.inl ⟨rfl, xs, .of a1⟩, ok _ xs H1 Z1 ι1 M1.length ds ds' d Q a1 a2 a3 a4⟩
def mAppend : MF := fun _ ds y => if ds.length < sizeLine then some (ds ++ [y], .non) else none
theorem ok_append : OkM X rAppend mAppend := fun p xs y H Z ι M ds ds' dy d Q hr e r ry h q => by
  unfold mAppend at h
  by_cases c : ds.length < sizeLine
  · rw [if_pos c] at h
    cases h
    exact ⟨p, xs, y, rfl, rfl, e, by rw [← r.length]; exact c, q _ _ (r.append (.cons ry .nil)) .non⟩
  · rw [if_neg c] at h
    cases h
def rExtendS (K : PySem.W.Frag) : V → List V → Hp → VK → Prop := fun x vs H Q => ∃ l b xs zs, x = .ref l ∧ vs = [.ref b] ∧ H l = some (.lst xs) ∧ ExL K H b zs ∧ xs.length + zs.length ≤ sizeLine ∧ Q .non (upd H l (.lst (xs ++ zs)))
theorem mt_extendS : MtM X "list.extend" (rExtendS X.K) := by
  intro pins s σ H x vs v us Q I rx rv h
  obtain ⟨l, b, xs, zs, rfl, rfl, h1, h2, hz, q⟩ := h
  cases rx
  obtain ⟨u, rfl, ru⟩ := rv.one
  cases ru
  obtain ⟨z, its, n, r, hl, e⟩ := I.lstM h1
  obtain ⟨its2, n2, r2, e2, z2⟩ := h2.at_ I
  have l2 := r2.length
  have room : its.toArray.size + its2.toArray.size ≤ sizeLine := by
    rw [List.size_toArray, List.size_toArray]
    omega
  have short : ¬ (!its.toArray.isEmpty && Builtin.List.listTooLong (its.toArray.size + its2.toArray.size)) = true := by
    rw [notLongL room, Bool.and_false]
    exact Bool.false_ne_true
  refine call_meets F.slot_list_extend ⟨_, e, rfl⟩ F.entry_list_extend (F.args_list_extend_2 _ _) (AutoSeq1.list_extend_list_list_0 l its.toArray n b its2.toArray n2 short (by rw [List.size_toArray]; omega) (by omega)) ⟨e, e2, ?_⟩
  exact ⟨.non, _, I.lset (its' := its ++ its2) h1 e (by simp) (r.append r2) (by rw [List.length_append]; omega), rfl, q⟩
def mExtend : MF := fun M ds y => match listD M y with
  | some es => if ds.length + es.length ≤ sizeLine then some (ds ++ es, .non) else none
  | none => none
theorem ok_extend : OkM X (rExtendS X.K) mExtend := fun p xs y H Z ι M ds ds' dy d Q hr e r ry h q => by
  unfold mExtend at h
  cases e1 : listD M dy with
  | none => rw [e1] at h; cases h
  | some es =>
    rw [e1] at h
    simp only at h
    obtain ⟨b, zs, rfl, s2, r2⟩ := listD_run hr ry e1
    by_cases c : ds.length + es.length ≤ sizeLine
    · rw [if_pos c] at h
      cases h
      exact ⟨p, b, xs, zs, rfl, rfl, e, s2, by rw [← r.length, ← r2.length]; exact c, q _ _ (r.append r2) .non⟩
    · rw [if_neg c] at h
      cases h
/-! xs[i] = e -/
def setR (M : List MO) (o i v : D) : Option (List MO) := match o, i with
  | .ref k, .int j => match M[k]? with
    | some (.lst ds) => match ixN ds.length j with
      | some m => some (M.set k (.lst (ds.set m v)))
      | none => none
    | _ => none
  | _, _ => none
def gSetI (ge go gi : GE) : GS := fun Γ M => (ge Γ M).thenS Γ fun v M1 => (go Γ M1).thenS Γ fun o M2 => (gi Γ M2).thenS Γ fun i M3 => match setR M3 o i v with
  | some M4 => .nx Γ M4
  | none => .bad
theorem qs_setI {o i e : Expr} {go gi ge : GE} {pos spos : Pos} (he : QE X C W e ge) (ho : QE X C W o go) (hi : QE X C W i gi) (hs : swapsWithSole [Expr.Subscript o i spos] e pos.line X.env = pure false := by rfl) (hp : swappedStores [Expr.Subscript o i spos] e X.env = pure none := by rfl)
    (h1 : (assignEach [Expr.Subscript o i spos] X.env).map (·.2) = [assign (Expr.Subscript o i spos) X.env] := by rfl)
    (ha : ∀ v, assign (.Subscript o i spos) X.env v = (do let ov ← holding [v] (eval o X.env); let iv ← holding [v, ov] (eval i X.env); standAt spos; holding [v, ov, iv] (setItem ov iv v); release [v, ov, iv] []) := by intro _; rfl) :
    QS X C W (.Assign [.Subscript o i spos] e pos) (gSetI ge go gi) := by
  obtain ⟨te, pe, qe⟩ := he
  obtain ⟨to, po, qo⟩ := ho
  obtain ⟨ti, pi, qi⟩ := hi
  refine ⟨_, ps_asg pe (pg_sub po pi set_list ha) hs hp h1, fun Dd σ H Z ι Γ M sl hr h => qe σ H Z ι Γ M _ sl hr (PostS.bind h sl fun v M1 v' H1 Z1 ι1 e1 hr1 r1 h1 => qo σ H1 Z1 ι1 Γ M1 _ (sl.ext e1) hr1 (PostS.bind h1 (sl.ext e1) fun o M2 o' H2 Z2 ι2 e2 hr2 r2 h2 =>
    qi σ H2 Z2 ι2 Γ M2 _ ((sl.ext e1).ext e2) hr2 (PostS.bind h2 ((sl.ext e1).ext e2) fun i M3 i' H3 Z3 ι3 e3 hr3 r3 h3 => ?_)))⟩
  have ro := r2.ext e3
  have rv := (r1.ext e2).ext e3
  have sl3 := ((sl.ext e1).ext e2).ext e3
  cases es : setR M3 o i v with
  | none => rw [es] at h3; exact h3.elim
  | some M4 =>
    rw [es] at h3
    unfold setR at es
    cases ro with
    | ref hk =>
      rename_i k
      cases r3 with
      | int j =>
        simp only at es
        cases ek : M3[k]? with
        | none => rw [ek] at es; cases es
        | some u =>
          rw [ek] at es
          cases u with
          | dead => cases es
          | dct ks0 vs0 => cases es
          | dki kvs0 => cases es
          | obj nm fs => cases es
          | lst ds =>
            simp only at es
            cases em : ixN ds.length j with
            | none => rw [em] at es; cases es
            | some m =>
              rw [em] at es
              cases es
              obtain ⟨xs, a1, a2⟩ := hr3.obj k _ ek
              obtain ⟨b1, b2⟩ := hr3.change ek (a2.set m rv)
              exact ⟨_, xs, j, m, rfl, rfl, a1, by rw [← a2.length]; exact em, h3 σ _ Z3 ι3 b2 b1 (sl3.ext b2)⟩
      | _ => cases es
    | _ => cases es
/-! x += e -/
def gAug (i : Nat) (f : Int → Int → Int) (ge : GE) : GS := fun Γ M => match Γ[i]? with
  | some (some (.int a)) => (ge Γ M).thenS Γ fun y M1 => match y with
    | .int b => .nx (Γ.set i (some (.int (f a b)))) M1
    | _ => .bad
  | _ => .bad
/-! repr -/
end
end Bk

set_option Elab.async false
set_option linter.all false
set_option maxRecDepth 100000
set_option maxHeartbeats 2000000
namespace Bk
open PySem PySem.Spec PyProof.Rows L2
/-! ### enumerate and zip of lists and tuples -/
inductive Src where
  | l (a : Addr) | t (a : Addr)
namespace Src
def addr : Src → Addr
  | .l a => a
  | .t a => a
def here (K : PySem.W.Frag) (H : Hp) (xs : List V) : Src → Prop
  | .l a => SqL K H a xs
  | .t a => SqT K H a xs
def it (h : Heap) (i : Addr) (n : Nat) : Src → Prop
  | .l a => h.IsListIter i a n
  | .t a => h.IsTupleIter i a n
def arr (h : Heap) (items : Array Value) : Src → Prop
  | .l a => h.IsList a items
  | .t a => h.IsTuple a items
def obj : Src → Obj
  | .l a => { cls := .type "list_iterator", data := .fields #[.ref a, .int 0 0] }
  | .t a => { cls := .type "tuple_iterator", data := .fields #[.ref a, .int 0 0] }
theorem begins (S : Src) (items : Array Value) : Begins (.ref S.addr) S.obj fun h => S.arr h items := by
  cases S with
  | l a => exact begins_list a items
  | t a => exact begins_tuple a items
theorem draws {prog : Program} {w : World} {A : Around} (hh : A.handled = none) (S : Src) (i : Addr) (hne : S.addr ≠ i) (items : Array Value) :
    Draws prog w A i [i, S.addr] items.size (fun n v => items[n]? = some v) (fun n h => S.it h i n ∧ S.arr h items) := by
  cases S with
  | l a => exact Draws.list hh i a hne items
  | t a => exact Draws.tuple hh i a hne items
theorem inv {X : Cx} {pins : List (Addr × Obj)} {σ : L2.St} {H : Hp} {s : Shared} {xs : List V} (I : Inv X pins σ H s) {S : Src} (h : S.here X.K H xs) : ∃ its : List Value, Vals xs its ∧ S.arr s.heap its.toArray := by
  cases S with
  | l a =>
    obtain ⟨its, r, p, _⟩ := I.list h
    exact ⟨its, r, p.isList⟩
  | t a =>
    obtain ⟨its, r, p, _⟩ := I.tuple h
    exact ⟨its, r, p⟩
theorem inj {X : Cx} {pins : List (Addr × Obj)} {σ : L2.St} {H : Hp} {s : Shared} {xs ys : List V} (I : Inv X pins σ H s) {S : Src} (h : S.here X.K H xs) (h' : S.here X.K H ys) : xs = ys := by
  cases S with
  | l a => exact I.list_inj h h'
  | t a => exact I.tuple_inj h h'
theorem start {S : Src} {h : Heap} {i : Addr} (e : h.get? i = some S.obj) : S.it h i 0 := by
  cases S with
  | l a => exact ⟨_, e, rfl, rfl⟩
  | t a => exact ⟨_, e, rfl, rfl⟩
theorem it_at {S : Src} {h h' : Heap} {i : Addr} {n : Nat} (x : S.it h i n) (k : ∀ o, h.get? i = some o → h'.get? i = some o) : S.it h' i n := by
  cases S with
  | l a =>
    have y : h.IsListIter i a n := x
    exact y.at k
  | t a =>
    have y : h.IsTupleIter i a n := x
    exact y.at k
theorem it_obj {S : Src} {h : Heap} {i : Addr} {n : Nat} (x : S.it h i n) : ∃ o, h.get? i = some o ∧ ∀ v, o.data ≠ .cell v := by
  cases S with
  | l a =>
    obtain ⟨o, ho, _, hd⟩ := (show h.IsListIter i a n from x)
    exact ⟨o, ho, fun v q => by rw [hd] at q; cases q⟩
  | t a =>
    obtain ⟨o, ho, _, hd⟩ := (show h.IsTupleIter i a n from x)
    exact ⟨o, ho, fun v q => by rw [hd] at q; cases q⟩
theorem arr_ne {S : Src} {h : Heap} {items : Array Value} {b : Addr} {ob : Obj} (x : S.arr h items) (e : h.get? b = some ob) (hd : ∀ its n, ob.data ≠ .seq its n) : S.addr ≠ b := by
  cases S with
  | l a =>
    obtain ⟨o, ho, _, m, hdd⟩ := (show h.IsList a items from x)
    intro z
    have z' : a = b := z
    rw [z', e] at ho
    cases ho
    exact hd _ _ hdd
  | t a =>
    obtain ⟨o, ho, _, m, hdd⟩ := (show h.IsTuple a items from x)
    intro z
    have z' : a = b := z
    rw [z', e] at ho
    cases ho
    exact hd _ _ hdd
theorem arr_it {S : Src} {h : Heap} {items : Array Value} {i : Addr} {n : Nat} (x : S.arr h items) (y : S.it h i n) : S.addr ≠ i := by
  cases S with
  | l a =>
    obtain ⟨o, ho, _, m, hd⟩ := (show h.IsList a items from x)
    obtain ⟨o', ho', _, hd'⟩ := (show h.IsListIter i a n from y)
    intro z
    have z' : a = i := z
    rw [z', ho'] at ho
    cases ho
    rw [hd] at hd'
    cases hd'
  | t a =>
    obtain ⟨o, ho, _, m, hd⟩ := (show h.IsTuple a items from x)
    obtain ⟨o', ho', _, hd'⟩ := (show h.IsTupleIter i a n from y)
    intro z
    have z' : a = i := z
    rw [z', ho'] at ho
    cases ho
    rw [hd] at hd'
    cases hd'
theorem arr_lt {S : Src} {h : Heap} {items : Array Value} (x : S.arr h items) : S.addr < h.objs.size := by
  cases S with
  | l a =>
    obtain ⟨o, ho, _⟩ := (show h.IsList a items from x)
    exact Heap.lt_size ho
  | t a =>
    obtain ⟨o, ho, _⟩ := (show h.IsTuple a items from x)
    exact Heap.lt_size ho
end Src
set_option maxHeartbeats 4000000 in
theorem meets_enum1 {v : Value} {o : Obj} {H : Heap → Prop} (B : Begins v o H) :
    Meets (Builtin.«enumerate.__new__» ⟨[.type "enumerate", v], []⟩) (fun _ R s => H s.heap ∧ R (.ok (.ret (.ref (s.heap.push o).objs.size)))
      { s with heap := (s.heap.push o).push { cls := .type "enumerate", data := .fields #[.none, .bool false, .ref s.heap.objs.size, rawInt 0, .none, .none] } }) :=
  .of_wp fun prog w A R s hs => by
    obtain ⟨hp, g, d, tk, os⟩ := s
    obtain ⟨hH, hR⟩ := hs
    have subs := sub_enumerate
    have iter : ∀ {A' : Around} {E : Value → Shared → Prop} {Q : Value → Shared → Prop}, Q (.ref hp.objs.size) ⟨hp.push o, g, d, tk, os⟩ → wpAny (model prog w) A' (pyIter v) Q E ⟨hp, g, d, tk, os⟩ := fun q => B.iter prog w _ _ _ _ hH q
    wp_walk using iter
    refine wpAny_stack_any fun _ => wpAny_pure ?_
    split
    · rename_i c _ _ _ _ _
      cases (c == Value.type "enumerate") <;> (wp_walk using iter; exact ⟨_, rfl, hR⟩)
    · wp_walk using iter
      exact ⟨_, rfl, hR⟩
theorem call_enum1 {prog : Program} {w : World} {A : Around} {E : Value → Shared → Prop} {s : Shared} {v : Value} {o : Obj} {H : Heap → Prop} {Q : Value → Shared → Prop} (B : Begins v o H) (hH : H s.heap)
    (h : ∀ h', IsEnum h' (s.heap.objs.size + 1) s.heap.objs.size 0 .none → h'.get? s.heap.objs.size = some o → (∀ b u, s.heap.get? b = some u → h'.get? b = some u) → Q (.ref (s.heap.objs.size + 1)) { s with heap := h' }) :
    wpAny (model prog w) A (call (.type "enumerate") [v]) Q E s := by
  refine callType_new F.called_enumerate (by decide) (F.typeCall_enumerate_1 _) (F.newCall_enumerate_1 _) (fun ob => F.args_object_init_2 ob _) F.entry_enumerate_new (meets_enum1 B) ⟨hH, ?_⟩
  have sz : (s.heap.push o).objs.size = s.heap.objs.size + 1 := Heap.size_push ..
  show _ ∧ _
  rw [sz]
  have e := Heap.get?_push_size (s.heap.push o) (o := { cls := .type "enumerate", data := .fields #[.none, .bool false, .ref s.heap.objs.size, rawInt 0, .none, .none] }) rfl
  rw [sz] at e
  exact ⟨⟨_, e, rfl⟩, h _ e (Heap.get?_push_of_some _ (Heap.get?_push_size _ B.free)) fun b u x => Heap.get?_push_of_some _ (Heap.get?_push_of_some _ x)⟩
/-! the turns -/
def Ien (K : PySem.W.Frag) (S : Src) (k0 : Int) : It :=
  ⟨fun n H => ∃ (xs : List V) (x : V), S.here K H xs ∧ xs[n]? = some x, fun n H v H' => ∃ T x, v = .ref T ∧ H T = none ∧ H' = upd H T (.tup [.int (k0 + (n : Nat)), x]) ∧ ∀ xs, S.here K H xs → xs[n]? = some x, fun n H => ∃ xs : List V, S.here K H xs ∧ xs.length = n⟩
theorem turn_en {P : Program} {w : World} {K : PySem.W.Frag} {elts : List Expr} {kk : Nat} {tpos : Pos} (S : Src) (k0 : Int) (e i : Addr) :
    Turn P w K (.Tuple elts kk tpos) (Ien K S k0) [e, i] e (fun n h => (∃ old, IsEnum h e i (k0 + (n : Nat)) old) ∧ S.it h i n ∧ e ≠ i) where
  mem := List.mem_cons_self
  obj := fun n h st b hb => by
    obtain ⟨⟨old, he⟩, hi, _⟩ := st
    rcases List.mem_cons.mp hb with z | z
    · subst z
      exact ⟨_, he, fun v q => nomatch q⟩
    · have z' : b = i := by simpa using z
      subst z'
      exact Src.it_obj hi
  keep := fun n h h' st k => by
    obtain ⟨⟨old, he⟩, hi, ne⟩ := st
    exact ⟨⟨old, k e (by simp) _ he⟩, Src.it_at hi fun o q => k i (by simp) o q, ne⟩
  item := by
    intro X hP hw hK hc n pins s σ H E I hf st hg
    subst hP hw hK
    obtain ⟨⟨old, he⟩, hi, ne⟩ := st
    obtain ⟨xs, x, hq, hx⟩ := hg
    obtain ⟨its, rv, har⟩ := Src.inv I hq
    obtain ⟨u, hu, ru⟩ := rv.get hx
    obtain ⟨oi, hoi, _⟩ := Src.it_obj hi
    have hh : X.A.in1.handled = none := I.ok.hd hc
    have a1 : S.addr ≠ e := Src.arr_ne har he (fun _ _ q => nomatch q)
    have a2 := Src.arr_it har hi
    have Wk := WalksT.enumFrom k0 (Src.draws (prog := X.prog) (w := X.w) hh S i a2 its.toArray) e ne (by simp only [List.mem_cons, List.not_mem_nil, or_false, not_or]; exact ⟨ne, fun z => a1 z.symm⟩) (by simp)
    have ln : n < its.toArray.size := by
      have := (List.getElem?_eq_some_iff.mp hu).1
      simpa using this
    refine Wk.item n s _ E ln ⟨⟨old, he⟩, hi, har⟩ fun T vals h' tk hP hT hTup hMid hk => ⟨_, rfl, Wk.go elts kk tpos n T _ _ _ hMid fun h2 hSt hk2 => ?_⟩
    obtain ⟨t, x', hx', hvals⟩ := hP
    subst hvals
    have ex : x' = u := by
      have q : its.toArray[n]? = some u := by simpa using hu
      rw [hx'] at q
      exact Option.some.inj q
    subst ex
    have out := Wk.apart n T _ hMid
    have tup2 : h2.IsTuple T #[.int (k0 + (n : Nat)) t, x'] := hTup.at fun o q => hk2 T o out q
    have new : ObjOk X.prog X.w (upd H T (.tup [.int (k0 + (n : Nat)), x])) h2 T (.tup [.int (k0 + (n : Nat)), x]) :=
      ⟨by show 2 ≤ sizeLine; decide, [.int (k0 + (n : Nat)) t, x'], .cons ⟨_, rfl⟩ (.cons ru .nil), tup2⟩
    have J := I.turnedNew (t' := tk) (ch := [e, i]) (fun b ob hb q => hk2 b ob hb (hk b ob hb q)) hf hT new
    refine ⟨.ref T, _, J, rfl, ⟨T, x, rfl, I.hok.fresh hT, rfl, fun ys hy => by rw [Src.inj I hy hq]; exact hx⟩, ?_, fun b hb => ?_⟩
    · obtain ⟨⟨o2, he2⟩, hi2, _⟩ := hSt
      have en : k0 + ((n + 1 : Nat) : Int) = k0 + (n : Nat) + 1 := by push_cast; omega
      exact ⟨⟨o2, by first | exact he2 | (rw [en]; exact he2)⟩, hi2, ne⟩
    · have hb' : b < s.heap.objs.size := by
        rcases List.mem_cons.mp hb with z | z
        · rw [z]; exact Heap.lt_size he
        · have z' : b = i := by simpa using z
          rw [z']; exact Heap.lt_size hoi
      rw [upd_ne (Nat.ne_of_lt (Nat.lt_of_lt_of_le hb' hT))]
      exact (hf b hb).1
  done := by
    intro X hP hw hK hc n pins s σ H E I hf st hg
    subst hP hw hK
    obtain ⟨⟨old, he⟩, hi, ne⟩ := st
    obtain ⟨xs, hq, hx⟩ := hg
    obtain ⟨its, rv, har⟩ := Src.inv I hq
    have hh : X.A.in1.handled = none := I.ok.hd hc
    have a1 : S.addr ≠ e := Src.arr_ne har he (fun _ _ q => nomatch q)
    have Wk := WalksT.enumFrom k0 (Src.draws (prog := X.prog) (w := X.w) hh S i (Src.arr_it har hi) its.toArray) e ne (by simp only [List.mem_cons, List.not_mem_nil, or_false, not_or]; exact ⟨ne, fun z => a1 z.symm⟩) (by simp)
    have en : its.toArray.size = n := by rw [List.size_toArray, ← rv.length]; exact hx
    rw [en] at Wk
    exact Wk.done s _ E ⟨⟨old, he⟩, hi, har⟩ fun h' tk hk => ⟨rfl, I.turnedL (t' := tk) (ch := [e, i]) (fun b ob hb q => hk b ob hb q) hf⟩
  self := fun A n s Q E st h => by
    obtain ⟨⟨_, he⟩, _⟩ := st
    exact wpAny_pyIter_enum he h
end Bk

set_option Elab.async false
set_option linter.all false
set_option maxRecDepth 100000
set_option maxHeartbeats 2000000
namespace Bk
open PySem PySem.Spec PyProof.Rows L2
def enumL (k : Int) : List D → List D
  | [] => []
  | d :: ds => .tup [.int k, d] :: enumL (k + 1) ds
theorem enumL_len : ∀ (ds : List D) (k : Int), (enumL k ds).length = ds.length
  | [], _ => rfl
  | d :: ds, k => by simp [enumL, enumL_len ds]
theorem enumL_get : ∀ (ds : List D) (k : Int) (i : Nat) (x : D), (enumL k ds)[i]? = some x → ∃ d, ds[i]? = some d ∧ x = .tup [.int (k + (i : Nat)), d]
  | [], _, _, _, h => by simp [enumL] at h
  | d :: ds, k, 0, x, h => by
    simp [enumL] at h
    exact ⟨d, rfl, by rw [← h]; simp⟩
  | d :: ds, k, i + 1, x, h => by
    simp only [enumL, List.getElem?_cons_succ] at h
    obtain ⟨d', h1, h2⟩ := enumL_get ds (k + 1) i x h
    refine ⟨d', by simpa using h1, ?_⟩
    rw [h2]
    congr 3
    push_cast
    omega
def zipL : List D → List D → List D
  | d :: ds, e :: es => .tup [d, e] :: zipL ds es
  | _, _ => []
theorem zipL_len : ∀ (ds es : List D), (zipL ds es).length = min ds.length es.length
  | [], _ => by simp [zipL]
  | _ :: _, [] => by simp [zipL]
  | d :: ds, e :: es => by
    simp only [zipL, List.length_cons, zipL_len ds es]
    omega
theorem zipL_get : ∀ (ds es : List D) (i : Nat) (x : D), (zipL ds es)[i]? = some x → ∃ d e, ds[i]? = some d ∧ es[i]? = some e ∧ x = .tup [d, e]
  | [], _, _, _, h => by simp [zipL] at h
  | _ :: _, [], _, _, h => by simp [zipL] at h
  | d :: ds, e :: es, 0, x, h => by
    simp [zipL] at h
    exact ⟨d, e, rfl, rfl, h.symm⟩
  | d :: ds, e :: es, i + 1, x, h => by
    simp only [zipL, List.getElem?_cons_succ] at h
    obtain ⟨d', e', h1, h2, h3⟩ := zipL_get ds es i x h
    exact ⟨d', e', by simpa using h1, by simpa using h2, h3⟩
def gEnum (ge : GE) : GI := fun Γ M => (ge Γ M).bind fun d M1 => opR ((seqD d).map (enumL 0)) M1
def gEnumK (ge : GE) (gk : GE) : GI := fun Γ M => (ge Γ M).bind fun d M1 => (gk Γ M1).bind fun k M2 => match k with
  | .int k => if decide (-(2 ^ 63) ≤ k) && decide (k < 2 ^ 63) then opR ((seqD d).map (enumL k)) M2 else .bad
  | _ => .bad
def zipO (x y : D) : Option (List D) := match seqD x, seqD y with
  | some ds, some es => some (zipL ds es)
  | _, _ => none
def gZip (ga gb : GE) : GI := fun Γ M => (ga Γ M).bind fun x M1 => (gb Γ M1).bind fun y M2 => opR (zipO x y) M2
section
variable {X : Cx} {C : CT} {W : WX} {e e2 : Expr} {ge ga gb gk : GE} {p pos tpos : Pos} {elts : List Expr} {kk : Nat}
theorem src_of {K : PySem.W.Frag} {H Z : Hp} {ι : Nat → Addr} {n : Nat} {d : D} {ds : List D} {v : V} (hs : Sub Z H) (r : Rp K Z ι n d v) (h : seqD d = some ds) : ∃ (S : Src) (xs : List V), v = .ref S.addr ∧ S.here K Z xs ∧ Rps K Z ι n ds xs := by
  cases r with
  | lst s r => cases h; exact ⟨.l _, _, rfl, s.sq, r⟩
  | tup s r => cases h; exact ⟨.t _, _, rfl, s, r⟩
  | ptu s r => cases h; exact ⟨.t _, _, rfl, s.sq, r⟩
  | _ => cases h
theorem here_sub {K : PySem.W.Frag} {Z H : Hp} (h : Sub Z H) {S : Src} {xs : List V} : S.here K Z xs → S.here K H xs := by
  cases S with
  | l a =>
    intro q
    rcases (show SqL K Z a xs from q) with (q | ⟨o, q⟩) | q
    · exact .inl (.inl (h _ _ q))
    · exact .inl (.inr ⟨o, h _ _ q⟩)
    · exact .inr q
  | t a => exact fun q => subT h q
theorem itr_en {K : PySem.W.Frag} {Z : Hp} {ι : Nat → Addr} {n : Nat} {S : Src} {xs : List V} {ds : List D} {k : Int} (s : S.here K Z xs) (r : Rps K Z ι n ds xs) : ItR K (Ien K S k) (enumL k ds) Z ι n := by
  intro i H' Z' ι' M' hz hi hn hr _
  have sH : S.here K H' xs := here_sub (fun a o h => hr.sub _ _ (hz _ _ h)) s
  refine ⟨fun hl => ⟨xs, sH, by rw [← r.length, ← enumL_len ds k]; exact hl⟩, fun d hd => ?_⟩
  obtain ⟨d0, h1, rfl⟩ := enumL_get ds k i d hd
  obtain ⟨v, hv, rv⟩ := r.get h1
  refine ⟨⟨xs, v, sH, hv⟩, fun x H2 hy => ?_⟩
  obtain ⟨T, x', rfl, hT, rfl, hx⟩ := hy
  have ex : xs[i]? = some x' := hx _ sH
  rw [hv] at ex
  cases ex
  obtain ⟨q1, q2⟩ := hr.frozen (o := .tup [.int (k + (i : Nat)), v]) hT
  refine ⟨_, q2, q1, .tup (.inl (.inl upd_same)) (.cons (.int _) (.cons ?_ .nil))⟩
  exact Rp.ext (Rp.mono hz hi hn _ _ rv) q2
theorem qi_enum (hg : Gl X "enumerate") (hm : X.mg "enumerate" = none) (ha : QE X C W e ge) (hs : starEach [e] X.env = (false, eval e X.env) :: starEach [] X.env := by rfl) : QI X C W (.Tuple elts kk tpos) (.Call (.Name "enumerate" p) [e] [] pos) (gEnum ge) := by
  obtain ⟨ta, pa, qa⟩ := ha
  refine ⟨fun σ H R => ta σ H fun v H1 => ∃ (S : Src) (xs : List V), v = .ref S.addr ∧ S.here X.K H1 xs ∧ R (Ien X.K S 0) H1, ⟨fun pins s σ H R I h => ?_⟩, fun σ H Z ι Γ M Q sl hr h => qa σ H Z ι Γ M _ sl hr (Post.bind h fun x M1 v H1 Z1 ι1 e1 hr1 r1 h1 => ?_)⟩
  · refine Call_ (ld_blt I hg hm boot_enumerate (PyProof.Rows.callWith_type1 (thn ((pa_cons pa pa_nil hs).run pos pins s σ H (fun vs H1 => ∃ v, vs = [v] ∧ ∃ (S : Src) (xs : List V), v = .ref S.addr ∧ S.here X.K H1 xs ∧ R (Ien X.K S 0) H1) I ?_) fun us s1 hh => ?_) hs rfl))
    · have hmono : (fun x H1 => tNil σ H1 fun xs H2 => ∃ v, x :: xs = [v] ∧ ∃ (S : Src) (ys : List V), v = .ref S.addr ∧ S.here X.K H2 ys ∧ R (Ien X.K S 0) H2) = fun (v : V) (H1 : Hp) => ∃ (S : Src) (xs : List V), v = .ref S.addr ∧ S.here X.K H1 xs ∧ R (Ien X.K S 0) H1 := by
        funext x H1
        apply propext
        constructor
        · rintro ⟨v, ev, q⟩
          cases ev
          exact q
        · intro q
          exact ⟨x, rfl, q⟩
      show ta σ H fun x H1 => tNil σ H1 fun xs H2 => ∃ v, x :: xs = [v] ∧ ∃ (S : Src) (ys : List V), v = .ref S.addr ∧ S.here X.K H2 ys ∧ R (Ien X.K S 0) H2
      rw [hmono]
      exact h
    · obtain ⟨vs, H1, J, r1, v, rfl, S, xs, rfl, hq, q⟩ := hh
      obtain ⟨u, rfl, ru⟩ := Vals.one r1
      cases ru
      obtain ⟨its, rv, har⟩ := Src.inv J hq
      refine call_enum1 (S.begins its.toArray) har fun h' he hit hk => wpAny_pyIter_enum he ?_
      have J2 : Inv X pins σ H1 { s1 with heap := h' } := J.kept (t' := s1.toks) hk
      refine ⟨s1.heap.objs.size + 1, [s1.heap.objs.size + 1, s1.heap.objs.size], _, _, H1, rfl, J2, turn_en S 0 (s1.heap.objs.size + 1) s1.heap.objs.size, ⟨⟨.none, by simpa using he⟩, Src.start hit, Nat.succ_ne_self _⟩, fun b hb => ?_, q⟩
      have le : s1.heap.objs.size ≤ b := by
        rcases List.mem_cons.mp hb with z | z
        · rw [z]; exact Nat.le_succ _
        · have z' : b = s1.heap.objs.size := by simpa using z
          rw [z']
          exact Nat.le_refl _
      exact J.fpOk le (J.hok.fresh le)
  · obtain ⟨items, hd, h2⟩ := Post.of_opR (γ := D) (δ := V) h1
    cases es : seqD x with
    | none => rw [es] at hd; cases hd
    | some ds =>
      rw [es] at hd
      cases hd
      obtain ⟨S, xs, rfl, hS, r⟩ := src_of hr1.sub r1 es
      exact ⟨S, xs, rfl, here_sub hr1.sub hS, h2 _ H1 Z1 ι1 .refl hr1 (itr_en hS r)⟩
end
end Bk

set_option Elab.async false
set_option linter.all false
set_option maxRecDepth 100000
set_option maxHeartbeats 2000000
namespace Bk
open PySem PySem.Spec PyProof.Rows L2
/-! ### a comprehension over a list of ours, which it leaves as it is -/
def Pure {α : Type} (g : Env → List MO → R α) : Prop := ∀ (Γ : Env) (M : List MO) (d : α) (M' : List MO), g Γ M = .ok d M' → M' = M
theorem R.bind_ok {α β : Type} {r : R α} {f : α → List MO → R β} {b : β} {M' : List MO} (h : r.bind f = .ok b M') : ∃ a M1, r = .ok a M1 ∧ f a M1 = .ok b M' := by
  cases r with
  | ok a M1 => exact ⟨a, M1, rfl, h⟩
  | exc c d M1 => cases h
  | bad => cases h
theorem opR_ok {α : Type} {o : Option α} {M M' : List MO} {a : α} (h : opR o M = .ok a M') : M' = M := by
  cases o with
  | none => cases h
  | some a => cases h; rfl
theorem pure_v (i : Nat) : Pure (gV i) := fun Γ M d M' h => by
  unfold gV at h
  split at h <;> cases h
  rfl
theorem pure_c (d : D) : Pure (gC d) := fun Γ M d M' h => by cases h; rfl
theorem pure_op2 {f : List MO → D → D → Option D} {ga gb : GE} (h1 : Pure ga) (h2 : Pure gb) : Pure (gOp2 f ga gb) := fun Γ M d M' h => by
  obtain ⟨a, M1, e1, h⟩ := R.bind_ok h
  obtain ⟨b, M2, e2, h⟩ := R.bind_ok h
  rw [opR_ok h, h2 _ _ _ _ e2, h1 _ _ _ _ e1]
theorem pure_val {ga : GE} (h1 : Pure ga) : Pure (gVal ga) := fun Γ M d M' h => by
  obtain ⟨a, M1, e1, h⟩ := R.bind_ok h
  rw [opR_ok h, h1 _ _ _ _ e1]
def gLcW (ge : GE) (gg : GG) (gt : GT) (gel : GE) (own : List Nat) : GE := fun Γ M => (ge Γ M).bind fun d M1 => match d with
  | .ref k => match M1[k]? with
    | some (.lst ds) => (gLcL gg gt gel (forget Γ own) ds [] M1).bind fun acc M2 => .ok (.lst acc) M2
    | _ => .bad
  | _ => .bad
section
variable {X : Cx} {C : CT} {W : WX} {elt tg iter : Expr} {ifs : List Expr} {scope : Scope} {own : List (Str × Nat)} {pos : Pos} {gi : GE} {gg : GG} {gt : GT} {ge : GE} {is ixs : List Nat}
end
end Bk
namespace Bk
open PySem PySem.Spec PyProof.Rows L2
theorem qs_pre {X : Cx} {C : CT} {W : WX} {st : Stmt} {g : GS} (is : List Nat) (h1 : QS X C W st g) : QS X C W st (gSeq (gForget is) g) := by
  obtain ⟨t, p, q⟩ := h1
  exact ⟨t, p, fun Dd σ H Z ι Γ M sl hr h => q Dd σ H Z ι (forget Γ is) M (sl.forget is) hr h⟩
end Bk

set_option Elab.async false
set_option linter.all false
set_option maxRecDepth 100000
set_option maxHeartbeats 2000000
namespace Bk
open PySem PySem.Spec PyProof.Rows L2
/-! ### ==, for texts of any kind as well -/
def dEqA (M : List MO) (x y : D) : Option D := match x, y with
  | .str a, .str b => some (.bl (decide (a = b)))
  | x, y => dEq M x y
def dNeA (M : List MO) (x y : D) : Option D := match x, y with
  | .str a, .str b => some (.bl (!decide (a = b)))
  | x, y => dNe M x y
section
variable {X : Cx}
theorem op_eqA (hu : X.A.units + 64 < cLine) : OpR X (compareOp .Eq) (fun x y H Q => rEqD X.K x y H Q ∨ rEq x y H Q) := (op_eqD hu).or op_eq
theorem op_neA (hu : X.A.units + 64 < cLine) : OpR X (compareOp .NotEq) (fun x y H Q => rNeD X.K x y H Q ∨ rNe x y H Q) := (op_neD hu).or op_ne
theorem str_dec (a b : Str) : decide (V.str a = V.str b) = decide (a = b) := by simp
theorem ok_eqA : Ok2 X (fun x y H Q => rEqD X.K x y H Q ∨ rEq x y H Q) dEqA := fun x y H Z ι M dx dy d Q hr rx ry e q => by
  unfold dEqA at e
  split at e
  · cases e
    cases rx
    cases ry
    exact .inr ⟨rfl, q.now hr (by rw [str_dec]; exact .bl _)⟩
  · exact .inl (ok_eq x y H Z ι M dx dy d Q hr rx ry e q)
theorem ok_neA : Ok2 X (fun x y H Q => rNeD X.K x y H Q ∨ rNe x y H Q) dNeA := fun x y H Z ι M dx dy d Q hr rx ry e q => by
  unfold dNeA at e
  split at e
  · cases e
    cases rx
    cases ry
    exact .inr ⟨rfl, q.now hr (by rw [str_dec]; exact .bl _)⟩
  · exact .inl (ok_ne x y H Z ι M dx dy d Q hr rx ry e q)
end
@[simp] theorem e_eqS (M : List MO) (a b : Str) : dEqA M (.str a) (.str b) = some (.bl (decide (a = b))) := Eq.trans rfl rfl
@[simp] theorem e_neS (M : List MO) (a b : Str) : dNeA M (.str a) (.str b) = some (.bl (!decide (a = b))) := Eq.trans rfl rfl
/-! ### data that is as it is -/
structure Dt (n : Nat) (d : D) (p : PyData) : Prop where
  e : toP d = some p
  l : p.canLay0 = true
  h : p.depth ≤ n
structure Dts (n : Nat) (ds : List D) (ps : List PyData) : Prop where
  e : toPs ds = some ps
  l : PyData.canLayAll0 ps = true
  h : PyData.depthAll ps ≤ n
theorem Dt.int (n : Nat) (i : Int) : Dt n (.int i) (.int i) := ⟨rfl, rfl, Nat.zero_le _⟩
theorem Dt.non (n : Nat) : Dt n .non .none := ⟨rfl, rfl, Nat.zero_le _⟩
theorem Dt.bl (n : Nat) (b : Bool) : Dt n (.bl b) (.bool b) := ⟨rfl, rfl, Nat.zero_le _⟩
theorem Dts.nil (n : Nat) : Dts n [] [] := ⟨rfl, rfl, Nat.zero_le _⟩
theorem Dts.cons {n : Nat} {d : D} {ds : List D} {p : PyData} {ps : List PyData} (h : Dt n d p) (t : Dts n ds ps) : Dts n (d :: ds) (p :: ps) :=
  ⟨by simp [toPs, h.e, t.e], by simp [PyData.canLayAll0, h.l, t.l], by have := h.h; have := t.h; simp only [PyData.depthAll]; omega⟩
theorem Dts.tup {n : Nat} {ds : List D} {ps : List PyData} (h : Dts n ds ps) : Dt (n + 1) (.tup ds) (.tuple ps) := ⟨by simp [toP, h.e], by simpa [PyData.canLay0] using h.l, by have := h.h; simp only [PyData.depth]; omega⟩
theorem Dts.lst {n : Nat} {ds : List D} {ps : List PyData} (h : Dts n ds ps) : Dt (n + 1) (.lst ds) (.list ps) := ⟨by simp [toP, h.e], by simpa [PyData.canLay0] using h.l, by have := h.h; simp only [PyData.depth]; omega⟩
theorem Dts.map {α : Type} {n : Nat} {f : α → D} {g : α → PyData} (xs : List α) (h : ∀ x ∈ xs, Dt n (f x) (g x)) : Dts n (xs.map f) (xs.map g) := by
  induction xs with
  | nil => exact .nil n
  | cons x xs ih => exact .cons (h x (by simp)) (ih fun y hy => h y (by simp [hy]))
theorem Dts.ints (n : Nat) (is : List Int) : Dts n (is.map D.int) (is.map PyData.int) := Dts.map is fun i _ => .int n i
theorem Dt.shaped {n : Nat} {d : D} {p : PyData} (h : Dt n d p) (hn : n ≤ 64) : SeqAt.shaped p = true := by
  have := h.h
  simp [SeqAt.shaped, h.l]
  omega
theorem eqP_of {n m : Nat} {M : List MO} {x y d d' : D} {p q : PyData} (h : Dt n d p) (h' : Dt m d' q) (hx : deref M x = d) (hy : deref M y = d') (hn : n ≤ 64) (hm : m ≤ 64) : eqP M x y = some (PyData.eqv p q) := by
  unfold eqP
  rw [hx, hy, h.e, h'.e]
  simp [h.shaped hn, h'.shaped hm]
theorem eqv_same {p : PyData} (h : p.canLay0 = true) : PyData.eqv p p = true := SeqAt.eqv_refl p h
theorem eqP_same {n : Nat} {M : List MO} {x y d : D} {p : PyData} (h : Dt n d p) (hx : deref M x = d) (hy : deref M y = d) (hn : n ≤ 64) : eqP M x y = some true := by
  rw [eqP_of h h hx hy hn hn, eqv_same h.l]
theorem dEqA_p {M : List MO} {x y : D} {b : Bool} (h : eqP M x y = some b) (hx : ∀ s, x ≠ .str s) : dEqA M x y = some (.bl b) := by
  unfold dEqA
  split
  · exact absurd rfl (hx _)
  · simp [dEq, h]
theorem dNeA_p {M : List MO} {x y : D} {b : Bool} (h : eqP M x y = some b) (hx : ∀ s, x ≠ .str s) : dNeA M x y = some (.bl !b) := by
  unfold dNeA
  split
  · exact absurd rfl (hx _)
  · simp [dNe, h]
@[simp] theorem dEqA_int (M : List MO) (i j : Int) : dEqA M (.int i) (.int j) = some (.bl (decide (i = j))) := by
  rw [dEqA_p (eqP_of (Dt.int 0 i) (Dt.int 0 j) rfl rfl (by decide) (by decide)) (fun _ h => by cases h)]
  simp only [PyData.eqv]
  congr 2
  try rfl
@[simp] theorem dNeA_int (M : List MO) (i j : Int) : dNeA M (.int i) (.int j) = some (.bl (!decide (i = j))) := by
  rw [dNeA_p (eqP_of (Dt.int 0 i) (Dt.int 0 j) rfl rfl (by decide) (by decide)) (fun _ h => by cases h)]
  simp only [PyData.eqv]
  congr 2
  try rfl
theorem deref_ref {M : List MO} {k : Nat} {ds : List D} (h : M[k]? = some (.lst ds)) : deref M (.ref k) = .lst (ds.map (deref1 M)) := by
  simp [deref, deref1, h]
mutual
theorem below_toP : ∀ (d : D) (p : PyData), toP d = some p → below 0 d = true
  | .non, _, _ => rfl
  | .bl _, _, _ => rfl
  | .int _, _, _ => rfl
  | .str _, _, _ => rfl
  | .tup ds, p, h => by
    cases e : toPs ds with
    | none => simp [toP, e] at h
    | some ps => simpa [below] using belows_toPs ds ps e
  | .lst ds, p, h => by
    cases e : toPs ds with
    | none => simp [toP, e] at h
    | some ps => simpa [below] using belows_toPs ds ps e
  | .ref _, _, h => by cases h
  | .dct _ _, _, h => by cases h
  | .ptu ds, p, h => by
    cases e : toPs ds with
    | none => simp [toP, e] at h
    | some ps => simpa [below] using belows_toPs ds ps e
theorem belows_toPs : ∀ (ds : List D) (ps : List PyData), toPs ds = some ps → belows 0 ds = true
  | [], _, _ => rfl
  | d :: ds, ps, h => by
    cases e1 : toP d with
    | none => simp [toPs, e1] at h
    | some p =>
      cases e2 : toPs ds with
      | none => simp [toPs, e1, e2] at h
      | some ps => simp [belows, below_toP d p e1, belows_toPs ds ps e2]
end
mutual
theorem below_up : ∀ {m : Nat} (d : D), below 0 d = true → below m d = true
  | _, .non, _ => rfl
  | _, .bl _, _ => rfl
  | _, .int _, _ => rfl
  | _, .str _, _ => rfl
  | m, .tup ds, h => by simpa [below] using belows_up ds (by simpa [below] using h)
  | m, .lst ds, h => by simpa [below] using belows_up ds (by simpa [below] using h)
  | _, .ref _, h => by simp [below] at h
  | m, .dct ks vs, h => by
    have h' : belows 0 ks = true ∧ belows 0 vs = true := by simpa [below] using h
    simp [below, belows_up ks h'.1, belows_up vs h'.2]
  | m, .ptu ds, h => by simpa [below] using belows_up ds (by simpa [below] using h)
theorem belows_up : ∀ {m : Nat} (ds : List D), belows 0 ds = true → belows m ds = true
  | _, [], _ => rfl
  | m, d :: ds, h => by
    simp only [belows, Bool.and_eq_true] at h ⊢
    exact ⟨below_up d h.1, belows_up ds h.2⟩
end
mutual
theorem flat_noref : ∀ (M : List MO) (d : D), below 0 d = true → deref1 M d = d
  | _, .non, _ => rfl
  | _, .bl _, _ => rfl
  | _, .int _, _ => rfl
  | _, .str _, _ => rfl
  | _, .tup _, _ => rfl
  | _, .lst _, _ => rfl
  | _, .ref _, h => by simp [below] at h
  | _, .dct _ _, _ => rfl
  | _, .ptu _, _ => rfl
end
theorem belows_all {m : Nat} (ds : List D) : belows m ds = ds.all (below m) := by
  induction ds with
  | nil => rfl
  | cons d ds ih => simp [belows, ih]
theorem map_deref {M : List MO} {ds : List D} (h : belows 0 ds = true) : ds.map (deref1 M) = ds := by
  rw [belows_all, List.all_eq_true] at h
  conv => rhs; rw [← List.map_id ds]
  exact List.map_congr_left fun d hd => flat_noref M d (h d hd)
theorem deref_flat {M : List MO} {d : D} (h : below 0 d = true) : deref M d = d := by
  unfold deref
  rw [flat_noref M d h]
  cases d with
  | lst ds =>
    show D.lst (ds.map (deref1 M)) = _
    rw [map_deref (by simpa [below] using h)]
  | _ => rfl
theorem Dt.below {n m : Nat} {d : D} {p : PyData} (h : Dt n d p) : below m d = true := below_up d (below_toP d p h.e)
theorem Dts.belows {n m : Nat} {ds : List D} {ps : List PyData} (h : Dts n ds ps) : belows m ds = true := belows_up ds (belows_toPs ds ps h.e)
theorem Dt.deref {n : Nat} {M : List MO} {d : D} {p : PyData} (h : Dt n d p) : deref M d = d := deref_flat h.below
theorem Dts.derefR {n : Nat} {M : List MO} {k : Nat} {ds : List D} {ps : List PyData} (h : Dts n ds ps) (hk : M[k]? = some (.lst ds)) : deref M (.ref k) = .lst ds := by rw [deref_ref hk, map_deref h.belows]
@[simp] theorem belows_ints (m : Nat) (is : List Int) : belows m (is.map D.int) = true := (Dts.ints 0 is).belows
/-! what repr writes is not too long -/
structure Sh (b : Nat) (p : PyData) : Prop where
  s : p.showable = true
  d : p.hasDict = false
  l : p.leavesShort 13 = true
  b : p.bulk ≤ b
structure Shs (b : Nat) (ps : List PyData) : Prop where
  s : PyData.showableAll ps = true
  d : PyData.hasDictAll ps = false
  l : PyData.leavesShortAll 13 ps = true
  b : PyData.bulkAll ps ≤ b
theorem Sh.int {i : Int} (h : i.natAbs < 10 ^ 12) : Sh 0 (.int i) := ⟨by
  have : i.natAbs.log2 < 1920 := by
    by_cases z : i.natAbs = 0
    · rw [z]; decide
    · have : i.natAbs.log2 < 40 := (Nat.log2_lt z).mpr (by omega)
      omega
  simp [PyData.showable, this], rfl, by simpa [PyData.leavesShort] using PyData.shown_int_le h, Nat.le_refl _⟩
theorem Sh.non : Sh 0 .none := ⟨rfl, rfl, rfl, Nat.le_refl _⟩
theorem Sh.bl (b : Bool) : Sh 0 (.bool b) := ⟨rfl, rfl, rfl, Nat.le_refl _⟩
theorem Shs.nil : Shs 0 [] := ⟨rfl, rfl, rfl, Nat.le_refl _⟩
theorem Shs.cons {b c : Nat} {p : PyData} {ps : List PyData} (h : Sh b p) (t : Shs c ps) : Shs (b + 1 + c) (p :: ps) :=
  ⟨by simp [PyData.showableAll, h.s, t.s], by simp [PyData.hasDictAll, h.d, t.d], by simp [PyData.leavesShortAll, h.l, t.l], by have := h.b; have := t.b; simp only [PyData.bulkAll]; omega⟩
theorem Shs.tup {b : Nat} {ps : List PyData} (h : Shs b ps) : Sh b (.tuple ps) := ⟨by simpa [PyData.showable] using h.s, by simpa [PyData.hasDict] using h.d, by simpa [PyData.leavesShort] using h.l, by simpa [PyData.bulk] using h.b⟩
theorem Shs.lst {b : Nat} {ps : List PyData} (h : Shs b ps) : Sh b (.list ps) := ⟨by simpa [PyData.showable] using h.s, by simpa [PyData.hasDict] using h.d, by simpa [PyData.leavesShort] using h.l, by simpa [PyData.bulk] using h.b⟩
theorem Shs.map {α : Type} {b : Nat} {g : α → PyData} (xs : List α) (h : ∀ x ∈ xs, Sh b (g x)) : Shs (xs.length * (b + 1)) (xs.map g) := by
  induction xs with
  | nil => simpa using Shs.nil
  | cons x xs ih =>
    have := Shs.cons (h x (by simp)) (ih fun y hy => h y (by simp [hy]))
    simp only [List.length_cons, List.map_cons]
    rw [Nat.succ_mul, Nat.add_comm]
    exact this
theorem Shs.ints {is : List Int} (h : ∀ i ∈ is, i.natAbs < 10 ^ 12) : Shs is.length (is.map PyData.int) := by
  have := Shs.map (b := 0) is fun i hi => Sh.int (h i hi)
  simpa using this
end Bk

set_option Elab.async false
set_option linter.all false
set_option maxRecDepth 100000
set_option maxHeartbeats 2000000
namespace Bk
open PySem PySem.Spec PyProof.Rows L2
/-! ### how the functions are worked out -/
section
variable {α β : Type}
@[simp] theorem rb_ok (a : α) (M : List MO) (f : α → List MO → R β) : (R.ok a M).bind f = f a M := Eq.trans rfl rfl
@[simp] theorem rb_ex (c : Nat) (d : D) (M : List MO) (f : α → List MO → R β) : (R.exc c d M : R α).bind f = .exc c d M := Eq.trans rfl rfl
@[simp] theorem rt_ok (Γ : Env) (a : α) (M : List MO) (f : α → List MO → RS) : (R.ok a M).thenS Γ f = f a M := Eq.trans rfl rfl
@[simp] theorem rt_ex (Γ : Env) (c : Nat) (d : D) (M : List MO) (f : α → List MO → RS) : (R.exc c d M : R α).thenS Γ f = .exc c d Γ M := Eq.trans rfl rfl
@[simp] theorem ro_ok (a : α) (M : List MO) (f : α → List MO → R β) : (R.ok a M).only f = f a M := Eq.trans rfl rfl
@[simp] theorem sn_nx (Γ : Env) (M : List MO) (f : Env → List MO → RS) : (RS.nx Γ M).next f = f Γ M := Eq.trans rfl rfl
@[simp] theorem sn_rt (d : D) (M : List MO) (f : Env → List MO → RS) : (RS.rt d M).next f = .rt d M := Eq.trans rfl rfl
@[simp] theorem sn_ct (Γ : Env) (M : List MO) (f : Env → List MO → RS) : (RS.ct Γ M).next f = .ct Γ M := Eq.trans rfl rfl
@[simp] theorem sn_bk (Γ : Env) (M : List MO) (f : Env → List MO → RS) : (RS.bk Γ M).next f = .bk Γ M := Eq.trans rfl rfl
@[simp] theorem sn_ex (c : Nat) (d : D) (Γ : Env) (M : List MO) (f : Env → List MO → RS) : (RS.exc c d Γ M).next f = .exc c d Γ M := Eq.trans rfl rfl
@[simp] theorem st_nx (Γ : Env) (M : List MO) (f : Env → List MO → RS) : (RS.nx Γ M).turn f = f Γ M := Eq.trans rfl rfl
@[simp] theorem st_ct (Γ : Env) (M : List MO) (f : Env → List MO → RS) : (RS.ct Γ M).turn f = f Γ M := Eq.trans rfl rfl
@[simp] theorem st_bk (Γ : Env) (M : List MO) (f : Env → List MO → RS) : (RS.bk Γ M).turn f = .nx Γ M := Eq.trans rfl rfl
@[simp] theorem st_rt (d : D) (M : List MO) (f : Env → List MO → RS) : (RS.rt d M).turn f = .rt d M := Eq.trans rfl rfl
@[simp] theorem st_ex (c : Nat) (d : D) (Γ : Env) (M : List MO) (f : Env → List MO → RS) : (RS.exc c d Γ M).turn f = .exc c d Γ M := Eq.trans rfl rfl
@[simp] theorem opR_some (a : α) (M : List MO) : opR (some a) M = .ok a M := Eq.trans rfl rfl
@[simp] theorem optS_some (Γ : Env) (f : Env → RS) : optS (some Γ) f = f Γ := Eq.trans rfl rfl
end
@[simp] theorem u_gV (i : Nat) (Γ : Env) (M : List MO) : gV i Γ M = (match Γ[i]? with
  | some (some d) => .ok d M
  | _ => .bad) := Eq.trans rfl rfl
@[simp] theorem u_gC (d : D) (Γ : Env) (M : List MO) : gC d Γ M = .ok d M := Eq.trans rfl rfl
@[simp] theorem u_gOp2 (f : List MO → D → D → Option D) (ga gb : GE) (Γ : Env) (M : List MO) : gOp2 f ga gb Γ M = (ga Γ M).bind fun x M1 => (gb Γ M1).bind fun y M2 => opR (f M2 x y) M2 := Eq.trans rfl rfl
@[simp] theorem u_gOp1 (f : List MO → D → Option D) (ga : GE) (Γ : Env) (M : List MO) : gOp1 f ga Γ M = (ga Γ M).bind fun x M1 => opR (f M1 x) M1 := Eq.trans rfl rfl
@[simp] theorem u_gNil (Γ : Env) (M : List MO) : gNil Γ M = .ok [] M := Eq.trans rfl rfl
@[simp] theorem u_gCons (ga : GE) (gr : GA) (Γ : Env) (M : List MO) : gCons ga gr Γ M = (ga Γ M).bind fun x M1 => (gr Γ M1).bind fun xs M2 => .ok (x :: xs) M2 := Eq.trans rfl rfl
@[simp] theorem u_gTup (ga : GA) (Γ : Env) (M : List MO) : gTup ga Γ M = (ga Γ M).bind fun xs M1 => if xs.length ≤ sizeLine then .ok (.tup xs) M1 else .bad := Eq.trans rfl rfl
@[simp] theorem u_gLst (ga : GA) (Γ : Env) (M : List MO) : gLst ga Γ M = (ga Γ M).bind fun xs M1 => if xs.length ≤ sizeLine then .ok (.lst xs) M1 else .bad := Eq.trans rfl rfl
@[simp] theorem u_gLstO (ga : GA) (Γ : Env) (M : List MO) : gLstO ga Γ M = (ga Γ M).bind fun xs M1 => if xs.length ≤ sizeLine then .ok (.ref M1.length) (M1 ++ [.lst xs]) else .bad := Eq.trans rfl rfl
@[simp] theorem u_gCall (f : List MO → List D → Option D) (ga : GA) (Γ : Env) (M : List MO) : gCall f ga Γ M = (ga Γ M).bind fun xs M1 => opR (f M1 xs) M1 := Eq.trans rfl rfl
@[simp] theorem u_gVal (ga : GE) (Γ : Env) (M : List MO) : gVal ga Γ M = (ga Γ M).bind fun x M1 => opR (toBl x) M1 := Eq.trans rfl rfl
@[simp] theorem u_gAndT (a b : GT) (Γ : Env) (M : List MO) : gAndT a b Γ M = (a Γ M).bind fun c M1 => if c = true then b Γ M1 else .ok false M1 := Eq.trans rfl rfl
@[simp] theorem u_gOrT (a b : GT) (Γ : Env) (M : List MO) : gOrT a b Γ M = (a Γ M).bind fun c M1 => if c = true then .ok true M1 else b Γ M1 := Eq.trans rfl rfl
@[simp] theorem u_gNotT (a : GT) (Γ : Env) (M : List MO) : gNotT a Γ M = (a Γ M).bind fun c M1 => .ok (!c) M1 := Eq.trans rfl rfl
@[simp] theorem u_gIfE (c : GT) (a b : GE) (Γ : Env) (M : List MO) : gIfE c a b Γ M = (c Γ M).bind fun k M1 => if k = true then a Γ M1 else b Γ M1 := Eq.trans rfl rfl
@[simp] theorem u_gAndV (a b : GE) (Γ : Env) (M : List MO) : gAndV a b Γ M = ((a Γ M).bind fun x M1 => match x with
  | .bl c => if c = true then b Γ M1 else .ok (.bl false) M1
  | _ => .bad) := Eq.trans rfl rfl
@[simp] theorem u_gOrV (a b : GE) (Γ : Env) (M : List MO) : gOrV a b Γ M = ((a Γ M).bind fun x M1 => match x with
  | .bl c => if c = true then .ok (.bl true) M1 else b Γ M1
  | _ => .bad) := Eq.trans rfl rfl
@[simp] theorem u_gChain (f f' : List MO → D → D → Option D) (ga gb gc : GE) (Γ : Env) (M : List MO) : gChain f f' ga gb gc Γ M = ((ga Γ M).bind fun x M1 => (gb Γ M1).bind fun y M2 => (opR (f M2 x y) M2).bind fun k M3 => match k with
  | .bl c => if c = true then (gc Γ M3).bind fun z M4 => opR (f' M4 y z) M4 else .ok (.bl false) M3
  | _ => .bad) := Eq.trans rfl rfl
@[simp] theorem u_gSeqI (ge : GE) (Γ : Env) (M : List MO) : gSeqI ge Γ M = (ge Γ M).bind fun d M1 => opR (seqD d) M1 := Eq.trans rfl rfl
@[simp] theorem u_gRng1 (ga : GA) (Γ : Env) (M : List MO) : gRng1 ga Γ M = (ga Γ M).bind fun ds M1 => opR (rng1 ds) M1 := Eq.trans rfl rfl
@[simp] theorem u_gRng2 (ga : GA) (Γ : Env) (M : List MO) : gRng2 ga Γ M = (ga Γ M).bind fun ds M1 => opR (rng2 ds) M1 := Eq.trans rfl rfl
@[simp] theorem u_gTo (i : Nat) (d : D) (Γ : Env) : gTo i d Γ = some (Γ.set i (some d)) := Eq.trans rfl rfl
@[simp] theorem u_gToT (gs : GGs) (d : D) (Γ : Env) : gToT gs d Γ = (match d with
  | .tup ds => gs ds Γ
  | _ => none) := Eq.trans rfl rfl
@[simp] theorem u_gToNil (ds : List D) (Γ : Env) : gToNil ds Γ = (match ds with
  | [] => some Γ
  | _ :: _ => none) := Eq.trans rfl rfl
@[simp] theorem u_gToCons (g : GG) (gs : GGs) (ds : List D) (Γ : Env) : gToCons g gs ds Γ = (match ds with
  | [] => none
  | d :: r => (g d Γ).bind fun Γ1 => gs r Γ1) := Eq.trans rfl rfl
@[simp] theorem u_gPass (Γ : Env) (M : List MO) : gPass Γ M = .nx Γ M := Eq.trans rfl rfl
@[simp] theorem u_gSeq (a b : GS) (Γ : Env) (M : List MO) : gSeq a b Γ M = (a Γ M).next b := Eq.trans rfl rfl
@[simp] theorem u_gExpr (ge : GE) (Γ : Env) (M : List MO) : gExpr ge Γ M = (ge Γ M).thenS Γ fun _ M1 => .nx Γ M1 := Eq.trans rfl rfl
@[simp] theorem u_gRet (ge : GE) (Γ : Env) (M : List MO) : gRet ge Γ M = (ge Γ M).thenS Γ fun d M1 => .rt d M1 := Eq.trans rfl rfl
@[simp] theorem u_gRetN (Γ : Env) (M : List MO) : gRetN Γ M = .rt .non M := Eq.trans rfl rfl
@[simp] theorem u_gIf (c : GT) (a b : GS) (Γ : Env) (M : List MO) : gIf c a b Γ M = (c Γ M).thenS Γ fun k M1 => if k = true then a Γ M1 else b Γ M1 := Eq.trans rfl rfl
@[simp] theorem u_gAsg (ge : GE) (gg : GG) (Γ : Env) (M : List MO) : gAsg ge gg Γ M = ((ge Γ M).thenS Γ fun d M1 => match gg d Γ with
  | some Γ' => .nx Γ' M1
  | none => .bad) := Eq.trans rfl rfl
@[simp] theorem u_gBad (Γ : Env) (M : List MO) : gBad Γ M = .bad := Eq.trans rfl rfl
@[simp] theorem u_gForget (is : List Nat) (Γ : Env) (M : List MO) : gForget is Γ M = .nx (forget Γ is) M := Eq.trans rfl rfl
@[simp] theorem u_gFz (i : Nat) (Γ : Env) (M : List MO) : gFz i Γ M = (match Γ[i]? with
  | some (some (.ref k)) => match M[k]? with
    | some (.lst ds) => .nx (Γ.set i (some (.lst ds))) (M.set k .dead)
    | some (.dct ks vs) => .nx (Γ.set i (some (.dct ks vs))) (M.set k .dead)
    | _ => .bad
  | _ => .bad) := Eq.trans rfl rfl
@[simp] theorem u_gScope (a : GS) (Γ : Env) (M : List MO) : gScope a Γ M = gCut M.length (a Γ M) := Eq.trans rfl rfl
@[simp] theorem u_gFor (gi : GI) (gg : GG) (body : GS) (Γ : Env) (M : List MO) : gFor gi gg body Γ M = (gi Γ M).thenS Γ fun ds M1 => gForL gg body ds Γ M1 := Eq.trans rfl rfl
@[simp] theorem u_gYes (Γ : Env) (M : List MO) : gYes Γ M = .ok true M := Eq.trans rfl rfl
@[simp] theorem u_gLc (gi : GI) (gg : GG) (gt : GT) (ge : GE) (own : List Nat) (Γ : Env) (M : List MO) : gLc gi gg gt ge own Γ M = (gi Γ M).bind fun ds M1 => (gLcL gg gt ge (forget Γ own) ds [] M1).bind fun acc M2 => .ok (.lst acc) M2 := Eq.trans rfl rfl
@[simp] theorem u_gLcO (gi : GI) (gg : GG) (gt : GT) (ge : GE) (own : List Nat) (Γ : Env) (M : List MO) : gLcO gi gg gt ge own Γ M = (gi Γ M).bind fun ds M1 => (gLcL gg gt ge (forget Γ own) ds [] M1).bind fun acc M2 => .ok (.ref M2.length) (M2 ++ [.lst acc]) := Eq.trans rfl rfl
@[simp] theorem u_gNoO (Γ : Env) (M : List MO) : gNoO Γ M = .ok none M := Eq.trans rfl rfl
@[simp] theorem u_gO (ge : GE) (Γ : Env) (M : List MO) : gO ge Γ M = (ge Γ M).bind fun d M1 => opR ((toI d).map some) M1 := Eq.trans rfl rfl
@[simp] theorem u_gSl (ge : GE) (lo hi : GO) (Γ : Env) (M : List MO) : gSl ge lo hi Γ M = (ge Γ M).bind fun x M1 => (lo Γ M1).bind fun a M2 => (hi Γ M2).bind fun b M3 => opR (dCut M3 a b x) M3 := Eq.trans rfl rfl
@[simp] theorem u_gRgL (own : Bool) (ga gb : GE) (Γ : Env) (M : List MO) : gRgL own ga gb Γ M = ((ga Γ M).bind fun x M1 => (gb Γ M1).bind fun y M2 => match x, y with
  | .int i, .int j => if rngOk i j = true then (if own = true then .ok (.ref M2.length) (M2 ++ [.lst (rngL i (j - i).toNat)]) else .ok (.lst (rngL i (j - i).toNat)) M2) else .bad
  | _, _ => .bad) := Eq.trans rfl rfl
@[simp] theorem u_gMeth1 (f : MF) (go ge : GE) (Γ : Env) (M : List MO) : gMeth1 f go ge Γ M = (go Γ M).bind fun x M1 => if isListD M1 x = true then (ge Γ M1).bind fun y M2 => mutR M2 x fun ds => f M2 ds y else .bad := Eq.trans rfl rfl
@[simp] theorem u_gMeth0 (f : MF0) (go : GE) (Γ : Env) (M : List MO) : gMeth0 f go Γ M = (go Γ M).bind fun x M1 => mutR M1 x f := Eq.trans rfl rfl
@[simp] theorem u_gSetI (ge go gi : GE) (Γ : Env) (M : List MO) : gSetI ge go gi Γ M = ((ge Γ M).thenS Γ fun v M1 => (go Γ M1).thenS Γ fun o M2 => (gi Γ M2).thenS Γ fun i M3 => match setR M3 o i v with
  | some M4 => .nx Γ M4
  | none => .bad) := Eq.trans rfl rfl
@[simp] theorem u_gAug (i : Nat) (f : Int → Int → Int) (ge : GE) (Γ : Env) (M : List MO) : gAug i f ge Γ M = (match Γ[i]? with
  | some (some (.int a)) => (ge Γ M).thenS Γ fun y M1 => match y with
    | .int b => .nx (Γ.set i (some (.int (f a b)))) M1
    | _ => .bad
  | _ => .bad) := Eq.trans rfl rfl
@[simp] theorem u_gEnum (ge : GE) (Γ : Env) (M : List MO) : gEnum ge Γ M = (ge Γ M).bind fun d M1 => opR ((seqD d).map (enumL 0)) M1 := Eq.trans rfl rfl
@[simp] theorem u_gEnumK (ge : GE) (gk : GE) (Γ : Env) (M : List MO) : gEnumK ge gk Γ M = ((ge Γ M).bind fun d M1 => (gk Γ M1).bind fun k M2 => match k with
  | .int k => if decide (-(2 ^ 63) ≤ k) && decide (k < 2 ^ 63) then opR ((seqD d).map (enumL k)) M2 else .bad
  | _ => .bad) := Eq.trans rfl rfl
@[simp] theorem u_gZip (ga gb : GE) (Γ : Env) (M : List MO) : gZip ga gb Γ M = (ga Γ M).bind fun x M1 => (gb Γ M1).bind fun y M2 => opR (zipO x y) M2 := Eq.trans rfl rfl
@[simp] theorem u_gLcW (ge : GE) (gg : GG) (gt : GT) (gel : GE) (own : List Nat) (Γ : Env) (M : List MO) : gLcW ge gg gt gel own Γ M = ((ge Γ M).bind fun d M1 => match d with
  | .ref k => match M1[k]? with
    | some (.lst ds) => (gLcL gg gt gel (forget Γ own) ds [] M1).bind fun acc M2 => .ok (.lst acc) M2
    | _ => .bad
  | _ => .bad) := Eq.trans rfl rfl
@[simp] theorem u_gCallF (n : Nat) (F : List D → List MO → R D) (ga : GA) (Γ : Env) (M : List MO) : gCallF n F ga Γ M = (ga Γ M).bind fun ds M1 => if ds.length = n then callF F ds M1 else .bad := Eq.trans rfl rfl
@[simp] theorem u_gCallK (n : Nat) (F : List D → List MO → R D) (is : List Nat) (ga gk : GA) (Γ : Env) (M : List MO) : gCallK n F is ga gk Γ M = (ga Γ M).bind fun ds M1 => (gk Γ M1).bind fun es M2 => if (pick (ds ++ es) is).length = n then callF F (pick (ds ++ es) is) M2 else .bad := Eq.trans rfl rfl
@[simp] theorem u_gForL0 (gg : GG) (b : GS) (Γ : Env) (M : List MO) : gForL gg b [] Γ M = .nx Γ M := Eq.trans rfl rfl
@[simp] theorem u_gForLc (gg : GG) (b : GS) (d : D) (ds : List D) (Γ : Env) (M : List MO) : gForL gg b (d :: ds) Γ M = optS (gg d Γ) fun Γ1 => (b Γ1 M).turn (gForL gg b ds) := Eq.trans rfl rfl
@[simp] theorem u_forget0 (Γ : Env) : forget Γ [] = Γ := Eq.trans rfl rfl
@[simp] theorem u_forgetc (Γ : Env) (i : Nat) (is : List Nat) : forget Γ (i :: is) = forget (Γ.set i none) is := Eq.trans rfl rfl
@[simp] theorem u_toBl (b : Bool) : toBl (.bl b) = some b := Eq.trans rfl rfl
@[simp] theorem u_dNot (M : List MO) (b : Bool) : dNot M (.bl b) = some (.bl !b) := Eq.trans rfl rfl
@[simp] theorem u_toI (i : Int) : toI (.int i) = some i := Eq.trans rfl rfl
@[simp] theorem u_rng1 (j : Int) : rng1 [.int j] = if inR j then some (rngL 0 j.toNat) else none := Eq.trans rfl rfl
@[simp] theorem u_rng2 (i j : Int) : rng2 [.int i, .int j] = if inR i && inR j then some (rngL i (j - i).toNat) else none := Eq.trans rfl rfl
@[simp] theorem u_fn1 (f : List MO → D → Option D) (M : List MO) (d : D) : fn1 f M [d] = f M d := Eq.trans rfl rfl
@[simp] theorem u_fn2 (f : List MO → D → D → Option D) (M : List MO) (d e : D) : fn2 f M [d, e] = f M d e := Eq.trans rfl rfl
@[simp] theorem u_isListD (M : List MO) (d : D) : isListD M d = (listD M d).isSome := Eq.trans rfl rfl
@[simp] theorem u_pick0 {α : Type} (l : List α) : pick l [] = [] := Eq.trans rfl rfl
@[simp] theorem u_pickc {α : Type} (l : List α) (i : Nat) (is : List Nat) : pick l (i :: is) = (match l[i]? with
    | some a => a :: pick l is
    | none => pick l is) := Eq.trans rfl rfl
@[simp] theorem bl_non (m : Nat) : below m .non = true := Eq.trans rfl rfl
@[simp] theorem bl_bl (m : Nat) (b : Bool) : below m (.bl b) = true := Eq.trans rfl rfl
@[simp] theorem bl_int (m : Nat) (i : Int) : below m (.int i) = true := Eq.trans rfl rfl
@[simp] theorem bl_str (m : Nat) (x : Str) : below m (.str x) = true := Eq.trans rfl rfl
@[simp] theorem bl_tup (m : Nat) (ds : List D) : below m (.tup ds) = belows m ds := by simp [below]
@[simp] theorem bl_lst (m : Nat) (ds : List D) : below m (.lst ds) = belows m ds := by simp [below]
@[simp] theorem bl_ref (m k : Nat) : below m (.ref k) = decide (k < m) := by simp [below]
@[simp] theorem bls_nil (m : Nat) : belows m [] = true := Eq.trans rfl rfl
@[simp] theorem bls_cons (m : Nat) (d : D) (ds : List D) : belows m (d :: ds) = (below m d && belows m ds) := by simp [belows]
@[simp] theorem bls_app (m : Nat) (ds es : List D) : belows m (ds ++ es) = (belows m ds && belows m es) := by simp [belows_all]
@[simp] theorem blo_lst (m : Nat) (ds : List D) : belowO m (.lst ds) = belows m ds := Eq.trans rfl rfl
@[simp] theorem blo_dead (m : Nat) : belowO m .dead = true := Eq.trans rfl rfl
@[simp] theorem cut_0 (M : List MO) : cutOk 0 M = true := by simp [cutOk]
@[simp] theorem cut_nil (m : Nat) : cutOk m [] = true := by simp [cutOk]
@[simp] theorem cut_s (m : Nat) (o : MO) (M : List MO) : cutOk (m + 1) (o :: M) = ((M.take m).all (belowO (m + 1)) && belowO (m + 1) o) := by simp [cutOk, Bool.and_comm]
@[simp] theorem sz_1 : 1 ≤ sizeLine := by decide
@[simp] theorem sz_2 : 2 ≤ sizeLine := by decide
@[simp] theorem sz_3 : 3 ≤ sizeLine := by decide
@[simp] theorem sz_4 : 4 ≤ sizeLine := by decide
@[simp] theorem sz_5 : 5 ≤ sizeLine := by decide
@[simp] theorem sz_6 : 6 ≤ sizeLine := by decide
@[simp] theorem sz_7 : 7 ≤ sizeLine := by decide
@[simp] theorem sz_8 : 8 ≤ sizeLine := by decide
@[simp] theorem sz_9 : 9 ≤ sizeLine := by decide
@[simp] theorem sz_10 : 10 ≤ sizeLine := by decide
@[simp] theorem sz_11 : 11 ≤ sizeLine := by decide
@[simp] theorem sz_12 : 12 ≤ sizeLine := by decide
@[simp] theorem sz_13 : 13 ≤ sizeLine := by decide
@[simp] theorem sz_14 : 14 ≤ sizeLine := by decide
@[simp] theorem sz_15 : 15 ≤ sizeLine := by decide
@[simp] theorem sz_16 : 16 ≤ sizeLine := by decide
@[simp] theorem sz_17 : 17 ≤ sizeLine := by decide
@[simp] theorem sz_18 : 18 ≤ sizeLine := by decide
@[simp] theorem sz_19 : 19 ≤ sizeLine := by decide
@[simp] theorem sz_20 : 20 ≤ sizeLine := by decide
@[simp] theorem szl_0 : 0 < sizeLine := by decide
@[simp] theorem szl_1 : 1 < sizeLine := by decide
@[simp] theorem szl_2 : 2 < sizeLine := by decide
@[simp] theorem szl_3 : 3 < sizeLine := by decide
@[simp] theorem szl_4 : 4 < sizeLine := by decide
@[simp] theorem szl_5 : 5 < sizeLine := by decide
@[simp] theorem szl_6 : 6 < sizeLine := by decide
@[simp] theorem szl_7 : 7 < sizeLine := by decide
@[simp] theorem szl_8 : 8 < sizeLine := by decide
@[simp] theorem szl_9 : 9 < sizeLine := by decide
@[simp] theorem szl_10 : 10 < sizeLine := by decide
@[simp] theorem szl_11 : 11 < sizeLine := by decide
@[simp] theorem szl_12 : 12 < sizeLine := by decide
@[simp] theorem szl_13 : 13 < sizeLine := by decide
@[simp] theorem szl_14 : 14 < sizeLine := by decide
@[simp] theorem szl_15 : 15 < sizeLine := by decide
@[simp] theorem szl_16 : 16 < sizeLine := by decide
@[simp] theorem szl_17 : 17 < sizeLine := by decide
@[simp] theorem szl_18 : 18 < sizeLine := by decide
@[simp] theorem szl_19 : 19 < sizeLine := by decide
@[simp] theorem szl_20 : 20 < sizeLine := by decide
@[simp] theorem gc_nx (m : Nat) (Γ : Env) (M : List MO) : gCut m (.nx Γ M) = if m ≤ M.length ∧ cutOk m M = true then .nx (clean m Γ) (M.take m) else .bad := Eq.trans rfl rfl
@[simp] theorem gc_ct (m : Nat) (Γ : Env) (M : List MO) : gCut m (.ct Γ M) = if m ≤ M.length ∧ cutOk m M = true then .ct (clean m Γ) (M.take m) else .bad := Eq.trans rfl rfl
@[simp] theorem gc_bk (m : Nat) (Γ : Env) (M : List MO) : gCut m (.bk Γ M) = .bk Γ M := Eq.trans rfl rfl
@[simp] theorem gc_rt (m : Nat) (d : D) (M : List MO) : gCut m (.rt d M) = .rt d M := Eq.trans rfl rfl
@[simp] theorem gc_ex (m c : Nat) (d : D) (Γ : Env) (M : List MO) : gCut m (.exc c d Γ M) = .exc c d Γ M := Eq.trans rfl rfl
@[simp] theorem fi_rt (m : Nat) (d : D) (M : List MO) : fin m (.rt d M) = if m ≤ M.length ∧ cutOk m M = true then retR m M d else .bad := Eq.trans rfl rfl
@[simp] theorem fi_nx (m : Nat) (Γ : Env) (M : List MO) : fin m (.nx Γ M) = if m ≤ M.length ∧ cutOk m M = true then R.ok D.non (M.take m) else .bad := Eq.trans rfl rfl
@[simp] theorem fi_ex (m c : Nat) (d : D) (Γ : Env) (M : List MO) : fin m (.exc c d Γ M) = if m ≤ M.length ∧ cutOk m M = true ∧ below m d = true then .exc c d (M.take m) else .bad := Eq.trans rfl rfl
@[simp] theorem re_non (m : Nat) (M : List MO) : retR m M .non = .ok .non (M.take m) := Eq.trans rfl rfl
@[simp] theorem re_bl (m : Nat) (M : List MO) (b : Bool) : retR m M (.bl b) = .ok (.bl b) (M.take m) := Eq.trans rfl rfl
@[simp] theorem re_int (m : Nat) (M : List MO) (i : Int) : retR m M (.int i) = .ok (.int i) (M.take m) := Eq.trans rfl rfl
@[simp] theorem re_str (m : Nat) (M : List MO) (x : Str) : retR m M (.str x) = .ok (.str x) (M.take m) := Eq.trans rfl rfl
@[simp] theorem re_tup (m : Nat) (M : List MO) (ds : List D) : retR m M (.tup ds) = if belows m ds = true then .ok (.tup ds) (M.take m) else .bad := by simp [retR]
@[simp] theorem re_lst (m : Nat) (M : List MO) (ds : List D) : retR m M (.lst ds) = if belows m ds = true then .ok (.lst ds) (M.take m) else .bad := by simp [retR]
@[simp] theorem re_ref (m : Nat) (M : List MO) (k : Nat) : retR m M (.ref k) = if k < m then .ok (.ref k) (M.take m) else match M[k]? with
    | some (.lst ds) => if belows m ds = true then .ok (.ref m) (M.take m ++ [.lst ds]) else .bad
    | _ => .bad := Eq.trans rfl rfl
@[simp] theorem seqD_l (ds : List D) : seqD (.lst ds) = some ds := Eq.trans rfl rfl
@[simp] theorem seqD_t (ds : List D) : seqD (.tup ds) = some ds := Eq.trans rfl rfl
@[simp] theorem listD_l (M : List MO) (ds : List D) : listD M (.lst ds) = some ds := Eq.trans rfl rfl
@[simp] theorem itemsD_l (M : List MO) (ds : List D) : itemsD M (.lst ds) = some ds := Eq.trans rfl rfl
@[simp] theorem itemsD_t (M : List MO) (ds : List D) : itemsD M (.tup ds) = some ds := Eq.trans rfl rfl
@[simp] theorem itemsD_r (M : List MO) (k : Nat) : itemsD M (.ref k) = listD M (.ref k) := Eq.trans rfl rfl
@[simp] theorem e_add (M : List MO) (i j : Int) : dAdd M (.int i) (.int j) = some (.int (i + j)) := Eq.trans rfl rfl
@[simp] theorem e_addL (M : List MO) (a b : List D) : dAdd M (.lst a) (.lst b) = if a.length + b.length ≤ sizeLine then some (.lst (a ++ b)) else none := Eq.trans rfl rfl
@[simp] theorem e_addT (M : List MO) (a b : List D) : dAdd M (.tup a) (.tup b) = if a.length + b.length ≤ sizeLine then some (.tup (a ++ b)) else none := Eq.trans rfl rfl
@[simp] theorem e_sub (M : List MO) (i j : Int) : dSub M (.int i) (.int j) = some (.int (i - j)) := Eq.trans rfl rfl
theorem e_mul {i j : Int} (M : List MO) (h : mulOk i j = true) : dMulA M (.int i) (.int j) = some (.int (i * j)) := by
  show (if mulOk i j = true then some (D.int (i * j)) else none) = _
  rw [if_pos h]
@[simp] theorem e_mulR (M : List MO) (i : Int) : dMulA M (.int i) (.int 0) = some (.int 0) := by
  rw [e_mul M (by simp [mulOk])]
  simp
@[simp] theorem e_fdiv (M : List MO) (i j : Int) : dFdiv M (.int i) (.int j) = if fdivOk i j = true then some (.int (i / j)) else none := Eq.trans rfl rfl
@[simp] theorem e_mod (M : List MO) (i j : Int) : dMod M (.int i) (.int j) = if 0 < j then some (.int (i % j)) else none := by
  show (if modOk i j = true then _ else _) = _
  simp [modOk]
@[simp] theorem e_pow (M : List MO) (i j : Int) : dPow M (.int i) (.int j) = if powOk i j = true then some (.int (i ^ j.toNat)) else none := Eq.trans rfl rfl
@[simp] theorem e_lt (M : List MO) (i j : Int) : dLt M (.int i) (.int j) = some (.bl (decide (i < j))) := Eq.trans rfl rfl
@[simp] theorem e_le (M : List MO) (i j : Int) : dLe M (.int i) (.int j) = some (.bl (decide (i ≤ j))) := Eq.trans rfl rfl
@[simp] theorem e_gt (M : List MO) (i j : Int) : dGt M (.int i) (.int j) = some (.bl (decide (j < i))) := Eq.trans rfl rfl
@[simp] theorem e_ge (M : List MO) (i j : Int) : dGe M (.int i) (.int j) = some (.bl (decide (j ≤ i))) := Eq.trans rfl rfl
@[simp] theorem e_neg (M : List MO) (i : Int) : dNeg M (.int i) = some (.int (-i)) := Eq.trans rfl rfl
@[simp] theorem e_is0 (M : List MO) : dIsN M .non .non = some (.bl true) := Eq.trans rfl rfl
@[simp] theorem e_is1 (M : List MO) (i : Int) : dIsN M (.int i) .non = some (.bl false) := Eq.trans rfl rfl
@[simp] theorem e_is2 (M : List MO) (i : List D) : dIsN M (.tup i) .non = some (.bl false) := Eq.trans rfl rfl
@[simp] theorem e_is3 (M : List MO) (i : List D) : dIsN M (.lst i) .non = some (.bl false) := Eq.trans rfl rfl
@[simp] theorem e_is4 (M : List MO) (i : Str) : dIsN M (.str i) .non = some (.bl false) := Eq.trans rfl rfl
@[simp] theorem e_is5 (M : List MO) (i : Nat) : dIsN M (.ref i) .non = some (.bl false) := Eq.trans rfl rfl
@[simp] theorem e_ns0 (M : List MO) : dNotN M .non .non = some (.bl false) := Eq.trans rfl rfl
@[simp] theorem e_ns1 (M : List MO) (i : Int) : dNotN M (.int i) .non = some (.bl true) := Eq.trans rfl rfl
@[simp] theorem e_ns2 (M : List MO) (i : List D) : dNotN M (.tup i) .non = some (.bl true) := Eq.trans rfl rfl
@[simp] theorem e_ns3 (M : List MO) (i : List D) : dNotN M (.lst i) .non = some (.bl true) := Eq.trans rfl rfl
@[simp] theorem e_ns4 (M : List MO) (i : Str) : dNotN M (.str i) .non = some (.bl true) := Eq.trans rfl rfl
@[simp] theorem e_ns5 (M : List MO) (i : Nat) : dNotN M (.ref i) .non = some (.bl true) := Eq.trans rfl rfl
@[simp] theorem e_ix (M : List MO) (x : D) (i : Int) : dIx M x (.int i) = (itemsD M x).bind fun ds => atI ds i := Eq.trans rfl rfl
theorem atI_nat (ds : List D) (n : Nat) : atI ds (n : Int) = ds[n]? := by
  unfold atI ixN
  by_cases h : n < ds.length
  · simp [h]
  · simp [h]
@[simp] theorem atI_0 (a : D) (ds : List D) : atI (a :: ds) 0 = some a := (atI_nat _ 0).trans rfl
@[simp] theorem atI_1 (a b : D) (ds : List D) : atI (a :: b :: ds) 1 = some b := (atI_nat _ 1).trans rfl
@[simp] theorem atI_2 (a b c : D) (ds : List D) : atI (a :: b :: c :: ds) 2 = some c := (atI_nat _ 2).trans rfl
@[simp] theorem atI_3 (a b c d : D) (ds : List D) : atI (a :: b :: c :: d :: ds) 3 = some d := (atI_nat _ 3).trans rfl
@[simp] theorem atI_4 (a b c d e : D) (ds : List D) : atI (a :: b :: c :: d :: e :: ds) 4 = some e := (atI_nat _ 4).trans rfl
@[simp] theorem atI_5 (a b c d e f : D) (ds : List D) : atI (a :: b :: c :: d :: e :: f :: ds) 5 = some f := (atI_nat _ 5).trans rfl
@[simp] theorem e_lenL (M : List MO) (ds : List D) : dLen M (.lst ds) = some (.int ds.length) := Eq.trans rfl rfl
@[simp] theorem e_lenT (M : List MO) (ds : List D) : dLen M (.tup ds) = some (.int ds.length) := Eq.trans rfl rfl
@[simp] theorem e_lenR (M : List MO) (k : Nat) : dLen M (.ref k) = (listD M (.ref k)).map fun ds => .int ds.length := Eq.trans rfl rfl
@[simp] theorem e_lenS (M : List MO) (x : Str) : dLen M (.str x) = if x.length ≤ sizeLine then some (.int x.length) else none := Eq.trans rfl rfl
@[simp] theorem e_intI (M : List MO) (i : Int) : dInt M (.int i) = some (.int i) := Eq.trans rfl rfl
@[simp] theorem e_intB (M : List MO) (b : Bool) : dInt M (.bl b) = some (.int (if b then 1 else 0)) := Eq.trans rfl rfl
@[simp] theorem e_str (M : List MO) (i : Int) : dStr M (.int i) = if i.natAbs.log2 < 1920 then some (.str (toString i)) else none := Eq.trans rfl rfl
@[simp] theorem e_min2 (M : List MO) (i j : Int) : dMin2 M (.int i) (.int j) = some (.int (if j < i then j else i)) := Eq.trans rfl rfl
@[simp] theorem e_max2 (M : List MO) (i j : Int) : dMax2 M (.int i) (.int j) = some (.int (if i < j then j else i)) := Eq.trans rfl rfl
@[simp] theorem e_isi_ii (M : List MO) (i : Int) : dIsi "int" M (.int i) = some (.bl true) := Eq.trans rfl rfl
@[simp] theorem e_isi_ib (M : List MO) (i : Int) : dIsi "bool" M (.int i) = some (.bl false) := Eq.trans rfl rfl
@[simp] theorem e_isi_ll (M : List MO) (ds : List D) : dIsi "list" M (.lst ds) = some (.bl true) := Eq.trans rfl rfl
@[simp] theorem e_isi_tt (M : List MO) (ds : List D) : dIsi "tuple" M (.tup ds) = some (.bl true) := Eq.trans rfl rfl
@[simp] theorem e_isi_ss (M : List MO) (ds : Str) : dIsi "str" M (.str ds) = some (.bl true) := Eq.trans rfl rfl
@[simp] theorem e_isi_is (M : List MO) (i : Int) : dIsi "str" M (.int i) = some (.bl false) := Eq.trans rfl rfl
@[simp] theorem e_isiT_l (M : List MO) (ds : List D) : dIsiT ["list", "tuple"] M (.lst ds) = some (.bl true) := Eq.trans rfl rfl
@[simp] theorem e_isiT_t (M : List MO) (ds : List D) : dIsiT ["list", "tuple"] M (.tup ds) = some (.bl true) := Eq.trans rfl rfl
theorem e_isi_lr {M : List MO} {k : Nat} {ds : List D} (h : M[k]? = some (.lst ds)) : dIsi "list" M (.ref k) = some (.bl true) := by
  simp only [dIsi, tyName, h]
  rfl
theorem toVs_ints (is : List Int) : toVs (is.map D.int) = some (is.map V.int) := by
  induction is with
  | nil => rfl
  | cons i is ih => simp [toVs, toV, ih]
theorem inV_ints (i : Int) (is : List Int) : inV (V.int i) (is.map V.int) = decide (i ∈ is) := by
  induction is with
  | nil => rfl
  | cons j is ih =>
    have e : eqV (V.int j) (V.int i) = decide (j = i) := Eq.trans rfl rfl
    rw [List.map_cons]
    unfold inV at ih ⊢
    rw [List.any_cons, ih, e]
    by_cases h : j = i
    · subst h
      simp
    · have h' : ¬ i = j := fun e => h e.symm
      simp [h, h']
@[simp] theorem e_inL (M : List MO) (i : Int) (is : List Int) : dIn M (.int i) (.lst (is.map D.int)) = some (.bl (decide (i ∈ is))) := by
  simp [dIn, inP, toV, toVs_ints, inV_ints]
@[simp] theorem e_inT (M : List MO) (i : Int) (is : List Int) : dIn M (.int i) (.tup (is.map D.int)) = some (.bl (decide (i ∈ is))) := by
  simp [dIn, inP, toV, toVs_ints, inV_ints]
@[simp] theorem e_niL (M : List MO) (i : Int) (is : List Int) : dNotIn M (.int i) (.lst (is.map D.int)) = some (.bl (!decide (i ∈ is))) := by
  simp [dNotIn, inP, toV, toVs_ints, inV_ints]
@[simp] theorem e_niT (M : List MO) (i : Int) (is : List Int) : dNotIn M (.int i) (.tup (is.map D.int)) = some (.bl (!decide (i ∈ is))) := by
  simp [dNotIn, inP, toV, toVs_ints, inV_ints]
end Bk
namespace Bk
open PySem PySem.Spec PyProof.Rows L2
theorem mulOk_l {i : Int} (j : Int) (h1 : -(2 ^ 64) < i) (h2 : i < 2 ^ 64) : mulOk i j = true := by
  simp only [mulOk, Bool.or_eq_true, Bool.and_eq_true, decide_eq_true_eq]
  omega
theorem mulOk_r (i : Int) {j : Int} (h1 : -(2 ^ 64) < j) (h2 : j < 2 ^ 64) : mulOk i j = true := by
  simp only [mulOk, Bool.or_eq_true, Bool.and_eq_true, decide_eq_true_eq]
  omega
theorem mulOk_m (x y : Int) {n : Int} (h0 : 0 < n) (h : n ≤ 2 ^ 63) : mulOk (x % n) y = true := by
  have a := Int.emod_nonneg x (by omega : n ≠ 0)
  have b := Int.emod_lt_of_pos x h0
  exact mulOk_l y (by omega) (by omega)
theorem mulOk_m1 (x y : Int) {n : Int} (h0 : 0 < n) (h : n ≤ 2 ^ 63) : mulOk (x % n + 1) y = true := by
  have a := Int.emod_nonneg x (by omega : n ≠ 0)
  have b := Int.emod_lt_of_pos x h0
  exact mulOk_l y (by omega) (by omega)
end Bk

set_option Elab.async false
set_option linter.all false
set_option maxRecDepth 100000
set_option maxHeartbeats 2000000
namespace Bk
open PySem PySem.Spec PyProof.Rows L2
/-! ### calls that lend nothing -/
theorem lendK_nil : ∀ {ds : List D}, belows 0 ds = true → lendK ds = []
  | [], _ => rfl
  | d :: ds, h => by
    simp only [belows, Bool.and_eq_true] at h
    cases d with
    | ref k => simp [below] at h
    | _ =>
      have ih := lendK_nil h.2
      simpa [lendK] using ih
theorem lendA_nil : ∀ {m : Nat} {ds : List D}, belows 0 ds = true → lendA m ds = ds
  | _, [], _ => rfl
  | m, d :: ds, h => by
    simp only [belows, Bool.and_eq_true] at h
    cases d with
    | ref k => simp [below] at h
    | _ => simp [lendA, lendA_nil h.2]
theorem flatArgs_of : ∀ {ds : List D}, belows 0 ds = true → flatArgs ds = true
  | [], _ => rfl
  | d :: ds, h => by
    simp only [belows, Bool.and_eq_true] at h
    cases d with
    | ref k => simp [below] at h
    | _ => simp [flatArgs, flatArgs_of h.2, h.1]
theorem backD_flat {n : Nat} {d : D} (h : below 0 d = true) : backD [] n d = some d := by
  cases d with
  | ref k => simp [below] at h
  | _ => simp [backD, h]
theorem c_flat {F : List D → List MO → R D} {ds : List D} {d : D} (h : F ds [] = .ok d []) (M : List MO) (ha : belows 0 ds = true) (hd : below 0 d = true) : callF F ds M = .ok d M := by
  simp [callF, lendK_nil ha, getAll, flatArgs_of ha, lentOk, lendA_nil ha, h, backD_flat hd, setAll]
theorem c_flatO {F : List D → List MO → R D} {ds es : List D} (h : F ds [] = .ok (.ref 0) [.lst es]) (M : List MO) (ha : belows 0 ds = true) (hd : belows 0 es = true) : callF F ds M = .ok (.ref M.length) (M ++ [.lst es]) := by
  simp [callF, lendK_nil ha, getAll, flatArgs_of ha, lentOk, lendA_nil ha, h, backD, setAll, belowO, hd]
/-! ### numbers in a row -/
def intR (lo : Int) : Nat → List Int
  | 0 => []
  | n + 1 => lo :: intR (lo + 1) n
@[simp] theorem intR_length : ∀ (n : Nat) (lo : Int), (intR lo n).length = n
  | 0, _ => rfl
  | n + 1, lo => by simp [intR, intR_length n]
/-! ### lists made by comprehensions -/
/-! ### walks -/
theorem forL_cons {gg : GG} {b : GS} {d : D} {ds : List D} {Γ Γ1 Γ2 : Env} {M M2 : List MO} (h1 : gg d Γ = some Γ1) (h2 : b Γ1 M = .nx Γ2 M2) : gForL gg b (d :: ds) Γ M = gForL gg b ds Γ2 M2 := by simp [h1, h2]
@[simp] theorem append_run (M : List MO) (ds : List D) (y : D) : mAppend M ds y = if ds.length < sizeLine then some (ds ++ [y], .non) else none := rfl
theorem cutD_upto {ds : List D} {n : Nat} : cutD ds none (some (n : Int)) = ds.take n := by
  unfold cutD
  rw [HT.sIx_none, HT.sIx_nat]
  simp
end Bk
namespace Bk
end Bk

set_option Elab.async false
set_option linter.all false
set_option maxRecDepth 100000
set_option maxHeartbeats 2000000
namespace Bk
open PySem PySem.Spec PyProof.Rows L2
/-! ### zip of two lists or tuples of any kind -/
def Izz (K : PySem.W.Frag) (S1 S2 : Src) : It :=
  ⟨fun n H => ∃ (xs ys : List V) (x y : V), S1.here K H xs ∧ S2.here K H ys ∧ xs[n]? = some x ∧ ys[n]? = some y, fun n H v H' => ∃ T x y, v = .ref T ∧ H T = none ∧ H' = upd H T (.tup [x, y]) ∧ (∀ xs, S1.here K H xs → xs[n]? = some x) ∧ ∀ ys, S2.here K H ys → ys[n]? = some y, fun n H => ∃ xs ys : List V, S1.here K H xs ∧ S2.here K H ys ∧ min xs.length ys.length = n⟩
theorem turn_zz {P : Program} {w : World} {K : PySem.W.Frag} {elts : List Expr} {kk : Nat} {tpos : Pos} (S1 S2 : Src) (N : Nat) (lt1 : S1.addr < N) (lt2 : S2.addr < N) :
    Turn P w K (.Tuple elts kk tpos) (Izz K S1 S2) [N + 4, N + 2, N + 3, N, N + 1] (N + 4) (fun n h => IsZip h (N + 4) (N + 2) (N + 3) .none ∧ IsTupOf2 h (N + 2) (.ref N) (.ref (N + 1)) ∧ (∃ a1 a2, IsTupOf2 h (N + 3) a1 a2) ∧ S1.it h N n ∧ S2.it h (N + 1) n) where
  mem := List.mem_cons_self
  obj := fun n h st b hb => by
    obtain ⟨hz, hTI, ⟨x, y, hTO⟩, h1, h2⟩ := st
    have e' : b = N + 4 ∨ b = N + 2 ∨ b = N + 3 ∨ b = N ∨ b = N + 1 := by simpa using hb
    rcases e' with q | q | q | q | q
    · rw [q]; exact ⟨_, hz, fun v q => nomatch q⟩
    · rw [q]; exact ⟨_, hTI, fun v q => nomatch q⟩
    · rw [q]; exact ⟨_, hTO, fun v q => nomatch q⟩
    · rw [q]; exact Src.it_obj h1
    · rw [q]; exact Src.it_obj h2
  keep := fun n h h' st k => by
    obtain ⟨hz, hTI, ⟨x, y, hTO⟩, h1, h2⟩ := st
    exact ⟨k _ (by simp) _ hz, k _ (by simp) _ hTI, ⟨x, y, k _ (by simp) _ hTO⟩, Src.it_at h1 fun o q => k _ (by simp) o q, Src.it_at h2 fun o q => k _ (by simp) o q⟩
  item := by
    intro X hP hw hK hc n pins s σ H E I hf st hg
    subst hP hw hK
    obtain ⟨xs, ys, x, y, hqx, hqy, hx, hy⟩ := hg
    obtain ⟨hz, hTI, hTO, h1, h2⟩ := st
    obtain ⟨its1, rv1, har1⟩ := Src.inv I hqx
    obtain ⟨its2, rv2, har2⟩ := Src.inv I hqy
    obtain ⟨u1, hu1, ru1⟩ := rv1.get hx
    obtain ⟨u2, hu2, ru2⟩ := rv2.get hy
    have hh : X.A.in1.handled = none := I.ok.hd hc
    have Wk := WalksT.zipD2 (prog := X.prog) (w := X.w) (A := X.A) (zip_sep2 (N := N) (fp1 := [S1.addr]) (fp2 := [S2.addr]) (fun b hb => by rw [List.mem_singleton.mp hb]; exact lt1) (fun b hb => by rw [List.mem_singleton.mp hb]; exact lt2))
      (Src.draws hh S1 N (Nat.ne_of_lt lt1) its1.toArray) (Src.draws hh S2 (N + 1) (by have q : S2.addr ≠ N + 1 := Nat.ne_of_lt (Nat.lt_succ_of_lt lt2); exact q) its2.toArray)
    have ln1 : n < its1.toArray.size := by
      have := (List.getElem?_eq_some_iff.mp hu1).1
      simpa using this
    have ln2 : n < its2.toArray.size := by
      have := (List.getElem?_eq_some_iff.mp hu2).1
      simpa using this
    refine Wk.item n s _ E (by omega) ⟨hz, hTI, hTO, ⟨h1, har1⟩, ⟨h2, har2⟩⟩ fun T vals h' tk hP hT hTup hMid hk => ⟨_, rfl, Wk.go elts kk tpos n T _ _ _ hMid fun h2' hSt hk2 => ?_⟩
    obtain ⟨x1, x2, p1, p2, hvals⟩ := hP
    subst hvals
    have ex1 : x1 = u1 := by
      have q : its1.toArray[n]? = some u1 := by simpa using hu1
      rw [p1] at q
      exact Option.some.inj q
    have ex2 : x2 = u2 := by
      have q : its2.toArray[n]? = some u2 := by simpa using hu2
      rw [p2] at q
      exact Option.some.inj q
    subst ex1 ex2
    have out := Wk.apart n T _ hMid
    have tup2 : h2'.IsTuple T #[x1, x2] := hTup.at fun o q => hk2 T o out q
    have new : ObjOk X.prog X.w (upd H T (.tup [x, y])) h2' T (.tup [x, y]) :=
      ⟨by show 2 ≤ sizeLine; decide, [x1, x2], .cons ru1 (.cons ru2 .nil), tup2⟩
    have sub : ∀ c, c ∉ [N + 4, N + 2, N + 3, N, N + 1] → c ∉ [N + 4, N + 3, N, N + 1] := fun c hc q => hc (by
      have e' : c = N + 4 ∨ c = N + 3 ∨ c = N ∨ c = N + 1 := by simpa using q
      rcases e' with z | z | z | z <;> simp [z])
    have J := I.turnedNew (t' := tk) (ch := [N + 4, N + 2, N + 3, N, N + 1]) (fun b ob hb q => hk2 b ob (sub b hb) (hk b ob (sub b hb) q)) hf hT new
    refine ⟨.ref T, _, J, rfl, ⟨T, x, y, rfl, I.hok.fresh hT, rfl, fun ys' hy' => by rw [Src.inj I hy' hqx]; exact hx, fun ys' hy' => by rw [Src.inj I hy' hqy]; exact hy⟩, ?_, fun b hb => ?_⟩
    · obtain ⟨g1, g2, g3, ⟨g4, _⟩, ⟨g5, _⟩⟩ := hSt
      exact ⟨g1, g2, g3, g4, g5⟩
    · have hb' : b < s.heap.objs.size := by
        have e' : b = N + 4 ∨ b = N + 2 ∨ b = N + 3 ∨ b = N ∨ b = N + 1 := by simpa using hb
        rcases e' with q | q | q | q | q
        · rw [q]; exact Heap.lt_size hz
        · rw [q]; exact Heap.lt_size hTI
        · rw [q]; obtain ⟨_, _, q'⟩ := hTO; exact Heap.lt_size q'
        · rw [q]; obtain ⟨_, q', _⟩ := Src.it_obj h1; exact Heap.lt_size q'
        · rw [q]; obtain ⟨_, q', _⟩ := Src.it_obj h2; exact Heap.lt_size q'
      rw [upd_ne (Nat.ne_of_lt (Nat.lt_of_lt_of_le hb' hT))]
      exact (hf b hb).1
  done := by
    intro X hP hw hK hc n pins s σ H E I hf st hg
    subst hP hw hK
    obtain ⟨xs, ys, hqx, hqy, hl⟩ := hg
    obtain ⟨hz, hTI, hTO, h1, h2⟩ := st
    obtain ⟨its1, rv1, har1⟩ := Src.inv I hqx
    obtain ⟨its2, rv2, har2⟩ := Src.inv I hqy
    have hh : X.A.in1.handled = none := I.ok.hd hc
    have Wk := WalksT.zipD2 (prog := X.prog) (w := X.w) (A := X.A) (zip_sep2 (N := N) (fp1 := [S1.addr]) (fp2 := [S2.addr]) (fun b hb => by rw [List.mem_singleton.mp hb]; exact lt1) (fun b hb => by rw [List.mem_singleton.mp hb]; exact lt2))
      (Src.draws hh S1 N (Nat.ne_of_lt lt1) its1.toArray) (Src.draws hh S2 (N + 1) (by have q : S2.addr ≠ N + 1 := Nat.ne_of_lt (Nat.lt_succ_of_lt lt2); exact q) its2.toArray)
    have en : min its1.toArray.size its2.toArray.size = n := by rw [List.size_toArray, List.size_toArray, ← rv1.length, ← rv2.length]; exact hl
    rw [en] at Wk
    have sub : ∀ c, c ∉ [N + 4, N + 2, N + 3, N, N + 1] → c ∉ [N + 4, N + 3, N, N + 1] := fun c hc q => hc (by
      have e' : c = N + 4 ∨ c = N + 3 ∨ c = N ∨ c = N + 1 := by simpa using q
      rcases e' with z | z | z | z <;> simp [z])
    exact Wk.done s _ E ⟨hz, hTI, hTO, ⟨h1, har1⟩, ⟨h2, har2⟩⟩ fun h' tk hk => ⟨rfl, I.turnedL (t' := tk) (ch := [N + 4, N + 2, N + 3, N, N + 1]) (fun b ob hb q => hk b ob (sub b hb) q) hf⟩
  self := fun A n s Q E st h => wpAny_pyIter_zip st.1 h
theorem itr_zz {K : PySem.W.Frag} {Z : Hp} {ι : Nat → Addr} {n : Nat} {S1 S2 : Src} {xs ys : List V} {ds es : List D} (s1 : S1.here K Z xs) (s2 : S2.here K Z ys) (r1 : Rps K Z ι n ds xs) (r2 : Rps K Z ι n es ys) : ItR K (Izz K S1 S2) (zipL ds es) Z ι n := by
  intro i H' Z' ι' M' hz hi hn hr _
  have sH : S1.here K H' xs := here_sub (fun a o h => hr.sub _ _ (hz _ _ h)) s1
  have sK : S2.here K H' ys := here_sub (fun a o h => hr.sub _ _ (hz _ _ h)) s2
  refine ⟨fun hl => ⟨xs, ys, sH, sK, by rw [← r1.length, ← r2.length, ← zipL_len]; exact hl⟩, fun d hd => ?_⟩
  obtain ⟨d0, e0, h1, h2, rfl⟩ := zipL_get ds es i d hd
  obtain ⟨v, hv, rv⟩ := r1.get h1
  obtain ⟨u, hu, ru⟩ := r2.get h2
  refine ⟨⟨xs, ys, v, u, sH, sK, hv, hu⟩, fun x H2 hy => ?_⟩
  obtain ⟨T, x', y', rfl, hT, rfl, hx, hy⟩ := hy
  have ex : xs[i]? = some x' := hx _ sH
  rw [hv] at ex
  cases ex
  have ey : ys[i]? = some y' := hy _ sK
  rw [hu] at ey
  cases ey
  obtain ⟨q1, q2⟩ := hr.frozen (o := .tup [v, u]) hT
  refine ⟨_, q2, q1, .tup (.inl (.inl upd_same)) (.cons ?_ (.cons ?_ .nil))⟩
  · exact Rp.ext (Rp.mono hz hi hn _ _ rv) q2
  · exact Rp.ext (Rp.mono hz hi hn _ _ ru) q2
section
variable {X : Cx} {C : CT} {W : WX} {e e2 : Expr} {ga gb : GE} {p pos tpos : Pos} {elts : List Expr} {kk : Nat}
theorem qi_zip (hg : Gl X "zip") (hm : X.mg "zip" = none) (ha : QE X C W e ga) (hb : QE X C W e2 gb) (hs : starEach [e, e2] X.env = (false, eval e X.env) :: starEach [e2] X.env := by rfl) (hs2 : starEach [e2] X.env = (false, eval e2 X.env) :: starEach [] X.env := by rfl)
    (hpl : (backTo pos (starEach [e2] X.env)).any (·.1) = false := by rfl) : QI X C W (.Tuple elts kk tpos) (.Call (.Name "zip" p) [e, e2] [] pos) (gZip ga gb) := by
  obtain ⟨ta, pa, qa⟩ := ha
  obtain ⟨tb, pb, qb⟩ := hb
  refine ⟨fun σ H R => ta σ H fun v H1 => tb σ H1 fun u H2 => ∃ (S1 S2 : Src) (xs ys : List V), v = .ref S1.addr ∧ u = .ref S2.addr ∧ S1.here X.K H2 xs ∧ S2.here X.K H2 ys ∧ R (Izz X.K S1 S2) H2, ⟨fun pins s σ H R I h => ?_⟩,
    fun σ H Z ι Γ M Q sl hr h => qa σ H Z ι Γ M _ sl hr (Post.bind h fun x M1 v H1 Z1 ι1 e1 hr1 r1 h1 => qb σ H1 Z1 ι1 Γ M1 _ (sl.ext e1) hr1 (h1.bind fun y M2 u H2 Z2 ι2 e2 hr2 r2 h2 => ?_))⟩
  · refine Call_ (ld_blt I hg hm boot_zip (PyProof.Rows.callWith_type1 (thn ((pa_cons pa (pa_cons pb pa_nil hs2) hs).run pos pins s σ H (fun vs H1 => ∃ v u, vs = [v, u] ∧ ∃ (S1 S2 : Src) (xs ys : List V), v = .ref S1.addr ∧ u = .ref S2.addr ∧ S1.here X.K H1 xs ∧ S2.here X.K H1 ys ∧ R (Izz X.K S1 S2) H1) I ?_) fun us s1 hh => ?_) hs hpl))
    · have hmono : (fun x H1 => tb σ H1 fun y H2 => tNil σ H2 fun ys H3 => ∃ v u, x :: y :: ys = [v, u] ∧ ∃ (S1 S2 : Src) (xs zs : List V), v = .ref S1.addr ∧ u = .ref S2.addr ∧ S1.here X.K H3 xs ∧ S2.here X.K H3 zs ∧ R (Izz X.K S1 S2) H3) =
          fun (v : V) (H1 : Hp) => tb σ H1 fun u H2 => ∃ (S1 S2 : Src) (xs ys : List V), v = .ref S1.addr ∧ u = .ref S2.addr ∧ S1.here X.K H2 xs ∧ S2.here X.K H2 ys ∧ R (Izz X.K S1 S2) H2 := by
        funext x H1
        congr 1
        funext y H2
        apply propext
        constructor
        · rintro ⟨v, u, ev, q⟩
          cases ev
          exact q
        · intro q
          exact ⟨x, y, rfl, q⟩
      show ta σ H fun x H1 => tb σ H1 fun y H2 => tNil σ H2 fun ys H3 => ∃ v u, x :: y :: ys = [v, u] ∧ ∃ (S1 S2 : Src) (xs zs : List V), v = .ref S1.addr ∧ u = .ref S2.addr ∧ S1.here X.K H3 xs ∧ S2.here X.K H3 zs ∧ R (Izz X.K S1 S2) H3
      rw [hmono]
      exact h
    · obtain ⟨vs, H1, J, r1, v, u, rfl, S1, S2, xs, ys, rfl, rfl, hq1, hq2, q⟩ := hh
      obtain ⟨u1, u2, rfl, ru, ru2⟩ := Vals.two r1
      cases ru
      cases ru2
      obtain ⟨its1, rv1, har1⟩ := Src.inv J hq1
      obtain ⟨its2, rv2, har2⟩ := Src.inv J hq2
      refine zip_begins2 (S1.begins its1.toArray) (S2.begins its2.toArray) har1 har2 fun h' hz hTI hTO hi1 hi2 hsz hk => wpAny_pyIter_zip hz ?_
      have J2 : Inv X pins σ H1 { s1 with heap := h' } := J.kept (t' := s1.toks) hk
      refine ⟨s1.heap.objs.size + 4, [s1.heap.objs.size + 4, s1.heap.objs.size + 2, s1.heap.objs.size + 3, s1.heap.objs.size, s1.heap.objs.size + 1], _, _, H1, rfl, J2, turn_zz S1 S2 s1.heap.objs.size (Src.arr_lt har1) (Src.arr_lt har2), ⟨hz, hTI, ⟨_, _, hTO⟩, Src.start hi1, Src.start hi2⟩, fun b hb => ?_, q⟩
      have e' : b = s1.heap.objs.size + 4 ∨ b = s1.heap.objs.size + 2 ∨ b = s1.heap.objs.size + 3 ∨ b = s1.heap.objs.size ∨ b = s1.heap.objs.size + 1 := by simpa using hb
      have le : s1.heap.objs.size ≤ b := by
        rcases e' with z | z | z | z | z
        · rw [z]; exact Nat.le_add_right _ _
        · rw [z]; exact Nat.le_add_right _ _
        · rw [z]; exact Nat.le_add_right _ _
        · rw [z]; exact Nat.le_refl _
        · rw [z]; exact Nat.le_add_right _ _
      exact J.fpOk le (J.hok.fresh le)
  · obtain ⟨items, hd, h3⟩ := Post.of_opR (γ := D) (δ := V) h2
    unfold zipO at hd
    cases es : seqD x with
    | none => rw [es] at hd; cases hd
    | some ds =>
      cases et : seqD y with
      | none => rw [es, et] at hd; cases hd
      | some dt =>
        rw [es, et] at hd
        cases hd
        obtain ⟨S1, xs, rfl, hS1, q1⟩ := src_of hr2.sub (r1.ext e2) es
        obtain ⟨S2, ys, rfl, hS2, q2⟩ := src_of hr2.sub r2 et
        exact ⟨S1, S2, xs, ys, rfl, rfl, here_sub hr2.sub hS1, here_sub hr2.sub hS2, h3 _ H2 Z2 ι2 .refl hr2 (itr_zz hS1 hS2 q1 q2)⟩
end
end Bk

set_option Elab.async false
set_option linter.all false
set_option maxRecDepth 100000
set_option maxHeartbeats 2000000
namespace Bk
open PySem PySem.Spec PyProof.Rows L2
open PySem.W (kdx_alive)
/-! ### list(zip(a, b)): the zip's tuples stay, so each turn makes a new one -/
section
variable {prog : Program} {w : World} {A : Around} {E : Value → Shared → Prop} {s : Shared} {z TI TO i1 i2 T : Addr} {fp1 fp2 : List Addr} {n1 n2 i : Nat} {P1 P2 : Nat → Value → Prop} {St1 St2 : Nat → Heap → Prop} {f : Bool} {oT : Obj}
end
end Bk

set_option Elab.async false
set_option linter.all false
set_option maxRecDepth 100000
set_option maxHeartbeats 4000000
namespace Bk
open PySem PySem.Spec PyProof.Rows L2
/-- tuples laid one after the other -/
inductive Laid : Hp → List (V × V) → List Addr → Hp → Prop
  | nil (H : Hp) : Laid H [] [] H
  | snoc {H H1 : Hp} {ps : List (V × V)} {Ts : List Addr} {T : Addr} {x y : V} : Laid H ps Ts H1 → H1 T = none → Laid H (ps ++ [(x, y)]) (Ts ++ [T]) (upd H1 T (.tup [x, y]))
section
variable {X : Cx} {pins : List (Addr × Obj)} {σ : L2.St} {S1 S2 : Src} {N Sx : Nat} {its1 its2 : List Value} {xs ys : List V} {A : Around} {H0 : Hp} {R : Result → Shared → Prop}
end
end Bk

set_option Elab.async false
set_option linter.all false
set_option maxRecDepth 100000
set_option maxHeartbeats 4000000
namespace Bk
open PySem PySem.Spec PyProof.Rows L2
theorem Laid.length {H H' : Hp} {ps : List (V × V)} {Ts : List Addr} (L : Laid H ps Ts H') : Ts.length = ps.length := by
  induction L with
  | nil => rfl
  | snoc _ _ ih => simp [ih]
section
variable {X : Cx} {pins : List (Addr × Obj)} {σ : L2.St} {S1 S2 : Src} {N : Nat} {its1 its2 : List Value} {xs ys : List V} {H : Hp}
end
theorem Laid.read {K : PySem.W.Frag} {H H' : Hp} {ps : List (V × V)} {Ts : List Addr} (L : Laid H ps Ts H') : ∀ {dps : List (D × D)} {Z : Hp} {ι : Nat → Addr} {M : List MO}, HR K H Z ι M → dps.length = ps.length → (∀ (i : Nat) (dp : D × D) (vp : V × V), dps[i]? = some dp → ps[i]? = some vp → Rp K Z ι M.length dp.1 vp.1 ∧ Rp K Z ι M.length dp.2 vp.2) →
    ∃ Z', HR K H' Z' ι M ∧ Ext H Z ι M.length H' Z' ι M.length ∧ Rps K Z' ι M.length (dps.map fun dp => .tup [dp.1, dp.2]) (Ts.map V.ref) := by
  induction L with
  | nil =>
    intro dps Z ι M hr hl h
    have : dps = [] := List.length_eq_zero_iff.mp hl
    subst this
    exact ⟨Z, hr, .refl, .nil⟩
  | @snoc H1 ps Ts T x y L hT ih =>
    intro dps Z ι M hr hl h
    rcases List.eq_nil_or_concat dps with e | ⟨ds, d, e⟩
    · subst e
      simp at hl
    · rw [List.concat_eq_append] at e
      subst e
      have hl' : ds.length = ps.length := by simpa using hl
      obtain ⟨Z1, hr1, e1, r1⟩ := ih hr hl' fun i dp vp a b => h i dp vp (by rw [List.getElem?_append_left (List.getElem?_eq_some_iff.mp a).1]; exact a) (by rw [List.getElem?_append_left (List.getElem?_eq_some_iff.mp b).1]; exact b)
      obtain ⟨q1, q2⟩ := h ds.length d (x, y) (by simp) (by rw [hl']; simp)
      obtain ⟨p1, p2⟩ := hr1.frozen (o := .tup [x, y]) hT
      refine ⟨_, p1, e1.trans p2 hr1.ali, ?_⟩
      rw [List.map_append, List.map_append]
      exact (r1.ext p2).append (.cons (.tup (.inl (.inl upd_same)) (.cons ((q1.ext e1).ext p2) (.cons ((q2.ext e1).ext p2) .nil))) .nil)
def gLzip (own : Bool) (ga gb : GE) : GE := fun Γ M => (ga Γ M).bind fun x M1 => (gb Γ M1).bind fun y M2 => (opR (zipO x y) M2).bind fun ds M3 => if ds.length ≤ sizeLine then (if own = true then .ok (.ref M3.length) (M3 ++ [.lst ds]) else .ok (.lst ds) M3) else .bad
section
variable {X : Cx} {C : CT} {W : WX} {e e2 : Expr} {ga gb : GE} {p p2 pos pos2 : Pos}
end
end Bk

set_option Elab.async false
set_option linter.all false
set_option maxRecDepth 100000
set_option maxHeartbeats 2000000
namespace Bk
open PySem PySem.Spec PyProof.Rows L2
/-! ### a, b = x, y -/
def gPar2 (i j : Nat) (gs : GA) : GS := fun Γ M => (gs Γ M).thenS Γ fun ds M1 => match ds with
  | [d, e] => .nx ((Γ.set i (some d)).set j (some e)) M1
  | _ => .bad
def gPar3 (i j l : Nat) (gs : GA) : GS := fun Γ M => (gs Γ M).thenS Γ fun ds M1 => match ds with
  | [d, e, f] => .nx (((Γ.set i (some d)).set j (some e)).set l (some f)) M1
  | _ => .bad
section
variable {X : Cx} {C : CT} {W : WX} {gs : GA}
theorem qs_par2 (i j : Nat) {x y : Str} {a b : Expr} {px py pt pos : Pos} {kt k2 : Nat} {pt2 : Pos} (hc : X.calm = true) (hN : X.N.Nodup) (ha : QA X C W [a, b] gs) (hij : i ≠ j := by decide) (hi : X.N[i]? = some x := by rfl) (hj : X.N[j]? = some y := by rfl)
    (hx : X.env.scope.names.lookup x = some .local := by rfl) (hy : X.env.scope.names.lookup y = some .local := by rfl)
    (hw : swappedStores [.Tuple [.Name x px, .Name y py] kt pt] (.Tuple [a, b] k2 pt2) X.env = pure (some [x, y]) := by rfl)
    (hs : swapsWithSole [.Tuple [.Name x px, .Name y py] kt pt] (.Tuple [a, b] k2 pt2) pos.line X.env = pure false := by rfl) :
    QS X C W (.Assign [.Tuple [.Name x px, .Name y py] kt pt] (.Tuple [a, b] k2 pt2) pos) (gPar2 i j gs) := by
  obtain ⟨ta, pa, qa⟩ := ha
  refine ⟨_, ps_par hc hN hi hj hij hx hy pa hw hs, fun Dd σ H Z ι Γ M sl hr h => qa σ H Z ι Γ M _ sl hr (PostS.bind h sl fun ds M1 vs H1 Z1 ι1 e1 hr1 r1 h1 => ?_)⟩
  match ds, h1, r1 with
  | [d, e], h1, r1 =>
    obtain ⟨v, u, rfl, q1, q2⟩ := rps2 r1
    exact ⟨v, u, rfl, h1 _ H1 Z1 ι1 .refl hr1 (((sl.ext e1).set i q1).set j q2)⟩
end
@[simp] theorem u_gPar2 (i j : Nat) (gs : GA) (Γ : Env) (M : List MO) : gPar2 i j gs Γ M = (gs Γ M).thenS Γ fun ds M1 => (match ds with
  | [d, e] => .nx ((Γ.set i (some d)).set j (some e)) M1
  | _ => .bad) := Eq.trans rfl rfl
@[simp] theorem u_gPar3 (i j l : Nat) (gs : GA) (Γ : Env) (M : List MO) : gPar3 i j l gs Γ M = (gs Γ M).thenS Γ fun ds M1 => (match ds with
  | [d, e, f] => .nx (((Γ.set i (some d)).set j (some e)).set l (some f)) M1
  | _ => .bad) := Eq.trans rfl rfl
@[simp] theorem u_gLzip (own : Bool) (ga gb : GE) (Γ : Env) (M : List MO) : gLzip own ga gb Γ M = (ga Γ M).bind fun x M1 => (gb Γ M1).bind fun y M2 => (opR (zipO x y) M2).bind fun ds M3 => if ds.length ≤ sizeLine then (if own = true then .ok (.ref M3.length) (M3 ++ [.lst ds]) else .ok (.lst ds) M3) else .bad := Eq.trans rfl rfl
end Bk

set_option Elab.async false
set_option linter.all false
set_option maxRecDepth 100000
set_option maxHeartbeats 4000000
namespace Bk
open PySem PySem.Spec PyProof.Rows L2
/-! ### tuple * int, any count up to a thousand -/
theorem tuple_mul1 (l : Addr) (items : Array Value) (n : Nat) (dd : Option Addr) (sl : Array (Option Value)) (u : Tok) :
    Meets (Builtin.«tuple.__mul__» ⟨[.ref l, .int 1 u], []⟩) (fun _ R s => s.heap.get? l = some { cls := .type "tuple", dict := dd, data := .seq items n, slots := sl } ∧ R (.ok (.ret (Value.ref l))) s) :=
  .of_wp fun prog w A R s h => by
    obtain ⟨hp, g, d, tk, os⟩ := s
    obtain ⟨hl, h⟩ := h
    have f1 := AutoSeq1.idx_int
    have c0 : (decide ((1 : Int) < -(2 ^ 63)) || decide ((1 : Int) ≥ 2 ^ 63)) = false := by decide
    have c1 : (items.isEmpty || (1 : Int) == 1) = true := by simp
    wp_walk using wpAny_loadPart' hl
    repeat (first
      | (refine wpAny_ite_false (decide_eq_false (by rw [c0]; exact Bool.false_ne_true)) ?_; wp_walk using wpAny_loadPart' hl)
      | (refine wpAny_ite_true (decide_eq_true c1) ?_; wp_walk using wpAny_loadPart' hl))
    exact ⟨_, rfl, h⟩
theorem tuple_mul0 (l : Addr) (items : Array Value) (n : Nat) (dd : Option Addr) (sl : Array (Option Value)) (x : Int) (u : Tok) (c0 : (decide (x < -(2 ^ 63)) || decide (x ≥ 2 ^ 63)) = false) (c1 : (items.isEmpty || x == 1) = false) (c2 : (decide (x ≤ 0) || items.isEmpty) = true) :
    Meets (Builtin.«tuple.__mul__» ⟨[.ref l, .int x u], []⟩) (fun _ R s => s.heap.get? l = some { cls := .type "tuple", dict := dd, data := .seq items n, slots := sl } ∧
      R (.ok (.ret (Value.ref s.heap.objs.size))) { s with heap := s.heap.push { cls := Value.type "tuple", data := Data.seq #[] }, toks := s.toks }) :=
  .of_wp fun prog w A R s h => by
    obtain ⟨hp, g, d, tk, os⟩ := s
    obtain ⟨hl, h⟩ := h
    have f1 := AutoSeq1.idx_int
    wp_walk using wpAny_loadPart' hl
    repeat (first
      | (refine wpAny_ite_false (decide_eq_false (by rw [c0]; exact Bool.false_ne_true)) ?_; wp_walk using wpAny_loadPart' hl)
      | (refine wpAny_ite_false (decide_eq_false (by rw [c1]; exact Bool.false_ne_true)) ?_; wp_walk using wpAny_loadPart' hl)
      | (refine wpAny_ite_true (decide_eq_true c2) ?_; wp_walk using wpAny_loadPart' hl))
    exact ⟨_, rfl, h⟩
def rRepTA (K : PySem.W.Frag) : R2 := fun x y H Q => ∃ l k xs, x = .ref l ∧ y = .int k ∧ SqT K H l xs ∧ xs ≠ [] ∧ -1000 ≤ k ∧ k ≤ 1000 ∧ xs.length ≤ 1000 ∧ (k = 1 → Q (.ref l) H) ∧ (k ≠ 1 → ∀ p, H p = none → Q (.ref p) (upd H p (.tup (List.replicate k.toNat xs).flatten)))
section
variable {X : Cx}
theorem op_repTA : OpR X (binaryOp .Mult) (rRepTA X.K) := by
  intro pins s σ H x y v u Q I rx ry h
  obtain ⟨l, k, xs, rfl, rfl, hT, hne, h0, h1, hz, q1, q⟩ := h
  by_cases h2 : 2 ≤ k
  · exact op_repT pins s σ H _ _ v u Q I rx ry ⟨l, k, xs, rfl, rfl, hT, hne, h2, h1, hz, q (by omega)⟩
  cases rx
  obtain ⟨t, rfl⟩ := ry
  obtain ⟨its, r, ⟨⟨cls, dd, data, sl⟩, ho, hc, n, hd⟩, hs⟩ := I.tuple hT
  simp only at hc hd
  subst hc hd
  have hle : its.length = xs.length := r.length.symm
  have hn : its ≠ [] := fun e => hne (List.eq_nil_of_length_eq_zero (by rw [← hle, e]; rfl))
  have hi : its.toArray.isEmpty = false := by
    cases its with
    | nil => exact absurd rfl hn
    | cons a b => rfl
  by_cases e1 : k = 1
  · subst e1
    exact wpAny_binaryOp_repeat_ref (T := "tuple") (U := "int") (by decide) ⟨_, ho, rfl⟩ (fun s' => typeIs_int s' 1 t) noFill_tuple_mul F.fills_int_mul F.slot_int_rmul repeat_tuple F.slot_int_index.lookup
      (call_meets F.slot_int_rmul (typeIs_int s 1 t) F.entry_int_rmul (F.args_int_rmul_2 _ _) (int_rmul_tuple 1 t l its.toArray n dd sl) ⟨ho, rfl, ⟨_, ho, rfl⟩, call_meets F.slot_tuple_mul ⟨_, ho, rfl⟩ F.entry_tuple_mul (F.args_tuple_mul_2 _ _) (tuple_mul1 l its.toArray n dd sl t) ⟨ho, ⟨.ref l, H, I, rfl, q1 rfl⟩⟩⟩)
  · have c0 : (decide (k < -(2 ^ 63)) || decide (k ≥ 2 ^ 63)) = false := by
      rw [decide_eq_false (by omega), decide_eq_false (by omega)] <;> rfl
    have c1 : (its.toArray.isEmpty || k == 1) = false := by
      rw [hi, Bool.false_or]; exact beq_eq_false_iff_ne.mpr e1
    have c2 : (decide (k ≤ 0) || its.toArray.isEmpty) = true := by
      rw [hi, Bool.or_false]; exact decide_eq_true (by omega)
    have z : (List.replicate k.toNat xs).flatten = [] := by
      have : k.toNat = 0 := by omega
      rw [this]; rfl
    rw [z] at q
    refine wpAny_binaryOp_repeat_ref (T := "tuple") (U := "int") (by decide) ⟨_, ho, rfl⟩ (fun s' => typeIs_int s' k t) noFill_tuple_mul F.fills_int_mul F.slot_int_rmul repeat_tuple F.slot_int_index.lookup
      (call_meets F.slot_int_rmul (typeIs_int s k t) F.entry_int_rmul (F.args_int_rmul_2 _ _) (int_rmul_tuple k t l its.toArray n dd sl) ⟨ho, rfl, ⟨_, ho, rfl⟩, call_meets F.slot_tuple_mul ⟨_, ho, rfl⟩ F.entry_tuple_mul (F.args_tuple_mul_2 _ _) (tuple_mul0 l its.toArray n dd sl k t c0 c1 c2) ⟨ho, ?_⟩⟩)
    exact ⟨.ref s.heap.objs.size, _, I.laid (t' := s.toks) (o := .tup []) (fun b ob q => Heap.get?_push_of_some _ q) (Nat.le_refl _) ⟨by decide, [], .nil, IsTup.new _ _⟩, rfl, q e1 _ (I.hok.fresh (Nat.le_refl _))⟩
def dMulT (M : List MO) (x : D) (y : D) : Option D := match x, y with
  | .tup ds, .int k => if (decide (ds ≠ []) && decide (-1000 ≤ k) && decide (k ≤ 1000) && decide (ds.length ≤ 1000)) = true then some (.tup (List.replicate k.toNat ds).flatten) else none
  | x, y => dMulA M x y
theorem op_mulT : OpR X (binaryOp .Mult) (fun x y H Q => rMulA X.K x y H Q ∨ rRepTA X.K x y H Q) := op_mulL.or op_repTA
theorem ok_mulT : Ok2 X (fun x y H Q => rMulA X.K x y H Q ∨ rRepTA X.K x y H Q) dMulT := fun x y H Z ι M dx dy d Q hr rx ry e q => by
  unfold dMulT at e
  split at e
  · rename_i ds k
    split at e
    · rename_i c
      cases e
      simp only [Bool.and_eq_true, decide_eq_true_eq] at c
      obtain ⟨⟨⟨c1, c2⟩, c3⟩, c4⟩ := c
      cases ry
      cases rx with
      | tup s r =>
        have r' := r.rep k.toNat
        refine .inr ⟨_, k, _, rfl, rfl, subT hr.sub s, fun z => c1 ?_, c2, c3, by rw [← r.length]; exact c4, fun e1 => ?_, fun _ => ?_⟩
        · have := r.length
          rw [z] at this
          exact List.eq_nil_of_length_eq_zero this
        · subst e1
          refine q.now hr (.tup s ?_)
          simpa using r
        · exact q.tup hr r'
    · cases e
  · exact .inl (ok_mulL x y H Z ι M dx dy d Q hr rx ry e q)
end
@[simp] theorem e_mulT (M : List MO) (d : D) (ds : List D) (k : Int) (h1 : -1000 ≤ k) (h2 : k ≤ 1000) (h3 : ds.length < 1000) : dMulT M (.tup (d :: ds)) (.int k) = some (.tup (List.replicate k.toNat (d :: ds)).flatten) := by
  have : (d :: ds).length ≤ 1000 := by rw [List.length_cons]; omega
  simp only [dMulT]
  rw [if_pos]
  simp [h1, h2]
  omega
@[simp] theorem e_mulTi (M : List MO) (i : Int) (y : D) : dMulT M (.int i) y = dMulA M (.int i) y := Eq.trans rfl rfl
@[simp] theorem e_mulTl (M : List MO) (ds : List D) (y : D) : dMulT M (.lst ds) y = dMulA M (.lst ds) y := Eq.trans rfl rfl
end Bk

set_option Elab.async false
set_option linter.all false
set_option maxRecDepth 100000
set_option maxHeartbeats 2000000
namespace Bk
open PySem PySem.Spec PyProof.Rows L2
theorem lcL_cons {gg : GG} {ge : GE} {d y : D} {ds acc : List D} {Γ Γ1 : Env} {M M2 : List MO} (h1 : gg d Γ = some Γ1) (h2 : ge Γ1 M = .ok y M2) (q : acc.length < sizeLine) : gLcL gg gYes ge Γ (d :: ds) acc M = gLcL gg gYes ge Γ ds (acc ++ [y]) M2 := by
  simp [gLcL, h1, h2, q]
theorem lcL_take {gg : GG} {gt : GT} {ge : GE} {d y : D} {ds acc : List D} {Γ Γ1 : Env} {M M1 M2 : List MO} (h1 : gg d Γ = some Γ1) (ht : gt Γ1 M = .ok true M1) (h2 : ge Γ1 M1 = .ok y M2) (q : acc.length < sizeLine) : gLcL gg gt ge Γ (d :: ds) acc M = gLcL gg gt ge Γ ds (acc ++ [y]) M2 := by
  simp [gLcL, h1, ht, h2, q]
theorem lcL_skip {gg : GG} {gt : GT} {ge : GE} {d : D} {ds acc : List D} {Γ Γ1 : Env} {M M1 : List MO} (h1 : gg d Γ = some Γ1) (ht : gt Γ1 M = .ok false M1) : gLcL gg gt ge Γ (d :: ds) acc M = gLcL gg gt ge Γ ds acc M1 := by
  simp [gLcL, h1, ht]
/-- a list made item by item -/
theorem lcL_run {α : Type} {gg : GG} {ge : GE} {Γ : Env} {M : List MO} (f : α → D) (g : α → D) : ∀ (xs : List α) (acc : List D), acc.length + xs.length ≤ sizeLine → (∀ x ∈ xs, ∃ Γ1, gg (f x) Γ = some Γ1 ∧ ge Γ1 M = .ok (g x) M) → gLcL gg gYes ge Γ (xs.map f) acc M = .ok (acc ++ xs.map g) M
  | [], acc, _, _ => by simp [gLcL]
  | x :: xs, acc, h, hf => by
    obtain ⟨Γ1, h1, h2⟩ := hf x (by simp)
    simp only [List.length_cons] at h
    have ih := lcL_run (gg := gg) (ge := ge) (Γ := Γ) (M := M) f g xs (acc ++ [g x]) (by simp; omega) fun e he => hf e (by simp [he])
    rw [List.map_cons, lcL_cons h1 h2 (by omega), ih]
    simp
/-- items let go by a test -/
theorem lcL_sel {α : Type} {gg : GG} {gt : GT} {ge : GE} {Γ : Env} {M : List MO} (f : α → D) (g : α → D) (c : α → Bool) : ∀ (xs : List α) (acc : List D), acc.length + xs.length ≤ sizeLine → (∀ x ∈ xs, ∃ Γ1, gg (f x) Γ = some Γ1 ∧ gt Γ1 M = .ok (c x) M ∧ (c x = true → ge Γ1 M = .ok (g x) M)) → gLcL gg gt ge Γ (xs.map f) acc M = .ok (acc ++ (xs.filter c).map g) M
  | [], acc, _, _ => by simp [gLcL]
  | x :: xs, acc, h, hf => by
    obtain ⟨Γ1, h1, h2, h3⟩ := hf x (by simp)
    simp only [List.length_cons] at h
    have hf' : ∀ y ∈ xs, ∃ Γ1, gg (f y) Γ = some Γ1 ∧ gt Γ1 M = .ok (c y) M ∧ (c y = true → ge Γ1 M = .ok (g y) M) := fun e he => hf e (by simp [he])
    cases e : c x with
    | true =>
      have ih := lcL_sel (gg := gg) (gt := gt) (ge := ge) (Γ := Γ) (M := M) f g c xs (acc ++ [g x]) (by simp; omega) hf'
      rw [List.map_cons, lcL_take h1 (by rw [h2, e]) (h3 e) (by omega), ih]
      simp [e]
    | false =>
      have ih := lcL_sel (gg := gg) (gt := gt) (ge := ge) (Γ := Γ) (M := M) f g c xs acc (by omega) hf'
      rw [List.map_cons, lcL_skip h1 (by rw [h2, e]), ih]
      simp [e]
end Bk

set_option Elab.async false
set_option linter.all false
set_option maxRecDepth 100000
set_option maxHeartbeats 2000000
namespace Bk
open PySem PySem.Spec PyProof.Rows L2
/-! ### objects of own classes: a cell of the store, its fields by name -/
def putD (f : Str) (d : D) : List (Str × D) → List (Str × D)
  | [] => [(f, d)]
  | (g, x) :: r => if g = f then (g, d) :: r else (g, x) :: putD f d r
section
variable {K : PySem.W.Frag} {H Z : Hp} {ι : Nat → Addr} {n : Nat}
theorem fld_rp {f : Str} {d : D} : ∀ {fs : List (Str × D)} {gs : List (Str × V)}, gs.map (·.1) = fs.map (·.1) → Rps K Z ι n (fs.map (·.2)) (gs.map (·.2)) → fs.lookup f = some d → ∃ v, gs.lookup f = some v ∧ Rp K Z ι n d v
  | [], _, _, _, h => by simp at h
  | _ :: _, [], e, _, _ => by simp at e
  | (a, x) :: fs, (b, y) :: gs, e, r, h => by
    simp only [List.map_cons, List.cons.injEq] at e
    obtain ⟨e1, e2⟩ := e
    subst e1
    cases r with
    | cons r1 r2 =>
      rw [List.lookup_cons] at h ⊢
      cases hb : f == b with
      | true =>
        rw [hb] at h
        have : x = d := Option.some.inj h
        subst this
        exact ⟨y, rfl, r1⟩
      | false =>
        rw [hb] at h
        exact fld_rp e2 r2 h
theorem fld_no {f : Str} : ∀ {fs : List (Str × D)} {gs : List (Str × V)}, gs.map (·.1) = fs.map (·.1) → fs.lookup f = none → gs.lookup f = none
  | [], [], _, _ => rfl
  | [], _ :: _, e, _ => by simp at e
  | _ :: _, [], e, _ => by simp at e
  | (a, x) :: fs, (b, y) :: gs, e, h => by
    simp only [List.map_cons, List.cons.injEq] at e
    obtain ⟨e1, e2⟩ := e
    subst e1
    rw [List.lookup_cons] at h ⊢
    cases hb : f == b with
    | true => rw [hb] at h; cases h
    | false =>
      rw [hb] at h
      exact fld_no e2 h
theorem put_names (f : Str) (d : D) (v : V) : ∀ {fs : List (Str × D)} {gs : List (Str × V)}, gs.map (·.1) = fs.map (·.1) → (putF f v gs).map (·.1) = (putD f d fs).map (·.1)
  | [], [], _ => rfl
  | [], _ :: _, e => by simp at e
  | _ :: _, [], e => by simp at e
  | (a, x) :: fs, (b, y) :: gs, e => by
    simp only [List.map_cons, List.cons.injEq] at e
    obtain ⟨e1, e2⟩ := e
    subst e1
    unfold putF putD
    by_cases h : b = f
    · rw [if_pos h, if_pos h]
      simp [e2]
    · rw [if_neg h, if_neg h]
      simp [put_names f d v e2]
theorem put_rps {f : Str} {d : D} {v : V} (q : Rp K Z ι n d v) : ∀ {fs : List (Str × D)} {gs : List (Str × V)}, gs.map (·.1) = fs.map (·.1) → Rps K Z ι n (fs.map (·.2)) (gs.map (·.2)) → Rps K Z ι n ((putD f d fs).map (·.2)) ((putF f v gs).map (·.2))
  | [], [], _, _ => .cons q .nil
  | [], _ :: _, e, _ => by simp at e
  | _ :: _, [], e, _ => by simp at e
  | (a, x) :: fs, (b, y) :: gs, e, r => by
    simp only [List.map_cons, List.cons.injEq] at e
    obtain ⟨e1, e2⟩ := e
    subst e1
    cases r with
    | cons r1 r2 =>
      unfold putF putD
      by_cases h : b = f
      · rw [if_pos h, if_pos h]
        exact .cons q r2
      · rw [if_neg h, if_neg h]
        exact .cons r1 (put_rps q e2 r2)
end
section
variable {K : PySem.W.Frag} {H Z : Hp} {ι : Nat → Addr} {M : List MO}
/-- a cell's thing is changed -/
theorem HR.changeG (h : HR K H Z ι M) {j : Nat} {o' o : MO} {ho : HO} (hj : M[j]? = some o) (hd : o ≠ .dead) (hd' : o' ≠ .dead) (r : OR K (upd H (ι j) ho) Z ι M.length o' (ι j)) :
    HR K (upd H (ι j) ho) Z ι (M.set j o') ∧ Ext H Z ι M.length (upd H (ι j) ho) Z ι (M.set j o').length := by
  have lt : j < M.length := (List.getElem?_eq_some_iff.mp hj).1
  have ln : (M.set j o').length = M.length := List.length_set
  have zj : Z (ι j) = none := h.sep j _ hj hd
  have cs : ∀ {k : Nat} {u : MO}, (M.set j o')[k]? = some u → (k ≠ j ∧ M[k]? = some u) ∨ (k = j ∧ u = o') := fun {k u} e => by
    by_cases hk : k = j
    · subst hk
      rw [List.getElem?_set_self lt] at e
      exact .inr ⟨rfl, (Option.some.inj e).symm⟩
    · rw [List.getElem?_set_ne (Ne.symm hk)] at e
      exact .inl ⟨hk, e⟩
  have apart : ∀ {k : Nat} {u : MO}, k ≠ j → M[k]? = some u → u ≠ .dead → ι k ≠ ι j := fun {k u} hk e d z => hk (h.inj k j u _ e hj d hd z)
  refine ⟨⟨fun a u e => ?_, fun k hk => ?_, fun k u e d => ?_, fun a b o1 u e1 e2 d1 d2 e => ?_, fun k u e => ?_, fun k e => ?_⟩, fun _ _ e => e, fun _ _ => rfl, fun a u e z => ?_, fun k h1 h2 => absurd h2 (by rw [ln]; exact Nat.not_lt.mpr h1), by rw [ln]; exact Nat.le_refl _, fun _ _ e => .inl e⟩
  · rw [upd_ne (ne_of_none e zj)]
    exact h.sub _ _ e
  · rw [ln] at hk
    by_cases e : ι k = ι j
    · exact ⟨_, by rw [e, upd_same]⟩
    · rw [upd_ne e]
      exact h.ali k hk
  · rcases cs e with ⟨hk, e⟩ | ⟨rfl, rfl⟩
    · exact h.sep k u e d
    · exact zj
  · have live : ∀ {k : Nat} {u : MO}, (M.set j o')[k]? = some u → u ≠ .dead → ∃ u', M[k]? = some u' ∧ u' ≠ .dead := fun {k u} e d => by
      rcases cs e with ⟨_, e⟩ | ⟨rfl, rfl⟩
      · exact ⟨u, e, d⟩
      · exact ⟨_, hj, hd⟩
    obtain ⟨o1', e1', d1'⟩ := live e1 d1
    obtain ⟨u', e2', d2'⟩ := live e2 d2
    exact h.inj a b o1' u' e1' e2' d1' d2' e
  · rw [ln]
    rcases cs e with ⟨hk, e⟩ | ⟨rfl, rfl⟩
    · have q := h.obj k u e
      by_cases du : u = .dead
      · subst du
        trivial
      · exact OR.mono (fun _ _ z => z) (fun _ _ => rfl) (Nat.le_refl _) (fun o z => by rw [upd_ne (apart hk e du)]; exact z) q
    · exact r
  · rcases cs e with ⟨_, e⟩ | ⟨_, e⟩
    · exact h.ded k e
    · exact absurd e.symm hd'
  · rw [upd_ne (z j lt)]
    exact e
/-- a new thing of ours -/
theorem HR.ownedG (h : HR K H Z ι M) {p : Addr} {o' : MO} {ho : HO} (hp : H p = none) (hd' : o' ≠ .dead) (r : OR K (upd H p ho) Z (put ι M.length p) (M.length + 1) o' p) :
    HR K (upd H p ho) Z (put ι M.length p) (M ++ [o']) ∧ Ext H Z ι M.length (upd H p ho) Z (put ι M.length p) (M ++ [o']).length := by
  have zp : Z p = none := by
    cases e : Z p with
    | none => rfl
    | some u =>
      rw [h.sub _ _ e] at hp
      cases hp
  have ne : ∀ k, k < M.length → ι k ≠ p := fun k hk e => by
    obtain ⟨u, hu⟩ := h.ali k hk
    rw [e, hp] at hu
    cases hu
  have ii : ∀ k, k < M.length → (put ι M.length p) k = ι k := fun k hk => put_lt hk
  have il : (put ι M.length p) M.length = p := put_at
  have cs : ∀ {k : Nat} {u : MO}, (M ++ [o'])[k]? = some u → (k < M.length ∧ M[k]? = some u) ∨ (k = M.length ∧ u = o') := fun {k u} e => by
    by_cases hk : k < M.length
    · rw [List.getElem?_append_left hk] at e
      exact .inl ⟨hk, e⟩
    · rw [List.getElem?_append_right (Nat.le_of_not_lt hk)] at e
      by_cases hz : k - M.length = 0
      · rw [hz] at e
        exact .inr ⟨by omega, (Option.some.inj e).symm⟩
      · rw [List.getElem?_eq_none (by simp; omega)] at e
        cases e
  have ln : (M ++ [o']).length = M.length + 1 := by simp
  refine ⟨⟨fun a u e => ?_, fun k hk => ?_, fun k u e d => ?_, fun j k o u e1 e2 d1 d2 e => ?_, fun k u e => ?_, fun k e => ?_⟩, fun _ _ e => e, ii, fun a u e _ => ?_, fun k h1 h2 => ?_, by rw [ln]; omega, fun _ _ e => .inl e⟩
  · rw [upd_ne (ne_of_none e zp)]
    exact h.sub _ _ e
  · rw [ln] at hk
    by_cases hk' : k < M.length
    · rw [ii k hk', upd_ne (ne k hk')]
      exact h.ali k hk'
    · have : k = M.length := by omega
      subst this
      exact ⟨_, by rw [il, upd_same]⟩
  · rcases cs e with ⟨hk, e⟩ | ⟨rfl, rfl⟩
    · rw [ii k hk]
      exact h.sep k u e d
    · rw [il]
      exact zp
  · rcases cs e1 with ⟨hj, e1⟩ | ⟨rfl, rfl⟩ <;> rcases cs e2 with ⟨hk, e2⟩ | ⟨rfl, rfl⟩
    · rw [ii j hj, ii k hk] at e
      exact h.inj j k o u e1 e2 d1 d2 e
    · rw [ii j hj, il] at e
      exact absurd e (ne j hj)
    · rw [ii k hk, il] at e
      exact absurd e.symm (ne k hk)
    · rfl
  · rcases cs e with ⟨hk, e⟩ | ⟨rfl, rfl⟩
    · rw [ii k hk]
      exact OR.mono (fun _ _ z => z) ii (by rw [ln]; omega) (fun o z => by rw [upd_ne (ne k hk)]; exact z) (h.obj k u e)
    · rw [il, ln]
      exact r
  · rcases cs e with ⟨hk, e⟩ | ⟨_, e⟩
    · rw [ii k hk]
      exact h.ded k e
    · exact absurd e.symm hd'
  · rw [upd_ne (ne_of_none e hp)]
    exact e
  · rw [ln] at h2
    have : k = M.length := by omega
    subst this
    rw [il]
    exact hp
end
/-! ### what the rules of objects compute -/
def gFld (nm f : Str) (ge : GE) : GE := fun Γ M => (ge Γ M).bind fun x M1 => match x with
  | .ref k => match M1[k]? with
    | some (.obj nm' fs) => if nm' = nm then opR (fs.lookup f) M1 else .bad
    | _ => .bad
  | _ => .bad
def gSetF (nm f : Str) (ge go : GE) : GS := fun Γ M => (ge Γ M).thenS Γ fun d M1 => (go Γ M1).thenS Γ fun x M2 => match x with
  | .ref k => match M2[k]? with
    | some (.obj nm' fs) => if nm' = nm ∧ fs.length < 1000 then .nx Γ (M2.set k (.obj nm (putD f d fs))) else .bad
    | _ => .bad
  | _ => .bad
def isObj (nm m : Str) (M : List MO) : D → Bool
  | .ref k => match M[k]? with
    | some (.obj nm' fs) => decide (nm' = nm) && (fs.lookup m).isNone
    | _ => false
  | _ => false
def gMeth (nm m : Str) (n : Nat) (F : List D → List MO → R D) (go : GE) (ga : GA) : GE := fun Γ M => (go Γ M).bind fun x M1 => if isObj nm m M1 x = true then (ga Γ M1).bind fun ds M2 => if ds.length + 1 = n then callF F (x :: ds) M2 else .bad else .bad
def newR (m : Nat) : D → List MO → R D
  | .non, M => .ok (.ref m) M
  | _, _ => .bad
def gNew (nm : Str) (n : Nat) (F : List D → List MO → R D) (ga : GA) : GE := fun Γ M => (ga Γ M).bind fun ds M1 => if ds.length + 1 = n then (callF F (.ref M1.length :: ds) (M1 ++ [.obj nm []])).bind (newR M1.length) else .bad
/-- a list in a field will not be changed any more -/
def gFzF (i : Nat) (f : Str) : GS := fun Γ M => match Γ[i]? with
  | some (some (.ref k)) => match M[k]? with
    | some (.obj nm fs) => match fs.lookup f with
      | some (.ref j) => match M[j]? with
        | some (.lst ds) => .nx Γ ((M.set j .dead).set k (.obj nm (putD f (.lst ds) fs)))
        | _ => .bad
      | _ => .bad
    | _ => .bad
  | _ => .bad
section
variable {X : Cx} {C : CT} {W : WX} {e o : Expr} {nm f m x : Str} {ge go : GE} {gs : GA} {pos apos pos' p : Pos} {C0 : Addr} {es : List Expr}
theorem one_cls (h1 : PySem.W.nsIn X.K mainGlobals nm = some (some (.ref C0))) {C1 : Addr} (h2 : PySem.W.nsIn X.K mainGlobals nm = some (some (.ref C1))) : C1 = C0 := by
  rw [h1] at h2
  cases h2
  rfl
theorem qe_fld (hn : PySem.W.nsIn X.K mainGlobals nm = some (some (.ref C0))) (c : Cls X.K C0) (na : NoAttr X.K C0 f) (he : QE X C W e ge) (hb : attributeBase e f X.env (eval e X.env) = eval e X.env := by rfl) : QE X C W (.Attribute e f pos) (gFld nm f ge) := by
  obtain ⟨te, pe, qe⟩ := he
  refine ⟨_, pe_fld pe hb, fun σ H Z ι Γ M Q sl hr h => qe σ H Z ι Γ M _ sl hr (Post.bind h fun x M1 v H1 Z1 ι1 e1 hr1 r1 h1 => ?_)⟩
  cases r1 with
  | ref hk =>
    rename_i k
    simp only at h1
    cases ek : M1[k]? with
    | none => rw [ek] at h1; exact h1.elim
    | some u =>
      rw [ek] at h1
      cases u with
      | dead => exact h1.elim
      | dct ks0 vs0 => exact h1.elim
      | dki kvs0 => exact h1.elim
      | lst ds => exact h1.elim
      | obj nm' fs =>
        simp only at h1
        by_cases en : nm' = nm
        · subst en
          rw [if_pos rfl] at h1
          obtain ⟨d, hd, h3⟩ := Post.of_opR (γ := D) (δ := V) h1
          obtain ⟨C1, dx, gs, a0, a1, a2, a3⟩ := hr1.obj k _ ek
          have := one_cls hn a0
          subst this
          obtain ⟨v, b1, b2⟩ := fld_rp a2 a3 hd
          exact ⟨_, C1, dx, gs, v, rfl, a1, c, na, b1, h3 v H1 Z1 ι1 .refl hr1 b2⟩
        · rw [if_neg en] at h1
          exact h1.elim
  | _ => exact h1.elim
theorem qs_setF (hn : PySem.W.nsIn X.K mainGlobals nm = some (some (.ref C0))) (c : Cls X.K C0) (na : NoAttr X.K C0 f) (he : QE X C W e ge) (ho : QE X C W o go) (hs : swapsWith e (some (.Attribute o f pos')) pos.line X.env = pure false := by rfl) :
    QS X C W (.Assign [.Attribute o f pos'] e pos) (gSetF nm f ge go) := by
  obtain ⟨te, pe, qe⟩ := he
  obtain ⟨to, po, qo⟩ := ho
  refine ⟨_, ps_fld po pe hs, fun Dd σ H Z ι Γ M sl hr h => qe σ H Z ι Γ M _ sl hr (PostS.bind h sl fun d M1 v H1 Z1 ι1 e1 hr1 r1 h1 => qo σ H1 Z1 ι1 Γ M1 _ (sl.ext e1) hr1 (PostS.bind h1 (sl.ext e1) fun x M2 u H2 Z2 ι2 e2 hr2 r2 h2 => ?_))⟩
  cases r2 with
  | ref hk =>
    rename_i k
    simp only at h2
    cases ek : M2[k]? with
    | none => rw [ek] at h2; exact h2.elim
    | some u =>
      rw [ek] at h2
      cases u with
      | dead => exact h2.elim
      | dct ks0 vs0 => exact h2.elim
      | dki kvs0 => exact h2.elim
      | lst ds => exact h2.elim
      | obj nm' fs =>
        simp only at h2
        by_cases en : nm' = nm ∧ fs.length < 1000
        · rw [if_pos en] at h2
          obtain ⟨en1, en2⟩ := en
          subst en1
          obtain ⟨C1, dx, gs, a0, a1, a2, a3⟩ := hr2.obj k _ ek
          have := one_cls hn a0
          subst this
          have ln : gs.length = fs.length := by
            have := congrArg List.length a2
            simpa using this
          obtain ⟨b1, b2⟩ := hr2.changeG (o' := .obj nm' (putD f d fs)) (ho := .ins C1 dx (putF f v gs)) ek (by simp) (by simp) ⟨C1, dx, _, a0, upd_same, put_names f d v a2, put_rps (r1.ext e2) a2 a3⟩
          exact ⟨_, C1, dx, gs, rfl, a1, c, na, by rw [ln]; exact en2, h2 σ _ Z2 ι2 b2 b1 (((sl.ext e1).ext e2).ext b2)⟩
        · rw [if_neg en] at h2
          exact h2.elim
  | _ => exact h2.elim
theorem isObj_run {H Z : Hp} {ι : Nat → Addr} {M : List MO} {d : D} {v : V} (hn : PySem.W.nsIn X.K mainGlobals nm = some (some (.ref C0))) (hr : HR X.K H Z ι M) (r : Rp X.K Z ι M.length d v) (h : isObj nm m M d = true) : ∃ a dx gs, v = .ref a ∧ H a = some (.ins C0 dx gs) ∧ gs.lookup m = none := by
  cases r with
  | ref hk =>
    rename_i k
    unfold isObj at h
    simp only at h
    cases ek : M[k]? with
    | none => rw [ek] at h; cases h
    | some u =>
      rw [ek] at h
      cases u with
      | dead => cases h
      | dct ks0 vs0 => cases h
      | dki kvs0 => cases h
      | lst ds => cases h
      | obj nm' fs =>
        simp only [Bool.and_eq_true, decide_eq_true_eq, Option.isNone_iff_eq_none] at h
        obtain ⟨h1, h2⟩ := h
        subst h1
        obtain ⟨C1, dx, gs, a0, a1, a2, a3⟩ := hr.obj k _ ek
        have := one_cls hn a0
        subst this
        exact ⟨_, dx, gs, rfl, a1, fld_no a2 h2⟩
  | _ => simp [isObj] at h
variable {k n : Nat} {fa : Addr} {fd : FuncData} {ps : List Str} {F : List D → List MO → R D} {pl : Sem Bool}
end
/-! ### how they are worked out -/
@[simp] theorem u_gFld (nm f : Str) (ge : GE) (Γ : Env) (M : List MO) : gFld nm f ge Γ M = ((ge Γ M).bind fun x M1 => match x with
  | .ref k => match M1[k]? with
    | some (.obj nm' fs) => if nm' = nm then opR (fs.lookup f) M1 else .bad
    | _ => .bad
  | _ => .bad) := Eq.trans rfl rfl
@[simp] theorem u_gSetF (nm f : Str) (ge go : GE) (Γ : Env) (M : List MO) : gSetF nm f ge go Γ M = ((ge Γ M).thenS Γ fun d M1 => (go Γ M1).thenS Γ fun x M2 => match x with
  | .ref k => match M2[k]? with
    | some (.obj nm' fs) => if nm' = nm ∧ fs.length < 1000 then .nx Γ (M2.set k (.obj nm (putD f d fs))) else .bad
    | _ => .bad
  | _ => .bad) := Eq.trans rfl rfl
@[simp] theorem u_isObj (nm m : Str) (M : List MO) (k : Nat) : isObj nm m M (.ref k) = (match M[k]? with
    | some (.obj nm' fs) => decide (nm' = nm) && (fs.lookup m).isNone
    | _ => false) := Eq.trans rfl rfl
@[simp] theorem u_gMeth (nm m : Str) (n : Nat) (F : List D → List MO → R D) (go : GE) (ga : GA) (Γ : Env) (M : List MO) : gMeth nm m n F go ga Γ M = (go Γ M).bind fun x M1 => if isObj nm m M1 x = true then (ga Γ M1).bind fun ds M2 => if ds.length + 1 = n then callF F (x :: ds) M2 else .bad else .bad := Eq.trans rfl rfl
@[simp] theorem u_newR (m : Nat) (M : List MO) : newR m .non M = .ok (.ref m) M := Eq.trans rfl rfl
@[simp] theorem u_gNew (nm : Str) (n : Nat) (F : List D → List MO → R D) (ga : GA) (Γ : Env) (M : List MO) : gNew nm n F ga Γ M = (ga Γ M).bind fun ds M1 => if ds.length + 1 = n then (callF F (.ref M1.length :: ds) (M1 ++ [.obj nm []])).bind (newR M1.length) else .bad := Eq.trans rfl rfl
@[simp] theorem u_gFzF (i : Nat) (f : Str) (Γ : Env) (M : List MO) : gFzF i f Γ M = (match Γ[i]? with
  | some (some (.ref k)) => match M[k]? with
    | some (.obj nm fs) => match fs.lookup f with
      | some (.ref j) => match M[j]? with
        | some (.lst ds) => .nx Γ ((M.set j .dead).set k (.obj nm (putD f (.lst ds) fs)))
        | _ => .bad
      | _ => .bad
    | _ => .bad
  | _ => .bad) := Eq.trans rfl rfl
@[simp] theorem blo_obj (m : Nat) (nm : Str) (fs : List (Str × D)) : belowO m (.obj nm fs) = belows m (fs.map (·.2)) := Eq.trans rfl rfl
end Bk

set_option Elab.async false
set_option linter.all false
set_option maxRecDepth 100000
set_option maxHeartbeats 2000000
namespace Bk
open PySem PySem.Spec PyProof.Rows L2
/-! ### range down by ones -/
def rngDn (lo : Int) : Nat → List D
  | 0 => []
  | n + 1 => .int lo :: rngDn (lo - 1) n
def rng3 : List D → Option (List D)
  | [.int i, .int j, .int c] => if (inR i && inR j && decide (c = -1)) = true then some (rngDn i (i - j).toNat) else none
  | _ => none
def gRng3 (ga : GA) : GI := fun Γ M => (ga Γ M).bind fun ds M1 => opR (rng3 ds) M1
def gRev (ge : GE) : GI := fun Γ M => (ge Γ M).bind fun d M1 => opR ((seqD d).map List.reverse) M1
def mReverse : MF0 := fun ds => some (ds.reverse, .non)
def items1 (M : List MO) : List D → Option (List D)
  | [d] => itemsD M d
  | _ => none
def gListO (ga : GA) : GE := fun Γ M => (ga Γ M).bind fun xs M1 => match items1 M1 xs with
  | some ds => .ok (.ref M1.length) (M1 ++ [.lst ds])
  | none => .bad
section
variable {X : Cx} {C : CT} {W : WX} {tg e a b c : Expr} {g ga : GE} {gs : GA} {pos p : Pos}
/-- list(x), the new list ours -/
theorem qe_listO (hg : Gl X "list") (hm : X.mg "list" = none) (hv : bootBuiltins "list" = some (.type "list")) (ha : QA X C W [e] gs) (he : starEach [e] X.env = (false, eval e X.env) :: starEach [] X.env := by rfl) (hpl : (backTo pos (starEach [] X.env)).any (·.1) = false := by rfl) :
    QE X C W (.Call (.Name "list" p) [e] [] pos) (gListO gs) := by
  obtain ⟨ta, pa, qa⟩ := ha
  refine ⟨_, pe_callTy call_list_of hg hm hv pa (by decide) (by decide) he hpl, fun σ H Z ι Γ M Q sl hr h => qa σ H Z ι Γ M _ sl hr (h.bind fun xs M1 vs H1 Z1 ι1 e1 hr1 r1 h1 => ?_)⟩
  cases ei : items1 M1 xs with
  | none => rw [ei] at h1; exact h1.elim
  | some ds =>
    rw [ei] at h1
    unfold items1 at ei
    split at ei
    · cases r1 with
      | cons r rr =>
        cases rr
        obtain ⟨a, ys, rfl, s, r2⟩ := itemsD_run hr1 r ei
        refine ⟨a, ys, rfl, s.elim (fun s => .inl s.sq) .inr, fun l hl => ?_⟩
        obtain ⟨hr2, x2⟩ := hr1.owned hl r2
        refine h1 _ _ Z1 _ x2 hr2 ?_
        have q : Rp X.K Z1 (put ι1 M1.length l) (M1 ++ [MO.lst ds]).length (.ref M1.length) (.ref (put ι1 M1.length l M1.length)) := .ref (by simp)
        rw [put_at] at q
        exact q
    · cases ei
end
@[simp] theorem u_gRng3 (ga : GA) (Γ : Env) (M : List MO) : gRng3 ga Γ M = (ga Γ M).bind fun ds M1 => opR (rng3 ds) M1 := Eq.trans rfl rfl
@[simp] theorem u_gRev (ge : GE) (Γ : Env) (M : List MO) : gRev ge Γ M = (ge Γ M).bind fun d M1 => opR ((seqD d).map List.reverse) M1 := Eq.trans rfl rfl
@[simp] theorem u_gListO (ga : GA) (Γ : Env) (M : List MO) : gListO ga Γ M = ((ga Γ M).bind fun xs M1 => match items1 M1 xs with
  | some ds => .ok (.ref M1.length) (M1 ++ [.lst ds])
  | none => .bad) := Eq.trans rfl rfl
@[simp] theorem u_items1 (M : List MO) (d : D) : items1 M [d] = itemsD M d := Eq.trans rfl rfl
@[simp] theorem u_rng3 (i j : Int) : rng3 [.int i, .int j, .int (-1)] = if (inR i && inR j) = true then some (rngDn i (i - j).toNat) else none := by
  show (if (inR i && inR j && decide ((-1 : Int) = -1)) = true then _ else _) = _
  simp
@[simp] theorem u_reverse (ds : List D) : mReverse ds = some (ds.reverse, .non) := Eq.trans rfl rfl
end Bk

set_option Elab.async false
set_option linter.all false
set_option maxRecDepth 100000
set_option maxHeartbeats 2000000
namespace Bk
open PySem PySem.Spec PyProof.Rows L2
theorem units65 {k : Nat} {A : Around} (r : Room k A) : A.units + 65 < cLine := by have := r.un; omega
/-! ### t >= u -/
def intsL : List D → Option (List Int)
  | [] => some []
  | .int i :: ds => (intsL ds).map fun is => i :: is
  | _ => none
theorem intsL_map : ∀ is : List Int, intsL (is.map D.int) = some is
  | [] => rfl
  | i :: is => by
    show (intsL (is.map D.int)).map (fun is => i :: is) = _
    rw [intsL_map is]
    rfl
def geI (ns ms : List Int) : Bool := Ob.lexAt (fun j => decide (ns.getD j 0 = ms.getD j 0)) (fun j => decide (ms.getD j 0 ≤ ns.getD j 0)) (decide (ns.length ≥ ms.length)) 0 (min ns.length ms.length)
def dGeA (M : List MO) (x y : D) : Option D := match x, y with
  | .tup xs, .tup ys => match intsL xs, intsL ys with
    | some ns, some ms => some (.bl (geI ns ms))
    | _, _ => none
  | x, y => dGe M x y
section
variable {X : Cx}
end
/-! ### x in l, items of any depth -/
def inDP (M : List MO) (x y : D) : Option Bool := match toP (deref M x), toP (deref M y) with
  | some p, some (.list qs) => if (SeqAt.shaped p && SeqAt.shaped (.list qs)) = true then some (qs.any fun z => PyData.eqv z p) else none
  | _, _ => none
def inAP (M : List MO) (x y : D) : Option Bool := match inP M x y with
  | some b => some b
  | none => inDP M x y
def dInA (M : List MO) (x y : D) : Option D := (inAP M x y).map D.bl
theorem inDP_run {K : PySem.W.Frag} {H Z : Hp} {ι : Nat → Addr} {M : List MO} {dx dy : D} {x y : V} {b : Bool} (hr : HR K H Z ι M) (rx : Rp K Z ι M.length dx x) (ry : Rp K Z ι M.length dy y) (e : inDP M dx dy = some b) :
    ∃ d ds, Dp K H x d ∧ Dp K H y (.list ds) ∧ SeqAt.shaped d = true ∧ SeqAt.shaped (.list ds) = true ∧ (ds.any fun z => PyData.eqv z d) = b := by
  unfold inDP at e
  cases e1 : toP (deref M dx) with
  | none => rw [e1] at e; cases e
  | some p =>
    cases e2 : toP (deref M dy) with
    | none => rw [e1, e2] at e; cases e
    | some q =>
      rw [e1, e2] at e
      cases q with
      | list qs =>
        simp only at e
        by_cases c : (SeqAt.shaped p && SeqAt.shaped (.list qs)) = true
        · rw [if_pos c] at e
          rw [Bool.and_eq_true] at c
          exact ⟨p, qs, deref_dp hr rx e1, deref_dp hr ry e2, c.1, c.2, Option.some.inj e⟩
        · rw [if_neg c] at e
          cases e
      | _ => cases e
section
variable {X : Cx}
theorem op_inA (hu : X.A.units + 65 < cLine) : OpR X (compareOp .In) (fun x y H Q => rInD X.K x y H Q ∨ rIn X.K false x y H Q) := (op_inD hu).or op_in_seq
theorem ok_inA : Ok2 X (fun x y H Q => rInD X.K x y H Q ∨ rIn X.K false x y H Q) dInA := fun x y H Z ι M dx dy d Q hr rx ry e q => by
  unfold dInA inAP at e
  cases e1 : inP M dx dy with
  | some b =>
    rw [e1] at e
    cases e
    obtain ⟨p, xs, h1, h2, h3, h4, h5⟩ := inP_run hr rx ry e1
    exact .inr ⟨p, xs, h1, h2, h3, h4, by rw [h5]; exact q.now hr (.bl b)⟩
  | none =>
    rw [e1] at e
    simp only at e
    cases e2 : inDP M dx dy with
    | none => rw [e2] at e; cases e
    | some b =>
      rw [e2] at e
      cases e
      obtain ⟨p, ps, h1, h2, h3, h4, h5⟩ := inDP_run hr rx ry e2
      exact .inl ⟨p, ps, h1, h2, h3, h4, by rw [h5]; exact q.now hr (.bl b)⟩
end
/-! ### l.index(x) -/
def dIndex (M : List MO) (x y : D) : Option D := match toP (deref M x), toP (deref M y) with
  | some (.list ps), some q => if (SeqAt.shaped (.list ps) && SeqAt.shaped q) = true then (ps.findIdx? fun z => PyData.eqv z q).map fun j => .int (j : Nat) else none
  | _, _ => none
def gIndex (go ge : GE) : GE := fun Γ M => (go Γ M).bind fun x M1 => if isListD M1 x = true then (ge Γ M1).bind fun y M2 => opR (dIndex M2 x y) M2 else .bad
section
variable {X : Cx} {C : CT} {W : WX}
theorem qe_index {o e : Expr} {go ge : GE} {pos apos : Pos} (hu : X.A.units + 65 < cLine) (ho : QE X C W o go) (he : QE X C W e ge)
    (hbase : attributeBase o "index" X.env (eval o X.env) = eval o X.env := by rfl) (hs : starEach [e] X.env = (false, eval e X.env) :: starEach [] X.env := by rfl)
    (hfew : ((backTo pos (starEach [e] X.env)).all (fun x => !x.1) && (backToKw pos (keywordEach [] X.env)).all (fun x => x.1.isSome) && decide ([e].length + ([] : List Keyword).length + (if ([] : List Keyword).isEmpty then 0 else 1) < 30)) = true := by rfl)
    (hline : (apos.endLine == pos.line) = true := by rfl) : QE X C W (.Call (.Attribute o "index" apos) [e] [] pos) (gIndex go ge) := by
  obtain ⟨ta, pa, qa⟩ := ho
  obtain ⟨tb, pb, qb⟩ := he
  refine ⟨_, pe_bm PySem.F.plainAttrs_list PySem.F.slot_list_index PySem.F.type_list_index (mt_indexD hu) pa (pa_cons pb pa_nil hs) hbase hfew hline hs rfl, fun σ H Z ι Γ M Q sl hr h => qa σ H Z ι Γ M _ sl hr (h.bind fun x M1 v H1 Z1 ι1 e1 hr1 r1 h1 => ?_)⟩
  by_cases c : isListD M1 x = true
  · rw [if_pos c] at h1
    refine ⟨isListD_run hr1 r1 c, qb σ H1 Z1 ι1 Γ M1 _ (sl.ext e1) hr1 (h1.bind fun y M2 u H2 Z2 ι2 e2 hr2 r2 h2 => ?_)⟩
    obtain ⟨d, hd, h3⟩ := Post.of_opR (γ := D) (δ := V) h2
    unfold dIndex at hd
    cases ea : toP (deref M2 x) with
    | none => rw [ea] at hd; cases hd
    | some p =>
      cases eb : toP (deref M2 y) with
      | none => rw [ea, eb] at hd; cases p <;> cases hd
      | some q =>
        rw [ea, eb] at hd
        cases p with
        | list ps =>
          simp only at hd
          by_cases z : (SeqAt.shaped (.list ps) && SeqAt.shaped q) = true
          · rw [if_pos z] at hd
            rw [Bool.and_eq_true] at z
            cases ej : ps.findIdx? (fun z => PyData.eqv z q) with
            | none => rw [ej] at hd; cases hd
            | some j =>
              rw [ej] at hd
              cases hd
              obtain ⟨hj, h5, h6⟩ := List.findIdx?_eq_some_iff_getElem.mp ej
              have dx := deref_dp hr2 (r1.ext e2) ea
              have dy := deref_dp hr2 r2 eb
              cases dx with
              | lst hs ha =>
                refine ⟨_, u, q, ps, j, ps[j], rfl, rfl, .lst hs ha, dy, z.1, z.2, List.getElem?_eq_getElem hj, h5, fun m z' hm hz => ?_, h3 _ H2 Z2 ι2 .refl hr2 (.int _)⟩
                obtain ⟨hm', rfl⟩ := List.getElem?_eq_some_iff.mp hz
                have := h6 m hm
                simpa using this
          · rw [if_neg z] at hd
            cases hd
        | _ => cases hd
  · rw [if_neg c] at h1
    exact h1.elim
end
@[simp] theorem u_gIndex (go ge : GE) (Γ : Env) (M : List MO) : gIndex go ge Γ M = (go Γ M).bind fun x M1 => if isListD M1 x = true then (ge Γ M1).bind fun y M2 => opR (dIndex M2 x y) M2 else .bad := Eq.trans rfl rfl
@[simp] theorem e_geA (M : List MO) (i j : Int) : dGeA M (.int i) (.int j) = some (.bl (decide (j ≤ i))) := Eq.trans rfl rfl
end Bk

set_option Elab.async false
set_option linter.all false
set_option maxRecDepth 100000
set_option maxHeartbeats 2000000
namespace Bk
open PySem PySem.Spec PyProof.Rows L2
/-! ### abs -/
def dAbs (_ : List MO) : D → Option D
  | .int i => some (.int (if i < 0 then -i else i))
  | _ => none
/-! ### sorted, ints -/
def insI (x : Int) : List Int → List Int
  | [] => [x]
  | y :: ys => if x ≤ y then x :: y :: ys else y :: insI x ys
def srtI : List Int → List Int
  | [] => []
  | x :: xs => insI x (srtI xs)
theorem insI_perm (x : Int) : ∀ l : List Int, (insI x l).Perm (x :: l)
  | [] => .refl _
  | y :: ys => by
    unfold insI
    split
    · exact .refl _
    · exact ((insI_perm x ys).cons y).trans (.swap x y ys)
theorem srtI_perm : ∀ l : List Int, (srtI l).Perm l
  | [] => .refl _
  | x :: xs => (insI_perm x _).trans ((srtI_perm xs).cons x)
theorem insI_ord {x : Int} : ∀ {l : List Int}, l.Pairwise (· ≤ ·) → (insI x l).Pairwise (· ≤ ·)
  | [], _ => by simp [insI]
  | y :: ys, h => by
    obtain ⟨h1, h2⟩ := List.pairwise_cons.mp h
    unfold insI
    split
    · rename_i c
      refine List.pairwise_cons.mpr ⟨fun z hz => ?_, h⟩
      rcases List.mem_cons.mp hz with rfl | hz
      · exact c
      · exact Int.le_trans c (h1 z hz)
    · rename_i c
      refine List.pairwise_cons.mpr ⟨fun z hz => ?_, insI_ord h2⟩
      rcases List.mem_cons.mp ((insI_perm x ys).mem_iff.mp hz) with rfl | hz
      · omega
      · exact h1 z hz
theorem srtI_ord : ∀ l : List Int, (srtI l).Pairwise (· ≤ ·)
  | [] => .nil
  | x :: xs => insI_ord (srtI_ord xs)
theorem ord_one : ∀ {l m : List Int}, l.Perm m → l.Pairwise (· ≤ ·) → m.Pairwise (· ≤ ·) → l = m
  | [], m, p, _, _ => (List.perm_nil.mp p.symm).symm
  | x :: l, [], p, _, _ => absurd (List.perm_nil.mp p) (by simp)
  | x :: l, y :: m, p, h, h' => by
    obtain ⟨a1, a2⟩ := List.pairwise_cons.mp h
    obtain ⟨b1, b2⟩ := List.pairwise_cons.mp h'
    have e : x = y := by
      rcases List.mem_cons.mp (p.mem_iff.mp (List.mem_cons_self ..)) with q | q
      · exact q
      · rcases List.mem_cons.mp (p.mem_iff.mpr (List.mem_cons_self ..)) with r | r
        · exact r.symm
        · have := a1 y r
          have := b1 x q
          omega
    subst e
    rw [ord_one (List.Perm.cons_inv p) a2 b2]
def dSort := ofInts fun is => some (.lst ((srtI is).map D.int))
def dSortR := ofInts fun is => some (.lst ((srtI is).reverse.map D.int))
def mClear : MF0 := fun _ => some ([], .non)
def dCnt (M : List MO) (x y : D) : Option D := match (listD M x).bind intsD, y with
  | some is, .int k => some (.int (is.count k : Nat))
  | _, _ => none
/-- a method of a list that reads it, with one argument -/
def gRd1 (f : List MO → D → D → Option D) (go ge : GE) : GE := fun Γ M => (go Γ M).bind fun x M1 => if isListD M1 x = true then (ge Γ M1).bind fun y M2 => opR (f M2 x y) M2 else .bad
def dRevL (M : List MO) (x : D) : Option D := (listD M x).map fun ds => .lst ds.reverse
def gRevL (ge : GE) : GE := fun Γ M => (ge Γ M).bind fun x M1 => opR (dRevL M1 x) M1
def gSortR (ge : GE) : GE := fun Γ M => (ge Γ M).bind fun x M1 => opR (dSortR M1 x) M1
section
variable {X : Cx} {C : CT} {W : WX} {e o : Expr} {g ge go : GE}
theorem ok_sort : Ok1 X (fun x H Q => rSortedI X.K [x] H Q) dSort := fun x H Z ι M dx d Q hr rx e q => by
  obtain ⟨a, is, rfl, s, e2⟩ := ofInts_run hr rx e
  cases e2
  refine ⟨a, is, rfl, s, fun ns' p h1 h2 hp => ?_⟩
  rw [ord_one (h1.trans (srtI_perm is).symm) h2 (srtI_ord is)]
  exact q.lst hr (rps_ints _) p hp
theorem ok_clear : OkM0 X rClear mClear := fun p xs H Z ι n ds ds' d Q e r h q => by
  cases h
  exact ⟨p, xs, rfl, rfl, e, q [] .non .nil .non⟩
theorem qe_count {pos apos : Pos} (ho : QE X C W o go) (he : QE X C W e ge)
    (hbase : attributeBase o "count" X.env (eval o X.env) = eval o X.env := by rfl) (hs : starEach [e] X.env = (false, eval e X.env) :: starEach [] X.env := by rfl)
    (hfew : ((backTo pos (starEach [e] X.env)).all (fun x => !x.1) && (backToKw pos (keywordEach [] X.env)).all (fun x => x.1.isSome) && decide ([e].length + ([] : List Keyword).length + (if ([] : List Keyword).isEmpty then 0 else 1) < 30)) = true := by rfl)
    (hline : (apos.endLine == pos.line) = true := by rfl) : QE X C W (.Call (.Attribute o "count" apos) [e] [] pos) (gRd1 dCnt go ge) := by
  obtain ⟨ta, pa, qa⟩ := ho
  obtain ⟨tb, pb, qb⟩ := he
  refine ⟨_, pe_bm PySem.F.plainAttrs_list PySem.F.slot_list_count PySem.F.type_list_count mt_lcount pa (pa_cons pb pa_nil hs) hbase hfew hline hs rfl, fun σ H Z ι Γ M Q sl hr h => qa σ H Z ι Γ M _ sl hr (h.bind fun x M1 v H1 Z1 ι1 e1 hr1 r1 h1 => ?_)⟩
  by_cases c : isListD M1 x = true
  · rw [if_pos c] at h1
    refine ⟨isListD_run hr1 r1 c, qb σ H1 Z1 ι1 Γ M1 _ (sl.ext e1) hr1 (h1.bind fun y M2 u H2 Z2 ι2 e2 hr2 r2 h2 => ?_)⟩
    obtain ⟨d, hd, h3⟩ := Post.of_opR (γ := D) (δ := V) h2
    unfold dCnt at hd
    cases e3 : listD M2 x with
    | none => rw [e3] at hd; cases hd
    | some ds =>
      rw [e3, Option.bind_some] at hd
      cases e4 : intsD ds with
      | none => rw [e4] at hd; cases hd
      | some is =>
        rw [e4] at hd
        obtain ⟨a, xs, rfl, s, r3⟩ := listD_run hr2 (r1.ext e2) e3
        rw [intsD_is r3 e4] at s
        cases r2 with
        | int k =>
          cases hd
          exact ⟨a, is, k, rfl, rfl, s.sq, h3 _ H2 Z2 ι2 .refl hr2 (.int _)⟩
        | _ => cases hd
  · rw [if_neg c] at h1
    exact h1.elim
end
@[simp] theorem u_gRd1 (f : List MO → D → D → Option D) (go ge : GE) (Γ : Env) (M : List MO) : gRd1 f go ge Γ M = (go Γ M).bind fun x M1 => if isListD M1 x = true then (ge Γ M1).bind fun y M2 => opR (f M2 x y) M2 else .bad := Eq.trans rfl rfl
@[simp] theorem u_gRevL (ge : GE) (Γ : Env) (M : List MO) : gRevL ge Γ M = (ge Γ M).bind fun x M1 => opR (dRevL M1 x) M1 := Eq.trans rfl rfl
@[simp] theorem u_gSortR (ge : GE) (Γ : Env) (M : List MO) : gSortR ge Γ M = (ge Γ M).bind fun x M1 => opR (dSortR M1 x) M1 := Eq.trans rfl rfl
@[simp] theorem e_abs (M : List MO) (i : Int) : dAbs M (.int i) = some (.int (if i < 0 then -i else i)) := Eq.trans rfl rfl
theorem e_cnt (M : List MO) (is : List Int) (k : Int) : dCnt M (.lst (is.map D.int)) (.int k) = some (.int (is.count k : Nat)) := by
  simp only [dCnt, listD, Option.bind_some, intsD_map]
@[simp] theorem e_revL (M : List MO) (ds : List D) : dRevL M (.lst ds) = some (.lst ds.reverse) := Eq.trans rfl rfl
@[simp] theorem e_clear (ds : List D) : mClear ds = some ([], .non) := Eq.trans rfl rfl
end Bk

set_option Elab.async false
set_option linter.all false
set_option maxRecDepth 100000
set_option maxHeartbeats 2000000
namespace Bk
open PySem PySem.Spec PyProof.Rows L2
/-! ### defs that work on the caller's whole store: things within things go in and come back -/
def finW : RS → R D
  | .rt d M' => .ok d M'
  | .nx _ M' => .ok .non M'
  | .exc c d _ M' => .exc c d M'
  | _ => .bad
def runW (n : Nat) (g : GS) (ds : List D) (M : List MO) : R D := finW (g (ds.map some ++ List.replicate (n - ds.length) none) M)
def callW (F : List D → List MO → R D) (ds : List D) (M : List MO) : R D := F ds M
def gCallW (n : Nat) (F : List D → List MO → R D) (ga : GA) : GE := fun Γ M => (ga Γ M).bind fun ds M1 => if ds.length = n then callW F ds M1 else .bad
def gCallWK (n : Nat) (F : List D → List MO → R D) (is : List Nat) (ga gk : GA) : GE := fun Γ M => (ga Γ M).bind fun ds M1 => (gk Γ M1).bind fun es M2 => if (pick (ds ++ es) is).length = n then callW F (pick (ds ++ es) is) M2 else .bad
section
variable {K : PySem.W.Frag} {C : CT} {H Z : Hp} {ι : Nat → Addr} {M : List MO} {E : XK} {Q : VK}
theorem finW_run {X : Cx} {W : WX} {r : RS} (hW : ∀ c d σ H, E c d H → W c d σ H) (eK : X.K = K) (h : PostF K C E H Z ι M (finW r) Q) : PostS X C W H Z ι M r { nx := fun _ H' => Q .non H', rt := Q } := by
  subst eK
  cases r with
  | bad => exact h
  | bk Γ M' => exact h.elim
  | ct Γ M' => exact h.elim
  | nx Γ M' => exact fun σ' H' Z' ι' e hr sl => h .non H' Z' ι' e hr .non
  | rt d M' => exact fun v H' Z' ι' e hr r => h v H' Z' ι' e hr r
  | exc n d Γ M' => exact fun cls dd σ' H' Z' ι' e hr sl x => hW _ _ _ _ (h cls dd H' Z' ι' e hr x)
end
section
variable {P : Program} {w : World} {K : PySem.W.Frag} {mg : Str → Option Value} {base : Heap} {C : CT}
/-- a def whose store stays whole -/
theorem fqW_of {x qual : Str} {st : Stmt} {f : Addr} {fd : FuncData} {N ps : List Str} {k : Nat} {g : GS} (F : Fun K x qual st f fd) (S : FnScope N ps (defScope st))
    (hbody : ∀ (cdv : Value) (A : Around) (outer : List PySem.Env) (s : Shared) (H : Hp) (E : XK), Room k (A.deeper (envOfC qual (defScope st) s.heap.objs.size f cdv)) → A.guards = some [] →
      QSs (cxOf (L2.CX P w) P w K mg base N qual (defScope st) f cdv A outer s H E) C (fun cls d _ H => E cls d H) (defBody st) g) : FnQ P w K mg base C (k + 1) f fd ps (runW N.length g) := by
  obtain ⟨oc, od, kV, doc, pm, an, cdv, ct, osl, rfl, lk, hcd⟩ := F.ex
  refine ⟨fun A outer s H args us vs Q E ds Z ι M room hgu env0 hbind rvs hlen rds hr hpost => ?_⟩
  have hK : K.In s.heap := env0.mod.kin.keeps fun b o z => (env0.bs b o z).1
  have hlim : s.heap.NoLimit := env0.mod.nolimit.keeps fun b o z => (env0.bs b o z).1
  have kinds : ∀ y ∈ ps.zip us, (defScope st).names.lookup y.1 = some .local ∨ ((defScope st).names.lookup y.1 = some .cell ∧ ((cellsFrom (s.heap.objs.size + 1) (defScope st).names []).lookup y.1).isSome = true) := fun y hy => by
    rcases S.par y.1 (List.of_mem_zip (a := y.1) (b := y.2) hy).1 with z | z
    · exact .inl z
    · exact .inr ⟨z, PySem.W.cellsFrom_some _ _ _ (.inl z)⟩
  refine codeAny_call_function room.depth (hK _ _ lk) rfl S.co S.gen rfl (PySem.W.codeRec_of hK hcd) (hbind _ _ _ _ (wpAny_newFunctionEnv_cells S.kind kinds fun env he s1 ic => ?_))
  subst he
  refine ⟨hlim.keeps ic.toInCall.keep, codeAny_func ?_⟩
  obtain ⟨ts, pts, qts⟩ := hbody cdv A outer s H E (room.deeper _) hgu
  have J : Inv (cxOf (L2.CX P w) P w K mg base N qual (defScope st) f cdv A outer s H E) [] (L2.start N vs) H s1 := inv_start S room.hd env0 hlen rvs ic
  have lN : vs.length ≤ N.length := by
    have z := congrArg List.length S.pre
    rw [List.length_take] at z
    omega
  have hq := qts _ (L2.start N vs) H Z ι _ M (slots_start rds lN) hr (finW_run (E := E) (fun _ _ _ _ z => z) rfl hpost)
  refine wpAny_mono (pts.run [] s1 _ H _ J hq) (fun fl s' hs => ?_) fun _ _ hs => hs
  have ends : ∀ {σ' : L2.St} {H' : Hp} {v : V} {u : Value}, Inv (cxOf (L2.CX P w) P w K mg base N qual (defScope st) f cdv A outer s H E) [] σ' H' s' → RelV v u → Q v H' → CE outer P w H s Q u s' :=
    fun {σ' H' v u} J2 rv q => ⟨v, H', J2.os, J2.bare, J2.base, J2.hok, rv, q⟩
  cases fl with
  | ret u => exact let ⟨v, σ', H', J2, rv, q⟩ := hs; ends J2 rv q
  | next => exact let ⟨σ', H', J2, q⟩ := hs; ends (v := V.non) (u := Value.none) J2 rfl q
  | brk => exact let ⟨_, _, _, q⟩ := hs; q.elim
  | cont => exact let ⟨_, _, _, q⟩ := hs; q.elim
end
section
variable {X : Cx} {C : CT} {W : WX} {k : Nat} {f : Addr} {fd : FuncData} {ps : List Str} {F : List D → List MO → R D} {x : Str} {p pos : Pos} {e : Expr} {es : List Expr} {gs : GA}
theorem whole_post {σ : St} {H Z : Hp} {ι : Nat → Addr} {ds : List D} {vs : List V} {M : List MO} {Q : VK} (hr : HR X.K H Z ι M) (r : Rps X.K Z ι M.length ds vs) (hl : vs.length = ps.length) (h : Post X C W (rpE X.K) σ H Z ι M (callW F ds M) Q) : rCallQ X.K C ps F (WE W σ) vs H Q := by
  refine ⟨hl, ds, Z, ι, M, r, hr, ?_⟩
  have h' : Post X C W (rpE X.K) σ H Z ι M (F ds M) Q := h
  cases e : F ds M with
  | bad => rw [e] at h'; exact h'.elim
  | ok d M' => rw [e] at h'; exact h'
  | exc c d M' => rw [e] at h'; exact h'
theorem qe_callW {n : Nat} (F0 : FnQ X.prog X.w X.K X.mg X.base C k f fd ps F) (hr : Room k X.A) (hgu : X.A.guards = some []) (tk : Takes X W) (hg : Gl X x) (hm : X.mg x = some (.ref f)) (hk : PySem.W.keepIn X.K (.ref f) = true) (hb : Binds X.K fd ps []) (ha : QA X C W (e :: es) gs) (hn : n = ps.length := by rfl)
    (hdb : (x == ("__debug__" : Str)) = false := by decide) (he : starEach (e :: es) X.env = (false, eval e X.env) :: starEach es X.env := by rfl) (hpl : (backTo pos (starEach es X.env)).any (·.1) = false := by rfl) :
    QE X C W (.Call (.Name x p) (e :: es) [] pos) (gCallW n F gs) := by
  subst hn
  obtain ⟨ta, pa, qa⟩ := ha
  refine ⟨fun σ H Q => ta σ H fun vs H1 => rCallQ X.K C ps F (WE W σ) vs H1 Q, ⟨fun pins s σ H Q I h => wpAny_Call_Name_kw (ld_glob I hg hm ?_ hdb)⟩, fun σ H Z ι Γ M Q sl hr h => qa σ H Z ι Γ M _ sl hr (h.bind fun ds M1 vs H1 Z1 ι1 e1 hr1 r1 h1 => ?_)⟩
  · refine PySem.W.callWith_K (h₀ := X.base) I.ok.mod.kin hk (thn (pa.run pos pins s σ H _ I h) fun us s1 hh => ?_) he hpl
    obtain ⟨vs, H1, J, r, q⟩ := hh
    have hl : us.length = ps.length := r.length.symm.trans q.1
    have hbb := hb s1 us J.kIn (by rw [List.append_nil]; exact hl)
    rw [List.append_nil] at hbb
    exact ⟨J.kIn, run_call F0 hr hgu tk J hbb r q⟩
  · by_cases c : ds.length = ps.length
    · rw [if_pos c] at h1
      exact whole_post hr1 r1 (by rw [← r1.length]; exact c) h1
    · rw [if_neg c] at h1
      exact h1.elim
variable {kws : List Keyword} {gk : GA} {ks : List Str} {is : List Nat} {np : Nat}
/-- f(k = v, ..) -/
theorem qe_callWK0 {n : Nat} (F0 : FnQ X.prog X.w X.K X.mg X.base C k f fd ps F) (hr : Room k X.A) (hgu : X.A.guards = some []) (tk : Takes X W) (hg : Gl X x) (hm : X.mg x = some (.ref f)) (hk : PySem.W.keepIn X.K (.ref f) = true) (hb : KwBinds X.K fd ps ks 0 is) (hkw : QK X C W kws gk)
    (hlen : ∀ (Γ : Env) (M M' : List MO) (ds : List D), gk Γ M = .ok ds M' → ds.length = ks.length) (hn : n = ps.length := by rfl)
    (hall : (backToKw pos (keywordEach kws X.env)).all (·.1.isSome) = true := by rfl) (hks : (backToKw pos (keywordEach kws X.env)).filterMap (·.1) = ks := by rfl) (hdb : (x == ("__debug__" : Str)) = false := by decide)
    (hpl : ((backTo pos (starEach [] X.env)).any (·.1) || (backToKw pos (keywordEach kws X.env)).any (·.1.isNone)) = false := by rfl) :
    QE X C W (.Call (.Name x p) [] kws pos) (gCallWK n F is gNil gk) := by
  subst hn
  obtain ⟨tk', pk, qk⟩ := hkw
  refine ⟨fun σ H Q => tk' σ H fun zs H2 => zs.length = ks.length ∧ rCallQ X.K C ps F (WE W σ) (pick zs is) H2 Q, ⟨fun pins s σ H Q I h => wpAny_Call_Name_kw (ld_glob I hg hm ?_ hdb)⟩, fun σ H Z ι Γ M Q sl hr h => ?_⟩
  · refine PySem.W.callWith_KW0 (h₀ := X.base) I.ok.mod.kin hk hall (thn (pk.run pos pins s σ H _ I h) fun ws s2 hh => ?_) hpl
    obtain ⟨zs, H2, J, r, hz, q⟩ := hh
    have hl : ws.length = ks.length := r.length.symm.trans hz
    refine ⟨J.kIn, ?_⟩
    rw [hks]
    exact run_call (us := []) F0 hr hgu tk J (by simpa using hb s2 [] ws J.kIn rfl hl) (vals_pick r is) q
  · have h1 : Post X C W (rpE X.K) σ H Z ι M ((gk Γ M).bind fun es M2 => if (pick ([] ++ es) is).length = ps.length then callW F (pick ([] ++ es) is) M2 else .bad) Q := h
    cases eg : gk Γ M with
    | bad => rw [eg] at h1; exact h1.elim
    | exc c d M' =>
      refine qk σ H Z ι Γ M _ sl hr ?_
      rw [eg] at h1 ⊢
      exact h1
    | ok es M' =>
      refine qk σ H Z ι Γ M _ sl hr ?_
      have hle := hlen _ _ _ _ eg
      rw [eg] at h1 ⊢
      intro vs H1 Z1 ι1 e1 hr1 r1
      have h2 : Post X C W (rpE X.K) σ H Z ι M (if (pick es is).length = ps.length then callW F (pick es is) M' else .bad) Q := h1
      have r2 := rps_pick r1 is
      refine ⟨by rw [← r1.length]; exact hle, ?_⟩
      by_cases c : (pick es is).length = ps.length
      · rw [if_pos c] at h2
        exact whole_post hr1 r2 (by rw [← r2.length]; exact c) (Post.shift h2 e1 hr1)
      · rw [if_neg c] at h2
        exact h2.elim
end
@[simp] theorem u_gCallW (n : Nat) (F : List D → List MO → R D) (ga : GA) (Γ : Env) (M : List MO) : gCallW n F ga Γ M = (ga Γ M).bind fun ds M1 => if ds.length = n then callW F ds M1 else .bad := Eq.trans rfl rfl
@[simp] theorem u_gCallWK (n : Nat) (F : List D → List MO → R D) (is : List Nat) (ga gk : GA) (Γ : Env) (M : List MO) : gCallWK n F is ga gk Γ M = (ga Γ M).bind fun ds M1 => (gk Γ M1).bind fun es M2 => if (pick (ds ++ es) is).length = n then callW F (pick (ds ++ es) is) M2 else .bad := Eq.trans rfl rfl
@[simp] theorem fw_rt (d : D) (M : List MO) : finW (.rt d M) = .ok d M := Eq.trans rfl rfl
@[simp] theorem fw_nx (Γ : Env) (M : List MO) : finW (.nx Γ M) = .ok .non M := Eq.trans rfl rfl
@[simp] theorem fw_ex (c : Nat) (d : D) (Γ : Env) (M : List MO) : finW (.exc c d Γ M) = .exc c d M := Eq.trans rfl rfl
end Bk

set_option Elab.async false
set_option linter.all false
set_option maxRecDepth 100000
set_option maxHeartbeats 2000000
namespace Bk
open PySem PySem.Spec PyProof.Rows L2
/-! ### keys -/
mutual
/-- the key that a tree is -/
def keyD : D → Option NestedKey
  | .non => some .none
  | .int i => some (.num i)
  | .tup ds => (keysD ds).map .tup
  | .ptu ds => (keysD ds).map .tup
  | _ => none
def keysD : List D → Option (List NestedKey)
  | [] => some []
  | d :: ds => match keyD d, keysD ds with
    | some k, some ks => some (k :: ks)
    | _, _ => none
end
section
variable {K : PySem.W.Frag} {H Z : Hp} {ι : Nat → Addr} {n : Nat}
mutual
theorem keyD_run (hz : Sub Z H) : ∀ (d : D) (v : V) (k : NestedKey), Rp K Z ι n d v → keyD d = some k → KeyV K H k v
  | .non, _, _, h, e => by cases h; cases e; exact .non
  | .bl _, _, _, _, e => by cases e
  | .int i, _, _, h, e => by cases h; cases e; exact .int i
  | .str _, _, _, _, e => by cases e
  | .tup ds, _, _, h, e => by
    cases h with
    | tup s r =>
      have e' : (keysD ds).map NestedKey.tup = some _ := e
      cases e2 : keysD ds with
      | none => rw [e2] at e'; cases e'
      | some ks =>
        rw [e2] at e'
        cases e'
        exact .tup (subT hz s) (keysD_run hz ds _ ks r e2)
  | .lst _, _, _, _, e => by cases e
  | .ref _, _, _, _, e => by cases e
  | .dct _ _, _, _, _, e => by cases e
  | .ptu ds, _, _, h, e => by
    cases h with
    | ptu s r =>
      have e' : (keysD ds).map NestedKey.tup = some _ := e
      cases e2 : keysD ds with
      | none => rw [e2] at e'; cases e'
      | some ks =>
        rw [e2] at e'
        cases e'
        exact .tup (subT hz s.sq) (keysD_run hz ds _ ks r e2)
theorem keysD_run (hz : Sub Z H) : ∀ (ds : List D) (vs : List V) (ks : List NestedKey), Rps K Z ι n ds vs → keysD ds = some ks → KeyVs K H ks vs
  | [], _, _, h, e => by cases h; cases e; exact .nil
  | d :: ds, _, _, h, e => by
    cases h with
    | cons r s =>
      have e' : (match keyD d, keysD ds with
        | some k, some ks => some (k :: ks)
        | _, _ => none) = some _ := e
      cases e1 : keyD d with
      | none => rw [e1] at e'; cases e'
      | some k =>
        cases e2 : keysD ds with
        | none => rw [e1, e2] at e'; cases e'
        | some ks =>
          rw [e1, e2] at e'
          cases e'
          exact .cons (keyD_run hz d _ k r e1) (keysD_run hz ds _ ks s e2)
end
end
section
variable {X : Cx} {pins : List (Addr × Obj)} {σ : L2.St} {H : Hp} {s : Shared}
mutual
theorem KeyV.is (I : Inv X pins σ H s) : ∀ (k : NestedKey) (v : V) (u : Value), KeyV X.K H k v → RelV v u → NestedIs s.heap k u
  | .none, _, _, h, r => by
    cases h
    have r' : _ = Value.none := r
    rw [r']
    exact .none
  | .num i, _, _, h, r => by
    cases h
    obtain ⟨t, rfl⟩ := r
    exact .int i t
  | .text _, _, _, h, _ => by cases h
  | .tup ks, _, _, h, r => by
    cases h with
    | tup sq kv =>
      have r' : _ = Value.ref _ := r
      rw [r']
      obtain ⟨its, rv, ⟨o, ho, hc, m, hd⟩, _⟩ := I.tuple sq
      exact .tup ho hc hd (by simpa using KeyVs.is I ks _ _ kv rv)
theorem KeyVs.is (I : Inv X pins σ H s) : ∀ (ks : List NestedKey) (vs : List V) (us : List Value), KeyVs X.K H ks vs → Vals vs us → NestedAll s.heap ks us
  | [], _, _, h, r => by
    cases h
    cases r
    exact .nil
  | k :: ks, _, _, h, r => by
    cases h with
    | cons h1 h2 =>
      cases r with
      | cons r1 r2 => exact .cons (KeyV.is I k _ _ h1 r1) (KeyVs.is I ks _ _ h2 r2)
end
abbrev NK (X : Cx) := nestedKind X.prog X.w
/-- a dict as the library tells of it -/
theorem Ents.trip (I : Inv X pins σ H s) : ∀ {nks : List NestedKey} {ks vs : List V} {es : List DictEntry}, Ents X.K H nks ks vs es → AllRef ks →
    ∃ xs : List (NestedKey × Addr × Value), es = xs.map (entryOfKey (NK X)) ∧ xs.map (·.1) = nks ∧ (∀ x ∈ xs, (NK X).is s.heap x.1 x.2.1) ∧ xs.length = vs.length ∧ ∀ (i : Nat) (v : V), vs[i]? = some v → ∃ x, xs[i]? = some x ∧ RelV v x.2.2
  | _, _, _, _, .nil, _ => ⟨[], rfl, rfl, by simp, rfl, by simp⟩
  | _, _, _, _, .cons (k := k) (y := y) (ku := ku) (v := v) (u := u) (hs := hs) a ry d h r t, hr => by
    obtain ⟨xs, e1, e2, e3, e4, e5⟩ := Ents.trip I t fun x hx => hr x (List.mem_cons_of_mem _ hx)
    obtain ⟨b, rfl⟩ := hr y (List.mem_cons_self)
    obtain rfl : ku = Value.ref b := ry
    refine ⟨(k, b, u) :: xs, ?_, by simp [e2], fun x hx => ?_, by simp [e4], fun i w hw => ?_⟩
    · rw [List.map_cons, ← e1]
      congr 1
      show (⟨hs, .ref b, u⟩ : DictEntry) = ⟨k.hash X.w, .ref b, u⟩
      rw [h X.w]
    · rcases List.mem_cons.mp hx with rfl | hx
      · exact ⟨KeyV.is I k _ _ a rfl, d⟩
      · exact e3 x hx
    · cases i with
      | zero =>
        have : v = w := by simpa using hw
        subst this
        exact ⟨(k, b, u), rfl, r⟩
      | succ i =>
        obtain ⟨x, hx, rx⟩ := e5 i w (by simpa using hw)
        exact ⟨x, by simpa using hx, rx⟩
theorem ExD.of (I : Inv X pins σ H s) {a : Addr} {nks : List NestedKey} {ks vs : List V} (h : ExD X.K H a nks ks vs) (hrf : AllRef ks) :
    ∃ xs : List (NestedKey × Addr × Value), s.heap.DictOfH (NK X) a xs ∧ xs.map (·.1) = nks ∧ xs.length = vs.length ∧ ∀ (i : Nat) (v : V), vs[i]? = some v → ∃ x, xs[i]? = some x ∧ RelV v x.2.2 := by
  obtain ⟨es, ep, h1, h2, h3, h4, h5⟩ := h
  obtain ⟨xs, e1, e2, e3, e4, e5⟩ := Ents.trip I h5 hrf
  obtain ⟨⟨o, ho, hx, hd⟩, _, _⟩ := I.hok a _ h1
  exact ⟨xs, ⟨o, es, ep, ho, hx, hd, e1, e3, by rw [e2]; exact h4⟩, e2, e4, e5⟩
theorem atKey_at {xs : List (NestedKey × Addr × Value)} (hn : (xs.map (·.1)).Nodup) {i : Nat} {x : NestedKey × Addr × Value} (h : xs[i]? = some x) : atKey xs x.1 = some x.2 := by
  induction xs generalizing i with
  | nil => simp at h
  | cons y ys ih =>
    rw [List.map_cons, List.nodup_cons] at hn
    unfold atKey
    rw [List.find?_cons]
    cases i with
    | zero =>
      have : y = x := by simpa using h
      subst this
      simp
    | succ i =>
      have h' : ys[i]? = some x := by simpa using h
      have ne : y.1 ≠ x.1 := fun e => hn.1 (by rw [e]; exact List.mem_map.mpr ⟨x, List.mem_of_getElem? h', rfl⟩)
      simp only [decide_eq_false ne]
      exact ih hn.2 h'
theorem atKey_none {xs : List (NestedKey × Addr × Value)} {k : NestedKey} (h : k ∉ xs.map (·.1)) : atKey xs k = none := by
  unfold atKey
  rw [Option.map_eq_none_iff, List.find?_eq_none]
  intro x hx
  simp only [decide_eq_true_eq]
  exact fun e => h (e ▸ List.mem_map.mpr ⟨x, hx, rfl⟩)
end
theorem Ents.keys {K : PySem.W.Frag} {Z : Hp} : ∀ {nks : List NestedKey} {ks vs : List V} {es : List DictEntry}, Ents K Z nks ks vs es → KeyVs K Z nks ks ∧ ∃ us, Vals ks us
  | _, _, _, _, .nil => ⟨.nil, [], .nil⟩
  | _, _, _, _, .cons (ku := ku) a ry d h r t => by
    obtain ⟨h1, us, h2⟩ := Ents.keys t
    exact ⟨.cons a h1, ku :: us, .cons ry h2⟩
theorem ExD.keys {X : Cx} {pins : List (Addr × Obj)} {σ : L2.St} {H : Hp} {s : Shared} (I : Inv X pins σ H s) {a : Addr} {nks nks' : List NestedKey} {ks vs : List V} (h : ExD X.K H a nks ks vs) (h' : KeyVs X.K H nks' ks) : nks = nks' := by
  obtain ⟨es, ep, h1, h2, h3, h4, h5⟩ := h
  obtain ⟨k1, us, k2⟩ := h5.keys
  exact NestedAll.inj _ _ _ (KeyVs.is I _ _ _ k1 k2) (KeyVs.is I _ _ _ h' k2)
def posK (k : NestedKey) : List NestedKey → Option Nat
  | [] => none
  | x :: xs => if x = k then some 0 else (posK k xs).map (· + 1)
theorem posK_at {k : NestedKey} : ∀ {xs : List NestedKey} {i : Nat}, posK k xs = some i → xs[i]? = some k
  | [], _, h => by cases h
  | x :: xs, i, h => by
    unfold posK at h
    by_cases e : x = k
    · rw [if_pos e] at h
      cases h
      rw [e]
      rfl
    · rw [if_neg e] at h
      cases p : posK k xs with
      | none => rw [p] at h; cases h
      | some j =>
        rw [p] at h
        cases h
        simpa using posK_at p
theorem posK_none {k : NestedKey} : ∀ {xs : List NestedKey}, posK k xs = none → k ∉ xs
  | [], _ => by simp
  | x :: xs, h => by
    unfold posK at h
    by_cases e : x = k
    · rw [if_pos e] at h; cases h
    · rw [if_neg e] at h
      cases p : posK k xs with
      | some j => rw [p] at h; cases h
      | none =>
        intro m
        rcases List.mem_cons.mp m with z | z
        · exact e z.symm
        · exact posK_none p z
/-! ### d[k] -/
def rIxN (K : PySem.W.Frag) : R2 := fun x y H Q => ∃ (a b : Addr) (nks nks' : List NestedKey) (ks vs : List V) (k : NestedKey) (i : Nat) (v : V), x = .ref a ∧ y = .ref b ∧ AllRef ks ∧ ExD K H a nks ks vs ∧ KeyVs K H nks' ks ∧ KeyV K H k (.ref b) ∧ k.depth ≤ 8 ∧ nks'[i]? = some k ∧ vs[i]? = some v ∧ Q v H
theorem room8 {k : Nat} {A : Around} (hr : Room k A) : A.units + 1 + 8 < cLine := by have := hr.un; omega
theorem ix_nkey {X : Cx} (hu : X.A.units + 1 + 8 < cLine) : IxR X (rIxN X.K) := by
  intro value slice pins s σ H x y v u Q I rx ry h hs
  obtain ⟨a, b, nks, nks', ks, vs, k, i, w, rfl, rfl, hrf, hd, hks, hk, hdp, hi, hv, q⟩ := h
  obtain rfl : v = Value.ref a := rx
  obtain rfl : u = Value.ref b := ry
  have en := hd.keys I hks
  subst en
  obtain ⟨xs, dd, e2, e4, e5⟩ := hd.of I hrf
  obtain ⟨x, hx, rx⟩ := e5 i w hv
  have n : xs.map (·.1) = nks := e2
  have kx : x.1 = k := by
    have : (xs.map (·.1))[i]? = some x.1 := by rw [List.getElem?_map, hx]; rfl
    rw [n, hi] at this
    exact (Option.some.inj this).symm
  have nd : (xs.map (·.1)).Nodup := by
    obtain ⟨_, _, _, _, _, _, _, _, z⟩ := dd
    exact z
  have ak := atKey_at nd hx
  rw [kx] at ak
  have hkey : (NK X).is s.heap k b := ⟨KeyV.is I k _ _ hk rfl, hdp⟩
  exact tail_any dd.typeIs slot_dict_getitem.lookup (wpAny_getItem_heap (show (NK X).room X.A.in1 from hu) hkey dd ak ⟨w, H, I.tok _, rx, q⟩) hs
def isTup : D → Bool
  | .tup _ => true
  | .ptu _ => true
  | _ => false
/-- the place of a key, and the value there -/
def lookD (ks vs : List D) (y : D) : Option (Option D) := match keysD ks, keyD y with
  | some nks, some k => if (ks.all isTup && isTup y && decide (k.depth ≤ 8)) = true then some ((posK k nks).bind fun i => vs[i]?) else none
  | _, _ => none
/-- a dict, frozen or ours -/
def dctD (M : List MO) : D → Option (List D × List D)
  | .dct ks vs => some (ks, vs)
  | .ref k => match M[k]? with
    | some (.dct ks vs) => some (ks, vs)
    | _ => none
  | _ => none
def dIxN (M : List MO) (x y : D) : Option D := match dctD M x with
  | some p => (lookD p.1 p.2 y).bind id
  | none => dIx M x y
section
variable {X : Cx}
theorem dctD_run {H Z : Hp} {ι : Nat → Addr} {M : List MO} {d : D} {v : V} {p : List D × List D} (hr : HR X.K H Z ι M) (r : Rp X.K Z ι M.length d v) (e : dctD M d = some p) :
    ∃ (a : Addr) (nks : List NestedKey) (kx xs : List V), v = .ref a ∧ ExD X.K H a nks kx xs ∧ Rps X.K Z ι M.length p.1 kx ∧ Rps X.K Z ι M.length p.2 xs := by
  cases r with
  | dct s rk rv =>
    cases e
    exact ⟨_, _, _, _, rfl, subD hr.sub s, rk, rv⟩
  | ref hk =>
    rename_i k
    have e' : (match M[k]? with
      | some (.dct ks vs) => some (ks, vs)
      | _ => none) = some p := e
    cases e1 : M[k]? with
    | none => rw [e1] at e'; cases e'
    | some o =>
      rw [e1] at e'
      cases o with
      | dct ks vs =>
        cases e'
        obtain ⟨nks, kx, xs, ⟨es, ep, h1, h2, h3, h4, h5⟩, rk, rv⟩ := hr.obj k _ e1
        exact ⟨_, nks, kx, xs, rfl, ⟨es, ep, h1, h2, h3, h4, h5.sub hr.sub⟩, rk, rv⟩
      | _ => cases e'
  | _ => cases e
theorem tups_ref {Z : Hp} {ι : Nat → Addr} {n : Nat} : ∀ {ks : List D} {kx : List V}, Rps X.K Z ι n ks kx → ks.all isTup = true → AllRef kx
  | [], _, h, _ => by cases h; intro x hx; cases hx
  | d :: ks, _, h, e => by
    cases h with
    | cons r s =>
      rw [List.all_cons, Bool.and_eq_true] at e
      intro x hx
      rcases List.mem_cons.mp hx with rfl | hx
      · cases r with
        | tup _ _ => exact ⟨_, rfl⟩
        | ptu _ _ => exact ⟨_, rfl⟩
        | _ => cases e.1
      · exact tups_ref s e.2 x hx
theorem look_run {H Z : Hp} {ι : Nat → Addr} {M : List MO} {d dy : D} {x y : V} {p : List D × List D} {o : Option D} (hr : HR X.K H Z ι M) (rx : Rp X.K Z ι M.length d x) (ry : Rp X.K Z ι M.length dy y) (ed : dctD M d = some p) (e : lookD p.1 p.2 dy = some o) :
    ∃ (a b : Addr) (nks nks' : List NestedKey) (kx xs : List V) (k : NestedKey), x = .ref a ∧ y = .ref b ∧ AllRef kx ∧ ExD X.K H a nks kx xs ∧ KeyVs X.K H nks' kx ∧ KeyV X.K H k (.ref b) ∧ k.depth ≤ 8 ∧ Rps X.K Z ι M.length p.2 xs ∧ o = (posK k nks').bind fun i => p.2[i]? := by
  obtain ⟨a, nks, kx, xs, h1, h2, h3, h4⟩ := dctD_run hr rx ed
  unfold lookD at e
  cases e1 : keysD p.1 with
  | none => rw [e1] at e; cases e
  | some nks' =>
    cases e2 : keyD dy with
    | none => rw [e1, e2] at e; cases e
    | some k =>
      rw [e1, e2] at e
      simp only at e
      by_cases c : (p.1.all isTup && isTup dy && decide (k.depth ≤ 8)) = true
      · rw [if_pos c] at e
        cases e
        simp only [Bool.and_eq_true, decide_eq_true_eq] at c
        obtain ⟨⟨c1, c2⟩, c3⟩ := c
        have kv := keyD_run hr.sub _ _ _ ry e2
        have kvs := keysD_run hr.sub _ _ _ h3 e1
        cases dy with
        | tup ds =>
          cases ry with
          | tup sq r => exact ⟨_, _, _, nks', _, _, k, h1, rfl, tups_ref h3 c1, h2, kvs, kv, c3, h4, rfl⟩
        | ptu ds =>
          cases ry with
          | ptu sq r => exact ⟨_, _, _, nks', _, _, k, h1, rfl, tups_ref h3 c1, h2, kvs, kv, c3, h4, rfl⟩
        | _ => cases c2
      · rw [if_neg c] at e
        cases e
theorem ix_N (hu : X.A.units + 1 + 8 < cLine) : IxR X (fun x y H Q => rIxN X.K x y H Q ∨ rIxA X.K x y H Q) := (ix_nkey hu).or ix_A
theorem ok_ixN : Ok2 X (fun x y H Q => rIxN X.K x y H Q ∨ rIxA X.K x y H Q) dIxN := fun x y H Z ι M dx dy d Q hr rx ry e q => by
  unfold dIxN at e
  cases ed : dctD M dx with
  | some p =>
    rw [ed] at e
    simp only at e
    cases e1 : lookD p.1 p.2 dy with
    | none => rw [e1] at e; cases e
    | some o =>
      rw [e1] at e
      have e' : o = some d := e
      subst e'
      obtain ⟨a, b, nks, nks', kx, xs, k, h1, h2, h2', h3, h4, h5, h6, h7, h8⟩ := look_run hr rx ry ed e1
      cases p' : posK k nks' with
      | none => rw [p'] at h8; cases h8
      | some i =>
        rw [p'] at h8
        obtain ⟨v, hv, rv⟩ := h7.get (i := i) h8.symm
        exact .inl ⟨a, b, nks, nks', kx, xs, k, i, v, h1, h2, h2', h3, h4, h5, h6, posK_at p', hv, q.now hr rv⟩
  | none =>
    rw [ed] at e
    exact .inr (ok_ix x y H Z ι M dx dy d Q hr rx ry e q)
end
end Bk

set_option Elab.async false
set_option linter.all false
set_option maxRecDepth 100000
set_option maxHeartbeats 2000000
namespace Bk
open PySem PySem.Spec PyProof.Rows L2
/-! ### d[k] = v for a dict that is being made -/
section
variable {K : PySem.W.Frag} {Z Z' : Hp}
mutual
theorem KeyV.map (ht : ∀ (a : Addr) (xs : List V), SqT K Z a xs → SqT K Z' a xs) : ∀ (k : NestedKey) (v : V), KeyV K Z k v → KeyV K Z' k v
  | .none, _, h => by cases h; exact .non
  | .num i, _, h => by cases h; exact .int i
  | .text x, _, h => by cases h
  | .tup ks, _, h => by
    cases h with
    | tup s r => exact .tup (ht _ _ s) (KeyVs.map ht ks _ r)
theorem KeyVs.map (ht : ∀ (a : Addr) (xs : List V), SqT K Z a xs → SqT K Z' a xs) : ∀ (ks : List NestedKey) (vs : List V), KeyVs K Z ks vs → KeyVs K Z' ks vs
  | [], _, h => by cases h; exact .nil
  | k :: ks, _, h => by
    cases h with
    | cons r s => exact .cons (KeyV.map ht k _ r) (KeyVs.map ht ks _ s)
end
mutual
/-- no text in a key: its hash is the same in every world -/
theorem KeyV.free : ∀ (k : NestedKey) (v : V), KeyV K Z k v → ∀ w w' : World, k.hash w = k.hash w'
  | .none, _, _, _, _ => rfl
  | .num _, _, _, _, _ => rfl
  | .text _, _, h, _, _ => by cases h
  | .tup ks, _, h, w, w' => by
    cases h with
    | tup s r =>
      unfold NestedKey.hash
      rw [KeyVs.free ks _ r w w']
theorem KeyVs.free : ∀ (ks : List NestedKey) (vs : List V), KeyVs K Z ks vs → ∀ w w' : World, NestedKey.hashes w ks = NestedKey.hashes w' ks
  | [], _, _, _, _ => rfl
  | k :: ks, _, h, w, w' => by
    cases h with
    | cons r s =>
      unfold NestedKey.hashes
      rw [KeyV.free k _ r w w', KeyVs.free ks _ s w w']
end
theorem Ents.map (ht : ∀ (a : Addr) (xs : List V), SqT K Z a xs → SqT K Z' a xs) : ∀ {ks : List NestedKey} {kv vs : List V} {es : List DictEntry}, Ents K Z ks kv vs es → Ents K Z' ks kv vs es
  | _, _, _, _, .nil => .nil
  | _, _, _, _, .cons a y b c d e => .cons (KeyV.map ht _ _ a) y b c d (Ents.map ht e)
theorem Ents.snoc {k : NestedKey} {y : V} {ku : Value} {z : V} {r : Value} {hs : Int} (hk : KeyV K Z k y) (hy : RelV y ku) (hd : k.depth ≤ 8) (hh : ∀ w : World, hs = k.hash w) (hr : RelV z r) : ∀ {nks : List NestedKey} {ks vs : List V} {es : List DictEntry}, Ents K Z nks ks vs es →
    Ents K Z (nks ++ [k]) (ks ++ [y]) (vs ++ [z]) (es ++ [⟨hs, ku, r⟩])
  | _, _, _, _, .nil => .cons hk hy hd hh hr .nil
  | _, _, _, _, .cons a y b c d e => .cons a y b c d (Ents.snoc hk hy hd hh hr e)
/-- another value at a place -/
def setV (r : Value) : Nat → List DictEntry → List DictEntry
  | _, [] => []
  | 0, e :: es => ⟨e.hash, e.key, r⟩ :: es
  | i + 1, e :: es => e :: setV r i es
theorem Ents.setv {z : V} {r : Value} (hr : RelV z r) : ∀ (i : Nat) {nks : List NestedKey} {ks vs : List V} {es : List DictEntry}, Ents K Z nks ks vs es → Ents K Z nks ks (vs.set i z) (setV r i es)
  | i, _, _, _, _, .nil => by
    have : (([] : List V).set i z) = [] := rfl
    rw [this]
    cases i <;> exact .nil
  | 0, _, _, _, _, .cons a y b c d e => .cons a y b c hr e
  | i + 1, _, _, _, _, .cons a y b c d e => .cons a y b c d (Ents.setv hr i e)
end
theorem put_old {X : Cx} {k : NestedKey} {r : Value} : ∀ {xs : List (NestedKey × Addr × Value)} {i : Nat}, (xs.map (·.1)).Nodup → (xs.map (·.1))[i]? = some k → (xs.map (putAt k r)).map (entryOfKey (NK X)) = setV r i (xs.map (entryOfKey (NK X)))
  | [], i, _, h => by simp at h
  | x :: xs, 0, hn, h => by
    have e : x.1 = k := by simpa using h
    rw [List.map_cons, List.nodup_cons] at hn
    have rest : xs.map (putAt k r) = xs := by
      conv => rhs; rw [← List.map_id xs]
      apply List.map_congr_left
      intro y hy
      have : y.1 ≠ k := fun z => hn.1 (by rw [e, ← z]; exact List.mem_map.mpr ⟨y, hy, rfl⟩)
      unfold putAt
      rw [if_neg this]
      rfl
    rw [List.map_cons, rest, List.map_cons, List.map_cons]
    unfold putAt setV
    rw [if_pos e]
    rfl
  | x :: xs, i + 1, hn, h => by
    rw [List.map_cons, List.nodup_cons] at hn
    have h' : (xs.map (·.1))[i]? = some k := by simpa using h
    have ne : x.1 ≠ k := fun z => hn.1 (by rw [z]; exact List.mem_of_getElem? h')
    have ih := put_old (X := X) (r := r) hn.2 h'
    rw [List.map_cons, List.map_cons, ih]
    unfold putAt
    rw [if_neg ne]
    rfl
section
variable {X : Cx} {pins : List (Addr × Obj)} {σ : L2.St} {H : Hp} {s : Shared}
end
end Bk

set_option Elab.async false
set_option linter.all false
set_option maxRecDepth 100000
set_option maxHeartbeats 2000000
namespace Bk
open PySem PySem.Spec PyProof.Rows L2
/-! ### {k: v for t in it}, keys nested tuples: the dict in the making is an object of its own -/
section
variable {X : Cx} {kx vx tg iter : Expr} {ifs : List Expr} {scope : Scope} {own : List (Str × Nat)} {pos : Pos} {wi : TI} {g : TG} {tt : TT} {tk tv : TE}
end
end Bk

set_option Elab.async false
set_option linter.all false
set_option maxRecDepth 100000
set_option maxHeartbeats 2000000
namespace Bk
open PySem PySem.Spec PyProof.Rows L2
/-! ### dict comprehensions, as trees -/
/-- d[k] = v -/
def putKV (ks vs : List D) (k v : D) : Option (List D × List D) := match keysD ks, keyD k with
  | some nks, some nk => if (isTup k && decide (nk.depth ≤ 8) && decide (vs.length < sizeLine)) = true then (match posK nk nks with
    | some i => some (ks, vs.set i v)
    | none => some (ks ++ [k], vs ++ [v])) else none
  | _, _ => none
def gDcL (gg : GG) (gt : GT) (gk gv : GE) (Γ : Env) : List D → List D → List D → List MO → R D
  | [], ks, vs, M => .ok (.dct ks vs) M
  | d :: ds, ks, vs, M => match gg d Γ with
    | none => .bad
    | some Γ1 => (gt Γ1 M).only fun b M1 => if b = true then (gk Γ1 M1).only fun k M2 => (gv Γ1 M2).only fun v M3 => match putKV ks vs k v with
        | some r => gDcL gg gt gk gv Γ ds r.1 r.2 M3
        | none => .bad
      else gDcL gg gt gk gv Γ ds ks vs M1
def gDc (gi : GI) (gg : GG) (gt : GT) (gk gv : GE) (own : List Nat) : GE := fun Γ M => (gi Γ M).bind fun ds M1 => gDcL gg gt gk gv (forget Γ own) ds [] [] M1
/-- a dict that is being made, as it stands -/
def DI (K : PySem.W.Frag) (H Z : Hp) (ι : Nat → Addr) (n : Nat) (p : Addr) (ks vs : List D) : Prop :=
  ∃ (es : Array DictEntry) (ep : Nat) (nks : List NestedKey) (kx xs : List V), H p = some (dnO p es ep) ∧ Ents K Z nks kx xs es.toList ∧ nks.Nodup ∧ Rps K Z ι n ks kx ∧ Rps K Z ι n vs xs ∧ keysD ks = some nks ∧ kx.length ≤ sizeLine ∧ kx.length = xs.length ∧ AllRef kx
theorem DI.ext {K : PySem.W.Frag} {H Z H1 Z1 : Hp} {ι ι1 : Nat → Addr} {n n1 : Nat} {p : Addr} {ks vs : List D} (h : DI K H Z ι n p ks vs) (od : Odd Z ι n p) (e : Ext H Z ι n H1 Z1 ι1 n1) : DI K H1 Z1 ι1 n1 p ks vs := by
  obtain ⟨es, ep, nks, kx, xs, h1, h2, h3, h4, h5, h6, h7, h8, h9⟩ := h
  exact ⟨es, ep, nks, kx, xs, (od.ext h1 e).2, h2.sub e.zz, h3, h4.ext e, h5.ext e, h6, h7, h8, h9⟩
section
variable {X : Cx} {C : CT} {W : WX}
end
end Bk

set_option Elab.async false
set_option linter.all false
set_option maxRecDepth 100000
set_option maxHeartbeats 2000000
namespace Bk
open PySem PySem.Spec PyProof.Rows L2
/-! ### for k in d -/
section
variable {P : Program} {w : World} {K : PySem.W.Frag} {tg : Expr} {d : Addr} {es : Array DictEntry} {ep : Nat} {kx : List V}
end
def dKeys : D → Option (List D)
  | .dct ks _ => some ks
  | _ => none
def gKeysI (ge : GE) : GI := fun Γ M => (ge Γ M).bind fun d M1 => opR (dKeys d) M1
@[simp] theorem u_gKeysI (ge : GE) (Γ : Env) (M : List MO) : gKeysI ge Γ M = (ge Γ M).bind fun d M1 => opR (dKeys d) M1 := Eq.trans rfl rfl
@[simp] theorem e_keys (ks vs : List D) : dKeys (.dct ks vs) = some ks := Eq.trans rfl rfl
end Bk

set_option Elab.async false
set_option linter.all false
set_option maxRecDepth 100000
set_option maxHeartbeats 2000000
namespace Bk
open PySem PySem.Spec PyProof.Rows L2
/-! ### len(d) -/
theorem ents_len {K : PySem.W.Frag} {Z : Hp} : ∀ {nks : List NestedKey} {ks vs : List V} {es : List DictEntry}, Ents K Z nks ks vs es → ks.length = vs.length
  | _, _, _, _, .nil => rfl
  | _, _, _, _, .cons _ _ _ _ _ t => by rw [List.length_cons, List.length_cons, ents_len t]
def dLenN (M : List MO) (x : D) : Option D := match dctD M x with
  | some p => some (.int (p.2.length : Nat))
  | none => dLen M x
@[simp] theorem e_lenN (M : List MO) (ks vs : List D) : dLenN M (.dct ks vs) = some (.int (vs.length : Nat)) := Eq.trans rfl rfl
end Bk

set_option Elab.async false
set_option linter.all false
set_option maxRecDepth 100000
set_option maxHeartbeats 2000000
namespace Bk
open PySem PySem.Spec PyProof.Rows L2
/-! ### for v in d.values() -/
section
variable {P : Program} {w : World} {K : PySem.W.Frag} {tg : Expr} {d : Addr} {es : Array DictEntry} {ep : Nat} {xs : List V}
end
def dVals : D → Option (List D)
  | .dct _ vs => some vs
  | _ => none
def gValsI (ge : GE) : GI := fun Γ M => (ge Γ M).bind fun d M1 => opR (dVals d) M1
@[simp] theorem u_gValsI (ge : GE) (Γ : Env) (M : List MO) : gValsI ge Γ M = (ge Γ M).bind fun d M1 => opR (dVals d) M1 := Eq.trans rfl rfl
@[simp] theorem e_vals (ks vs : List D) : dVals (.dct ks vs) = some vs := Eq.trans rfl rfl
end Bk

set_option Elab.async false
set_option linter.all false
set_option maxRecDepth 100000
set_option maxHeartbeats 2000000
namespace Bk
open PySem PySem.Spec PyProof.Rows L2
/-! ### for k, v in d.items() -/
section
variable {P : Program} {w : World} {K : PySem.W.Frag} {d : Addr} {es : Array DictEntry} {ep : Nat} {kx xs : List V}
end
def pairsD (ks vs : List D) : List D := (ks.zip vs).map fun p => .tup [p.1, p.2]
def dItems : D → Option (List D)
  | .dct ks vs => some (pairsD ks vs)
  | _ => none
def gItemsI (ge : GE) : GI := fun Γ M => (ge Γ M).bind fun d M1 => opR (dItems d) M1
@[simp] theorem u_gItemsI (ge : GE) (Γ : Env) (M : List MO) : gItemsI ge Γ M = (ge Γ M).bind fun d M1 => opR (dItems d) M1 := Eq.trans rfl rfl
@[simp] theorem e_items (ks vs : List D) : dItems (.dct ks vs) = some (pairsD ks vs) := Eq.trans rfl rfl
end Bk

set_option Elab.async false
set_option linter.all false
set_option maxRecDepth 100000
set_option maxHeartbeats 2000000
namespace Bk
open PySem PySem.Spec PyProof.Rows L2
/-! ### d.get(k, x) -/
def dGetN (M : List MO) (x y z : D) : Option D := match dctD M x with
  | some p => (lookD p.1 p.2 y).map fun o => o.getD z
  | none => none
def isDct (M : List MO) (d : D) : Bool := match dctD M d with
  | some p => p.1.all isTup
  | none => false
def gGetN (go gk gx : GE) : GE := fun Γ M => (go Γ M).bind fun x M1 => if isDct M1 x = true then (gk Γ M1).bind fun y M2 => (gx Γ M2).bind fun z M3 => opR (dGetN M3 x y z) M3 else .bad
@[simp] theorem u_gGetN (go gk gx : GE) (Γ : Env) (M : List MO) : gGetN go gk gx Γ M = (go Γ M).bind fun x M1 => if isDct M1 x = true then (gk Γ M1).bind fun y M2 => (gx Γ M2).bind fun z M3 => opR (dGetN M3 x y z) M3 else .bad := Eq.trans rfl rfl
end Bk

set_option Elab.async false
set_option linter.all false
set_option maxRecDepth 100000
set_option maxHeartbeats 4000000
namespace Bk
open PySem PySem.Spec PyProof.Rows L2
/-! ### {k: v for t in it for t1 in it1} -/
section
variable {prog : Program} {w : World} {A : Around} {R : Result → Shared → Prop} {s : Shared} {kx vx t0 i0 t1 i1 : Expr} {ifs0 ifs1 : List Expr} {scope : Scope} {pos : Pos} {it : Value} {D : Addr} {env : PySem.Env}
end
section
variable {X : Cx} {kx vx tg iter tg1 iter1 : Expr} {ifs ifs1 : List Expr} {scope : Scope} {own : List (Str × Nat)} {vs1 : List Nat} {pos : Pos} {wi wi1 : TI} {g g1 : TG} {tt tt1 : TT} {tk tv : TE}
end
end Bk

set_option Elab.async false
set_option linter.all false
set_option maxRecDepth 100000
set_option maxHeartbeats 4000000
namespace Bk
open PySem PySem.Spec PyProof.Rows L2
/-! ### {k: v for t in it for t1 in it1}, as trees -/
def gDcI (gg : GG) (gt : GT) (gk gv : GE) (Γ : Env) : List D → List D → List D → List MO → R (List D × List D)
  | [], ks, vs, M => .ok (ks, vs) M
  | d :: ds, ks, vs, M => match gg d Γ with
    | none => .bad
    | some Γ1 => (gt Γ1 M).only fun b M1 => if b = true then (gk Γ1 M1).only fun k M2 => (gv Γ1 M2).only fun v M3 => match putKV ks vs k v with
        | some r => gDcI gg gt gk gv Γ ds r.1 r.2 M3
        | none => .bad
      else gDcI gg gt gk gv Γ ds ks vs M1
def gDcO (gg : GG) (gt : GT) (gi1 : GI) (gg1 : GG) (gt1 : GT) (gk gv : GE) (vs1 : List Nat) (Γ : Env) : List D → List D → List D → List MO → R D
  | [], ks, vs, M => .ok (.dct ks vs) M
  | d :: ds, ks, vs, M => match gg d Γ with
    | none => .bad
    | some Γ1 => (gt Γ1 M).only fun b M1 => if b = true then (gi1 Γ1 M1).only fun ds1 M2 => (gDcI gg1 gt1 gk gv (forget Γ1 vs1) ds1 ks vs M2).only fun r M3 => gDcO gg gt gi1 gg1 gt1 gk gv vs1 Γ ds r.1 r.2 M3
      else gDcO gg gt gi1 gg1 gt1 gk gv vs1 Γ ds ks vs M1
def gDc2 (gi : GI) (gg : GG) (gt : GT) (gi1 : GI) (gg1 : GG) (gt1 : GT) (gk gv : GE) (own vs1 : List Nat) : GE := fun Γ M => (gi Γ M).bind fun ds M1 => gDcO gg gt gi1 gg1 gt1 gk gv vs1 (forget Γ own) ds [] [] M1
section
variable {X : Cx} {C : CT} {W : WX}
section
variable {kx vx tg iter tg1 iter1 : Expr} {ifs ifs1 : List Expr} {scope : Scope} {own : List (Str × Nat)} {pos spos py : Pos} {gi gi1 : GI} {gg gg1 : GG} {gt gt1 : GT} {gk gv : GE} {is is1 ixs vs1 : List Nat}
end
end
@[simp] theorem u_gDc2 (gi : GI) (gg : GG) (gt : GT) (gi1 : GI) (gg1 : GG) (gt1 : GT) (gk gv : GE) (own vs1 : List Nat) (Γ : Env) (M : List MO) : gDc2 gi gg gt gi1 gg1 gt1 gk gv own vs1 Γ M = (gi Γ M).bind fun ds M1 => gDcO gg gt gi1 gg1 gt1 gk gv vs1 (forget Γ own) ds [] [] M1 := Eq.trans rfl rfl
@[simp] theorem u_gDc (gi : GI) (gg : GG) (gt : GT) (gk gv : GE) (own : List Nat) (Γ : Env) (M : List MO) : gDc gi gg gt gk gv own Γ M = (gi Γ M).bind fun ds M1 => gDcL gg gt gk gv (forget Γ own) ds [] [] M1 := Eq.trans rfl rfl
end Bk

set_option Elab.async false
set_option linter.all false
set_option maxRecDepth 100000
set_option maxHeartbeats 4000000
namespace Bk
open PySem PySem.Spec PyProof.Rows L2
/-! ### sum(d.values()) -/
def gSumV (ge : GE) : GE := fun Γ M => (ge Γ M).bind fun d M1 => opR (match d with
  | .dct _ vs => (intsD vs).map fun is => .int is.sum
  | _ => none) M1
@[simp] theorem u_gSumV (ge : GE) (Γ : Env) (M : List MO) : gSumV ge Γ M = (ge Γ M).bind fun d M1 => opR (match d with
  | .dct _ vs => (intsD vs).map fun is => .int is.sum
  | _ => none) M1 := Eq.trans rfl rfl
end Bk

set_option Elab.async false
set_option linter.all false
set_option maxRecDepth 100000
set_option maxHeartbeats 4000000
namespace Bk
open PySem PySem.Spec PyProof.Rows L2
/-! ### a new thing of ours, from a thing that is neither frozen nor ours -/
section
variable {K : PySem.W.Frag} {H Z : Hp} {ι : Nat → Addr} {M : List MO} {p : Addr}
end
/-! ### dict displays -/
section
variable {X : Cx} {C : CT} {W : WX} {pos : Pos}
theorem pe_dnewN : PE X (.Dict [] [] pos) (fun _ H Q => ∀ p, H p = none → (p == sysModules) = false → Q (.ref p) (upd H p (dnO p #[] 0))) := ⟨fun pins s σ H Q I h => by
  have sm : (s.heap.objs.size == sysModules) = false := (dk_empty (P := X.prog) (w := X.w) (H := H) s.heap I.big).2.1
  have hnew : (s.heap.push { cls := .type "dict", data := .dict #[] }).get? s.heap.objs.size = some { cls := .type "dict", data := .dict #[] } := Heap.get?_push_size _ rfl
  refine wpAny_Dict_empty ⟨.ref s.heap.objs.size, _, I.laid (a := s.heap.objs.size) (o := dnO s.heap.objs.size #[] 0) (t' := s.toks) (fun _ _ q => Heap.get?_push_of_some _ q) (Nat.le_refl _) ?_, rfl, h _ (I.hok.fresh (Nat.le_refl _)) sm⟩
  exact ⟨⟨_, hnew, ⟨rfl, rfl, rfl⟩, rfl⟩, ⟨_, hnew⟩, fun h1 h2 ⟨u, a1, a2, a3⟩ hh => ⟨u, hh u a1, a2, a3⟩⟩⟩
def gDct0 : GE := fun _ M => .ok (.dct [] []) M
def gDct0O : GE := fun _ M => .ok (.ref M.length) (M ++ [.dct [] []])
def gDki0O : GE := fun _ M => .ok (.ref M.length) (M ++ [.dki []])
theorem ref_new {K : PySem.W.Frag} {Z : Hp} {ι : Nat → Addr} {M : List MO} {p : Addr} {o : MO} : Rp K Z (put ι M.length p) (M ++ [o]).length (.ref M.length) (.ref p) := by
  have q : Rp K Z (put ι M.length p) (M ++ [o]).length (.ref M.length) (.ref (put ι M.length p M.length)) := .ref (by simp)
  rw [put_at] at q
  exact q
theorem qe_dct0O : QE X C W (.Dict [] [] pos) gDct0O := ⟨_, pe_dnewN, fun σ H Z ι Γ M Q sl hr h p hp hs => by
  obtain ⟨hr1, e1⟩ := hr.ownedG (o' := .dct [] []) (ho := dnO p #[] 0) hp (by simp) ⟨[], [], [], ⟨#[], 0, upd_same, hs, Nat.zero_le _, List.nodup_nil, .nil⟩, .nil, .nil⟩
  exact h _ _ _ _ e1 hr1 ref_new⟩
def okKey (k : D) : Bool := isTup k && match keyD k with
  | some nk => decide (nk.depth ≤ 8)
  | none => false
def gDisp1 (ga gb : GE) : GE := fun Γ M => (ga Γ M).bind fun k M1 => (gb Γ M1).bind fun v M2 => if okKey k = true then .ok (.dct [k] [v]) M2 else .bad
def gDisp1O (ga gb : GE) : GE := fun Γ M => (ga Γ M).bind fun k M1 => (gb Γ M1).bind fun v M2 => if okKey k = true then .ok (.ref M2.length) (M2 ++ [.dct [k] [v]]) else .bad
@[simp] theorem u_gDct0 (Γ : Env) (M : List MO) : gDct0 Γ M = .ok (.dct [] []) M := Eq.trans rfl rfl
@[simp] theorem u_gDct0O (Γ : Env) (M : List MO) : gDct0O Γ M = .ok (.ref M.length) (M ++ [.dct [] []]) := Eq.trans rfl rfl
@[simp] theorem u_gDki0O (Γ : Env) (M : List MO) : gDki0O Γ M = .ok (.ref M.length) (M ++ [.dki []]) := Eq.trans rfl rfl
@[simp] theorem u_gDisp1 (ga gb : GE) (Γ : Env) (M : List MO) : gDisp1 ga gb Γ M = (ga Γ M).bind fun k M1 => (gb Γ M1).bind fun v M2 => if okKey k = true then .ok (.dct [k] [v]) M2 else .bad := Eq.trans rfl rfl
@[simp] theorem u_gDisp1O (ga gb : GE) (Γ : Env) (M : List MO) : gDisp1O ga gb Γ M = (ga Γ M).bind fun k M1 => (gb Γ M1).bind fun v M2 => if okKey k = true then .ok (.ref M2.length) (M2 ++ [.dct [k] [v]]) else .bad := Eq.trans rfl rfl
end
end Bk

set_option Elab.async false
set_option linter.all false
set_option maxRecDepth 100000
set_option maxHeartbeats 4000000
namespace Bk
open PySem PySem.Spec PyProof.Rows L2
/-! ### tuples that are known to have no dict -/
section
variable {X : Cx} {C : CT} {W : WX} {pos : Pos}
def gTup0P : GE := fun _ M => .ok (.ptu []) M
theorem After.ptu {H Z : Hp} {ι : Nat → Addr} {M : List MO} {ds : List D} {Q : VK} {xs : List V} (h : After X H Z ι M (.ptu ds) Q) (hr : HR X.K H Z ι M) (r : Rps X.K Z ι M.length ds xs) : ∀ (p : Addr) (o : Obj), H p = none → o.dict = none → Q (.ref p) (upd H p (.frz o (.tup xs))) := fun p o hp ho => by
  obtain ⟨h1, e1⟩ := hr.frozen (o := .frz o (.tup xs)) hp
  exact h _ _ _ e1 h1 (.ptu ⟨o, upd_same, ho⟩ (r.ext e1))
end
/-! ### sorted, pairs of ints -/
def duoD (p : Int × Int) : D := .tup [.int p.1, .int p.2]
def pairsOf : List D → Option (List (Int × Int))
  | [] => some []
  | .tup [.int a, .int b] :: ds => (pairsOf ds).map ((a, b) :: ·)
  | _ => none
@[simp] theorem pairsOf_map (ps : List (Int × Int)) : pairsOf (ps.map duoD) = some ps := by
  induction ps with
  | nil => rfl
  | cons p ps ih => simp [pairsOf, duoD] at ih ⊢; exact ih
section
variable {X : Cx}
end
@[simp] theorem u_gTup0P (Γ : Env) (M : List MO) : gTup0P Γ M = .ok (.ptu []) M := Eq.trans rfl rfl
end Bk

set_option Elab.async false
set_option linter.all false
set_option maxRecDepth 100000
set_option maxHeartbeats 4000000
namespace Bk
open PySem PySem.Spec PyProof.Rows L2
/-! ### dicts of ours with whole numbers as keys -/
def kiGet : List (Int × D) → Int → Option D
  | [], _ => none
  | p :: r, i => if p.1 = i then some p.2 else kiGet r i
def kiHas : List (Int × D) → Int → Bool
  | [], _ => false
  | p :: r, i => decide (p.1 = i) || kiHas r i
def kiRep : List (Int × D) → Int → D → List (Int × D)
  | [], _, _ => []
  | p :: r, i, d => (if p.1 = i then (p.1, d) else p) :: kiRep r i d
def kiPut (kvs : List (Int × D)) (i : Int) (d : D) : List (Int × D) := if kiHas kvs i = true then kiRep kvs i d else kvs ++ [(i, d)]
/-- the entries as they stand -/
inductive KiR (K : PySem.W.Frag) (Z : Hp) (ι : Nat → Addr) (n : Nat) : List (Int × D) → List (L2.Key × V) → Prop
  | nil : KiR K Z ι n [] []
  | cons {i : Int} {d : D} {v : V} {ks : List (Int × D)} {gs : List (L2.Key × V)} : Rp K Z ι n d v → KiR K Z ι n ks gs → KiR K Z ι n ((i, d) :: ks) ((Sum.inl i, v) :: gs)
section
variable {K : PySem.W.Frag} {Z : Hp} {ι : Nat → Addr} {n : Nat}
theorem KiR.of : ∀ {ks : List (Int × D)} {gs : List (L2.Key × V)}, gs.map (·.1) = ks.map (fun p => Sum.inl p.1) → Rps K Z ι n (ks.map (·.2)) (gs.map (·.2)) → KiR K Z ι n ks gs
  | [], [], _, _ => .nil
  | [], g :: gs, h, _ => by simp at h
  | k :: ks, [], h, _ => by simp at h
  | (i, d) :: ks, (j, v) :: gs, h, r => by
    simp only [List.map_cons, List.cons.injEq] at h
    obtain ⟨rfl, h2⟩ := h
    simp only [List.map_cons] at r
    cases r with
    | cons r1 r2 => exact .cons r1 (KiR.of h2 r2)
theorem KiR.back : ∀ {ks : List (Int × D)} {gs : List (L2.Key × V)}, KiR K Z ι n ks gs → gs.map (·.1) = ks.map (fun p => Sum.inl p.1) ∧ Rps K Z ι n (ks.map (·.2)) (gs.map (·.2)) ∧ Rps K Z ι n (ks.map fun p => .int p.1) (gs.map fun p => kV p.1) ∧ ks.length = gs.length
  | _, _, .nil => ⟨rfl, .nil, .nil, rfl⟩
  | _, _, .cons r s => by
    obtain ⟨a, b, c, d⟩ := s.back
    exact ⟨by simp [a], .cons r b, .cons (.int _) c, by simp [d]⟩
theorem KiR.get (i : Int) : ∀ {ks : List (Int × D)} {gs : List (L2.Key × V)}, KiR K Z ι n ks gs → (match kiGet ks i with
    | some d => ∃ v, valV gs (Sum.inl i) = some v ∧ Rp K Z ι n d v
    | none => valV gs (Sum.inl i) = none)
  | _, _, .nil => rfl
  | _, _, .cons (i := j) (d := d) (v := v) r s => by
    by_cases e : j = i
    · subst e
      simp only [kiGet, if_true]
      exact ⟨v, valV_pos rfl, r⟩
    · have ne : ¬ ((Sum.inl j : L2.Key) = Sum.inl i) := fun z => e (Sum.inl.inj z)
      simp only [kiGet, if_neg e]
      have ih := s.get i
      rw [valV_neg (p := ((Sum.inl j : L2.Key), v)) ne]
      exact ih
theorem KiR.has (i : Int) : ∀ {ks : List (Int × D)} {gs : List (L2.Key × V)}, KiR K Z ι n ks gs → (gs.any fun kv => decide (kv.1 = Sum.inl i)) = kiHas ks i
  | _, _, .nil => rfl
  | _, _, .cons (i := j) r s => by
    rw [List.any_cons, s.has i]
    have : (decide ((Sum.inl j : L2.Key) = Sum.inl i)) = decide (j = i) := by
      rw [decide_eq_decide]
      exact ⟨fun z => Sum.inl.inj z, fun z => by rw [z]⟩
    rw [this]
    rfl
theorem KiR.rep (i : Int) {d : D} {v : V} (rv : Rp K Z ι n d v) : ∀ {ks : List (Int × D)} {gs : List (L2.Key × V)}, KiR K Z ι n ks gs → KiR K Z ι n (kiRep ks i d) (gs.map fun kv => if kv.1 = Sum.inl i then (kv.1, v) else kv)
  | _, _, .nil => .nil
  | _, _, .cons (i := j) (v := w) r s => by
    have ih := s.rep i rv
    by_cases e : j = i
    · subst e
      simp only [kiRep, List.map_cons, if_true]
      exact .cons rv ih
    · have ne : ¬ ((Sum.inl j : L2.Key) = Sum.inl i) := fun z => e (Sum.inl.inj z)
      simp only [kiRep, List.map_cons, if_neg e, if_neg ne]
      exact .cons r ih
theorem KiR.snoc {i : Int} {d : D} {v : V} (rv : Rp K Z ι n d v) : ∀ {ks : List (Int × D)} {gs : List (L2.Key × V)}, KiR K Z ι n ks gs → KiR K Z ι n (ks ++ [(i, d)]) (gs ++ [(Sum.inl i, v)])
  | _, _, .nil => .cons rv .nil
  | _, _, .cons r s => .cons r (s.snoc rv)
theorem KiR.put (i : Int) {d : D} {v : V} (rv : Rp K Z ι n d v) {ks : List (Int × D)} {gs : List (L2.Key × V)} (h : KiR K Z ι n ks gs) : KiR K Z ι n (kiPut ks i d) (putK gs (Sum.inl i) v) := by
  unfold kiPut putK
  rw [h.has i]
  by_cases c : kiHas ks i = true
  · rw [if_pos c, if_pos c]
    exact h.rep i rv
  · rw [if_neg c, if_neg c]
    exact h.snoc rv
def kiMerge (kvs more : List (Int × D)) : List (Int × D) := more.foldl (fun acc p => kiPut acc p.1 p.2) kvs
theorem KiR.mono {Z' : Hp} {ι' : Nat → Addr} {n' : Nat} (hz : Sub Z Z') (hi : ∀ k, k < n → ι' k = ι k) (hn : n ≤ n') : ∀ {ks : List (Int × D)} {gs : List (L2.Key × V)}, KiR K Z ι n ks gs → KiR K Z' ι' n' ks gs
  | _, _, .nil => .nil
  | _, _, .cons r s => .cons (Rp.mono hz hi hn _ _ r) (s.mono hz hi hn)
end
/-! ### dict(t), t a tuple of pairs -/
section
variable {X : Cx}
end
end Bk

set_option Elab.async false
set_option linter.all false
set_option maxRecDepth 100000
set_option maxHeartbeats 4000000
namespace Bk
open PySem PySem.Spec PyProof.Rows L2
/-! ### dict(t) as a dict of ours -/
def kiOf : List D → Option (List (Int × D))
  | [] => some []
  | .tup [.int i, d] :: ds => (kiOf ds).map ((i, d) :: ·)
  | _ => none
@[simp] theorem kiOf_map (ps : List (Int × D)) : kiOf (ps.map fun p => .tup [.int p.1, p.2]) = some ps := by
  induction ps with
  | nil => rfl
  | cons p ps ih => simp [kiOf, ih]
def gDictT (ge : GE) : GE := fun Γ M => (ge Γ M).bind fun x M1 => match x with
  | .ptu ds => match kiOf ds with
    | some kvs => .ok (.ref M1.length) (M1 ++ [.dki (kiMerge [] kvs)])
    | none => .bad
  | _ => .bad
def gGetK (go gk gx : GE) : GE := fun Γ M => (go Γ M).bind fun x M1 => match x with
  | .ref k => match M1[k]? with
    | some (.dki _) => (gk Γ M1).bind fun y M2 => (gx Γ M2).bind fun z M3 => match y, M3[k]? with
      | .int i, some (.dki kvs) => .ok ((kiGet kvs i).getD z) M3
      | _, _ => .bad
    | _ => .bad
  | _ => .bad
section
variable {X : Cx} {C : CT} {W : WX}
theorem dki_there {H Z : Hp} {ι : Nat → Addr} {M : List MO} (hr : HR X.K H Z ι M) {k : Nat} {kvs : List (Int × D)} (h : M[k]? = some (.dki kvs)) : ∃ gs, H (ι k) = some (.dK gs) ∧ KiR X.K Z ι M.length kvs gs := by
  obtain ⟨gs, h1, h2, h3⟩ := hr.obj k _ h
  exact ⟨gs, h1, KiR.of h2 h3⟩
/-! ### d[k] = v -/
theorem PSet.or {t t' : TSet} (h : PSet X t) (h' : PSet X t') : PSet X (fun o i v H Q => t o i v H Q ∨ t' o i v H Q) := by
  intro pins s σ H o i v ov iv u Q I ro ri rv q
  rcases q with q | q
  · exact h pins s σ H o i v ov iv u Q I ro ri rv q
  · exact h' pins s σ H o i v ov iv u Q I ro ri rv q
def rSetN (K : PySem.W.Frag) : TSet := fun o i v H Q => ∃ (D b : Addr) (es : Array DictEntry) (ep : Nat) (nks nks' : List NestedKey) (ks vs : List V) (k : NestedKey), o = .ref D ∧ (D == sysModules) = false ∧ i = .ref b ∧ H D = some (dnO D es ep) ∧ AllRef ks ∧ ks.length ≤ sizeLine ∧ Ents K H nks ks vs es.toList ∧ nks.Nodup ∧ KeyVs K H nks' ks ∧ vs.length < sizeLine ∧ KeyV K H k (.ref b) ∧ k.depth ≤ 8 ∧
    ∀ (es' : Array DictEntry) (ep' : Nat) (r : Value) (hs : Int), RelV v r → (∀ w : World, hs = k.hash w) → nks = nks' → (match posK k nks with
      | some i => es'.toList = setV r i es.toList
      | none => es'.toList = es.toList ++ [⟨hs, .ref b, r⟩]) → Q (upd H D (dnO D es' ep'))
theorem set_dctN (hu : X.A.units + 1 + 8 < cLine) : PSet X (rSetN X.K) := by
  intro pins s σ H o i v ov iv u Q I ro ri rv q
  obtain ⟨D, b, es, ep, nks, nks', ks, vs, k, rfl, hs, rfl, hD, hrf, hl, he, hn, hkv, hz, hk, hd, hq⟩ := q
  have en : nks = nks' := ExD.keys I (a := D) (vs := vs) ⟨es, ep, hD, hs, hl, hn, he⟩ hkv
  obtain rfl : ov = Value.ref D := ro
  obtain rfl : iv = Value.ref b := ri
  obtain ⟨xs, e1, e2, e3, e4, e5⟩ := Ents.trip I he hrf
  obtain ⟨⟨o, ho, hx, hdat⟩, _, _⟩ := I.hok D _ hD
  have nd : (xs.map (·.1)).Nodup := by rw [e2]; exact hn
  have dd : s.heap.DictOfH (NK X) D xs := ⟨o, es, ep, ho, hx, hdat, e1, e3, nd⟩
  have hkey : (NK X).is s.heap k b := ⟨KeyV.is I k _ _ hk rfl, hd⟩
  refine wpAny_setItem_heap (show (NK X).room X.A.in1 from hu) hkey dd (fun h' dd' sb => ?_) (by omega)
  obtain ⟨o', es', ep', ho', hx', hdat', e1', _, _⟩ := dd'
  have ok : ObjOk X.prog X.w (upd H D (dnO D es' ep')) h' D (dnO D es' ep') := ⟨⟨o', ho', hx', hdat'⟩, ⟨o', ho'⟩, fun h1 h2 ⟨u, hu1, hu2, hu3⟩ hk => ⟨u, hk u hu1, hu2, hu3⟩⟩
  refine ⟨_, d_write I (by rw [hD]; exact True.intro) sb ⟨o', ho'⟩ ok, hq es' ep' u (k.hash X.w) rv (fun w => KeyV.free k _ hk X.w w) en ?_⟩
  cases p : posK k nks with
  | none =>
    have nk : k ∉ xs.map (·.1) := by rw [e2]; exact posK_none p
    rw [storedH_new (atKey_none nk), List.map_append, ← e1] at e1'
    exact e1'
  | some i =>
    have hi := posK_at p
    rw [← e2] at hi
    obtain ⟨x, hx1⟩ : ∃ x, xs[i]? = some x := by
      rw [List.getElem?_map] at hi
      cases hxx : xs[i]? with
      | none => rw [hxx] at hi; cases hi
      | some x => exact ⟨x, rfl⟩
    have kx : x.1 = k := by rw [List.getElem?_map, hx1] at hi; exact Option.some.inj hi
    have ak := atKey_at nd hx1
    rw [kx] at ak
    rw [storedH_old ak, put_old nd hi, ← e1] at e1'
    exact e1'
def rSetK : TSet := fun o i v H Q => ∃ (a : Addr) (kvs : List (L2.Key × V)) (k : L2.Key), o = .ref a ∧ i = kV k ∧ H a = some (.dK kvs) ∧ kvs.length < sizeLine ∧ Q (upd H a (.dK (putK kvs k v)))
theorem set_dctK (hu : X.A.units + 1 < cLine) : PSet X rSetK := by
  intro pins s σ H o i v ov iv u Q I ro ri rv q
  obtain ⟨a, kvs, k, rfl, rfl, hD, hz, hq⟩ := q
  obtain rfl : ov = Value.ref a := ro
  exact d_setItem hu I (DPut.k hD hz) ri rv fun s' I' => ⟨_, I', hq⟩
def setX (M : List MO) (o i v : D) : Option (List MO) := match o with
  | .ref k => match M[k]? with
    | some (.dct ks vs) => (putKV ks vs i v).bind fun r => if ks.all isTup = true then some (M.set k (.dct r.1 r.2)) else none
    | some (.dki kvs) => match i with
      | .int j => if kvs.length < sizeLine then some (M.set k (.dki (kiPut kvs j v))) else none
      | _ => none
    | _ => setR M o i v
  | _ => none
def gSetX (ge go gi : GE) : GS := fun Γ M => (ge Γ M).thenS Γ fun v M1 => (go Γ M1).thenS Γ fun o M2 => (gi Γ M2).thenS Γ fun i M3 => match setX M3 o i v with
  | some M4 => .nx Γ M4
  | none => .bad
theorem qs_setX {o i e : Expr} {go gi ge : GE} {pos spos : Pos} (hu : X.A.units + 1 + 8 < cLine) (he : QE X C W e ge) (ho : QE X C W o go) (hi : QE X C W i gi) (hs : swapsWithSole [Expr.Subscript o i spos] e pos.line X.env = pure false := by rfl) (hp : swappedStores [Expr.Subscript o i spos] e X.env = pure none := by rfl)
    (h1 : (assignEach [Expr.Subscript o i spos] X.env).map (·.2) = [assign (Expr.Subscript o i spos) X.env] := by rfl)
    (ha : ∀ v, assign (.Subscript o i spos) X.env v = (do let ov ← holding [v] (eval o X.env); let iv ← holding [v, ov] (eval i X.env); standAt spos; holding [v, ov, iv] (setItem ov iv v); release [v, ov, iv] []) := by intro _; rfl) :
    QS X C W (.Assign [.Subscript o i spos] e pos) (gSetX ge go gi) := by
  obtain ⟨te, pe, qe⟩ := he
  obtain ⟨to, po, qo⟩ := ho
  obtain ⟨ti, pi, qi⟩ := hi
  refine ⟨_, ps_asg pe (pg_sub po pi (PSet.or set_list (PSet.or (set_dctN hu) (set_dctK (by omega)))) ha) hs hp h1, fun Dd σ H Z ι Γ M sl hr h => qe σ H Z ι Γ M _ sl hr (PostS.bind h sl fun v M1 v' H1 Z1 ι1 e1 hr1 r1 h1 => qo σ H1 Z1 ι1 Γ M1 _ (sl.ext e1) hr1 (PostS.bind h1 (sl.ext e1) fun o M2 o' H2 Z2 ι2 e2 hr2 r2 h2 =>
    qi σ H2 Z2 ι2 Γ M2 _ ((sl.ext e1).ext e2) hr2 (PostS.bind h2 ((sl.ext e1).ext e2) fun i M3 i' H3 Z3 ι3 e3 hr3 r3 h3 => ?_)))⟩
  have ro := r2.ext e3
  have rv := (r1.ext e2).ext e3
  have sl3 := ((sl.ext e1).ext e2).ext e3
  cases es : setX M3 o i v with
  | none => rw [es] at h3; exact h3.elim
  | some M4 =>
    rw [es] at h3
    cases ro with
    | ref hk =>
      rename_i k
      unfold setX at es
      simp only at es
      have lists : setR M3 (.ref k) i v = some M4 → rSetL (.ref (ι3 k)) i' v' H3 (fun H' => Dd.nx σ H') := fun es => by
        unfold setR at es
        cases r3 with
        | int j =>
          simp only at es
          cases ek : M3[k]? with
          | none => rw [ek] at es; cases es
          | some u =>
            rw [ek] at es
            cases u with
            | lst ds =>
              simp only at es
              cases em : ixN ds.length j with
              | none => rw [em] at es; cases es
              | some m =>
                rw [em] at es
                cases es
                obtain ⟨xs, a1, a2⟩ := hr3.obj k _ ek
                obtain ⟨b1, b2⟩ := hr3.change ek (a2.set m rv)
                exact ⟨_, xs, j, m, rfl, rfl, a1, by rw [← a2.length]; exact em, h3 σ _ Z3 ι3 b2 b1 (sl3.ext b2)⟩
            | _ => cases es
        | _ => cases es
      cases ek : M3[k]? with
      | none => rw [ek] at es; exact .inl (lists es)
      | some u =>
        rw [ek] at es
        cases u with
        | dead => exact .inl (lists es)
        | lst ds => exact .inl (lists es)
        | obj nm fs => exact .inl (lists es)
        | dct ks vs =>
          simp only at es
          cases ep : putKV ks vs i v with
          | none => rw [ep] at es; cases es
          | some r =>
            rw [ep, Option.bind_some] at es
            by_cases ct : ks.all isTup = true
            · rw [if_pos ct] at es
              cases es
              refine .inr (.inl ?_)
              obtain ⟨nks, kx, xs, ⟨ens, eph, g1, g2, g3, g4, g5⟩, rk, rv0⟩ := hr3.obj k _ ek
              have hE : Ents X.K H3 nks kx xs ens.toList := g5.sub hr3.sub
              unfold putKV at ep
              cases e1' : keysD ks with
              | none => rw [e1'] at ep; cases ep
              | some nks' =>
                cases e2' : keyD i with
                | none => rw [e1', e2'] at ep; cases ep
                | some nk =>
                  rw [e1', e2'] at ep
                  simp only at ep
                  by_cases c : (isTup i && decide (nk.depth ≤ 8) && decide (vs.length < sizeLine)) = true
                  · rw [if_pos c] at ep
                    simp only [Bool.and_eq_true, decide_eq_true_eq] at c
                    obtain ⟨⟨c1, c2⟩, c3⟩ := c
                    have kvs' := keysD_run hr3.sub _ _ _ rk e1'
                    have kz := keyD_run (fun _ _ z => z) _ _ _ r3 e2'
                    have kh := keyD_run hr3.sub _ _ _ r3 e2'
                    have hrf := tups_ref rk ct
                    have hb : ∃ b, i' = .ref b := by
                      have : AllRef [i'] := tups_ref (X := X) (ks := [i]) (.cons r3 .nil) (by simp [c1])
                      exact this i' (by simp)
                    obtain ⟨b, rfl⟩ := hb
                    have hzv : vs.length = xs.length := rv0.length
                    refine ⟨ι3 k, b, ens, eph, nks, nks', kx, xs, nk, rfl, g2, rfl, g1, hrf, g3, hE, g4, kvs', by rw [← hzv]; exact c3, kh, c2, fun es' ep' rr' hs' hr' hf hsame hm => ?_⟩
                    subst hsame
                    have lkx := ents_len g5
                    cases q : posK nk nks with
                    | some m =>
                      rw [q] at ep hm
                      cases ep
                      have hm' : es'.toList = setV rr' m ens.toList := hm
                      obtain ⟨hr4, x4⟩ := hr3.changeG (o' := .dct ks (vs.set m v)) (ho := dnO (ι3 k) es' ep') ek (by simp) (by simp) ⟨nks, kx, xs.set m v', ⟨es', ep', upd_same, g2, g3, g4, by rw [hm']; exact g5.setv hr' m⟩, rk, rv0.set m rv⟩
                      exact h3 σ _ Z3 ι3 x4 hr4 (sl3.ext x4)
                    | none =>
                      rw [q] at ep hm
                      cases ep
                      have hm' : es'.toList = ens.toList ++ [⟨hs', .ref b, rr'⟩] := hm
                      obtain ⟨hr4, x4⟩ := hr3.changeG (o' := .dct (ks ++ [i]) (vs ++ [v])) (ho := dnO (ι3 k) es' ep') ek (by simp) (by simp) ⟨nks ++ [nk], kx ++ [.ref b], xs ++ [v'], ⟨es', ep', upd_same, g2, by rw [List.length_append, List.length_singleton]; omega, by
                        rw [List.nodup_append]
                        refine ⟨g4, by simp, fun x hx y hy => ?_⟩
                        have : y = nk := by simpa using hy
                        rw [this]
                        exact fun z => posK_none q (z ▸ hx), by rw [hm']; exact g5.snoc kz rfl c2 hf hr'⟩, rk.append (.cons r3 .nil), rv0.append (.cons rv .nil)⟩
                      exact h3 σ _ Z3 ι3 x4 hr4 (sl3.ext x4)
                  · rw [if_neg c] at ep; cases ep
            · rw [if_neg ct] at es; cases es
        | dki kvs =>
          simp only at es
          cases r3 with
          | int j =>
            simp only at es
            by_cases c : kvs.length < sizeLine
            · rw [if_pos c] at es
              cases es
              obtain ⟨gs, g1, g2⟩ := dki_there hr3 ek
              have gp := g2.put j rv
              obtain ⟨b1, b2, b3, b4⟩ := gp.back
              obtain ⟨_, _, _, bl⟩ := g2.back
              obtain ⟨hr4, x4⟩ := hr3.changeG (o' := .dki (kiPut kvs j v)) (ho := .dK (putK gs (Sum.inl j) v')) ek (by simp) (by simp) ⟨_, upd_same, b1, b2⟩
              exact .inr (.inr ⟨_, gs, Sum.inl j, rfl, rfl, g1, by rw [← bl]; exact c, h3 σ _ Z3 ι3 x4 hr4 (sl3.ext x4)⟩)
            · rw [if_neg c] at es; cases es
          | _ => cases es
    | _ => cases es
end
end Bk

set_option Elab.async false
set_option linter.all false
set_option maxRecDepth 100000
set_option maxHeartbeats 4000000
namespace Bk
open PySem PySem.Spec PyProof.Rows L2
/-! ### methods on the whole store -/
def gMethW (nm m : Str) (n : Nat) (F : List D → List MO → R D) (go : GE) (ga : GA) : GE := fun Γ M => (go Γ M).bind fun x M1 => if isObj nm m M1 x = true then (ga Γ M1).bind fun ds M2 => if ds.length + 1 = n then callW F (x :: ds) M2 else .bad else .bad
section
variable {X : Cx} {C : CT} {W : WX} {e o : Expr} {nm f m x : Str} {ge go : GE} {gs : GA} {pos apos pos' p : Pos} {C0 : Addr} {es : List Expr}
variable {k n : Nat} {fa : Addr} {fd : FuncData} {ps : List Str} {F : List D → List MO → R D} {pl : Sem Bool}
/-- o.m(e, ..) of an own class -/
theorem qe_methW (hn0 : PySem.W.nsIn X.K mainGlobals nm = some (some (.ref C0))) (c : Cls X.K C0) (hm : Meth X.K C0 m fa) (F0 : FnQ X.prog X.w X.K X.mg X.base C k fa fd ps F) (hr : Room k X.A) (hgu : X.A.guards = some []) (tk : Takes X W) (hb : Binds X.K fd ps []) (ho : QE X C W o go) (ha : QA X C W (e :: es) gs) (hn : n = ps.length := by rfl)
    (hst : starEach (e :: es) X.env = (false, eval e X.env) :: starEach es X.env := by rfl) (hpl : (backTo pos (starEach es X.env)).any (·.1) = false := by rfl)
    (ht : eval (.Call (.Attribute o m apos) (e :: es) [] pos) X.env = (do
      let ov ← eval o X.env
      standAt apos.atName
      let (f, first) ← holding [ov] (getMethod ov m pl)
      callWith pos f first (backTo pos (starEach (e :: es) X.env)) (backToKw pos (keywordEach [] X.env))) := by rfl) :
    QE X C W (.Call (.Attribute o m apos) (e :: es) [] pos) (gMethW nm m n F go gs) := by
  subst hn
  obtain ⟨to, po, qo⟩ := ho
  obtain ⟨ta, pa, qa⟩ := ha
  refine ⟨fun σ H Q => to σ H fun x H1 => ∃ a dx fs, x = .ref a ∧ H1 a = some (.ins C0 dx fs) ∧ fs.lookup m = none ∧ ta σ H1 fun vs H2 => rCallQ X.K C ps F (WE W σ) (x :: vs) H2 Q, ⟨fun pins s σ H Q I h => ?_⟩,
    fun σ H Z ι Γ M Q sl hr h => qo σ H Z ι Γ M _ sl hr (h.bind fun x M1 v H1 Z1 ι1 e1 hr1 r1 h1 => ?_)⟩
  · refine PySem.W.methodCall_KW (pl := pl) (thn (po.run pins s σ H _ I h) fun u s1 ⟨x, H1, I1, rx, a, dx, fs, ex, ea, l, q⟩ => ?_) ht
    subst ex
    obtain rfl : u = Value.ref a := rx
    refine getmeth_ok I1 ea c hm l ?_
    refine PySem.W.callWith_K (first := [.ref a]) (h₀ := X.base) I.ok.mod.kin hm.kp (thn (pa.run pos pins s1 σ H1 _ I1 q) fun us s2 hh => ?_) hst hpl
    obtain ⟨vs, H2, I2, r, q2⟩ := hh
    have r2 : Vals (V.ref a :: vs) (Value.ref a :: us) := .cons rfl r
    have hl : (Value.ref a :: us).length = ps.length := r2.length.symm.trans q2.1
    have hbb := hb s2 (Value.ref a :: us) I2.kIn (by rw [List.append_nil]; exact hl)
    rw [List.append_nil] at hbb
    exact ⟨I2.kIn, run_call F0 hr hgu tk I2 hbb r2 q2⟩
  · by_cases z : isObj nm m M1 x = true
    · rw [if_pos z] at h1
      obtain ⟨a, dx, fs, b1, b2, b3⟩ := isObj_run hn0 hr1 r1 z
      subst b1
      refine ⟨a, dx, fs, rfl, b2, b3, qa σ H1 Z1 ι1 Γ M1 _ (sl.ext e1) hr1 (h1.bind fun ds M2 vs H2 Z2 ι2 e2 hr2 r2 h2 => ?_)⟩
      by_cases cc : ds.length + 1 = ps.length
      · rw [if_pos cc] at h2
        exact whole_post hr2 (.cons (r1.ext e2) r2) (by rw [List.length_cons, ← r2.length]; exact cc) h2
      · rw [if_neg cc] at h2
        exact h2.elim
    · rw [if_neg z] at h1
      exact h1.elim
end
@[simp] theorem u_gMethW (nm m : Str) (n : Nat) (F : List D → List MO → R D) (go : GE) (ga : GA) (Γ : Env) (M : List MO) : gMethW nm m n F go ga Γ M = (go Γ M).bind fun x M1 => if isObj nm m M1 x = true then (ga Γ M1).bind fun ds M2 => if ds.length + 1 = n then callW F (x :: ds) M2 else .bad else .bad := Eq.trans rfl rfl
/-! ### for k, v in d.items() of a dict of ours with whole numbers as keys; it is not used any more -/
def gItemsK (ge : GE) : GI := fun Γ M => (ge Γ M).bind fun x M1 => match x with
  | .ref k => match M1[k]? with
    | some (.dki kvs) => .ok (kvs.map fun p => .tup [.int p.1, p.2]) (M1.set k .dead)
    | _ => .bad
  | _ => .bad
@[simp] theorem u_gItemsK (ge : GE) (Γ : Env) (M : List MO) : gItemsK ge Γ M = (ge Γ M).bind fun x M1 => match x with
  | .ref k => match M1[k]? with
    | some (.dki kvs) => .ok (kvs.map fun p => .tup [.int p.1, p.2]) (M1.set k .dead)
    | _ => .bad
  | _ => .bad := Eq.trans rfl rfl
@[simp] theorem u_gDictT (ge : GE) (Γ : Env) (M : List MO) : gDictT ge Γ M = (ge Γ M).bind fun x M1 => match x with
  | .ptu ds => match kiOf ds with
    | some kvs => .ok (.ref M1.length) (M1 ++ [.dki (kiMerge [] kvs)])
    | none => .bad
  | _ => .bad := Eq.trans rfl rfl
@[simp] theorem u_gGetK (go gk gx : GE) (Γ : Env) (M : List MO) : gGetK go gk gx Γ M = (go Γ M).bind fun x M1 => match x with
  | .ref k => match M1[k]? with
    | some (.dki _) => (gk Γ M1).bind fun y M2 => (gx Γ M2).bind fun z M3 => match y, M3[k]? with
      | .int i, some (.dki kvs) => .ok ((kiGet kvs i).getD z) M3
      | _, _ => .bad
    | _ => .bad
  | _ => .bad := Eq.trans rfl rfl
@[simp] theorem u_gSetX (ge go gi : GE) (Γ : Env) (M : List MO) : gSetX ge go gi Γ M = (ge Γ M).thenS Γ fun v M1 => (go Γ M1).thenS Γ fun o M2 => (gi Γ M2).thenS Γ fun i M3 => match setX M3 o i v with
  | some M4 => .nx Γ M4
  | none => .bad := Eq.trans rfl rfl
end Bk

set_option Elab.async false
set_option linter.all false
set_option maxRecDepth 100000
set_option maxHeartbeats 4000000
namespace Bk
open PySem PySem.Spec PyProof.Rows L2
@[simp] theorem rr_ptu (m : Nat) (M : List MO) (ds : List D) : retR m M (.ptu ds) = if belows m ds = true then .ok (.ptu ds) (M.take m) else .bad := Eq.trans rfl rfl
@[simp] theorem rr_dct (m : Nat) (M : List MO) (ks vs : List D) : retR m M (.dct ks vs) = if (belows m ks && belows m vs) = true then .ok (.dct ks vs) (M.take m) else .bad := Eq.trans rfl rfl
@[simp] theorem bl_ptu (m : Nat) (ds : List D) : below m (.ptu ds) = belows m ds := Eq.trans rfl rfl
@[simp] theorem bl_dct (m : Nat) (ks vs : List D) : below m (.dct ks vs) = (belows m ks && belows m vs) := Eq.trans rfl rfl
@[simp] theorem blo_dct (m : Nat) (ks vs : List D) : belowO m (.dct ks vs) = (belows m ks && belows m vs) := Eq.trans rfl rfl
@[simp] theorem blo_dki (m : Nat) (kvs : List (Int × D)) : belowO m (.dki kvs) = belows m (kvs.map (·.2)) := Eq.trans rfl rfl
@[simp] theorem it_ptu (M : List MO) (ds : List D) : itemsD M (.ptu ds) = some ds := Eq.trans rfl rfl
@[simp] theorem e_lenNd (M : List MO) (ks vs : List D) : dLenN M (.dct ks vs) = some (.int (vs.length : Nat)) := Eq.trans rfl rfl
@[simp] theorem dn_dct (M : List MO) (ks vs : List D) : dctD M (.dct ks vs) = some (ks, vs) := Eq.trans rfl rfl
@[simp] theorem u_runW (n : Nat) (g : GS) (ds : List D) (M : List MO) : runW n g ds M = finW (g (ds.map some ++ List.replicate (n - ds.length) none) M) := Eq.trans rfl rfl
@[simp] theorem u_callW (F : List D → List MO → R D) (ds : List D) (M : List MO) : callW F ds M = F ds M := Eq.trans rfl rfl
@[simp] theorem seqD_p (ds : List D) : seqD (.ptu ds) = some ds := Eq.trans rfl rfl
end Bk

set_option Elab.async false
set_option linter.all false
set_option maxRecDepth 100000
set_option maxHeartbeats 4000000
namespace Bk
open PySem PySem.Spec PyProof.Rows L2
/-! ### a, b = a list -/
def gToL (gs : GGs) : GG := fun d Γ => match d with
  | .lst ds => gs ds Γ
  | _ => none
section
variable {X : Cx} {es : List Expr} {gs : GGs} {is : List Nat} {pos : Pos}
end
@[simp] theorem u_gToL (gs : GGs) (ds : List D) (Γ : Env) : gToL gs (.lst ds) Γ = gs ds Γ := Eq.trans rfl rfl
end Bk

set_option Elab.async false
set_option linter.all false
set_option maxRecDepth 100000
set_option maxHeartbeats 4000000
namespace Bk
open PySem PySem.Spec PyProof.Rows L2
/-! ### {"a": "b", "c": "d"}[e] -/
def gStrM (a b c d : Str) (ge : GE) : GE := fun Γ M => (ge Γ M).bind fun x M1 => match x with
  | .str s => if s = a then .ok (.str b) M1 else if s = c then .ok (.str d) M1 else .bad
  | _ => .bad
section
variable {X : Cx} {C : CT} {W : WX} {e : Expr} {ge : GE} {pos dp p1 p2 p3 p4 : Pos}
@[simp] theorem u_gStrM (a b c d : Str) (ge : GE) (Γ : Env) (M : List MO) : gStrM a b c d ge Γ M = (ge Γ M).bind fun x M1 => match x with
  | .str s => if s = a then .ok (.str b) M1 else if s = c then .ok (.str d) M1 else .bad
  | _ => .bad := Eq.trans rfl rfl
end
end Bk

set_option Elab.async false
set_option linter.all false
set_option maxRecDepth 100000
set_option maxHeartbeats 2000000
namespace Bk
open PySem PySem.Spec PyProof.Rows L2
/-! ### t < u, t > u of tuples of ints; sorted of a list of them -/
theorem canLay_ints : ∀ is : List Int, toPs (is.map D.int) = some (is.map PyData.int)
  | [] => rfl
  | i :: is => by simp [toPs, toP, canLay_ints is]
theorem toP_ints (is : List Int) : toP (.tup (is.map D.int)) = some (.tuple (is.map .int)) := by simp [toP, canLay_ints is]
theorem alike_tups (a b : List Int) : PySem.W.alike (.tuple (a.map .int)) (.tuple (b.map .int)) = true := by
  rw [PySem.W.alike]
  exact PySem.W.alike_ints a b
theorem depth_tups (a : List Int) : (PyData.tuple (a.map .int)).depth = 1 := by
  simp [PyData.depth, PySem.W.depth_ints a]
theorem lt_tups (a b : List Int) : PySem.W.dataLt (.tuple (a.map .int)) (.tuple (b.map .int)) = decide (a < b) := by
  rw [PySem.W.dataLt_tuple]
  exact PySem.W.dataLt_ints a b
theorem intsL_is : ∀ {ds : List D} {is : List Int}, intsL ds = some is → ds = is.map D.int
  | [], _, h => by cases h; rfl
  | d :: ds, is, h => by
    cases d with
    | int i =>
      have h' : (intsL ds).map (fun is => i :: is) = some is := h
      cases e : intsL ds with
      | none => rw [e] at h'; cases h'
      | some js =>
        rw [e] at h'
        cases h'
        rw [List.map_cons, ← intsL_is e]
    | _ => cases h
def dLtA (M : List MO) (x y : D) : Option D := match x, y with
  | .tup xs, .tup ys => match intsL xs, intsL ys with
    | some ns, some ms => some (.bl (decide (ns < ms)))
    | _, _ => none
  | x, y => dLt M x y
def dGtA (M : List MO) (x y : D) : Option D := match x, y with
  | .tup xs, .tup ys => match intsL xs, intsL ys with
    | some ns, some ms => some (.bl (decide (ms < ns)))
    | _, _ => none
  | x, y => dGt M x y
def rGtD (K : PySem.W.Frag) : R2 := fun x y H Q => ∃ ns ms : List Int, Dp K H x (.tuple (ns.map .int)) ∧ Dp K H y (.tuple (ms.map .int)) ∧ Q (.bl (decide (ms < ns))) H
section
variable {X : Cx}
theorem op_gtD (hu : X.A.units + 65 < cLine) : OpR X (compareOp .Gt) (rGtD X.K) := by
  intro pins s σ H x y v u Q I rx ry h
  obtain ⟨ns, ms, h1, h2, q⟩ := h
  obtain ⟨as, r1⟩ := Dp.reads I _ _ _ h1 rx
  obtain ⟨bs, r2⟩ := Dp.reads I _ _ _ h2 ry
  refine PySem.W.gt_data r1 r2 (alike_tups ns ms) (by simp) (by rw [depth_tups, depth_tups]; omega) ?_
  rw [lt_tups]
  exact ⟨.bl _, H, I, rfl, q⟩
theorem op_gtA (hu : X.A.units + 65 < cLine) : OpR X (compareOp .Gt) (fun x y H Q => rGtD X.K x y H Q ∨ rI0 (fun i j => .bl (decide (j < i))) x y H Q) := (op_gtD hu).or op_gt
theorem ok_gtA : Ok2 X (fun x y H Q => rGtD X.K x y H Q ∨ rI0 (fun i j => .bl (decide (j < i))) x y H Q) dGtA := fun x y H Z ι M dx dy d Q hr rx ry e q => by
  unfold dGtA at e
  split at e
  · rename_i xs ys
    cases e1 : intsL xs with
    | none => rw [e1] at e; cases e
    | some ns =>
      cases e2 : intsL ys with
      | none => rw [e1, e2] at e; cases e
      | some ms =>
        rw [e1, e2] at e
        cases e
        have w1 := intsL_is e1
        have w2 := intsL_is e2
        subst w1 w2
        exact .inl ⟨ns, ms, toP_dp hr.sub _ _ _ rx (toP_ints ns), toP_dp hr.sub _ _ _ ry (toP_ints ms), q.now hr (.bl _)⟩
  · exact .inr (ok_gt x y H Z ι M dx dy d Q hr rx ry e q)
end
@[simp] theorem e_ltA_i (M : List MO) (i j : Int) : dLtA M (.int i) (.int j) = some (.bl (decide (i < j))) := Eq.trans rfl rfl
@[simp] theorem e_gtA_i (M : List MO) (i j : Int) : dGtA M (.int i) (.int j) = some (.bl (decide (j < i))) := Eq.trans rfl rfl
theorem room70 {k : Nat} {A : Around} (hr : Room k A) : A.units + 70 < cLine := by have := hr.un; omega
/-! sorted -/
abbrev tupI (is : List Int) : D := .tup (is.map D.int)
def rowsL : List D → Option (List (List Int))
  | [] => some []
  | .tup xs :: ds => match intsL xs with
    | some is => (rowsL ds).map fun rs => is :: rs
    | none => none
  | _ => none
theorem rowsL_map : ∀ rs : List (List Int), rowsL (rs.map tupI) = some rs
  | [] => rfl
  | r :: rs => by
    show (match intsL (r.map D.int) with
    | some is => (rowsL (rs.map tupI)).map fun rs => is :: rs
    | none => none) = _
    rw [intsL_map, rowsL_map rs]
    rfl
theorem rowsL_is : ∀ {ds : List D} {rs : List (List Int)}, rowsL ds = some rs → ds = rs.map tupI
  | [], _, h => by cases h; rfl
  | d :: ds, rs, h => by
    cases d with
    | tup xs =>
      have h' : (match intsL xs with
        | some is => (rowsL ds).map fun rs => is :: rs
        | none => none) = some rs := h
      cases e : intsL xs with
      | none => rw [e] at h'; cases h'
      | some is =>
        rw [e] at h'
        cases e2 : rowsL ds with
        | none => rw [e2] at h'; cases h'
        | some qs =>
          rw [e2] at h'
          cases h'
          rw [List.map_cons, ← rowsL_is e2]
          show D.tup xs :: ds = D.tup (is.map D.int) :: ds
          rw [← intsL_is e]
    | _ => cases h
def leR (p q : List Int) : Bool := decide (p ≤ q)
def srtR (rs : List (List Int)) : List (List Int) := rs.mergeSort leR
def srtOk (rs : List (List Int)) : Bool := decide (rs.length ≤ 1) || rs.all fun r => decide (r ≠ [])
def dSortT (M : List MO) (d : D) : Option D := ((listD M d).bind rowsL).bind fun rs => if srtOk rs = true then some (.lst ((srtR rs).map tupI)) else none
theorem leR_data : PySem.W.dataLe false (fun b : List Int => .tuple (b.map .int)) = leR := by
  funext p q
  show (!PySem.W.dataLt (.tuple (q.map .int)) (.tuple (p.map .int))) = _
  rw [lt_tups]
  unfold leR
  by_cases h : q < p
  · have h' : ¬ p ≤ q := fun r => List.not_lt.mpr r h
    simp [h, h']
  · have h' : p ≤ q := List.not_lt.mp h
    simp [h, h']
section
variable {X : Cx}
theorem one_sorts {prog : Program} {w : World} {A : Around} {s : Shared} {v : Value} {r : List Int} {as : List Addr} (rd : Reads s.heap v (.tuple (r.map .int)) as) (hu : A.units + 65 < cLine) : PySem.W.SortsAt prog w A s (PySem.W.dataKind s.heap [.tuple (r.map .int)]) [v] := by
  have hal : PySem.W.AllAlike [PyData.tuple (r.map .int)] := fun d hd d' hd' => by
    rw [List.mem_singleton.mp hd, List.mem_singleton.mp hd']
    exact alike_tups r r
  refine ⟨fun u hu => ?_, PyProof.Rows.general', ?_, fun h2 => absurd h2 (by simp)⟩
  · rw [List.mem_singleton.mp hu]
    exact ⟨_, PySem.W.dataKind_some hal (List.mem_singleton.mpr rfl) rd⟩
  · intro E x y a b Q ha hb hq
    obtain ⟨d, as, hd, ra, rfl⟩ := PySem.W.dataKind_inv ha
    obtain ⟨d', as', hd', rb, rfl⟩ := PySem.W.dataKind_inv hb
    rw [List.mem_singleton.mp hd] at ra hq
    rw [List.mem_singleton.mp hd'] at rb hq
    have e : keyLt' general' x y = oneLt' false x y := rfl
    rw [e]
    exact PySem.W.oneLt_alike (fun h => by cases h) ra rb (alike_tups r r) (by simp) (by rw [depth_tups]; omega) hq
theorem sorted_tupI {prog : Program} {w : World} {A : Around} {E : Value → Shared → Prop} {s : Shared} {R : Value → List Int → Prop} {l : Addr} {vs : List Value} {rs : List (List Int)} {Q : Value → Shared → Prop} (hl : s.heap.IsList l vs.toArray) (e : PySem.W.EachIs R vs rs) (er : PySem.W.EachIs (fun v (b : List Int) => ∃ as, Reads s.heap v (.tuple (b.map .int)) as) vs rs)
    (hk : srtOk rs = true) (hL : rs.length ≤ sizeLine) (hu : A.units + 70 < cLine) (h : ∀ out : List Value, out.length = rs.length → PySem.W.EachIs R out (srtR rs) → Q (.ref (s.heap.objs.size + 1)) { s with heap := sortedAll s.heap vs (List.toArray out) }) :
    wpAny (model prog w) A (call (.builtin "sorted") [.ref l]) Q E s := by
  have hal : PySem.W.AllAlike (rs.map fun b => PyData.tuple (b.map .int)) := PySem.W.AllAlike.of fun b b' => alike_tups b b'
  by_cases c : rs.all (fun r => decide (r ≠ [])) = true
  · have sb : PySem.W.Sortable (rs.map fun b => PyData.tuple (b.map .int)) := .inl fun d hd => by
      obtain ⟨b, hb, rfl⟩ := List.mem_map.mp hd
      have := List.all_eq_true.mp c b hb
      cases b with
      | nil => simp at this
      | cons x b => exact ⟨_, _, rfl⟩
    refine PySem.W.sorted_data (enc := fun b : List Int => .tuple (b.map .int)) hl e er hal sb hL (fun b _ => by rw [depth_tups]; omega) fun out ho eo => h out ho ?_
    rw [leR_data] at eo
    exact eo
  · have hz : rs.length ≤ 1 := by
      unfold srtOk at hk
      rw [Bool.or_eq_true] at hk
      rcases hk with hk | hk
      · simpa using hk
      · exact absurd hk c
    rcases rs with _ | ⟨r, _ | ⟨r2, rs⟩⟩
    · exact absurd (by simp) c
    · cases e with
      | @cons v _ vs' _ e1 e2 =>
        cases e2
        cases er with
        | cons r1 r2 =>
          obtain ⟨as, rd⟩ := r1
          have rd' : Reads (PySem.W.sortingHeap (PySem.W.copyHeap s.heap [v]) (s.heap.objs.size + 1) [v]) v (.tuple (r.map .int)) as := PyProof.Rows.Reads.keeps (fun _ _ => PySem.W.sorting_copy_old) rd
          have S := one_sorts (prog := prog) (w := w) (A := A.in1.in1) (s := { s with heap := PySem.W.sortingHeap (PySem.W.copyHeap s.heap [v]) (s.heap.objs.size + 1) [v] }) rd' (by show A.units + 2 + 65 < cLine; omega)
          refine PySem.W.sorted_vals hl S (by simpa using hL) ?_
          have sv := PySem.W.sortVals_data (h' := PySem.W.sortingHeap (PySem.W.copyHeap s.heap [v]) (s.heap.objs.size + 1) [v]) (R := R) (enc := fun b : List Int => PyData.tuple (b.map .int)) (vs := [v]) (bs := [r]) false (.cons e1 .nil) (.cons ⟨as, rd'⟩ .nil) hal
          rw [leR_data] at sv
          exact h _ (by rw [PySem.W.sortVals_length false rfl]; rfl) sv
    · simp at hz
def rSrtT (K : PySem.W.Frag) : List V → Hp → VK → Prop := fun vs H Q => ∃ (a : Addr) (Z : Hp) (ι : Nat → Addr) (n : Nat) (rs : List (List Int)) (xs : List V), vs = [.ref a] ∧ SqL K H a xs ∧ Sub Z H ∧ Rps K Z ι n (rs.map tupI) xs ∧ srtOk rs = true ∧
  ∀ ys p, Rps K Z ι n ((srtR rs).map tupI) ys → H p = none → Q (.ref p) (upd H p (.lst ys))
theorem tups_there {pins : List (Addr × Obj)} {σ : St} {H Z : Hp} {ι : Nat → Addr} {n : Nat} {s : Shared} (I : Inv X pins σ H s) (hz : Sub Z H) : ∀ {rs : List (List Int)} {xs : List V} {us : List Value}, Rps X.K Z ι n (rs.map tupI) xs → Vals xs us →
    PySem.W.EachIs (fun v (b : List Int) => Rp X.K Z ι n (tupI b) (backV v) ∧ ∃ a, v = Value.ref a) us rs ∧ PySem.W.EachIs (fun v (b : List Int) => ∃ as, Reads s.heap v (.tuple (b.map .int)) as) us rs
  | [], _, _, h, r => by
    cases h
    cases r
    exact ⟨.nil, .nil⟩
  | p :: rs, _, _, h, r => by
    cases h with
    | cons h1 h2 =>
      cases r with
      | cons r1 r2 =>
        obtain ⟨a1, a2⟩ := tups_there I hz h2 r2
        obtain ⟨as, rd⟩ := Dp.reads I _ _ _ (toP_dp hz _ _ _ h1 (toP_ints p)) r1
        cases h1 with
        | tup sq rr =>
          rename_i a ys
          cases (show _ = Value.ref a from r1)
          exact ⟨.cons ⟨.tup sq rr, a, rfl⟩ a1, .cons ⟨as, rd⟩ a2⟩
theorem each_rps {K : PySem.W.Frag} {Z : Hp} {ι : Nat → Addr} {n : Nat} : ∀ {us : List Value} {rs : List (List Int)}, PySem.W.EachIs (fun v (b : List Int) => Rp K Z ι n (tupI b) (backV v) ∧ ∃ a, v = Value.ref a) us rs → Rps K Z ι n (rs.map tupI) (us.map backV) ∧ ∀ u ∈ us, ∃ a, u = Value.ref a
  | _, _, .nil => ⟨.nil, fun u h => by cases h⟩
  | _, _, .cons ⟨h1, h2⟩ t => by
    obtain ⟨a, b⟩ := each_rps t
    exact ⟨.cons h1 a, fun u hu => by
      rcases List.mem_cons.mp hu with rfl | hu
      · exact h2
      · exact b u hu⟩
theorem cr_srtT (hu : X.A.units + 70 < cLine) : CallR X (.builtin "sorted") (rSrtT X.K) := by
  intro pins s σ H vs us Q I r h
  obtain ⟨a, Z, ι, n, rs, xs, rfl, hs, hz, hp, hk, q⟩ := h
  obtain ⟨its, rv, hl, hsz⟩ := I.list hs
  obtain ⟨u, rfl, ru⟩ := vals1 r
  obtain rfl : u = Value.ref a := ru
  obtain ⟨e1, e2⟩ := tups_there I hz hp rv
  have lr : its.length = rs.length := e1.length
  have lz : rs.length ≤ sizeLine := by rw [← lr, ← rv.length]; exact hsz
  refine sorted_tupI hl.isList e1 e2 hk lz hu fun out ho eo => ?_
  obtain ⟨ry, h3⟩ := each_rps eo
  have hn := sortedAll_at s.heap its out.toArray
  obtain ⟨m, hn⟩ := hn
  refine ⟨.ref (s.heap.objs.size + 1), upd H (s.heap.objs.size + 1) (.lst (out.map backV)), I.laid (t' := s.toks) (fun b o e => sortedAll_old e) (Nat.le_succ _) ⟨?_, out, m, vals_back h3, hn⟩, rfl, q _ _ ry (I.hok.fresh (Nat.le_succ _))⟩
  rw [List.length_map, ho]
  exact lz
theorem ok_srtT : Ok1 X (fun x H Q => rSrtT X.K [x] H Q) dSortT := fun x H Z ι M dx d Q hr rx e q => by
  unfold dSortT at e
  cases e1 : listD M dx with
  | none => rw [e1] at e; cases e
  | some ds =>
    rw [e1, Option.bind_some] at e
    cases e2 : rowsL ds with
    | none => rw [e2] at e; cases e
    | some rs =>
      rw [e2, Option.bind_some] at e
      by_cases c : srtOk rs = true
      · rw [if_pos c] at e
        cases e
        obtain ⟨a, xs, rfl, s, r⟩ := listD_run hr rx e1
        rw [rowsL_is e2] at r
        exact ⟨a, Z, ι, M.length, rs, xs, rfl, s.sq, hr.sub, r, c, fun ys p ry hp => q.lst hr ry p hp⟩
      · rw [if_neg c] at e
        cases e
def dSortB (M : List MO) (d : D) : Option D := match dSort M d with
  | some r => some r
  | none => dSortT M d
theorem cr_srtB (hc : X.calm = true) (hu : X.A.units + 70 < cLine) : CallR X (.builtin "sorted") (fun xs H Q => rSortedI X.K xs H Q ∨ rSrtT X.K xs H Q) := CallR.or cr_sortedI (cr_srtT hu)
theorem ok_srtB : Ok1 X (fun x H Q => rSortedI X.K [x] H Q ∨ rSrtT X.K [x] H Q) dSortB := fun x H Z ι M dx d Q hr rx e q => by
  unfold dSortB at e
  cases e1 : dSort M dx with
  | some r =>
    rw [e1] at e
    cases e
    exact .inl (ok_sort x H Z ι M dx _ Q hr rx e1 q)
  | none =>
    rw [e1] at e
    exact .inr (ok_srtT x H Z ι M dx d Q hr rx e q)
end
end Bk

set_option Elab.async false
set_option linter.all false
set_option maxRecDepth 100000
set_option maxHeartbeats 2000000
namespace Bk
open PySem PySem.Spec PyProof.Rows L2
/-! ### sum of a tuple of ints -/
def dSumT (M : List MO) (d : D) : Option D := match d with
  | .tup xs => (intsL xs).map fun is => .int is.sum
  | d => dSum M d
section
variable {X : Cx}
end
@[simp] theorem e_sumT_l (M : List MO) (l : List D) : dSumT M (.lst l) = dSum M (.lst l) := Eq.trans rfl rfl
@[simp] theorem e_sumT_r (M : List MO) (k : Nat) : dSumT M (.ref k) = dSum M (.ref k) := Eq.trans rfl rfl
end Bk

set_option Elab.async false
set_option linter.all false
set_option maxRecDepth 100000
set_option maxHeartbeats 2000000
namespace Bk
open PySem PySem.Spec PyProof.Rows L2
/-! ### a chain of three comparisons, as a test -/
def gChain3 (f f' f'' : List MO → D → D → Option D) (ga gb gc gd : GE) : GE := fun Γ M => (ga Γ M).bind fun x M1 => (gb Γ M1).bind fun y M2 => (opR (f M2 x y) M2).bind fun k M3 => match k with
  | .bl c => if c = true then (gc Γ M3).bind fun z M4 => (opR (f' M4 y z) M4).bind fun k' M5 => match k' with
      | .bl c' => if c' = true then (gd Γ M5).bind fun w M6 => opR (f'' M6 z w) M6 else .ok (.bl false) M5
      | _ => .bad
    else .ok (.bl false) M3
  | _ => .bad
@[simp] theorem u_gChain3 (f f' f'' : List MO → D → D → Option D) (ga gb gc gd : GE) (Γ : Env) (M : List MO) : gChain3 f f' f'' ga gb gc gd Γ M = ((ga Γ M).bind fun x M1 => (gb Γ M1).bind fun y M2 => (opR (f M2 x y) M2).bind fun k M3 => match k with
  | .bl c => if c = true then (gc Γ M3).bind fun z M4 => (opR (f' M4 y z) M4).bind fun k' M5 => match k' with
      | .bl c' => if c' = true then (gd Γ M5).bind fun w M6 => opR (f'' M6 z w) M6 else .ok (.bl false) M5
      | _ => .bad
    else .ok (.bl false) M3
  | _ => .bad) := Eq.trans rfl rfl
section
variable {X : Cx} {C : CT} {W : WX}
variable {a b c d : Expr} {ga gb gc gd : GE} {pos : Pos} {f f' f'' : List MO → D → D → Option D}
end
end Bk

set_option Elab.async false
set_option linter.all false
set_option maxRecDepth 100000
set_option maxHeartbeats 2000000
namespace Bk
open PySem PySem.Spec PyProof.Rows L2 HT
/-! ### t[::-1] of a tuple -/
section
variable {prog : Program} {w : World} {A : Around} {E : Value → Shared → Prop} {s : Shared}
end
def dRevA (M : List MO) (x : D) : Option D := match x with
  | .tup ds => some (.tup ds.reverse)
  | x => dRevL M x
def gRevA (ge : GE) : GE := fun Γ M => (ge Γ M).bind fun x M1 => opR (dRevA M1 x) M1
@[simp] theorem u_gRevA (ge : GE) (Γ : Env) (M : List MO) : gRevA ge Γ M = (ge Γ M).bind fun x M1 => opR (dRevA M1 x) M1 := Eq.trans rfl rfl
@[simp] theorem e_revAt (M : List MO) (ds : List D) : dRevA M (.tup ds) = some (.tup ds.reverse) := Eq.trans rfl rfl
@[simp] theorem e_revAl (M : List MO) (ds : List D) : dRevA M (.lst ds) = some (.lst ds.reverse) := Eq.trans rfl rfl
section
variable {X : Cx} {C : CT} {W : WX} {e : Expr} {g : GE}
end
end Bk

set_option Elab.async false
set_option linter.all false
set_option maxRecDepth 100000
set_option maxHeartbeats 2000000
namespace Bk
open PySem PySem.Spec PyProof.Rows L2
/-! ### the lists within a list are left as they are from now on -/
def frz1 : D → List MO → Option (D × List MO)
  | .ref k, M => match M[k]? with
    | some (.lst es) => some (.lst es, M.set k .dead)
    | _ => none
  | d, M => some (d, M)
def frzI : List D → List MO → Option (List D × List MO)
  | [], M => some ([], M)
  | d :: ds, M => (frz1 d M).bind fun p => (frzI ds p.2).map fun q => (p.1 :: q.1, q.2)
def gFzI (i : Nat) : GS := fun Γ M => match Γ[i]? with
  | some (some (.lst ds)) => match frzI ds M with
    | some p => .nx (Γ.set i (some (.lst p.1))) p.2
    | none => .bad
  | _ => .bad
@[simp] theorem u_gFzI (i : Nat) (Γ : Env) (M : List MO) : gFzI i Γ M = (match Γ[i]? with
  | some (some (.lst ds)) => match frzI ds M with
    | some p => .nx (Γ.set i (some (.lst p.1))) p.2
    | none => .bad
  | _ => .bad) := Eq.trans rfl rfl
section
variable {K : PySem.W.Frag} {H Z : Hp} {ι : Nat → Addr} {M M' : List MO}
end
section
variable {X : Cx} {C : CT} {W : WX} {st : Stmt} {g : GS}
end
end Bk

set_option Elab.async false
set_option linter.all false
set_option maxRecDepth 100000
set_option maxHeartbeats 2000000
namespace Bk
open PySem PySem.Spec PyProof.Rows L2
/-! ### xs * k as a list of ours -/
def repO (ds : Option (List D)) (y : D) (M : List MO) : R D := match ds, y with
  | some ds, .int k => if (decide (k < 2 ^ 63) && decide (-(2 ^ 63) ≤ k) && decide (ds.length * k.toNat ≤ sizeLine)) = true then .ok (.ref M.length) (M ++ [.lst (List.replicate k.toNat ds).flatten]) else .bad
  | _, _ => .bad
def gRepO (ga gb : GE) : GE := fun Γ M => (ga Γ M).bind fun x M1 => (gb Γ M1).bind fun y M2 => repO (listD M2 x) y M2
@[simp] theorem u_gRepO (ga gb : GE) (Γ : Env) (M : List MO) : gRepO ga gb Γ M = ((ga Γ M).bind fun x M1 => (gb Γ M1).bind fun y M2 => repO (listD M2 x) y M2) := Eq.trans rfl rfl
section
variable {X : Cx} {C : CT} {W : WX} {a b : Expr} {ga gb : GE} {pos : Pos}
end
end Bk

set_option Elab.async false
set_option linter.all false
set_option maxRecDepth 100000
set_option maxHeartbeats 4000000
namespace Bk
open PySem PySem.Spec PyProof.Rows L2 Srt SrtO SrtR
/-! ### sorted(t, reverse=True) of a tuple of ints -/
section
variable {prog : Program} {w : World} {A : Around} {E : Value → Shared → Prop} {s : Shared}
end
section
variable {X : Cx}
end
def dSortRT (M : List MO) : D → Option D
  | .tup ds => (intsD ds).map fun is => .lst ((srtI is).reverse.map D.int)
  | x => dSortR M x
def gSortRT (ge : GE) : GE := fun Γ M => (ge Γ M).bind fun x M1 => opR (dSortRT M1 x) M1
@[simp] theorem u_gSortRT (ge : GE) (Γ : Env) (M : List MO) : gSortRT ge Γ M = (ge Γ M).bind fun x M1 => opR (dSortRT M1 x) M1 := Eq.trans rfl rfl
section
variable {X : Cx} {C : CT} {W : WX} {e : Expr} {g : GE}
end
end Bk

set_option Elab.async false
set_option linter.all false
set_option maxRecDepth 100000
set_option maxHeartbeats 2000000
namespace Bk
open PySem PySem.Spec PyProof.Rows L2
/-! ### a list of ours that comes back from a call, and will not be changed -/
def fzD (d : D) (M : List MO) : R D := match d with
  | .ref k => match M[k]? with
    | some (.lst ds) => .ok (.lst ds) (M.set k .dead)
    | _ => .bad
  | d => .ok d M
def gFzE (ge : GE) : GE := fun Γ M => (ge Γ M).bind fzD
@[simp] theorem u_gFzE (ge : GE) (Γ : Env) (M : List MO) : gFzE ge Γ M = (ge Γ M).bind fzD := Eq.trans rfl rfl
section
variable {X : Cx} {C : CT} {W : WX} {e : Expr} {ge : GE}
end
end Bk

set_option Elab.async false
set_option linter.all false
set_option maxRecDepth 100000
set_option maxHeartbeats 2000000
namespace Bk
open PySem PySem.Spec PyProof.Rows L2
/-! ### a loop over a list of ours, read anew at each turn -/
def gForN (gg : GG) (body : GS) (k : Nat) : Nat → Nat → GS
  | 0, _ => gBad
  | n + 1, i => fun Γ M => match M[k]? with
    | some (.lst ds) => match ds[i]? with
      | some d => optS (gg d Γ) fun Γ1 => (body Γ1 M).turn (gForN gg body k n (i + 1))
      | none => .nx Γ M
    | _ => .bad
def gForO (ge : GE) (gg : GG) (body : GS) (n : Nat) : GS := fun Γ M => (ge Γ M).thenS Γ fun d M1 => match d with
  | .ref k => gForN gg body k n 0 Γ M1
  | _ => .bad
@[simp] theorem u_gForO (ge : GE) (gg : GG) (body : GS) (n : Nat) (Γ : Env) (M : List MO) : gForO ge gg body n Γ M = ((ge Γ M).thenS Γ fun d M1 => match d with
  | .ref k => gForN gg body k n 0 Γ M1
  | _ => .bad) := Eq.trans rfl rfl
section
variable {X : Cx} {C : CT} {W : WX} {tg : Expr} {ge : GE} {gg : GG} {g : GS} {pos : Pos}
/-! ### a slice as a list of ours -/
def slO (ds : Option (List D)) (lo hi : Option Int) (M : List MO) : R D := match ds with
  | some ds => .ok (.ref M.length) (M ++ [.lst (cutD ds lo hi)])
  | none => .bad
def gSlO (ge : GE) (lo hi : GO) : GE := fun Γ M => (ge Γ M).bind fun x M1 => (lo Γ M1).bind fun a M2 => (hi Γ M2).bind fun b M3 => slO (listD M3 x) a b M3
@[simp] theorem u_gSlO (ge : GE) (lo hi : GO) (Γ : Env) (M : List MO) : gSlO ge lo hi Γ M = ((ge Γ M).bind fun x M1 => (lo Γ M1).bind fun a M2 => (hi Γ M2).bind fun b M3 => slO (listD M3 x) a b M3) := Eq.trans rfl rfl
@[simp] theorem slO_some (ds : List D) (lo hi : Option Int) (M : List MO) : slO (some ds) lo hi M = .ok (.ref M.length) (M ++ [.lst (cutD ds lo hi)]) := Eq.trans rfl rfl
end
end Bk

set_option Elab.async false
set_option linter.all false
set_option maxRecDepth 100000
set_option maxHeartbeats 4000000
namespace Bk
open PySem PySem.Spec PyProof.Rows L2
/-! ### sets of tuples of ints: sorted(set(xs)) -/
/-- each row once -/
def uniqR : List (List Int) → List (List Int)
  | [] => []
  | r :: rs => if r ∈ rs then uniqR rs else r :: uniqR rs
section
variable {prog : Program} {w : World} {A : Around} {E : Value → Shared → Prop} {s : Shared}
variable {a : Addr} {L : List (Addr × List Int)} {es : Array (Int × Value)} {ep : Nat} {t : SetTable}
end
end Bk

set_option Elab.async false
set_option linter.all false
set_option maxRecDepth 100000
set_option maxHeartbeats 4000000
namespace Bk
open PySem PySem.Spec PyProof.Rows L2
/-! ### sorted(set(xs)), the rule -/
section
variable {X : Cx}
end
/-! what the layer says -/
def dSortS (M : List MO) (d : D) : Option D := ((listD M d).bind rowsL).bind fun rs => if (decide (rs.length < 64) && srtOk (uniqR rs)) = true then some (.lst ((srtR (uniqR rs)).map tupI)) else none
def gSortS (ge : GE) : GE := fun Γ M => (ge Γ M).bind fun d M1 => opR (dSortS M1 d) M1
@[simp] theorem u_gSortS (ge : GE) (Γ : Env) (M : List MO) : gSortS ge Γ M = ((ge Γ M).bind fun d M1 => opR (dSortS M1 d) M1) := Eq.trans rfl rfl
section
variable {X : Cx} {C : CT} {W : WX} {a : Expr} {ge : GE} {p p2 pos q : Pos}
end
end Bk

set_option Elab.async false
set_option linter.all false
set_option maxRecDepth 100000
set_option maxHeartbeats 4000000
namespace Bk
open PySem PySem.Spec PyProof.Rows L2 PpSet
/-! ### a set comprehension of tuples of ints, and how many they are -/
section
variable {X : Cx} {pins : List (Addr × Obj)} {σ : St} {H : Hp} {s : Shared}
end
end Bk

set_option Elab.async false
set_option linter.all false
set_option maxRecDepth 100000
set_option maxHeartbeats 4000000
namespace Bk
open PySem PySem.Spec PyProof.Rows L2 PpSet
/-! ### len({e for x in xs if ..}), e a tuple of ints -/
def rowD : D → Option (List Int)
  | .tup xs => intsL xs
  | _ => none
def gScL (gg : GG) (gt : GT) (ge : GE) (Γ0 : Env) : List D → List (List Int) → List MO → R (List (List Int))
  | [], rs, M => .ok rs M
  | d :: ds, rs, M => match gg d Γ0 with
    | none => .bad
    | some Γ1 => (gt Γ1 M).only fun k M1 => if k = true then (ge Γ1 M1).only fun y M2 => match rowD y with
        | some r => if rs.length + 1 < 64 then gScL gg gt ge Γ0 ds (rs ++ [r]) M2 else .bad
        | none => .bad
      else gScL gg gt ge Γ0 ds rs M1
def gLenSc (gi : GI) (gg : GG) (gt : GT) (ge : GE) (vs : List Nat) : GE := fun Γ M => (gi Γ M).bind fun ds M1 => (gScL gg gt ge (forget Γ vs) ds [] M1).bind fun rs M2 => .ok (.int ((uniqR rs).length : Nat)) M2
@[simp] theorem u_gLenSc (gi : GI) (gg : GG) (gt : GT) (ge : GE) (vs : List Nat) (Γ : Env) (M : List MO) : gLenSc gi gg gt ge vs Γ M = ((gi Γ M).bind fun ds M1 => (gScL gg gt ge (forget Γ vs) ds [] M1).bind fun rs M2 => .ok (.int ((uniqR rs).length : Nat)) M2) := Eq.trans rfl rfl
@[simp] theorem scL_nil (gg : GG) (gt : GT) (ge : GE) (Γ0 : Env) (rs : List (List Int)) (M : List MO) : gScL gg gt ge Γ0 [] rs M = .ok rs M := by simp [gScL]
section
variable {X : Cx} {C : CT} {W : WX}
variable {elt tg iter : Expr} {ifs : List Expr} {scope : Scope} {own : List (Str × Nat)} {p q pos : Pos} {gi : GI} {gg : GG} {gt : GT} {ge : GE} {is ixs : List Nat}
end
end Bk

set_option Elab.async false
set_option linter.all false
set_option maxRecDepth 100000
set_option maxHeartbeats 4000000
namespace Bk
open PySem PySem.Spec PyProof.Rows L2
/-! ### attributes stored at once, objects whose fields are ours, keys of a dict of ours, defs that call themselves -/
section
variable {X : Cx} {C : CT} {W : WX} {e o : Expr} {es : List Expr} {nm f m x : Str} {ge go : GE} {gs : GA} {pos apos pos' p : Pos} {C0 : Addr}
def gAtt (to : TE) (K : PySem.W.Frag) (f : Str) : TG := fun v σ H Q => to σ H fun x H1 => ∃ a C dx fs, x = .ref a ∧ H1 a = some (.ins C dx fs) ∧ Cls K C ∧ NoAttr K C f ∧ fs.length < 1000 ∧ Q σ (upd H1 a (.ins C dx (putF f v fs)))
theorem pg_att {to : TE} (ho : PE X o to) : PG X (.Attribute o f pos) (gAtt to X.K f) := by
  refine ⟨fun pins s σ H v u Q I r h => ?_⟩
  rw [arm_assign_Attribute]
  refine wpAny_bind (wpAny_holding (thn (ho.run pins s σ H _ I h) fun ov s1 ⟨x, H1, I1, r1, a, C, dx, fs, ex, ea, c, n, l, q1⟩ => ?_))
  subst ex
  obtain rfl : ov = Value.ref a := r1
  exact wpAny_bind (wpAny_standAt (wpAny_bind (wpAny_holding (setattr_ok I1 ea c n l r fun s3 I3 => wpAny_release ⟨σ, _, I3, q1⟩))))
/-- one field of an object -/
def setO (nm f : Str) (x d : D) (M : List MO) : Option (List MO) := match x with
  | .ref k => match M[k]? with
    | some (.obj nm' fs) => if nm' = nm ∧ fs.length < 1000 then some (M.set k (.obj nm' (putD f d fs))) else none
    | _ => none
  | _ => none
abbrev HH := D → Env → List MO → Option (List MO)
abbrev HHs := List D → Env → List MO → Option (List MO)
def gAttr (nm f : Str) (i : Nat) : HH := fun d Γ M => match Γ[i]? with
  | some (some x) => setO nm f x d M
  | _ => none
def gHNil : HHs := fun ds _ M => match ds with
  | [] => some M
  | _ => none
def gHCons (h : HH) (hs : HHs) : HHs := fun ds Γ M => match ds with
  | d :: ds => (h d Γ M).bind fun M1 => hs ds Γ M1
  | [] => none
def QH (X : Cx) (tg : Expr) (h : HH) : Prop := ∃ t, PG X tg t ∧ ∀ (v : V) (σ : St) (H Z : Hp) (ι : Nat → Addr) (M M' : List MO) (d : D) (Γ : Env) (Q : St → Hp → Prop), Slots X.K Z ι M.length Γ σ → HR X.K H Z ι M → Rp X.K Z ι M.length d v → h d Γ M = some M' →
  (∀ H' Z' ι', Ext H Z ι M.length H' Z' ι' M'.length → HR X.K H' Z' ι' M' → Q σ H') → t v σ H Q
def QHs (X : Cx) (tgs : List Expr) (h : HHs) : Prop := ∃ t, PGs X tgs t ∧ ∀ (vs : List V) (σ : St) (H Z : Hp) (ι : Nat → Addr) (M M' : List MO) (ds : List D) (Γ : Env) (Q : St → Hp → Prop), Slots X.K Z ι M.length Γ σ → HR X.K H Z ι M → Rps X.K Z ι M.length ds vs → h ds Γ M = some M' →
  (∀ H' Z' ι', Ext H Z ι M.length H' Z' ι' M'.length → HR X.K H' Z' ι' M' → Q σ H') → t vs σ H Q
theorem qh_att (i : Nat) (hn : PySem.W.nsIn X.K mainGlobals nm = some (some (.ref C0))) (c : Cls X.K C0) (na : NoAttr X.K C0 f) (ho : QE X C noW o (gV i)) : QH X (.Attribute o f pos) (gAttr nm f i) := by
  obtain ⟨to, po, qo⟩ := ho
  refine ⟨_, pg_att po, fun v σ H Z ι M M' d Γ Q sl hr r e h => ?_⟩
  unfold gAttr at e
  cases eg : Γ[i]? with
  | none => rw [eg] at e; cases e
  | some ox =>
    rw [eg] at e
    cases ox with
    | none => cases e
    | some x =>
      simp only at e
      have hv : gV i Γ M = .ok x M := by
        unfold gV
        rw [eg]
      refine qo σ H Z ι Γ M _ sl hr ?_
      rw [hv]
      intro u H2 Z2 ι2 e2 hr2 r2
      unfold setO at e
      cases r2 with
      | ref hk =>
        rename_i k
        simp only at e
        cases ek : M[k]? with
        | none => rw [ek] at e; cases e
        | some u =>
          rw [ek] at e
          cases u with
          | obj nm' fs =>
            simp only at e
            by_cases en : nm' = nm ∧ fs.length < 1000
            · rw [if_pos en] at e
              cases e
              obtain ⟨en1, en2⟩ := en
              subst en1
              obtain ⟨C1, dx, gs, a0, a1, a2, a3⟩ := hr2.obj k _ ek
              have := one_cls hn a0
              subst this
              have ln : gs.length = fs.length := by
                have := congrArg List.length a2
                simpa using this
              obtain ⟨b1, b2⟩ := hr2.changeG (o' := .obj nm' (putD f d fs)) (ho := .ins C1 dx (putF f v gs)) ek (by simp) (by simp) ⟨C1, dx, _, a0, upd_same, put_names f d v a2, put_rps (r.ext e2) a2 a3⟩
              exact ⟨_, C1, dx, gs, rfl, a1, c, na, by rw [ln]; exact en2, h _ Z2 ι2 (e2.trans b2 hr2.ali) b1⟩
            · rw [if_neg en] at e
              cases e
          | _ => cases e
      | _ => cases e
theorem qhs_nil : QHs X [] gHNil := by
  refine ⟨_, pgs_nil, fun vs σ H Z ι M M' ds Γ Q sl hr r e h => ?_⟩
  cases r with
  | nil =>
    cases e
    exact ⟨rfl, h H Z ι .refl hr⟩
  | cons _ _ => cases e
theorem qhs_cons {h1 : HH} {hs : HHs} (q1 : QH X e h1) (q2 : QHs X es hs) (hst : (assignEach (e :: es) X.env).map (·.2) = assign e X.env :: (assignEach es X.env).map (·.2) := by rfl) : QHs X (e :: es) (gHCons h1 hs) := by
  obtain ⟨t1, p1, r1⟩ := q1
  obtain ⟨t2, p2, r2⟩ := q2
  refine ⟨_, pgs_cons p1 p2 hst, fun vs σ H Z ι M M' ds Γ Q sl hr r e' h => ?_⟩
  cases r with
  | nil => cases e'
  | cons a b =>
    rename_i d v ds vs
    have e2 : (h1 d Γ M).bind (fun M1 => hs ds Γ M1) = some M' := e'
    cases eh : h1 d Γ M with
    | none => rw [eh] at e2; cases e2
    | some M1 =>
      rw [eh] at e2
      exact ⟨v, vs, rfl, r1 v σ H Z ι M M1 d Γ _ sl hr a eh fun H1 Z1 ι1 x1 hr1 => r2 vs σ H1 Z1 ι1 M1 M' ds Γ Q (sl.ext x1) hr1 (b.ext x1) e2 fun H2 Z2 ι2 x2 hr2 => h H2 Z2 ι2 (x1.trans x2 hr1.ali) hr2⟩
def gSetFs (ge : GE) (hs : HHs) : GS := fun Γ M => (ge Γ M).thenS Γ fun d M1 => match d with
  | .tup ds => match hs ds Γ M1 with
    | some M2 => .nx Γ M2
    | none => .bad
  | _ => .bad
theorem qs_setFs {hs : HHs} {kk : Nat} {tpos spos : Pos} {tgs : List Expr} {n : Nat} (hc : X.calm = true) (he : QE X C W e ge) (hh : QHs X tgs hs) (hn : (assignEach tgs X.env).length = n := by rfl) (hst : (assignEach tgs X.env).findIdx? (·.1) = none := by rfl) (hlen : ∀ ds Γ M M', hs ds Γ M = some M' → ds.length = n)
    (hsw : swapsWithSole [.Tuple tgs kk tpos] e spos.line X.env = pure false := by rfl) (hp : swappedStores [.Tuple tgs kk tpos] e X.env = pure none := by rfl) (h1 : (assignEach [Expr.Tuple tgs kk tpos] X.env).map (·.2) = [assign (Expr.Tuple tgs kk tpos) X.env] := by rfl) :
    QS X C W (.Assign [.Tuple tgs kk tpos] e spos) (gSetFs ge hs) := by
  obtain ⟨te, pe, qe⟩ := he
  obtain ⟨t, p, q⟩ := hh
  refine ⟨_, ps_asg pe (pg_tup hc p hn (hst := hst)) hsw (hw := hp) (h1 := h1), fun Dd σ H Z ι Γ M sl hr h => qe σ H Z ι Γ M _ sl hr (PostS.bind h sl fun d M1 v H1 Z1 ι1 e1 hr1 r1 h1 => ?_)⟩
  cases r1 with
  | tup s r =>
    rename_i ds a xs
    simp only at h1
    cases eh : hs ds Γ M1 with
    | none => rw [eh] at h1; exact h1.elim
    | some M2 =>
      rw [eh] at h1
      exact ⟨_, _, rfl, subT hr1.sub s, by rw [← r.length]; exact hlen _ _ _ _ eh, q _ σ H1 Z1 ι1 M1 M2 _ Γ _ (sl.ext e1) hr1 r eh fun H2 Z2 ι2 x2 hr2 => h1 σ H2 Z2 ι2 x2 hr2 ((sl.ext e1).ext x2)⟩
  | _ => exact h1.elim
theorem hlen_nil : ∀ (ds : List D) (Γ : Env) (M M' : List MO), gHNil ds Γ M = some M' → ds.length = 0 := fun ds Γ M M' e => by
  cases ds with
  | nil => rfl
  | cons _ _ => cases e
theorem hlen_cons {h : HH} {hs : HHs} {n : Nat} (z : ∀ (ds : List D) (Γ : Env) (M M' : List MO), hs ds Γ M = some M' → ds.length = n) : ∀ (ds : List D) (Γ : Env) (M M' : List MO), gHCons h hs ds Γ M = some M' → ds.length = n + 1 := fun ds Γ M M' e => by
  cases ds with
  | nil => cases e
  | cons d ds =>
    have e' : (h d Γ M).bind (fun M1 => hs ds Γ M1) = some M' := e
    cases eh : h d Γ M with
    | none => rw [eh] at e'; cases e'
    | some M1 =>
      rw [eh] at e'
      rw [List.length_cons, z _ _ _ _ e']
/-! C(e, ..), the fields may be ours -/
def gNewW (nm : Str) (n : Nat) (F : List D → List MO → R D) (ga : GA) : GE := fun Γ M => (ga Γ M).bind fun ds M1 => if ds.length + 1 = n then (callW F (.ref M1.length :: ds) (M1 ++ [.obj nm []])).bind (newR M1.length) else .bad
variable {k n : Nat} {fa : Addr} {fd : FuncData} {ps : List Str} {F : List D → List MO → R D}
theorem qe_newW (hn0 : PySem.W.nsIn X.K mainGlobals nm = some (some (.ref C0))) (Mk0 : Mk X.K C0 fa) (F0 : FnQ X.prog X.w X.K X.mg X.base C k fa fd ps F) (hr : Room (k + 1) X.A) (hgu : X.A.guards = some []) (tk : Takes X W) (hg : Gl X x) (hmg : X.mg x = some (.ref C0)) (hb : Binds X.K fd ps []) (ha : QA X C W (e :: es) gs) (hn : n = ps.length := by rfl)
    (hdb : (x == ("__debug__" : Str)) = false := by decide) (he : starEach (e :: es) X.env = (false, eval e X.env) :: starEach es X.env := by rfl) (hpl : (backTo pos (starEach es X.env)).any (·.1) = false := by rfl) :
    QE X C W (.Call (.Name x p) (e :: es) [] pos) (gNewW nm n F gs) := by
  subst hn
  obtain ⟨ta, pa, qa⟩ := ha
  refine ⟨fun σ H Q => ta σ H fun vs H1 => ∀ y dx, H1 y = none → H1 dx = none → dx ≠ y → rCallQ X.K C ps F (WE W σ) (.ref y :: vs) (upd (upd H1 dx (.own y)) y (.ins C0 dx [])) (fun v H2 => v = .non ∧ Q (.ref y) H2), ⟨fun pins s σ H Q I h => ?_⟩,
    fun σ H Z ι Γ M Q sl hr h => qa σ H Z ι Γ M _ sl hr (h.bind fun ds M1 vs H1 Z1 ι1 e1 hr1 r1 h1 => fun y dx hy hdx hne => ?_)⟩
  · refine wpAny_Call_Name_kw (ld_glob I hg hmg ?_ hdb)
    refine PySem.W.callWith_K (h₀ := X.base) I.ok.mod.kin Mk0.kp (thn (pa.run pos pins s σ H _ I h) fun us s1 hh => ?_) he hpl
    obtain ⟨vs, H1, J, r, q⟩ := hh
    refine ⟨J.kIn, ?_⟩
    have hq := q (s1.heap.objs.size + 1) s1.heap.objs.size (J.hok.fresh (Nat.le_succ _)) (J.hok.fresh (Nat.le_refl _)) (Nat.ne_of_lt (Nat.lt_succ_self _))
    have I2 := Inv.made (C := C0) J
    have r2 : Vals (V.ref (s1.heap.objs.size + 1) :: vs) (Value.ref (s1.heap.objs.size + 1) :: us) := .cons rfl r
    obtain ⟨hl, ds, Z, ι, M, rd, hr', hp⟩ := hq
    have hl2 : (Value.ref (s1.heap.objs.size + 1) :: us).length = ps.length := r2.length.symm.trans hl
    have hbb := hb _ (Value.ref (s1.heap.objs.size + 1) :: us) I2.kIn (by rw [List.append_nil]; exact hl2)
    rw [List.append_nil] at hbb
    have hgu2 : (X.A.under (.builtin "type.__call__" ⟨.ref C0 :: us, []⟩)).guards = some [] := by first | exact hgu | (simpa [Around.under] using hgu)
    refine wpAny_call (make_map (f := fa) J.kIn Mk0.makes Mk0.init (beq_iff_eq.mp Mk0.fn) (codeAny_mono (F0.run _ X.stack _ _ ⟨Value.ref (s1.heap.objs.size + 1) :: us, []⟩ (Value.ref (s1.heap.objs.size + 1) :: us) _ _ (WE W σ) ds Z ι M (hr.make C0 us []) hgu2
      (I2.env0.make C0 us []) hbb r2 hl rd hr' hp) fun r s' hq' => ?_))
    cases r with
    | error e => exact passAt tk σ pins _ _ e s' I2 hq'
    | ok fl =>
      cases fl with
      | ret u =>
        obtain ⟨v, H', I3, rv, ev, q3⟩ := I2.after hq'
        subst ev
        exact ⟨rv, ⟨V.ref (s1.heap.objs.size + 1), H', I3, rfl, q3⟩⟩
      | next => exact False.elim hq'
      | brk => exact False.elim hq'
      | cont => exact False.elim hq'
  · by_cases cc : ds.length + 1 = ps.length
    · rw [if_pos cc] at h1
      have hr2 : HR X.K (upd H1 dx (.own y)) Z1 ι1 M1 := hr1.odd (Odd.new hr1 hdx)
      have x2 : Ext H1 Z1 ι1 M1.length (upd H1 dx (.own y)) Z1 ι1 M1.length := Ext.touch .refl hdx
      have hy2 : upd H1 dx (.own y) y = none := by rw [upd_ne (Ne.symm hne)]; exact hy
      obtain ⟨hr3, x3⟩ := hr2.ownedG (o' := .obj nm []) (ho := .ins C0 dx []) hy2 (by simp) ⟨C0, dx, [], hn0, upd_same, rfl, .nil⟩
      have x23 := x2.trans x3 hr2.ali
      have rp : Rps X.K Z1 (put ι1 M1.length y) (M1 ++ [MO.obj nm []]).length (.ref M1.length :: ds) (.ref y :: vs) := by
        refine .cons ?_ (r1.ext x23)
        have q : Rp X.K Z1 (put ι1 M1.length y) (M1 ++ [MO.obj nm []]).length (.ref M1.length) (.ref (put ι1 M1.length y M1.length)) := .ref (by simp)
        rw [put_at] at q
        exact q
      refine whole_post hr3 rp (by rw [List.length_cons, ← r1.length]; exact cc) ?_
      have h2 : Post X C W (rpE X.K) σ (upd (upd H1 dx (.own y)) y (.ins C0 dx [])) Z1 (put ι1 M1.length y) (M1 ++ [MO.obj nm []]) ((callW F (.ref M1.length :: ds) (M1 ++ [.obj nm []])).bind (newR M1.length)) Q := h1.shift x23 hr3
      refine h2.bind fun d M4 v H4 Z4 ι4 e4 hr4 r4 h4 => ?_
      cases r4 with
      | non =>
        refine ⟨rfl, h4 _ H4 Z4 ι4 .refl hr4 ?_⟩
        have lt : M1.length < (M1 ++ [MO.obj nm []]).length := by simp
        have q : Rp X.K Z4 ι4 M4.length (.ref M1.length) (.ref (ι4 M1.length)) := .ref (Nat.lt_of_lt_of_le lt e4.ln)
        rw [e4.ii _ lt, put_at] at q
        exact q
      | _ => exact h4.elim
    · rw [if_neg cc] at h1
      exact h1.elim
end
/-! a key that is not in a dict -/
def dNotInN (M : List MO) (y x : D) : Option D := match dctD M x with
  | some p => (lookD p.1 p.2 y).map fun o => .bl !o.isSome
  | none => none
def rNotInN (K : PySem.W.Frag) : R2 := fun y x H Q => ∃ (a b : Addr) (nks nks' : List NestedKey) (ks vs : List V) (k : NestedKey) (o : Bool), x = .ref a ∧ y = .ref b ∧ AllRef ks ∧ ExD K H a nks ks vs ∧ KeyVs K H nks' ks ∧ KeyV K H k (.ref b) ∧ k.depth ≤ 8 ∧ (o = true ↔ ∃ i, posK k nks' = some i ∧ i < vs.length) ∧ Q (.bl (!o)) H
section
variable {X : Cx}
theorem op_notInN (hu : X.A.units + 1 + 8 < cLine) : OpR X (compareOp .NotIn) (rNotInN X.K) := by
  intro pins s σ H y x u v Q I ry rx h
  obtain ⟨a, b, nks, nks', ks, vs, k, o, rfl, rfl, hrf, hd, hks, hk, hdp, ho, q⟩ := h
  obtain rfl : v = Value.ref a := rx
  obtain rfl : u = Value.ref b := ry
  have en := hd.keys I hks
  subst en
  have hsm : (a == sysModules) = false := let ⟨_, _, _, z, _⟩ := hd; z
  obtain ⟨xs, dd, e2, e4, e5⟩ := hd.of I hrf
  have nd : (xs.map (·.1)).Nodup := by
    obtain ⟨_, _, _, _, _, _, _, _, z⟩ := dd
    exact z
  have hkey : (NK X).is s.heap k b := ⟨KeyV.is I k _ _ hk rfl, hdp⟩
  have ans : (atKey xs k).isSome = o := by
    cases hp : posK k nks with
    | none =>
      have o0 : o = false := by
        cases o with
        | false => rfl
        | true => obtain ⟨i, hi, _⟩ := ho.mp rfl; rw [hp] at hi; cases hi
      rw [o0]
      have nin := posK_none hp
      rw [atKey_none (by rw [e2]; exact nin)]
      rfl
    | some i =>
      have hi := posK_at hp
      have li : i < xs.length := by
        have := (List.getElem?_eq_some_iff.mp hi).1
        rw [← e2, List.length_map] at this
        exact this
      have o1 : o = true := ho.mpr ⟨i, hp, by rw [← e4]; exact li⟩
      rw [o1]
      have ak := atKey_at nd (List.getElem?_eq_getElem li)
      have kx : (xs[i]).1 = k := by
        have : (xs.map (·.1))[i]? = some (xs[i]).1 := by rw [List.getElem?_map, List.getElem?_eq_getElem li]; rfl
        rw [e2, hi] at this
        exact (Option.some.inj this).symm
      rw [kx] at ak
      rw [ak]
      rfl
  refine wpAny_notIn_heap (show (NK X).room X.A.in1 from hu) hkey hsm dd ?_
  rw [ans]
  exact ⟨.bl (!o), H, I.tok _, rfl, q⟩
theorem ok_notInN : Ok2 X (rNotInN X.K) dNotInN := fun y x H Z ι M dy dx d Q hr ry rx e q => by
  unfold dNotInN at e
  cases ed : dctD M dx with
  | none => rw [ed] at e; cases e
  | some p =>
    rw [ed] at e
    simp only at e
    cases e1 : lookD p.1 p.2 dy with
    | none => rw [e1] at e; cases e
    | some o =>
      rw [e1] at e
      have e' : some (D.bl !o.isSome) = some d := e
      cases e'
      obtain ⟨a, b, nks, nks', kx, xs, k, h1, h2, h2', h3, h4, h5, h6, h7, h8⟩ := look_run hr rx ry ed e1
      refine ⟨a, b, nks, nks', kx, xs, k, o.isSome, h1, h2, h2', h3, h4, h5, h6, ?_, q.now hr (.bl _)⟩
      rw [h8]
      have ll := h7.length
      constructor
      · intro z
        cases hp : posK k nks' with
        | none => rw [hp] at z; cases z
        | some i =>
          rw [hp] at z
          have z' : (p.2[i]?).isSome = true := z
          refine ⟨i, rfl, ?_⟩
          rw [← ll]
          by_cases c : i < p.2.length
          · exact c
          · rw [List.getElem?_eq_none (by omega)] at z'
            cases z'
      · rintro ⟨i, hi, hl⟩
        rw [hi]
        show (p.2[i]?).isSome = true
        rw [List.getElem?_eq_getElem (by rw [ll]; exact hl)]
        rfl
end
theorem fnQ_bad {P : Program} {w : World} {K : PySem.W.Frag} {mg : Str → Option Value} {base : Heap} {C : CT} {k : Nat} {f : Addr} {fd : FuncData} {ps : List Str} : FnQ P w K mg base C k f fd ps (fun _ _ => .bad) :=
  ⟨fun _ _ _ _ _ _ _ _ _ _ _ _ _ _ _ _ _ _ _ _ _ h => h.elim⟩
@[simp] theorem u_gSetFs (ge : GE) (hs : HHs) (Γ : Env) (M : List MO) : gSetFs ge hs Γ M = ((ge Γ M).thenS Γ fun d M1 => match d with
  | .tup ds => match hs ds Γ M1 with
    | some M2 => .nx Γ M2
    | none => .bad
  | _ => .bad) := Eq.trans rfl rfl
@[simp] theorem u_gNewW (nm : Str) (n : Nat) (F : List D → List MO → R D) (ga : GA) (Γ : Env) (M : List MO) : gNewW nm n F ga Γ M = ((ga Γ M).bind fun ds M1 => if ds.length + 1 = n then (callW F (.ref M1.length :: ds) (M1 ++ [.obj nm []])).bind (newR M1.length) else .bad) := Eq.trans rfl rfl
end Bk

set_option Elab.async false
set_option linter.all false
set_option maxRecDepth 100000
set_option maxHeartbeats 4000000
namespace Bk
open PySem PySem.Spec PyProof.Rows L2
/-! ### len(set(xs)) of tuples of ints -/
def dLenSet (M : List MO) (d : D) : Option D := ((listD M d).bind rowsL).bind fun rs => if rs.length < 64 then some (.int ((uniqR rs).length : Nat)) else none
def gLenSet (ge : GE) : GE := fun Γ M => (ge Γ M).bind fun d M1 => opR (dLenSet M1 d) M1
@[simp] theorem u_gLenSet (ge : GE) (Γ : Env) (M : List MO) : gLenSet ge Γ M = ((ge Γ M).bind fun d M1 => opR (dLenSet M1 d) M1) := Eq.trans rfl rfl
section
variable {X : Cx} {C : CT} {W : WX} {a : Expr} {ge : GE} {p p2 pos q : Pos}
end
end Bk

set_option Elab.async false
set_option linter.all false
set_option maxRecDepth 100000
set_option maxHeartbeats 4000000
namespace Bk
open PySem PySem.Spec PyProof.Rows L2
open PySem.Sem (wp)
/-! ### zip(.., strict=True) of two iterators, its step -/
section
variable {prog : Program} {w : World} {A : Around} {E : Value → Shared → Prop} {s : Shared} {z TI TO i1 i2 : Addr} {fp1 fp2 : List Addr} {n1 n2 n i : Nat} {P1 P2 P : Nat → Value → Prop} {St1 St2 St : Nat → Heap → Prop} {a1 a2 : Value}
end
end Bk

set_option Elab.async false
set_option linter.all false
set_option maxRecDepth 100000
set_option maxHeartbeats 4000000
namespace Bk
open PySem PySem.Spec PyProof.Rows L2
open PySem.Sem (wp)
/-! ### enumerate(zip(.., .., strict=True), k) -/
section
variable {prog : Program} {w : World} {A : Around} {E : Value → Shared → Prop} {s : Shared} {z TI TO i1 i2 : Addr} {fp1 fp2 : List Addr} {n1 n2 n i : Nat} {P1 P2 P : Nat → Value → Prop} {St1 St2 St : Nat → Heap → Prop} {a1 a2 : Value}
end
end Bk

set_option Elab.async false
set_option linter.all false
set_option maxRecDepth 100000
set_option maxHeartbeats 4000000
namespace Bk
open PySem PySem.Spec PyProof.Rows L2
/-! ### enumerate(zip(.., .., strict=True), k), the rule -/
end Bk

set_option Elab.async false
set_option linter.all false
set_option maxRecDepth 100000
set_option maxHeartbeats 4000000
namespace Bk
open PySem PySem.Spec PyProof.Rows L2
/-! ### for i, (a, b) in enumerate(zip(.., .., strict=True), k) -/
def enumZO (x y : D) (k : Int) : Option (List D) := match seqD x, seqD y with
  | some ds, some es => if (decide (ds.length = es.length) && decide (-(2 ^ 63) ≤ k) && decide (k < 2 ^ 63)) = true then some (enumL k (zipL ds es)) else none
  | _, _ => none
def gEnumZ (ga gb : GE) (k : Int) : GI := fun Γ M => (ga Γ M).bind fun x M1 => (gb Γ M1).bind fun y M2 => opR (enumZO x y k) M2
@[simp] theorem u_gEnumZ (ga gb : GE) (k : Int) (Γ : Env) (M : List MO) : gEnumZ ga gb k Γ M = (ga Γ M).bind fun x M1 => (gb Γ M1).bind fun y M2 => opR (enumZO x y k) M2 := Eq.trans rfl rfl
section
open PySem.Sem (wp)
variable {prog : Program} {w : World} {A : Around} {E : Value → Shared → Prop} {s : Shared} {z TI TO : Addr} {f0 : Value} {f : Bool}
end
section
variable {X : Cx} {C : CT} {W : WX} {e e2 : Expr} {ga gb : GE} {p p2 pos zpos tpos cp kp ip : Pos} {elts : List Expr} {kk j j2 : Nat} {k : Int}
end
end Bk

set_option Elab.async false
set_option linter.all false
set_option maxRecDepth 100000
set_option maxHeartbeats 4000000
namespace Bk
open PySem PySem.Spec PyProof.Rows L2
/-! ### for a, b in zip(.., .., strict=True) -/
section
variable {prog : Program} {w : World} {A : Around} {E : Value → Shared → Prop} {s : Shared} {z TI TO i1 i2 : Addr} {fp1 fp2 : List Addr} {n1 n2 n i : Nat} {P1 P2 P : Nat → Value → Prop} {St1 St2 St : Nat → Heap → Prop} {a1 a2 : Value}
end
def zipSO (x y : D) : Option (List D) := match seqD x, seqD y with
  | some ds, some es => if ds.length = es.length then some (zipL ds es) else none
  | _, _ => none
def gZipS (ga gb : GE) : GI := fun Γ M => (ga Γ M).bind fun x M1 => (gb Γ M1).bind fun y M2 => opR (zipSO x y) M2
@[simp] theorem u_gZipS (ga gb : GE) (Γ : Env) (M : List MO) : gZipS ga gb Γ M = (ga Γ M).bind fun x M1 => (gb Γ M1).bind fun y M2 => opR (zipSO x y) M2 := Eq.trans rfl rfl
section
variable {X : Cx} {C : CT} {W : WX} {e e2 : Expr} {ga gb : GE} {p2 zpos tpos cp kp : Pos} {elts : List Expr} {kk j : Nat}
end
end Bk

set_option Elab.async false
set_option linter.all false
set_option maxRecDepth 100000
set_option maxHeartbeats 2000000
namespace Bk
open PySem PySem.Spec PyProof.Rows L2
/-! ### errors: classes of the program over ValueError, each with one attribute -/
def errOk (B : Addr) (kd : ClassData) (ar : Array (Option Value)) : Bool := match kd.mro, ar.toList with
  | .ref B2 :: tl, [_, _, _, _, some (.builtin nw), _] => B2 == B && nw == "ValueError.__new__" && !kd.hasDel && kd.hasDict && PySem.HandSPX.refsVE tl
  | _, _ => false
theorem errOk_cls {K : PySem.W.Frag} {B : Addr} {dd : Option Addr} {kd : ClassData} {ar : Array (Option Value)} (ho : K.lookup B = some ⟨.type "type", dd, .cls kd, ar⟩) (q : errOk B kd ar = true) : ∃ nm qn N bs tl sn sub ab col dd k0 k1 k2 k3 k5,
    K.lookup B = some (excClassObj nm qn B N bs tl true sn sub ab col dd k0 k1 k2 k3 k5 "ValueError.__new__") ∧ PySem.HandSPX.refsVE tl = true := by
  unfold errOk at q
  split at q
  · rename_i B2 tl k0 k1 k2 k3 nw k5 hm hs
    simp only [Bool.and_eq_true, beq_iff_eq, Bool.not_eq_true'] at q
    obtain ⟨⟨⟨⟨rfl, rfl⟩, hdel⟩, hdi⟩, hrf⟩ := q
    obtain ⟨nm, bs, mro, ns, qn, hd, sn, sub, ab, col, del⟩ := kd
    dsimp only at hm hdel hdi
    subst hm hdel hdi
    obtain ⟨l⟩ := ar
    simp only at hs
    subst hs
    exact ⟨nm, qn, ns, bs, tl, sn, sub, ab, col, dd, k0, k1, k2, k3, k5, ho, hrf⟩
  · cases q
/-- a class of errors: at B, its attribute f, its maker at fI -/
structure XC (K : PySem.W.Frag) (B fI : Addr) (f : Str) (fd : FuncData) (st : Stmt) (qual : Str) : Prop where
  ok : OexC K B
  xf : XfC K B
  no : PySem.W.findIn K (.ref B) f = some none
  ini : PySem.W.findIn K (.ref B) "__init__" = some (some (.ref fI))
  typ : PySem.W.typeIn K (.ref fI) = some (.type "function")
  fn : Fun K "__init__" qual st fI fd
  bi : Binds K fd ["self", f] []
/-- what the maker does -/
def spI (B : Addr) (f : Str) : Sp := fun vs H Q _ => ∃ (a : Addr) (y : V), vs = [.ref a, y] ∧ H a = some (exo a B none) ∧ ∀ dx, H dx = none → dx ≠ a → Q .non (upd (upd H dx (exd dx [(f, y)])) a (exo a B (some dx)))
theorem maker_ok {P : Program} {w : World} {K : PySem.W.Frag} {mg : Str → Option Value} {base : Heap} {B fI : Addr} {f qual : Str} {fd : FuncData} {st : Stmt} {p1 p2 p3 p4 : Pos} (I : XC K B fI f fd st qual) (S : FnScope ["self", f] ["self", f] (defScope st))
    (hb : defBody st = [.Assign [.Attribute (.Name "self" p1) f p2] (.Name f p3) p4]) (hd : (f == ("__debug__" : Str)) = false) (hcd : (f == ("__classdict__" : Str)) = false) (vs1 : Vis (defScope st) "self") (vs2 : Vis (defScope st) f)
    (hsw : ∀ env : PySem.Env, swapsWith (.Name f p3) (some (.Attribute (.Name "self" p1) f p2)) p4.line env = pure false) : FnOk P w K mg base CX0 1 fI fd ["self", f] (spI B f) := by
  obtain ⟨oc, od, kV, doc, pm, an, cdv, ct, osl, rfl, lk, hcode⟩ := I.fn.ex
  refine fn_of (k := 0) (N := ["self", f]) lk hcode S (fun vs H Q E h => ?_) fun A outer s H vs Q E hr h => ?_
  · obtain ⟨a, y, e, _⟩ := h
    rw [e]
    rfl
  · obtain ⟨a, y, e, ea, q⟩ := h
    subst e
    rw [hb]
    have pv : PE (cxOf CX0 P w K mg base ["self", f] qual (defScope st) fI cdv A outer s H E) (.Name f p3) (tVar 1) := pe_var rfl vs2 hd hcd
    have pself : PE (cxOf CX0 P w K mg base ["self", f] qual (defScope st) fI cdv A outer s H E) (.Name "self" p1) (tVar 0) := pe_var rfl vs1 (by decide) (by decide)
    refine ⟨_, pss_one (ps_ost pself pv (hsw _)), ?_⟩
    exact ⟨y, rfl, .ref a, rfl, a, B, rfl, I.ok, I.no, .inl ⟨ea, fun dx n ne => q dx n ne⟩⟩
section
variable {X : Cx} {C : CT} {W : WX} {B fI : Addr} {f x qual : Str} {fd : FuncData} {st : Stmt} {e : Expr} {ge : GE} {p pos pos1 : Pos}
/-- an error is raised -/
def gRaise (c : Nat) (ge : GE) : GS := fun Γ M => (ge Γ M).thenS Γ fun d M1 => .exc c d Γ M1
theorem qs_raise {c : Nat} (I : XC X.K B fI f fd st qual) (F1 : FnOk X.prog X.w X.K X.mg X.base CX0 1 fI fd ["self", f] (spI B f)) (hr : Room 2 X.A) (hc : X.calm = true) (tk : Takes X W) (hg : Gl X x) (hm : X.mg x = some (.ref B)) (hat : C.at_ c = B) (hnm : C.nm c = f)
    (he : QE X C W e ge) (hdb : (x == ("__debug__" : Str)) = false := by decide) (hs : starEach [e] X.env = (false, eval e X.env) :: starEach [] X.env := by rfl) (hpl : (backTo pos1 (starEach [] X.env)).any (·.1) = false := by rfl) :
    QS X C W (.Raise (some (.Call (.Name x p) [e] [] pos1)) none pos) (gRaise c ge) := by
  obtain ⟨te, pe, qe⟩ := he
  have mk := pmk_oex (pos := pos1) (p := p) (dvs := []) I.ok I.ini I.typ F1 hr I.bi .nil pass0 hg hm (pa_cons pe pa_nil hs) hdb hs hpl
  refine ⟨_, ps_raise hc tk mk, fun Dd σ H Z ι Γ M sl hR h => ?_⟩
  refine qe σ H Z ι Γ M _ sl hR (PostS.bind (rp1 := rpE X.K) h sl fun d M1 v H1 Z1 ι1 e1 hr1 r1 h1 => ?_)
  refine ⟨by show 1 ≤ 1000; decide, fun a ha => ⟨a, v, rfl, upd_same, fun dx hdx ne => ⟨rfl, dx, [(f, v)], upd_same, ?_, ?_, ?_⟩⟩⟩
  · rw [upd_ne ne]
    exact upd_same
  · rw [upd_ne ne] at hdx
    exact hdx
  · have hx : H1 dx = none := by
      rw [upd_ne ne] at hdx
      exact hdx
    have eq : upd (del (upd (upd (upd H1 a (exo a B none)) dx (exd dx [(f, v)])) a (exo a B (some dx))) a) dx (.xd [(f, v)]) = upd H1 dx (.xd [(f, v)]) := by
      funext b
      by_cases h1 : b = dx
      · rw [h1, upd_same, upd_same]
      · rw [upd_ne h1, upd_ne h1]
        by_cases h2 : b = a
        · rw [h2, del_same, ha]
        · rw [del_ne h2, upd_ne h2, upd_ne h1, upd_ne h2]
    rw [eq]
    obtain ⟨hr2, ex⟩ := hr1.frozen (o := .xd [(f, v)]) hx
    exact h1 (.ref B) (some dx) σ _ _ ι1 ex hr2 ((sl.ext e1).ext ex) ⟨by rw [hat], dx, v, rfl, by rw [hnm]; exact upd_same, r1.ext ex⟩
end
@[simp] theorem u_gRaise (c : Nat) (ge : GE) (Γ : Env) (M : List MO) : gRaise c ge Γ M = (ge Γ M).thenS Γ fun d M1 => .exc c d Γ M1 := rfl

/-! ### try -/
theorem Slots.unset {K : PySem.W.Frag} {Z : Hp} {ι : Nat → Addr} {n i : Nat} {Γ : Env} {σ : St} (s : Slots K Z ι n Γ σ) (o : Option V) : Slots K Z ι n (Γ.set i none) (σ.set i o) := by
  refine ⟨by rw [List.length_set, List.length_set]; exact s.1, fun j d h => ?_⟩
  by_cases hj : i = j
  · subst hj
    have lt : i < Γ.length := by
      have := (List.getElem?_eq_some_iff.mp h).1
      rw [List.length_set] at this
      exact this
    rw [List.getElem?_set_self lt] at h
    cases h
  · rw [List.getElem?_set_ne hj] at h ⊢
    exact s.2 j d h
/-- a clause: which classes it takes, the slot of its name, what it does with the error's attribute -/
structure Hd where
  is : Nat → Bool
  slot : Option Nat
  run : D → GS
def RS.noExc (r : RS) : RS := match r with
  | .exc _ _ _ _ => .bad
  | r => r
def RS.unset (i : Nat) (r : RS) : RS := match r with
  | .nx Γ M => .nx (Γ.set i none) M
  | .bk Γ M => .bk (Γ.set i none) M
  | .ct Γ M => .ct (Γ.set i none) M
  | r => r
def pickH : List Hd → Nat → D → GS
  | [], c, d => fun Γ M => .exc c d Γ M
  | h :: r, c, d => fun Γ M => if h.is c = true then (match h.slot with
      | none => (h.run d Γ M).noExc
      | some i => if i < Γ.length then ((h.run d (Γ.set i none) M).noExc).unset i else .bad) else pickH r c d Γ M
def RS.caught (m : Nat) (hs : List Hd) (r : RS) : RS := match r with
  | .exc c d Γ M => if c < m then pickH hs c d Γ M else .bad
  | r => r
def gTry (m : Nat) (body : GS) (hs : List Hd) : GS := fun Γ M => (body Γ M).caught m hs

/-- readings of the suites -/
abbrev TSx := Addr → Value → Option Addr → TS
def endsU (i : Nat) (Dd : Ends) : Ends := { nx := fun σ H => Dd.nx (σ.set i none) H, rt := Dd.rt, bk := fun σ H => Dd.bk (σ.set i none) H, ct := fun σ H => Dd.ct (σ.set i none) H }
section
variable {X : Cx} {body : List Stmt} {h0 : ExceptHandler} {hds : List ExceptHandler} {l : List (Value × Option Nat × TSx)} {pos : Pos} {tb : WX → TS} {Wo : WX}
end
end Bk

set_option Elab.async false
set_option linter.all false
set_option maxRecDepth 100000
set_option maxHeartbeats 2000000
namespace Bk
open PySem PySem.Spec PyProof.Rows L2
/-! ### try: the rule, and the readings of an error's attribute -/
section
variable {X : Cx} {C : CT} {W : WX} {H Z H1 Z1 : Hp} {ι ι1 : Nat → Addr} {M M1 : List MO} {Dd : Ends}
theorem ExcR.ext {n n' c : Nat} {d : D} {cls : Value} {dd : Option Addr} (x : ExcR X.K C H Z ι n c d cls dd) (e : Ext H Z ι n H1 Z1 ι1 n') : ExcR X.K C H1 Z1 ι1 n' c d cls dd := by
  obtain ⟨x1, a, v, x2, x3, x4⟩ := x
  exact ⟨x1, a, v, x2, e.zz _ _ x3, x4.ext e⟩
theorem PostS.noExc {r : RS} (h : PostS X C W H Z ι M r.noExc Dd) : PostS X C noW H Z ι M r Dd := by
  cases r with
  | exc c d Γ M' => exact False.elim h
  | nx Γ M' => exact h
  | bk Γ M' => exact h
  | ct Γ M' => exact h
  | rt d M' => exact h
  | bad => exact h
theorem PostS.unset {r : RS} {i : Nat} (h : PostS X C W H Z ι M (r.unset i) Dd) : PostS X C W H Z ι M r (endsU i Dd) := by
  cases r with
  | nx Γ M' => exact fun σ' H' Z' ι' e hr sl => h _ H' Z' ι' e hr (sl.unset none)
  | bk Γ M' => exact fun σ' H' Z' ι' e hr sl => h _ H' Z' ι' e hr (sl.unset none)
  | ct Γ M' => exact fun σ' H' Z' ι' e hr sl => h _ H' Z' ι' e hr (sl.unset none)
  | rt d M' => exact h
  | exc c d Γ M' => exact h
  | bad => exact h
end
section
variable {X : Cx} {C : CT} {W : WX}
/-! expressions in a suite that read the error's attribute -/
variable {k i : Nat} {e e1 e2 : Expr} {es : List Expr} {g ga gb : D → GE} {gs : D → GA} {gt : D → GT} {pos np : Pos}
/-! suites -/
end
@[simp] theorem u_gTry (m : Nat) (b : GS) (hs : List Hd) (Γ : Env) (M : List MO) : gTry m b hs Γ M = (b Γ M).caught m hs := rfl
@[simp] theorem u_cExc (m : Nat) (hs : List Hd) (c : Nat) (d : D) (Γ : Env) (M : List MO) : (RS.exc c d Γ M).caught m hs = if c < m then pickH hs c d Γ M else .bad := rfl
@[simp] theorem u_cNx (m : Nat) (hs : List Hd) (Γ : Env) (M : List MO) : (RS.nx Γ M).caught m hs = .nx Γ M := rfl
@[simp] theorem u_cRt (m : Nat) (hs : List Hd) (d : D) (M : List MO) : (RS.rt d M).caught m hs = .rt d M := rfl
@[simp] theorem u_pickNil (c : Nat) (d : D) (Γ : Env) (M : List MO) : pickH [] c d Γ M = .exc c d Γ M := rfl
@[simp] theorem u_pickO (is : Nat → Bool) (g : D → GS) (r : List Hd) (c : Nat) (d : D) (Γ : Env) (M : List MO) : pickH (⟨is, none, g⟩ :: r) c d Γ M = if is c = true then (g d Γ M).noExc else pickH r c d Γ M := rfl
@[simp] theorem u_pickA (is : Nat → Bool) (i : Nat) (g : D → GS) (r : List Hd) (c : Nat) (d : D) (Γ : Env) (M : List MO) : pickH (⟨is, some i, g⟩ :: r) c d Γ M = if is c = true then (if i < Γ.length then ((g d (Γ.set i none) M).noExc).unset i else .bad) else pickH r c d Γ M := rfl
@[simp] theorem u_noNx (Γ : Env) (M : List MO) : (RS.nx Γ M).noExc = .nx Γ M := rfl
@[simp] theorem u_noRt (d : D) (M : List MO) : (RS.rt d M).noExc = .rt d M := rfl
@[simp] theorem u_unNx (i : Nat) (Γ : Env) (M : List MO) : (RS.nx Γ M).unset i = .nx (Γ.set i none) M := rfl
@[simp] theorem u_unRt (i : Nat) (d : D) (M : List MO) : (RS.rt d M).unset i = .rt d M := rfl
end Bk

set_option Elab.async false
set_option linter.all false
set_option maxRecDepth 100000
set_option maxHeartbeats 2000000
namespace Bk
open PySem PySem.Spec PyProof.Rows L2
/-! ### xs + ys as a list of ours; len(set(xs)) of ints -/
def gAddO (ga gb : GE) : GE := fun Γ M => (ga Γ M).bind fun x M1 => (gb Γ M1).bind fun y M2 => match listD M2 x, listD M2 y with
  | some a, some b => if a.length + b.length ≤ sizeLine then .ok (.ref M2.length) (M2 ++ [.lst (a ++ b)]) else .bad
  | _, _ => .bad
@[simp] theorem u_gAddO (ga gb : GE) (Γ : Env) (M : List MO) : gAddO ga gb Γ M = ((ga Γ M).bind fun x M1 => (gb Γ M1).bind fun y M2 => match listD M2 x, listD M2 y with
  | some a, some b => if a.length + b.length ≤ sizeLine then .ok (.ref M2.length) (M2 ++ [.lst (a ++ b)]) else .bad
  | _, _ => .bad) := Eq.trans rfl rfl
section
variable {X : Cx} {C : CT} {W : WX} {a b : Expr} {ga gb : GE} {pos : Pos}
end
def dupI (ns : List Int) : List Int := PyProof.Rows.firstMet (fun i => ns.getD i 0) ns.length
def dLenSetI (M : List MO) (d : D) : Option D := ((listD M d).bind intsD).bind fun ns => if ns.length < 1000 then some (.int ((dupI ns).length : Nat)) else none
def gLenSetI (ge : GE) : GE := fun Γ M => (ge Γ M).bind fun d M1 => opR (dLenSetI M1 d) M1
@[simp] theorem u_gLenSetI (ge : GE) (Γ : Env) (M : List MO) : gLenSetI ge Γ M = ((ge Γ M).bind fun d M1 => opR (dLenSetI M1 d) M1) := Eq.trans rfl rfl
section
variable {X : Cx} {C : CT} {W : WX} {a : Expr} {ge : GE} {p p2 pos q : Pos}
end
end Bk

set_option Elab.async false
set_option linter.all false
set_option maxRecDepth 100000
set_option maxHeartbeats 2000000
namespace Bk
open PySem PySem.Spec PyProof.Rows L2
/-! ### a loop over enumerate(xs), xs a list of ours (read anew at each turn) or a frozen one -/
def gForEN (gg : GG) (body : GS) (k : Nat) : Nat → Nat → GS
  | 0, _ => gBad
  | n + 1, i => fun Γ M => match M[k]? with
    | some (.lst ds) => match ds[i]? with
      | some d => optS (gg (.tup [.int (0 + (i : Nat)), d]) Γ) fun Γ1 => (body Γ1 M).turn (gForEN gg body k n (i + 1))
      | none => if ds.length = i then .nx Γ M else .bad
    | _ => .bad
def gForE (ge : GE) (gg : GG) (body : GS) (n : Nat) : GS := fun Γ M => (ge Γ M).thenS Γ fun d M1 => match d with
  | .ref k => gForEN gg body k n 0 Γ M1
  | d => match seqD d with
    | some ds => gForL gg body (enumL 0 ds) Γ M1
    | none => .bad
@[simp] theorem u_gForE (ge : GE) (gg : GG) (body : GS) (n : Nat) (Γ : Env) (M : List MO) : gForE ge gg body n Γ M = ((ge Γ M).thenS Γ fun d M1 => match d with
  | .ref k => gForEN gg body k n 0 Γ M1
  | d => match seqD d with
    | some ds => gForL gg body (enumL 0 ds) Γ M1
    | none => .bad) := Eq.trans rfl rfl
section
variable {X : Cx} {C : CT} {W : WX} {e : Expr} {ge : GE} {gg : GG} {g : GS} {p pos tpos pos2 : Pos} {elts : List Expr} {kk : Nat}
end
end Bk

set_option Elab.async false
set_option linter.all false
set_option maxRecDepth 100000
set_option maxHeartbeats 2000000
namespace Bk
open PySem PySem.Spec PyProof.Rows L2
/-! ### a comprehension over a list of ours (read anew at each turn) or a frozen one -/
def gLcB (ge : GE) (gg : GG) (gt : GT) (gel : GE) (own : List Nat) : GE := fun Γ M => (ge Γ M).bind fun d M1 => match d with
  | .ref k => match M1[k]? with
    | some (.lst ds) => (gLcL gg gt gel (forget Γ own) ds [] M1).bind fun acc M2 => .ok (.lst acc) M2
    | _ => .bad
  | d => match seqD d with
    | some ds => (gLcL gg gt gel (forget Γ own) ds [] M1).bind fun acc M2 => .ok (.lst acc) M2
    | none => .bad
@[simp] theorem u_gLcB (ge : GE) (gg : GG) (gt : GT) (gel : GE) (own : List Nat) (Γ : Env) (M : List MO) : gLcB ge gg gt gel own Γ M = (ge Γ M).bind fun d M1 => match d with
  | .ref k => match M1[k]? with
    | some (.lst ds) => (gLcL gg gt gel (forget Γ own) ds [] M1).bind fun acc M2 => .ok (.lst acc) M2
    | _ => .bad
  | d => match seqD d with
    | some ds => (gLcL gg gt gel (forget Γ own) ds [] M1).bind fun acc M2 => .ok (.lst acc) M2
    | none => .bad := Eq.trans rfl rfl
section
variable {X : Cx} {C : CT} {W : WX} {elt tg iter : Expr} {ifs : List Expr} {scope : Scope} {own : List (Str × Nat)} {pos : Pos} {gi : GE} {gg : GG} {gt : GT} {ge : GE} {is ixs : List Nat}
end
end Bk

set_option Elab.async false
set_option linter.all false
set_option maxRecDepth 100000
set_option maxHeartbeats 2000000
namespace Bk
open PySem PySem.Spec PyProof.Rows L2
/-! ### max of a list of tuples of whole numbers -/
def maxR (r : List Int) (rs : List (List Int)) : List Int := rs.foldl (fun a y => if a < y then y else a) r
def dMaxT (M : List MO) (d : D) : Option D := ((listD M d).bind rowsL).bind fun rs => match rs with
  | [] => none
  | r :: rs => some (tupI (maxR r rs))
section
variable {X : Cx}
def dMaxB (M : List MO) (d : D) : Option D := match dMax M d with
  | some r => some r
  | none => dMaxT M d
end
@[simp] theorem e_maxB_i (M : List MO) {is : List Int} (h : is ≠ []) : dMaxB M (.lst (is.map D.int)) = some (.int (maxI is)) := by
  have : dMax M (.lst (is.map D.int)) = some (.int (maxI is)) := by
    simp only [dMax, ofInts, listD, Option.bind_some, intsD_map, if_neg h]
  simp only [dMaxB, this]
end Bk

set_option Elab.async false
set_option linter.all false
set_option maxRecDepth 100000
set_option maxHeartbeats 2000000
namespace Bk
open PySem PySem.Spec PyProof.Rows L2
/-! ### walks over lists of ours that stay as they are while they are walked, and over frozen ones -/
abbrev Wt := List (Nat × List D)
def wOk (w : Wt) (M : List MO) : Prop := ∀ p ∈ w, M[p.1]? = some (.lst p.2)
theorem wOk_nil (M : List MO) : wOk [] M := fun _ h => absurd h (by simp)
theorem wOk_one {k : Nat} {ds : List D} {M : List MO} : wOk [(k, ds)] M ↔ M[k]? = some (.lst ds) := ⟨fun h => h (k, ds) (by simp), fun h p hp => by
  have : p = (k, ds) := by simpa using hp
  rw [this]
  exact h⟩
abbrev GJ := Env → List MO → R (List D × Wt)
def srcW (M : List MO) : D → Option (List D × Wt)
  | .lst ds => some (ds, [])
  | .tup ds => some (ds, [])
  | .ptu ds => some (ds, [])
  | .ref k => match M[k]? with
    | some (.lst ds) => some (ds, [(k, ds)])
    | _ => none
  | _ => none
@[simp] theorem srcW_lst (M : List MO) (ds : List D) : srcW M (.lst ds) = some (ds, []) := Eq.trans rfl rfl
@[simp] theorem srcW_tup (M : List MO) (ds : List D) : srcW M (.tup ds) = some (ds, []) := Eq.trans rfl rfl
@[simp] theorem srcW_ptu (M : List MO) (ds : List D) : srcW M (.ptu ds) = some (ds, []) := Eq.trans rfl rfl
theorem srcW_ref {M : List MO} {k : Nat} {ds : List D} (h : M[k]? = some (.lst ds)) : srcW M (.ref k) = some (ds, [(k, ds)]) := by simp only [srcW, h]
theorem srcW_ok {M : List MO} {d : D} {ds : List D} {w : Wt} (h : srcW M d = some (ds, w)) : wOk w M := by
  cases d with
  | ref k =>
    simp only [srcW] at h
    split at h
    · rename_i es e
      cases h
      exact wOk_one.mpr e
    · cases h
  | lst es => cases h; exact wOk_nil M
  | tup es => cases h; exact wOk_nil M
  | ptu es => cases h; exact wOk_nil M
  | _ => cases h
def SrcOk (K : PySem.W.Frag) (S : Src) (ds : List D) (w : Wt) (Z : Hp) (ι : Nat → Addr) (n : Nat) : Prop :=
  ∀ (H' Z' : Hp) (ι' : Nat → Addr) (M' : List MO), Sub Z Z' → (∀ k, k < n → ι' k = ι k) → n ≤ M'.length → HR K H' Z' ι' M' → wOk w M' → ∃ xs, S.here K H' xs ∧ Rps K Z' ι' M'.length ds xs
theorem srcOk_of {K : PySem.W.Frag} {H Z : Hp} {ι : Nat → Addr} {M : List MO} {d : D} {ds : List D} {w : Wt} {v : V} (hr : HR K H Z ι M) (r : Rp K Z ι M.length d v) (h : srcW M d = some (ds, w)) : ∃ (S : Src), v = .ref S.addr ∧ SrcOk K S ds w Z ι M.length := by
  cases r with
  | lst s r => cases h; exact ⟨.l _, rfl, fun H' Z' ι' M' hz hi hn hr' _ => ⟨_, (subL (fun a o q => hr'.sub _ _ (hz _ _ q)) s).sq, Rps.mono hz hi hn _ _ r⟩⟩
  | tup s r => cases h; exact ⟨.t _, rfl, fun H' Z' ι' M' hz hi hn hr' _ => ⟨_, subT (fun a o q => hr'.sub _ _ (hz _ _ q)) s, Rps.mono hz hi hn _ _ r⟩⟩
  | ptu s r => cases h; exact ⟨.t _, rfl, fun H' Z' ι' M' hz hi hn hr' _ => ⟨_, subT (fun a o q => hr'.sub _ _ (hz _ _ q)) s.sq, Rps.mono hz hi hn _ _ r⟩⟩
  | ref hk =>
    rename_i k
    simp only [srcW] at h
    split at h
    · rename_i es e
      cases h
      refine ⟨.l (ι k), rfl, fun H' Z' ι' M' hz hi hn hr' hw => ?_⟩
      obtain ⟨xs, e1, r⟩ := hr'.obj k _ (wOk_one.mp hw)
      rw [hi k hk] at e1
      exact ⟨xs, .of e1, r⟩
    · cases h
  | _ => cases h
theorem SrcOk.mono {K : PySem.W.Frag} {S : Src} {ds : List D} {w : Wt} {Z Z1 : Hp} {ι ι1 : Nat → Addr} {n n1 : Nat} (h : SrcOk K S ds w Z ι n) (hz : Sub Z Z1) (hi : ∀ k, k < n → ι1 k = ι k) (hn : n ≤ n1) : SrcOk K S ds w Z1 ι1 n1 :=
  fun H' Z' ι' M' a b c d e => h H' Z' ι' M' (fun x o q => a _ _ (hz _ _ q)) (fun k hk => (b k (Nat.lt_of_lt_of_le hk hn)).trans (hi k hk)) (Nat.le_trans hn c) d e
section
variable {K : PySem.W.Frag} {Z : Hp} {ι : Nat → Addr} {n : Nat} {S S1 S2 : Src} {ds es : List D} {w w' : Wt}
theorem itc_en {k : Int} (s : SrcOk K S ds w Z ι n) : ItC (wOk w) K (Ien K S k) (enumL k ds) Z ι n := by
  intro i H' Z' ι' M' hz hi hn hr hM
  obtain ⟨xs, sH, r⟩ := s H' Z' ι' M' hz hi hn hr hM
  refine ⟨fun hl => ⟨xs, sH, by rw [← r.length, ← enumL_len ds k]; exact hl⟩, fun d hd => ?_⟩
  obtain ⟨d0, h1, rfl⟩ := enumL_get ds k i d hd
  obtain ⟨v, hv, rv⟩ := r.get h1
  refine ⟨⟨xs, v, sH, hv⟩, fun x H2 hy => ?_⟩
  obtain ⟨T, x', rfl, hT, rfl, hx⟩ := hy
  have ex : xs[i]? = some x' := hx _ sH
  rw [hv] at ex
  cases ex
  obtain ⟨q1, q2⟩ := hr.frozen (o := .tup [.int (k + (i : Nat)), v]) hT
  exact ⟨_, q2, q1, .tup (.inl (.inl upd_same)) (.cons (.int _) (.cons (rv.ext q2) .nil))⟩
end
abbrev rpJ (K : PySem.W.Frag) : RpK (List D × Wt) It := fun Z ι n iw J => ItC (wOk iw.2) K J iw.1 Z ι n
def QJ (X : Cx) (C : CT) (W : WX) (tg e : Expr) (g : GJ) : Prop := ∃ wi, PI X tg e wi ∧ ∀ (σ : St) (H Z : Hp) (ι : Nat → Addr) (Γ : Env) (M : List MO) (Q : It → Hp → Prop), Slots X.K Z ι M.length Γ σ → HR X.K H Z ι M → Post X C W (rpJ X.K) σ H Z ι M (g Γ M) Q → wi σ H Q
def gSeqJ (ge : GE) : GJ := fun Γ M => (ge Γ M).bind fun d M1 => opR (srcW M1 d) M1
def gEnumJ (ge : GE) : GJ := fun Γ M => (ge Γ M).bind fun d M1 => opR ((srcW M1 d).map fun p => (enumL 0 p.1, p.2)) M1
def gEnumKJ (ge gk : GE) : GJ := fun Γ M => (ge Γ M).bind fun d M1 => (gk Γ M1).bind fun k M2 => match k with
  | .int k => if decide (-(2 ^ 63) ≤ k) && decide (k < 2 ^ 63) then opR ((srcW M2 d).map fun p => (enumL k p.1, p.2)) M2 else .bad
  | _ => .bad
def zipW (M : List MO) (x y : D) : Option (List D × Wt) := match srcW M x, srcW M y with
  | some p, some q => some (zipL p.1 q.1, p.2 ++ q.2)
  | _, _ => none
def gZipJ (ga gb : GE) : GJ := fun Γ M => (ga Γ M).bind fun x M1 => (gb Γ M1).bind fun y M2 => opR (zipW M2 x y) M2
@[simp] theorem u_gSeqJ (ge : GE) (Γ : Env) (M : List MO) : gSeqJ ge Γ M = (ge Γ M).bind fun d M1 => opR (srcW M1 d) M1 := Eq.trans rfl rfl
@[simp] theorem u_gEnumJ (ge : GE) (Γ : Env) (M : List MO) : gEnumJ ge Γ M = (ge Γ M).bind fun d M1 => opR ((srcW M1 d).map fun p => (enumL 0 p.1, p.2)) M1 := Eq.trans rfl rfl
@[simp] theorem u_gEnumKJ (ge gk : GE) (Γ : Env) (M : List MO) : gEnumKJ ge gk Γ M = (ge Γ M).bind fun d M1 => (gk Γ M1).bind fun k M2 => match k with
  | .int k => if decide (-(2 ^ 63) ≤ k) && decide (k < 2 ^ 63) then opR ((srcW M2 d).map fun p => (enumL k p.1, p.2)) M2 else .bad
  | _ => .bad := Eq.trans rfl rfl
@[simp] theorem u_gZipJ (ga gb : GE) (Γ : Env) (M : List MO) : gZipJ ga gb Γ M = (ga Γ M).bind fun x M1 => (gb Γ M1).bind fun y M2 => opR (zipW M2 x y) M2 := Eq.trans rfl rfl
section
variable {X : Cx} {C : CT} {W : WX} {e e2 : Expr} {ge ga gb gk : GE} {p pos tpos : Pos} {elts : List Expr} {kk : Nat}
theorem pi_en1 {ta : TE} (hg : Gl X "enumerate") (hm : X.mg "enumerate" = none) (pa : PE X e ta) (hs : starEach [e] X.env = (false, eval e X.env) :: starEach [] X.env := by rfl) : PI X (.Tuple elts kk tpos) (.Call (.Name "enumerate" p) [e] [] pos)
    (fun σ H R => ta σ H fun v H1 => ∃ (S : Src) (xs : List V), v = .ref S.addr ∧ S.here X.K H1 xs ∧ R (Ien X.K S 0) H1) := ⟨fun pins s σ H R I h => by
  refine Call_ (ld_blt I hg hm boot_enumerate (PyProof.Rows.callWith_type1 (thn ((pa_cons pa pa_nil hs).run pos pins s σ H (fun vs H1 => ∃ v, vs = [v] ∧ ∃ (S : Src) (xs : List V), v = .ref S.addr ∧ S.here X.K H1 xs ∧ R (Ien X.K S 0) H1) I ?_) fun us s1 hh => ?_) hs rfl))
  · have hmono : (fun x H1 => tNil σ H1 fun xs H2 => ∃ v, x :: xs = [v] ∧ ∃ (S : Src) (ys : List V), v = .ref S.addr ∧ S.here X.K H2 ys ∧ R (Ien X.K S 0) H2) = fun (v : V) (H1 : Hp) => ∃ (S : Src) (xs : List V), v = .ref S.addr ∧ S.here X.K H1 xs ∧ R (Ien X.K S 0) H1 := by
      funext x H1
      apply propext
      constructor
      · rintro ⟨v, ev, q⟩
        cases ev
        exact q
      · intro q
        exact ⟨x, rfl, q⟩
    show ta σ H fun x H1 => tNil σ H1 fun xs H2 => ∃ v, x :: xs = [v] ∧ ∃ (S : Src) (ys : List V), v = .ref S.addr ∧ S.here X.K H2 ys ∧ R (Ien X.K S 0) H2
    rw [hmono]
    exact h
  · obtain ⟨vs, H1, J, r1, v, rfl, S, xs, rfl, hq, q⟩ := hh
    obtain ⟨u, rfl, ru⟩ := Vals.one r1
    cases ru
    obtain ⟨its, rv, har⟩ := Src.inv J hq
    refine call_enum1 (S.begins its.toArray) har fun h' he hit hk => wpAny_pyIter_enum he ?_
    have J2 : Inv X pins σ H1 { s1 with heap := h' } := J.kept (t' := s1.toks) hk
    refine ⟨s1.heap.objs.size + 1, [s1.heap.objs.size + 1, s1.heap.objs.size], _, _, H1, rfl, J2, turn_en S 0 (s1.heap.objs.size + 1) s1.heap.objs.size, ⟨⟨.none, by simpa using he⟩, Src.start hit, Nat.succ_ne_self _⟩, fun b hb => ?_, q⟩
    have le : s1.heap.objs.size ≤ b := by
      rcases List.mem_cons.mp hb with z | z
      · rw [z]; exact Nat.le_succ _
      · have z' : b = s1.heap.objs.size := by simpa using z
        rw [z']
        exact Nat.le_refl _
    exact J.fpOk le (J.hok.fresh le)⟩
theorem qj_enum (hg : Gl X "enumerate") (hm : X.mg "enumerate" = none) (ha : QE X C W e ge) (hs : starEach [e] X.env = (false, eval e X.env) :: starEach [] X.env := by rfl) : QJ X C W (.Tuple elts kk tpos) (.Call (.Name "enumerate" p) [e] [] pos) (gEnumJ ge) := by
  obtain ⟨ta, pa, qa⟩ := ha
  refine ⟨_, pi_en1 hg hm pa hs, fun σ H Z ι Γ M Q sl hr h => qa σ H Z ι Γ M _ sl hr (Post.bind h fun x M1 v H1 Z1 ι1 e1 hr1 r1 h1 => ?_)⟩
  obtain ⟨iw, hd, h2⟩ := Post.of_opR (γ := D) (δ := V) h1
  obtain ⟨⟨ds, w⟩, hd1, rfl⟩ := Option.map_eq_some_iff.mp hd
  obtain ⟨S, rfl, s⟩ := srcOk_of hr1 r1 hd1
  obtain ⟨xs, hx, _⟩ := s H1 Z1 ι1 M1 (fun _ _ z => z) (fun _ _ => rfl) (Nat.le_refl _) hr1 (srcW_ok hd1)
  exact ⟨S, xs, rfl, hx, h2 _ H1 Z1 ι1 .refl hr1 (itc_en s)⟩
end
/-! the loop -/
open Classical in
noncomputable def chkW (w : Wt) (M : List MO) (r : RS) : RS := if wOk w M then r else .bad
theorem chkW_t {w : Wt} {M : List MO} {r : RS} (h : wOk w M) : chkW w M r = r := by unfold chkW; rw [if_pos h]
theorem chkW_f {w : Wt} {M : List MO} {r : RS} (h : ¬ wOk w M) : chkW w M r = .bad := by unfold chkW; rw [if_neg h]
noncomputable def gForW (gg : GG) (body : GS) (w : Wt) : List D → GS
  | [] => fun Γ M => chkW w M (.nx Γ M)
  | d :: ds => fun Γ M => chkW w M (optS (gg d Γ) fun Γ1 => (body Γ1 M).turn (gForW gg body w ds))
noncomputable def gForJ (gj : GJ) (gg : GG) (body : GS) : GS := fun Γ M => (gj Γ M).thenS Γ fun iw M1 => gForW gg body iw.2 iw.1 Γ M1
@[simp] theorem u_gForJ (gj : GJ) (gg : GG) (body : GS) (Γ : Env) (M : List MO) : gForJ gj gg body Γ M = (gj Γ M).thenS Γ fun iw M1 => gForW gg body iw.2 iw.1 Γ M1 := Eq.trans rfl rfl
@[simp] theorem forW_nil (gg : GG) (body : GS) (ds : List D) (Γ : Env) (M : List MO) : gForW gg body [] ds Γ M = gForL gg body ds Γ M := by
  suffices h : gForW gg body [] ds = gForL gg body ds by rw [h]
  induction ds with
  | nil => funext Γ M; exact chkW_t (wOk_nil M)
  | cons d ds ih =>
    funext Γ M
    show chkW [] M (optS (gg d Γ) fun Γ1 => (body Γ1 M).turn (gForW gg body [] ds)) = _
    rw [chkW_t (wOk_nil M), ih]
    rfl
theorem forW_end {gg : GG} {body : GS} {w : Wt} {Γ : Env} {M : List MO} (h : wOk w M) : gForW gg body w [] Γ M = .nx Γ M := chkW_t h
theorem forW_turn {gg : GG} {body : GS} {w : Wt} {d : D} {ds : List D} {Γ Γ1 : Env} {M : List MO} (h : wOk w M) (hg : gg d Γ = some Γ1) : gForW gg body w (d :: ds) Γ M = (body Γ1 M).turn (gForW gg body w ds) := by
  show chkW w M (optS (gg d Γ) fun Γ1 => (body Γ1 M).turn (gForW gg body w ds)) = _
  rw [chkW_t h, hg]
  rfl
theorem forW_cons {gg : GG} {body : GS} {w : Wt} {d : D} {ds : List D} {Γ Γ1 Γ2 : Env} {M M2 : List MO} (h : wOk w M) (hg : gg d Γ = some Γ1) (hb : body Γ1 M = .nx Γ2 M2) : gForW gg body w (d :: ds) Γ M = gForW gg body w ds Γ2 M2 := by
  rw [forW_turn h hg, hb]
  rfl
section
variable {X : Cx} {C : CT} {W : WX} {tg : Expr} {gg : GG} {g : GS} {pos : Pos}
theorem qs_forJ {iter : Expr} {body : List Stmt} {gj : GJ} {is : List Nat} (hp : PassesOwn (model X.prog X.w) X.A X.env X.xe) (hc : X.calm = true) (hi : QJ X C W tg iter gj) (hg : QG X tg gg is) (hb : QSs X C W body g)
    (hs : ∀ x, foldedSetIterable iter X.env x = pure x := by intro _; rfl) : QS X C W (.For tg iter body [] pos) (gForJ gj gg g) := by
  obtain ⟨wi, pi, qi⟩ := hi
  obtain ⟨tg', pg, qg⟩ := hg
  obtain ⟨tb, pb, qb⟩ := hb
  refine ⟨_, ps_for hp hc pi pg pb hs, fun Dd σ H Z ι Γ M sl hr h => qi σ H Z ι Γ M _ sl hr (PostS.bind h sl fun iw M1 J H1 Z1 ι1 e1 hr1 rJ h1 => ?_)⟩
  obtain ⟨ds, w⟩ := iw
  refine ⟨fun i m σ' H' => ∃ (Z' : Hp) (ι' : Nat → Addr) (Γ' : Env) (M' : List MO), m = ds.length - i ∧ i ≤ ds.length ∧ Sub Z1 Z' ∧ (∀ k, k < M1.length → ι' k = ι1 k) ∧ M1.length ≤ M'.length ∧ HR X.K H' Z' ι' M' ∧ Slots X.K Z' ι' M'.length Γ' σ' ∧
    PostS X C W H' Z' ι' M' (gForW gg g w (ds.drop i) Γ' M') Dd, ⟨ds.length, Z1, ι1, Γ, M1, rfl, Nat.zero_le _, fun _ _ z => z, fun _ _ => rfl, Nat.le_refl _, hr1, sl.ext e1, h1⟩, ?_⟩
  rintro i m σ' H' ⟨Z', ι', Γ', M', em, hle, hz, hii, hn, hr', sl', hp'⟩
  by_cases hw : wOk w M'
  case neg =>
    exfalso
    cases ed : ds.drop i with
    | nil =>
      rw [ed] at hp'
      have hp' : PostS X C W H' Z' ι' M' (chkW w M' (.nx Γ' M')) Dd := hp'
      rw [chkW_f hw] at hp'
      exact hp'
    | cons d es =>
      rw [ed] at hp'
      have hp' : PostS X C W H' Z' ι' M' (chkW w M' (optS (gg d Γ') fun Γ1 => (g Γ1 M').turn (gForW gg g w es))) Dd := hp'
      rw [chkW_f hw] at hp'
      exact hp'
  obtain ⟨hstop, hgo⟩ := rJ i H' Z' ι' M' hz hii hn hr' hw
  by_cases hi : i < ds.length
  · refine .inr ?_
    have ed : ds.drop i = ds[i] :: ds.drop (i + 1) := List.drop_eq_getElem_cons hi
    obtain ⟨go, yl⟩ := hgo ds[i] (List.getElem?_eq_getElem hi)
    refine ⟨go, fun σ2 H2 => ∃ (Z2 : Hp) (ι2 : Nat → Addr) (Γ2 : Env) (M2 : List MO), Sub Z1 Z2 ∧ (∀ k, k < M1.length → ι2 k = ι1 k) ∧ M1.length ≤ M2.length ∧ HR X.K H2 Z2 ι2 M2 ∧ Slots X.K Z2 ι2 M2.length Γ2 σ2 ∧
      PostS X C W H2 Z2 ι2 M2 (gForW gg g w (ds.drop (i + 1)) Γ2 M2) Dd, fun σ2 H2 hN => ?_, fun x H2 hy => ?_⟩
    · obtain ⟨Z2, ι2, Γ2, M2, a1, a2, a3, a4, a5, a6⟩ := hN
      exact ⟨ds.length - (i + 1), by omega, Z2, ι2, Γ2, M2, rfl, by omega, a1, a2, a3, a4, a5, a6⟩
    · obtain ⟨Z2, e2, hr2, rx⟩ := yl x H2 hy
      rw [ed] at hp'
      have hp2 := PostS.shift hp' e2 hr2
      have hb : PostS X C W H2 Z2 ι' M' (chkW w M' (optS (gg ds[i] Γ') fun Γ1 => (g Γ1 M').turn (gForW gg g w (ds.drop (i + 1))))) Dd := hp2
      rw [chkW_t hw] at hb
      cases eg : gg ds[i] Γ' with
      | none =>
        rw [eg] at hb
        exact hb.elim
      | some Γ1 =>
        rw [eg] at hb
        exact qg x σ' H2 Z2 ι' M'.length ds[i] Γ' Γ1 _ hr2.sub (sl'.ext e2) rx eg fun σ3 s3 _ => qb _ σ3 H2 Z2 ι' Γ1 M' s3 hr2 (PostS.turn hb fun Γ4 M4 σ4 H4 Z4 ι4 e4 hr4 s4 h4 =>
          ⟨Z4, ι4, Γ4, M4, fun a o z => e4.zz _ _ (e2.zz _ _ (hz _ _ z)), fun k hk => (e4.ii k (Nat.lt_of_lt_of_le hk hn)).trans (hii k hk), Nat.le_trans hn e4.ln, hr4, s4, h4⟩)
  · refine .inl ⟨hstop (show ds.length = i by omega), ?_⟩
    rw [List.drop_eq_nil_of_le (Nat.le_of_not_lt hi)] at hp'
    have hp' : PostS X C W H' Z' ι' M' (chkW w M' (.nx Γ' M')) Dd := hp'
    rw [chkW_t hw] at hp'
    exact hp' σ' H' Z' ι' .refl hr' sl'
end
/-! the comprehension: what is within changes nothing -/
def gLcJ (gj : GJ) (gg : GG) (gt : GT) (gel : GE) (own : List Nat) : GE := fun Γ M => (gj Γ M).bind fun iw M1 => (gLcL gg gt gel (forget Γ own) iw.1 [] M1).bind fun acc M2 => .ok (.lst acc) M2
@[simp] theorem u_gLcJ (gj : GJ) (gg : GG) (gt : GT) (gel : GE) (own : List Nat) (Γ : Env) (M : List MO) : gLcJ gj gg gt gel own Γ M = (gj Γ M).bind fun iw M1 => (gLcL gg gt gel (forget Γ own) iw.1 [] M1).bind fun acc M2 => .ok (.lst acc) M2 := Eq.trans rfl rfl
section
variable {X : Cx} {C : CT} {W : WX} {elt tg iter : Expr} {ifs : List Expr} {scope : Scope} {own : List (Str × Nat)} {pos : Pos} {gj : GJ} {gg : GG} {gt : GT} {ge : GE} {is ixs : List Nat}
/-- the watch holds where the walk begins -/
def JOk (gj : GJ) : Prop := ∀ Γ M iw M', gj Γ M = .ok iw M' → wOk iw.2 M'
theorem jok_enum {g : GE} : JOk (gEnumJ g) := fun Γ M iw M' h => by
  obtain ⟨d, M1, _, h⟩ := R.bind_ok (show (g Γ M).bind _ = _ from h)
  cases hs : srcW M1 d with
  | none => rw [hs] at h; cases h
  | some p =>
    rw [hs] at h
    cases h
    exact srcW_ok hs
end
end Bk

set_option Elab.async false
set_option linter.all false
set_option maxRecDepth 100000
set_option maxHeartbeats 2000000
namespace Bk
open PySem PySem.Spec PyProof.Rows L2
/-! ### xs == [] and xs != [], whatever xs holds -/
section
variable {X : Cx}
end
/-! ### == of data that holds lists of ours at any depth -/
mutual
def toPM (M : List MO) : Nat → D → Option PyData
  | 0, d => toP d
  | n + 1, .ref k => match M[k]? with
    | some (.lst ds) => (toPMs M n ds).map .list
    | _ => none
  | n + 1, .lst ds => (toPMs M n ds).map .list
  | n + 1, .tup ds => (toPMs M n ds).map .tuple
  | n + 1, .ptu ds => (toPMs M n ds).map .tuple
  | _ + 1, d => toP d
termination_by n d => (n, 0)
def toPMs (M : List MO) (n : Nat) (ds : List D) : Option (List PyData) := match ds with
  | [] => some []
  | d :: ds => match toPM M n d, toPMs M n ds with
    | some p, some ps => some (p :: ps)
    | _, _ => none
termination_by (n, ds.length + 1)
end
section
variable {K : PySem.W.Frag} {H Z : Hp} {ι : Nat → Addr} {M : List MO}
theorem toPMs_nil (n : Nat) : toPMs M n [] = some [] := by rw [toPMs]
theorem toPMs_cons (n : Nat) (d : D) (ds : List D) : toPMs M n (d :: ds) = match toPM M n d, toPMs M n ds with
    | some p, some ps => some (p :: ps)
    | _, _ => none := by rw [toPMs]
theorem toPM_ref (n k : Nat) : toPM M (n + 1) (.ref k) = match M[k]? with
    | some (.lst ds) => (toPMs M n ds).map .list
    | _ => none := by rw [toPM]
theorem toPM_lst (n : Nat) (ds : List D) : toPM M (n + 1) (.lst ds) = (toPMs M n ds).map .list := by rw [toPM]
theorem toPM_tup (n : Nat) (ds : List D) : toPM M (n + 1) (.tup ds) = (toPMs M n ds).map .tuple := by rw [toPM]
theorem toPM_ptu (n : Nat) (ds : List D) : toPM M (n + 1) (.ptu ds) = (toPMs M n ds).map .tuple := by rw [toPM]
theorem toPM_non (n : Nat) : toPM M n .non = some .none := by cases n <;> rw [toPM] <;> first | rfl | intros; simp_all
theorem toPM_bl (n : Nat) (b : Bool) : toPM M n (.bl b) = some (.bool b) := by cases n <;> rw [toPM] <;> first | rfl | intros; simp_all
theorem toPM_int (n : Nat) (b : Int) : toPM M n (.int b) = some (.int b) := by cases n <;> rw [toPM] <;> first | rfl | intros; simp_all
theorem toPM_str (n : Nat) (b : Str) : toPM M n (.str b) = some (.str b) := by cases n <;> rw [toPM] <;> first | rfl | intros; simp_all
theorem toPM_dct (n : Nat) (a b : List D) : toPM M n (.dct a b) = none := by cases n <;> rw [toPM] <;> first | rfl | intros; simp_all
theorem toPMs_of (hr : HR K H Z ι M) {n : Nat} (ih : ∀ (d : D) (v : V) (p : PyData), Rp K Z ι M.length d v → toPM M n d = some p → Dp K H v p) : ∀ (ds : List D) (vs : List V) (ps : List PyData), Rps K Z ι M.length ds vs → toPMs M n ds = some ps → DpAll K H vs ps
  | [], _, ps, h, e => by
    rw [toPMs_nil] at e
    cases h
    cases e
    exact .nil
  | d :: ds, _, ps, h, e => by
    rw [toPMs_cons] at e
    cases h with
    | cons r rs =>
      cases e1 : toPM M n d with
      | none => rw [e1] at e; cases e
      | some p =>
        cases e2 : toPMs M n ds with
        | none => rw [e1, e2] at e; cases e
        | some qs =>
          rw [e1, e2] at e
          cases e
          exact .cons (ih d _ p r e1) (toPMs_of hr ih ds _ qs rs e2)
theorem toPM_dp (hr : HR K H Z ι M) : ∀ (n : Nat) (d : D) (v : V) (p : PyData), Rp K Z ι M.length d v → toPM M n d = some p → Dp K H v p
  | 0, d, v, p, r, e => by
    rw [toPM] at e
    exact toP_dp hr.sub d v p r e
  | n + 1, d, v, p, r, e => by
    cases r with
    | lst s r =>
      rw [toPM_lst] at e
      obtain ⟨ps, e1, rfl⟩ := Option.map_eq_some_iff.mp e
      exact .lst (subL hr.sub s).sq (toPMs_of hr (toPM_dp hr n) _ _ _ r e1)
    | tup s r =>
      rw [toPM_tup] at e
      obtain ⟨ps, e1, rfl⟩ := Option.map_eq_some_iff.mp e
      exact .tup (subT hr.sub s) (toPMs_of hr (toPM_dp hr n) _ _ _ r e1)
    | ptu s r =>
      rw [toPM_ptu] at e
      obtain ⟨ps, e1, rfl⟩ := Option.map_eq_some_iff.mp e
      exact .tup (subT hr.sub s.sq) (toPMs_of hr (toPM_dp hr n) _ _ _ r e1)
    | ref hk =>
      rename_i k
      rw [toPM_ref] at e
      split at e
      · rename_i ds e0
        obtain ⟨ps, e1, rfl⟩ := Option.map_eq_some_iff.mp e
        obtain ⟨xs, h1, r1⟩ := hr.obj k _ e0
        exact .lst (.of h1) (toPMs_of hr (toPM_dp hr n) _ _ _ r1 e1)
      · cases e
    | non => rw [toPM_non] at e; cases e; exact .non
    | bl b => rw [toPM_bl] at e; cases e; exact .bl b
    | int b => rw [toPM_int] at e; cases e; exact .int b
    | str b => rw [toPM_str] at e; cases e; exact .str b
    | dct s r t => rw [toPM_dct] at e; cases e
end
def eqPF (M : List MO) (x y : D) : Option Bool := match toPM M 6 x, toPM M 6 y with
  | some p, some q => if (SeqAt.shaped p && SeqAt.shaped q) = true then some (PyData.eqv p q) else none
  | _, _ => none
def dEqF (M : List MO) (x y : D) : Option D := (eqPF M x y).map D.bl
def dNeF (M : List MO) (x y : D) : Option D := (eqPF M x y).map fun b => D.bl (!b)
theorem eqPF_run {K : PySem.W.Frag} {H Z : Hp} {ι : Nat → Addr} {M : List MO} {dx dy : D} {x y : V} {b : Bool} (hr : HR K H Z ι M) (rx : Rp K Z ι M.length dx x) (ry : Rp K Z ι M.length dy y) (e : eqPF M dx dy = some b) :
    ∃ p q, Dp K H x p ∧ Dp K H y q ∧ SeqAt.shaped p = true ∧ SeqAt.shaped q = true ∧ PyData.eqv p q = b := by
  unfold eqPF at e
  cases e1 : toPM M 6 dx with
  | none => rw [e1] at e; cases e
  | some p =>
    cases e2 : toPM M 6 dy with
    | none => rw [e1, e2] at e; cases e
    | some q =>
      rw [e1, e2] at e
      simp only at e
      by_cases c : (SeqAt.shaped p && SeqAt.shaped q) = true
      · rw [if_pos c] at e
        rw [Bool.and_eq_true] at c
        exact ⟨p, q, toPM_dp hr _ _ _ _ rx e1, toPM_dp hr _ _ _ _ ry e2, c.1, c.2, Option.some.inj e⟩
      · rw [if_neg c] at e
        cases e
theorem eqPF_of {M : List MO} {x y : D} {p q : PyData} (h1 : toPM M 6 x = some p) (h2 : toPM M 6 y = some q) (s1 : SeqAt.shaped p = true) (s2 : SeqAt.shaped q = true) : eqPF M x y = some (PyData.eqv p q) := by
  unfold eqPF
  rw [h1, h2]
  simp [s1, s2]
section
variable {X : Cx}
theorem ok_eqF : Ok2 X (rEqD X.K) dEqF := fun x y H Z ι M dx dy d Q hr rx ry e q => by
  unfold dEqF at e
  cases e1 : eqPF M dx dy with
  | none => rw [e1] at e; cases e
  | some b =>
    rw [e1] at e
    cases e
    obtain ⟨p, p', h1, h2, h3, h4, h5⟩ := eqPF_run hr rx ry e1
    exact ⟨p, p', h1, h2, h3, h4, by rw [h5]; exact q.now hr (.bl b)⟩
theorem ok_neF : Ok2 X (rNeD X.K) dNeF := fun x y H Z ι M dx dy d Q hr rx ry e q => by
  unfold dNeF at e
  cases e1 : eqPF M dx dy with
  | none => rw [e1] at e; cases e
  | some b =>
    rw [e1] at e
    cases e
    obtain ⟨p, p', h1, h2, h3, h4, h5⟩ := eqPF_run hr rx ry e1
    exact ⟨p, p', h1, h2, h3, h4, by rw [h5]; exact q.now hr (.bl _)⟩
end
/-! ### a comprehension over a list of ours that stays as it is, looked at at each turn -/
open Classical in
noncomputable def chkR {α : Type} (w : Wt) (M : List MO) (r : R α) : R α := if wOk w M then r else .bad
theorem chkR_t {α : Type} {w : Wt} {M : List MO} {r : R α} (h : wOk w M) : chkR w M r = r := by unfold chkR; rw [if_pos h]
noncomputable def gLcLW (gg : GG) (gt : GT) (ge : GE) (Γ : Env) (w : Wt) : List D → List D → List MO → R (List D)
  | [], acc => fun M => chkR w M (.ok acc M)
  | d :: ds, acc => fun M => chkR w M (match gg d Γ with
    | none => .bad
    | some Γ1 => (gt Γ1 M).only fun k M1 => if k = true then (ge Γ1 M1).only fun y M2 => if acc.length < sizeLine then gLcLW gg gt ge Γ w ds (acc ++ [y]) M2 else .bad
        else gLcLW gg gt ge Γ w ds acc M1)
@[simp] theorem lcLW_nil (gg : GG) (gt : GT) (ge : GE) (Γ : Env) (ds acc : List D) (M : List MO) : gLcLW gg gt ge Γ [] ds acc M = gLcL gg gt ge Γ ds acc M := by
  suffices h : ∀ (ds acc : List D) (M : List MO), gLcLW gg gt ge Γ [] ds acc M = gLcL gg gt ge Γ ds acc M from h ds acc M
  intro ds
  induction ds with
  | nil => intro acc M; exact chkR_t (wOk_nil M)
  | cons d ds ih =>
    intro acc M
    refine (chkR_t (wOk_nil M)).trans ?_
    unfold gLcL
    cases gg d Γ with
    | none => rfl
    | some Γ1 => simp only [ih]
noncomputable def gLcK (gj : GJ) (gg : GG) (gt : GT) (gel : GE) (own : List Nat) : GE := fun Γ M => (gj Γ M).bind fun iw M1 => (gLcLW gg gt gel (forget Γ own) iw.2 iw.1 [] M1).bind fun acc M2 => .ok (.lst acc) M2
@[simp] theorem u_gLcK (gj : GJ) (gg : GG) (gt : GT) (gel : GE) (own : List Nat) (Γ : Env) (M : List MO) : gLcK gj gg gt gel own Γ M = (gj Γ M).bind fun iw M1 => (gLcLW gg gt gel (forget Γ own) iw.2 iw.1 [] M1).bind fun acc M2 => .ok (.lst acc) M2 := Eq.trans rfl rfl
section
variable {X : Cx} {C : CT} {W : WX}
end
section
variable {X : Cx} {C : CT} {W : WX} {elt tg iter : Expr} {ifs : List Expr} {scope : Scope} {own : List (Str × Nat)} {pos : Pos} {gj : GJ} {gg : GG} {gt : GT} {ge : GE} {is ixs : List Nat}
end
end Bk

set_option Elab.async false
set_option linter.all false
set_option maxRecDepth 100000
set_option maxHeartbeats 4000000
namespace Bk
open PySem PySem.Spec PyProof.Rows L2
/-! ### C(k = v, ..), the fields may be ours -/
def gNewWK (nm : Str) (n : Nat) (F : List D → List MO → R D) (is : List Nat) (gk : GA) : GE := fun Γ M => (gk Γ M).bind fun ds M1 => if (pick (.ref M1.length :: ds) is).length = n then (callW F (pick (.ref M1.length :: ds) is) (M1 ++ [.obj nm []])).bind (newR M1.length) else .bad
section
variable {X : Cx} {C : CT} {W : WX} {nm x : Str} {pos p : Pos} {C0 : Addr} {k n : Nat} {fa : Addr} {fd : FuncData} {ps : List Str} {F : List D → List MO → R D} {kws : List Keyword} {gk : GA} {ks : List Str} {is : List Nat}
end
/-! ### list(range(a, b, -1)) -/
def gRg3L (gs : GA) : GE := fun Γ M => (gs Γ M).bind fun ds M1 => match rng3 ds with
  | some xs => if xs.length ≤ 2 ^ 24 then .ok (.lst xs) M1 else .bad
  | none => .bad
section
variable {X : Cx} {C : CT} {W : WX} {a b c : Expr} {gs : GA} {ta : TA} {p pos p2 pos2 : Pos}
end
@[simp] theorem u_gRg3L (gs : GA) (Γ : Env) (M : List MO) : gRg3L gs Γ M = ((gs Γ M).bind fun ds M1 => match rng3 ds with
  | some xs => if xs.length ≤ 2 ^ 24 then .ok (.lst xs) M1 else .bad
  | none => .bad) := Eq.trans rfl rfl
@[simp] theorem u_gNewWK (nm : Str) (n : Nat) (F : List D → List MO → R D) (is : List Nat) (gk : GA) (Γ : Env) (M : List MO) : gNewWK nm n F is gk Γ M = ((gk Γ M).bind fun ds M1 => if (pick (.ref M1.length :: ds) is).length = n then (callW F (pick (.ref M1.length :: ds) is) (M1 ++ [.obj nm []])).bind (newR M1.length) else .bad) := Eq.trans rfl rfl
end Bk

set_option Elab.async false
set_option linter.all false
set_option maxRecDepth 100000
set_option maxHeartbeats 2000000
namespace Bk
open PySem PySem.Spec PyProof.Rows L2
/-! ### min of a tuple of whole numbers -/
theorem reads_ints {h : Heap} : ∀ {us : List Value} {ns : List Int}, Vals (ns.map V.int) us → ReadsAll h us (ns.map PyData.int) []
  | [], [], _ => .nil
  | [], _ :: _, r => by cases r
  | _ :: _, [], r => by cases r
  | u :: us, n :: ns, r => by
    rw [List.map_cons] at r
    cases r with
    | cons r1 r2 =>
      obtain ⟨t, rfl⟩ := r1
      have := ReadsAll.cons (Reads.int (h := h) n t) (reads_ints (h := h) r2)
      simpa using this
theorem alike_intsA (ns : List Int) : PySem.W.AlikeAll (ns.map PyData.int) := by
  refine ⟨fun x hx y hy => ?_, fun x hx => ?_⟩
  · obtain ⟨a, _, rfl⟩ := List.mem_map.mp hx
    obtain ⟨b, _, rfl⟩ := List.mem_map.mp hy
    rfl
  · obtain ⟨a, _, rfl⟩ := List.mem_map.mp hx
    intro e
    cases e
section
variable {X : Cx}
end
end Bk

set_option Elab.async false
set_option linter.all false
set_option maxRecDepth 100000
set_option maxHeartbeats 2000000
namespace Bk
open PySem PySem.Spec PyProof.Rows L2
/-! ### isinstance(x, C) of an object of the class itself -/
def gIsC (nm : Str) (ge : GE) : GE := fun Γ M => (ge Γ M).bind fun x M1 => match x with
  | .ref k => match M1[k]? with
    | some (.obj nm' _) => if nm' = nm then .ok (.bl true) M1 else .bad
    | _ => .bad
  | _ => .bad
@[simp] theorem u_gIsC (nm : Str) (ge : GE) (Γ : Env) (M : List MO) : gIsC nm ge Γ M = ((ge Γ M).bind fun x M1 => match x with
  | .ref k => match M1[k]? with
    | some (.obj nm' _) => if nm' = nm then .ok (.bl true) M1 else .bad
    | _ => .bad
  | _ => .bad) := Eq.trans rfl rfl
section
variable {X : Cx} {C : CT} {W : WX} {e : Expr} {ga : GE} {p pos q : Pos} {C0 : Addr} {nm TN : Str}
end
end Bk

set_option Elab.async false
set_option linter.all false
set_option maxRecDepth 100000
set_option maxHeartbeats 4000000
namespace Bk
open PySem PySem.Spec PyProof.Rows L2
/-! ### d.setdefault(k, x), keys that are tuples -/
def setdX (M : List MO) (x y z : D) : Option (D × List MO) := match x with
  | .ref k => match M[k]? with
    | some (.dct ks vs) => match keysD ks, keyD y with
      | some nks, some nk => if (ks.all isTup && isTup y && decide (nk.depth ≤ 8) && decide (vs.length < sizeLine)) = true then (match posK nk nks with
        | some i => (vs[i]?).map fun w => (w, M)
        | none => some (z, M.set k (.dct (ks ++ [y]) (vs ++ [z])))) else none
      | _, _ => none
    | _ => none
  | _ => none
def isDctR (M : List MO) (x : D) : Bool := match x with
  | .ref k => match M[k]? with
    | some (.dct _ _) => true
    | _ => false
  | _ => false
def gSetd (go gk gx : GE) : GE := fun Γ M => (go Γ M).bind fun x M1 => if isDctR M1 x = true then (gk Γ M1).bind fun y M2 => (gx Γ M2).bind fun z M3 => match setdX M3 x y z with
  | some r => .ok r.1 r.2
  | none => .bad else .bad
@[simp] theorem u_gSetd (go gk gx : GE) (Γ : Env) (M : List MO) : gSetd go gk gx Γ M = ((go Γ M).bind fun x M1 => if isDctR M1 x = true then (gk Γ M1).bind fun y M2 => (gx Γ M2).bind fun z M3 => match setdX M3 x y z with
  | some r => .ok r.1 r.2
  | none => .bad else .bad) := Eq.trans rfl rfl
end Bk

set_option Elab.async false
set_option linter.all false
set_option maxRecDepth 100000
set_option maxHeartbeats 4000000
namespace Bk
open PySem PySem.Spec PyProof.Rows L2
/-! ### for i, x in enumerate(xs, start=k) -/
section
variable {X : Cx} {C : CT} {W : WX} {e : Expr} {ge : GE} {p pos tpos cp kp : Pos} {elts : List Expr} {kk j : Nat} {k : Int}
end
end Bk

set_option Elab.async false
set_option linter.all false
set_option maxRecDepth 100000
set_option maxHeartbeats 2000000
namespace Bk
open PySem PySem.Spec PyProof.Rows L2
/-! ### y = [.. for x in xs], xs a list of ours that stays as it is, or a frozen one -/
section
variable {X : Cx} {C : CT} {W : WX} {elt tg iter : Expr} {ifs : List Expr} {scope : Scope} {own : List (Str × Nat)} {pos spos py : Pos} {gj : GJ} {gg : GG} {gt : GT} {ge : GE} {is ixs : List Nat}
theorem qs_lcJ {i : Nat} {y : Str} (hc : X.calm = true) (hN : X.N.Nodup) (hy : X.N[i]? = some y) (hyl : X.env.scope.names.lookup y = some .local) (hsw : swapsWith (.ListComp elt [⟨tg, iter, ifs, 0⟩] scope pos) (some (.Name y py)) spos.line X.env = pure true)
    (hi : QJ X C W tg iter gj) (hj : JOk gj) (ok : BlkOk X.N X.env.scope scope own) (hg : Blk X scope fun Y => QG Y tg gg is) (ht : Blk X scope fun Y => QTs Y C noW ifs gt) (he : Blk X scope fun Y => QE Y C noW elt ge)
    (p1 : Pure gt) (p2 : Pure ge) (hix : ixs = own.map (·.2) := by rfl) (hsub : ∀ i ∈ is, i ∈ own.map (·.2) := by decide) (hs : ∀ x, foldedSetIterable iter X.env x = pure x := by intro _; rfl) : QS X C W (.Assign [.Name y py] (.ListComp elt [⟨tg, iter, ifs, 0⟩] scope pos) spos) (gAsg (gLcJ gj gg gt ge ixs) (gTo i)) := by
  subst hix
  obtain ⟨wi, pi, qi⟩ := hi
  have rd : ∀ (σ : St) (H Z : Hp) (ι : Nat → Addr) (Γ : Env) (M : List MO) (Q : VK), Slots X.K Z ι M.length Γ σ → HR X.K H Z ι M → Post X C W (rpE X.K) σ H Z ι M (gLcJ gj gg gt ge (own.map (·.2)) Γ M) Q →
      tLc wi (liftG X.K gg is) (liftT X.K X C noW gt) (liftE X.K X C noW ge) (own.map (·.2)) σ H Q := fun σ H Z ι Γ M Q sl hr h => qi σ H Z ι Γ M _ sl hr (by
    cases er : gj Γ M with
    | bad =>
      have h : Post X C W (rpE X.K) σ H Z ι M ((gj Γ M).bind _) Q := h
      rw [er] at h
      exact h.elim
    | exc c d M1 =>
      have h : Post X C W (rpE X.K) σ H Z ι M ((gj Γ M).bind _) Q := h
      rw [er] at h
      exact h
    | ok iw M1 =>
      have hw := hj _ _ _ _ er
      have h : Post X C W (rpE X.K) σ H Z ι M ((gj Γ M).bind fun iw M1 => (gLcL gg gt ge (forget Γ (own.map (·.2))) iw.1 [] M1).bind fun acc M2 => .ok (.lst acc) M2) Q := h
      rw [er] at h
      have h : Post X C W (rpE X.K) σ H Z ι M ((gLcL gg gt ge (forget Γ (own.map (·.2))) iw.1 [] M1).bind fun acc M2 => .ok (.lst acc) M2) Q := h
      intro J H1 Z1 ι1 e1 hr1 rJ p hp
      exact gLcL_run hsub (slots_wipe _ (sl.ext e1)) rJ hw (fun Γ M d M' e c => by rw [p1 _ _ _ _ e]; exact c) (fun Γ M d M' e c => by rw [p2 _ _ _ _ e]; exact c) hp hr1 (h.shift e1 hr1)
        fun acc accV M' H' Z' ι' b1 b2 b3 b4 b5 b6 => fin_z hp b1 b2 b3 b4 b5 b6)
  refine ⟨_, ps_setLc hc hN hy hyl hsw pi ok (blk_g hg) (blk_t ht) (blk_e he) hs, fun Dd σ H Z ι Γ M sl hr h => ?_⟩
  refine rd σ H Z ι Γ M _ sl hr (PostS.bind (Γ := Γ) h sl fun x M1 v H1 Z1 ι1 e1 hr1 r1 h1 => ?_)
  exact h1 _ H1 Z1 ι1 .refl hr1 ((sl.ext e1).set i r1)
end
end Bk

set_option Elab.async false
set_option linter.all false
set_option maxRecDepth 100000
set_option maxHeartbeats 2000000
namespace Bk
open PySem PySem.Spec PyProof.Rows L2
/-! ### max of a tuple of whole numbers -/
def dMaxTu (d : D) : Option D := match d with
  | .tup ds => (intsD ds).bind fun is => if is = [] then none else some (.int (maxI is))
  | _ => none
theorem foldmax : ∀ (ns : List Int) (n : Int), ns.foldl max n ∈ n :: ns ∧ ∀ y ∈ n :: ns, y ≤ ns.foldl max n
  | [], n => by simp
  | a :: ns, n => by
    obtain ⟨h1, h2⟩ := foldmax ns (max n a)
    rw [List.foldl_cons]
    refine ⟨?_, fun y hy => ?_⟩
    · rcases List.mem_cons.mp h1 with e | e
      · rw [e]
        by_cases q : n ≤ a
        · rw [Int.max_eq_right q]; simp
        · rw [Int.max_eq_left (by omega)]; simp
      · exact List.mem_cons_of_mem _ (List.mem_cons_of_mem _ e)
    · have m1 := h2 _ List.mem_cons_self
      rcases List.mem_cons.mp hy with e | e
      · have : n ≤ max n a := Int.le_max_left n a
        omega
      · rcases List.mem_cons.mp e with e | e
        · have : a ≤ max n a := Int.le_max_right n a
          omega
        · exact h2 y (List.mem_cons_of_mem _ e)
def rMaxTi (K : PySem.W.Frag) : List V → Hp → VK → Prop := fun vs H Q => ∃ (a : Addr) (n : Int) (ns : List Int), vs = [V.ref a] ∧ SqT K H a ((n :: ns).map V.int) ∧ Q (.int (maxI (n :: ns))) H
section
variable {X : Cx}
theorem cr_maxTu (hc : X.calm = true) (hu : X.A.units + 70 < cLine) : CallR X (.builtin "max") (rMaxTi X.K) := by
  intro pins s σ H vs us Q I r h
  obtain ⟨a, n, ns, rfl, hs, q⟩ := h
  obtain ⟨its, rv, pl, _⟩ := I.tuple hs
  rw [Vals.ref1 r]
  have ra := reads_ints (h := s.heap) rv
  rw [List.map_cons] at ra
  have al := alike_intsA (n :: ns)
  rw [List.map_cons] at al
  have dp := PySem.W.depth_ints (n :: ns)
  rw [List.map_cons] at dp
  refine PySem.W.max_tuple_data (I.ok.hd hc) pl (by simpa using ra) al (by omega) fun i v h' tk bs hv rd hk => ?_
  rw [PySem.W.maxD_ints] at rd
  cases rd with
  | int _ t =>
    obtain ⟨f1, f2⟩ := foldmax ns n
    have em := maxI_is (n :: ns) _ f1 f2
    refine ⟨.int (ns.foldl max n), H, I.kept hk, ⟨t, rfl⟩, ?_⟩
    rw [← em]
    exact q
theorem ok_maxTu : Ok1 X (fun x H Q => rMaxTi X.K [x] H Q) (fun _ d => dMaxTu d) := fun x H Z ι M dx d Q hr rx e q => by
  have e9 : dMaxTu dx = some d := e
  clear e
  have e := e9
  clear e9
  unfold dMaxTu at e
  split at e
  · rename_i ds
    cases e1 : intsD ds with
    | none => rw [e1] at e; cases e
    | some is =>
      rw [e1, Option.bind_some] at e
      cases is with
      | nil => cases e
      | cons n ns =>
        rw [if_neg (by simp)] at e
        cases e
        cases rx with
        | tup s r =>
          exact ⟨_, n, ns, rfl, by rw [← intsD_is r e1]; exact subT hr.sub s, q.now hr (.int _)⟩
  · cases e
def dMaxV (M : List MO) (d : D) : Option D := match dMax M d with
  | some r => some r
  | none => dMaxTu d
theorem cr_maxV (hc : X.calm = true) (hu : X.A.units + 70 < cLine) : CallR X (.builtin "max") (fun xs H Q => rMax X.K xs H Q ∨ rMaxTi X.K xs H Q) := CallR.or (cr_max hc) (cr_maxTu hc hu)
theorem ok_maxV : Ok1 X (fun x H Q => rMax X.K [x] H Q ∨ rMaxTi X.K [x] H Q) dMaxV := fun x H Z ι M dx d Q hr rx e q => by
  unfold dMaxV at e
  cases e1 : dMax M dx with
  | some r =>
    rw [e1] at e
    cases e
    exact .inl (ok_max x H Z ι M dx _ Q hr rx e1 q)
  | none =>
    rw [e1] at e
    exact .inr (ok_maxTu x H Z ι M dx d Q hr rx e q)
end
theorem e_maxV_t (M : List MO) {is : List Int} (h : is ≠ []) : dMaxV M (.tup (is.map D.int)) = some (.int (maxI is)) := by
  have n1 : dMax M (.tup (is.map D.int)) = none := rfl
  unfold dMaxV
  rw [n1]
  simp only [dMaxTu, intsD_map, Option.bind_some, if_neg h]
end Bk

set_option Elab.async false
set_option linter.all false
set_option maxRecDepth 100000
set_option maxHeartbeats 4000000
namespace Bk
open PySem PySem.Spec PyProof.Rows L2
/-! ### tuples that are known to have no dict: displays, (x,) + t, t.count(k) of ints -/
section
variable {X : Cx} {C : CT} {W : WX} {pos : Pos}
theorem pe_tupP {es : List Expr} {t : TA} {x1} (h : PA X es t) : PE X (.Tuple es x1 pos) (fun σ H Q => t σ H fun xs H1 => xs.length ≤ sizeLine ∧ ∀ (p : Addr) (o : Obj), H1 p = none → o.dict = none → Q (.ref p) (upd H1 p (.frz o (.tup xs)))) := by
  refine ⟨fun pins s σ H Q I hq => ?_⟩
  refine wpAny_Tuple_spliced (thn (h.run pos pins s σ H _ I hq) fun us s1 ⟨xs, H1, I1, r, z, q⟩ => ⟨by rw [← r.length]; exact z, ?_⟩)
  have hf : H1 s1.heap.objs.size = none := I1.hok.fresh (Nat.le_refl _)
  have hnew : (s1.heap.push { cls := .type "tuple", data := .seq us.toArray }).get? s1.heap.objs.size = some { cls := .type "tuple", data := .seq us.toArray } := Heap.get?_push_size _ rfl
  refine ⟨.ref s1.heap.objs.size, upd H1 s1.heap.objs.size (.frz { cls := .type "tuple", data := .seq us.toArray } (.tup xs)), I1.laid (t' := s1.toks) (fun b u e => Heap.get?_push_of_some _ e) (Nat.le_refl _) ?_, rfl, q _ _ hf rfl⟩
  exact ⟨hnew, z, us, r, ⟨_, hnew, rfl, _, rfl⟩⟩
def gTupP (gs : GA) : GE := fun Γ M => (gs Γ M).bind fun ds M1 => if ds.length ≤ sizeLine then .ok (.ptu ds) M1 else .bad
@[simp] theorem u_gTupP (gs : GA) (Γ : Env) (M : List MO) : gTupP gs Γ M = (gs Γ M).bind fun ds M1 => if ds.length ≤ sizeLine then .ok (.ptu ds) M1 else .bad := Eq.trans rfl rfl
theorem qe_tupP {es : List Expr} {gs : GA} {x1} (ha : QA X C W es gs) : QE X C W (.Tuple es x1 pos) (gTupP gs) := by
  obtain ⟨ta, pa, qa⟩ := ha
  refine ⟨_, pe_tupP pa, fun σ H Z ι Γ M Q sl hr h => qa σ H Z ι Γ M _ sl hr (h.bind fun x M1 v H1 Z1 ι1 e1 hr1 r1 h1 => ?_)⟩
  by_cases hz : x.length ≤ sizeLine
  · rw [if_pos hz] at h1
    exact ⟨by rw [← r1.length]; exact hz, fun p o hp ho => h1.after.ptu hr1 r1 p o hp ho⟩
  · rw [if_neg hz] at h1
    exact h1.elim
/-! t + u, t not empty -/
def rCatP (K : PySem.W.Frag) : R2 := fun x y H Q => ∃ (p q : Addr) (xs ys : List V) (o1 o2 : Obj), x = .ref p ∧ y = .ref q ∧ H p = some (.frz o1 (.tup xs)) ∧ o1.dict = none ∧ H q = some (.frz o2 (.tup ys)) ∧ o2.dict = none ∧ xs ≠ [] ∧ xs.length + ys.length ≤ sizeLine ∧
  (ys = [] → Q (.ref p) H) ∧ ∀ (l : Addr) (o : Obj), H l = none → o.dict = none → Q (.ref l) (upd H l (.frz o (.tup (xs ++ ys))))
theorem op_catP : OpR X (binaryOp .Add) (rCatP X.K) := by
  intro pins s σ H x y v u Q I rx ry h
  obtain ⟨p, q, xs, ys, o1, o2, rfl, rfl, h1, d1, h2, d2, ne, hz, q1, q2⟩ := h
  cases rx
  cases ry
  obtain ⟨vs, r1, t1, z1⟩ := I.tuple (.inl (.inr ⟨o1, h1⟩) : SqT X.K H p xs)
  obtain ⟨ws, r2, t2, z2⟩ := I.tuple (.inl (.inr ⟨o2, h2⟩) : SqT X.K H q ys)
  have l1 := r1.length
  have l2 := r2.length
  refine HT.cat_tup t1 t2 (fun e => ne ?_) (fun e => ?_) (fun e => ?_) (by omega)
  · subst e; cases r1; rfl
  · refine ⟨.ref p, H, I, rfl, q1 ?_⟩
    subst e; cases r2; rfl
  · have hf : H s.heap.objs.size = none := I.hok.fresh (Nat.le_refl _)
    have hnew : (s.heap.push { cls := .type "tuple", data := .seq (vs ++ ws).toArray }).get? s.heap.objs.size = some { cls := .type "tuple", data := .seq (vs ++ ws).toArray } := Heap.get?_push_size _ rfl
    refine ⟨.ref s.heap.objs.size, upd H s.heap.objs.size (.frz { cls := .type "tuple", data := .seq (vs ++ ws).toArray } (.tup (xs ++ ys))), I.laid (t' := s.toks) (fun b u e => Heap.get?_push_of_some _ e) (Nat.le_refl _) ?_, rfl, q2 _ _ hf rfl⟩
    exact ⟨hnew, by rw [List.length_append]; exact hz, vs ++ ws, r1.append r2, ⟨_, hnew, rfl, _, rfl⟩⟩
def dAddP (M : List MO) (x y : D) : Option D := match x, y with
  | .ptu (a :: as), .ptu b => if (a :: as).length + b.length ≤ sizeLine then some (.ptu ((a :: as) ++ b)) else none
  | _, _ => none
theorem ok_addP : Ok2 X (rCatP X.K) dAddP := fun x y H Z ι M dx dy d Q hr rx ry e q => by
  unfold dAddP at e
  split at e
  · rename_i a as b
    by_cases c : (a :: as).length + b.length ≤ sizeLine
    · rw [if_pos c] at e
      cases e
      cases rx with
      | ptu s1 r1 =>
        cases ry with
        | ptu s2 r2 =>
          rename_i p xs q' ys
          obtain ⟨o1, h1, d1⟩ := s1
          obtain ⟨o2, h2, d2⟩ := s2
          have l1 := r1.length
          have l2 := r2.length
          refine ⟨_, _, _, _, o1, o2, rfl, rfl, hr.sub _ _ h1, d1, hr.sub _ _ h2, d2, fun e => ?_, by omega, fun e => ?_, fun l o hl ho => q.ptu hr (r1.append r2) l o hl ho⟩
          · rw [e] at l1; simp at l1
          · subst e
            have hb : b = [] := List.length_eq_zero_iff.mp (by simpa using l2)
            subst hb
            rw [List.append_nil] at q
            exact q.now hr (.ptu ⟨o1, h1, d1⟩ r1)
    · rw [if_neg c] at e
      cases e
  · cases e
@[simp] theorem e_addP (M : List MO) (a : D) (as b : List D) : dAddP M (.ptu (a :: as)) (.ptu b) = if (a :: as).length + b.length ≤ sizeLine then some (.ptu ((a :: as) ++ b)) else none := Eq.trans rfl rfl
/-! t.count(k) -/
def rCntP (K : PySem.W.Frag) : V → List V → Hp → VK → Prop := fun x xs H Q => ∃ (p : Addr) (ns : List Int) (k : Int), x = .ref p ∧ xs = [.int k] ∧ SqT K H p (ns.map V.int) ∧ Q (.int (ns.count k : Nat)) H
theorem mt_tcount : MtR X "tuple.count" (rCntP X.K) := by
  intro pins s σ H x xs v us Q I rx rxs h
  obtain ⟨p, ns, k, rfl, rfl, hs, q⟩ := h
  cases rx
  obtain ⟨u, rfl, ru⟩ := rxs.one
  obtain ⟨t, rfl⟩ := ru
  obtain ⟨its, rv, ⟨⟨cls, dd, data, sl⟩, ho, hc, n, hd⟩, hlen⟩ := I.tuple hs
  simp only at hc hd
  subst hc hd
  have hi := ints_of_vals rv
  refine call_meets PySem.F.slot_tuple_count ⟨_, ho, rfl⟩ PySem.F.entry_tuple_count (PySem.F.args_tuple_count_2 _ _)
    (SeqAt.tuple_countAt p its.toArray n dd sl (.int k t) (eqk k)) ⟨ho, fun y hy => (eqk_gives hi y (by simpa using hy)).at _ _, ?_⟩
  have ec : its.toArray.toList.countP (eqk k) = ns.count k := eqk_count hi
  refine ⟨.int (ns.count k : Nat), H, I.tok _, ⟨s.toks, ?_⟩, q⟩
  show Value.int ((its.toArray.toList.countP (eqk k) : Nat) : Int) s.toks = Value.int ((ns.count k : Nat) : Int) s.toks
  rw [ec]
def tBMP (r : V → List V → Hp → VK → Prop) (to : TE) (t : TA) : TE := fun σ H Q => to σ H fun x H1 => (∃ (p : Addr) (o : Obj) (xs : List V), x = .ref p ∧ H1 p = some (.frz o (.tup xs)) ∧ o.dict = none) ∧ t σ H1 fun xs H2 => r x xs H2 Q
theorem pe_bmP {o e : Expr} {es : List Expr} {to : TE} {t : TA} {name : Str} {apos cpos : Pos} {id : String} {r : V → List V → Hp → VK → Prop} (slot : Slot "tuple" name id) (hty : typeOf (.builtin id) = pure (.type "method_descriptor")) (hm : MtR X id r) (ho : PE X o to) (ha : PA X (e :: es) t)
    (hbase : attributeBase o name X.env (eval o X.env) = eval o X.env := by rfl)
    (hfew : ((backTo cpos (starEach (e :: es) X.env)).all (fun x => !x.1) && (backToKw cpos (keywordEach [] X.env)).all (fun x => x.1.isSome)
      && decide ((e :: es).length + ([] : List Keyword).length + (if ([] : List Keyword).isEmpty then 0 else 1) < 30)) = true := by rfl)
    (hline : (apos.endLine == cpos.line) = true := by rfl) (hs : starEach (e :: es) X.env = (false, eval e X.env) :: starEach es X.env := by rfl) (hplain : (backTo cpos (starEach es X.env)).any (·.1) = false := by rfl) :
    PE X (.Call (.Attribute o name apos) (e :: es) [] cpos) (tBMP r to t) := by
  refine ⟨fun pins s σ H Q I h => ?_⟩
  refine wpAny_Call_method_late hbase hfew hline rfl (thn (ho.run pins s σ H _ I h) fun v s1 ⟨x, H1, I1, r1, ty, q1⟩ => ?_)
  obtain ⟨p, ob, xs, rfl, hp, hd⟩ := ty
  have rk := r1
  cases r1
  have hok := I1.hok p _ hp
  obtain ⟨hg, _, _, _, ⟨o2, ho2, hc2, _⟩⟩ := hok
  have eo : o2 = ob := by rw [hg] at ho2; exact (Option.some.inj ho2).symm
  subst eo
  refine ⟨"tuple", id, PySem.F.plainAttrs_tuple, slot, hty, ⟨o2, ho2, hc2⟩, fun a e => by cases e; exact ⟨o2, ho2, hd⟩, ?_⟩
  have hA := ha.run cpos pins s1 σ H1 _ I1 q1
  rw [hs] at hA ⊢
  refine Calls.callWith_builtin (by show (false || (backTo cpos (starEach es X.env)).any (·.1)) = false; rw [hplain] <;> rfl) (Calls.evalArgs_plain ?_)
  exact thn hA fun us s2 ⟨vs, H2, I2, r2, q2⟩ => hm pins s2 σ H2 _ vs _ us Q I2 rk r2 q2
def gCntP (go ge : GE) : GE := fun Γ M => (go Γ M).bind fun x M1 => match x with
  | .ptu ds => (ge Γ M1).bind fun y M2 => opR (match intsD ds, y with
    | some is, .int k => some (D.int (is.count k : Nat))
    | _, _ => none) M2
  | _ => .bad
@[simp] theorem u_gCntP (go ge : GE) (Γ : Env) (M : List MO) : gCntP go ge Γ M = ((go Γ M).bind fun x M1 => match x with
  | .ptu ds => (ge Γ M1).bind fun y M2 => opR (match intsD ds, y with
    | some is, .int k => some (D.int (is.count k : Nat))
    | _, _ => none) M2
  | _ => .bad) := Eq.trans rfl rfl
theorem qe_countP {o e : Expr} {go ge : GE} {pos apos : Pos} (ho : QE X C W o go) (he : QE X C W e ge)
    (hbase : attributeBase o "count" X.env (eval o X.env) = eval o X.env := by rfl) (hs : starEach [e] X.env = (false, eval e X.env) :: starEach [] X.env := by rfl)
    (hfew : ((backTo pos (starEach [e] X.env)).all (fun x => !x.1) && (backToKw pos (keywordEach [] X.env)).all (fun x => x.1.isSome) && decide ([e].length + ([] : List Keyword).length + (if ([] : List Keyword).isEmpty then 0 else 1) < 30)) = true := by rfl)
    (hline : (apos.endLine == pos.line) = true := by rfl) : QE X C W (.Call (.Attribute o "count" apos) [e] [] pos) (gCntP go ge) := by
  obtain ⟨ta, pa, qa⟩ := ho
  obtain ⟨tb, pb, qb⟩ := he
  refine ⟨_, pe_bmP PySem.F.slot_tuple_count PySem.F.type_tuple_count mt_tcount pa (pa_cons pb pa_nil hs) hbase hfew hline hs rfl, fun σ H Z ι Γ M Q sl hr h => qa σ H Z ι Γ M _ sl hr (h.bind fun x M1 v H1 Z1 ι1 e1 hr1 r1 h1 => ?_)⟩
  cases x with
  | ptu ds =>
    cases r1 with
    | ptu s1 r1 =>
      obtain ⟨ob, hz, hd⟩ := s1
      refine ⟨⟨_, ob, _, rfl, hr1.sub _ _ hz, hd⟩, qb σ H1 Z1 ι1 Γ M1 _ (sl.ext e1) hr1 (h1.bind fun y M2 u H2 Z2 ι2 e2 hr2 r2 h2 => ?_)⟩
      obtain ⟨d, hd', h3⟩ := Post.of_opR (γ := D) (δ := V) h2
      cases e4 : intsD ds with
      | none => rw [e4] at hd'; cases hd'
      | some is =>
        rw [e4] at hd'
        have rz := r1.ext e2
        have ei := intsD_is rz e4
        cases r2 with
        | int k =>
          cases hd'
          exact ⟨_, is, k, rfl, rfl, .inl (.inr ⟨ob, by rw [← ei]; exact hr2.sub _ _ (e2.zz _ _ hz)⟩), h3 _ H2 Z2 ι2 .refl hr2 (.int _)⟩
        | _ => cases hd'
  | _ => exact h1.elim
/-! such a tuple as any tuple -/
def wkD : D → D
  | .ptu ds => .tup ds
  | d => d
@[simp] theorem wkD_p (ds : List D) : wkD (.ptu ds) = .tup ds := Eq.trans rfl rfl
@[simp] theorem wkD_t (ds : List D) : wkD (.tup ds) = .tup ds := Eq.trans rfl rfl
@[simp] theorem wkD_l (ds : List D) : wkD (.lst ds) = .lst ds := Eq.trans rfl rfl
@[simp] theorem wkD_r (k : Nat) : wkD (.ref k) = .ref k := Eq.trans rfl rfl
@[simp] theorem wkD_i (k : Int) : wkD (.int k) = .int k := Eq.trans rfl rfl
def gWk (ge : GE) : GE := fun Γ M => (ge Γ M).bind fun x M1 => .ok (wkD x) M1
@[simp] theorem u_gWk (ge : GE) (Γ : Env) (M : List MO) : gWk ge Γ M = (ge Γ M).bind fun x M1 => .ok (wkD x) M1 := Eq.trans rfl rfl
theorem wkD_rp {K : PySem.W.Frag} {Z : Hp} {ι : Nat → Addr} {n : Nat} {d : D} {v : V} (r : Rp K Z ι n d v) : Rp K Z ι n (wkD d) v := by
  cases r with
  | ptu s r => exact .tup s.sq r
  | _ => first | assumption | constructor <;> assumption
theorem qe_wk {e : Expr} {ge : GE} (he : QE X C W e ge) : QE X C W e (gWk ge) := by
  obtain ⟨te, pe, qe⟩ := he
  exact ⟨te, pe, fun σ H Z ι Γ M Q sl hr h => qe σ H Z ι Γ M Q sl hr (h.bind fun x M1 v H1 Z1 ι1 e1 hr1 r1 h1 => h1 v H1 Z1 ι1 .refl hr1 (wkD_rp r1))⟩
end
end Bk

set_option Elab.async false
set_option linter.all false
set_option maxRecDepth 100000
namespace My
open PySem PySem.Spec PyProof.Rows L2 Bk
noncomputable section
/-! ### the text -/
def topS (i : Nat) : Stmt := PySem.Challenge.pw_breakrows_k73_unlike_pieces.main.body.getD i (.Pass ⟨0, 0, 0, 0⟩)
abbrev s_is_integer : Stmt := topS 7
theorem sc_is_integer : FnScope ["value"] ["value"] (defScope s_is_integer) := ⟨rfl, rfl, rfl, by decide +kernel, rfl, by decide +kernel, by decide +kernel⟩
abbrev s_is_at_least : Stmt := topS 8
theorem sc_is_at_least : FnScope ["value", "low"] ["value", "low"] (defScope s_is_at_least) := ⟨rfl, rfl, rfl, by decide +kernel, rfl, by decide +kernel, by decide +kernel⟩
abbrev s_is_stock : Stmt := topS 12
theorem sc_is_stock : FnScope ["value"] ["value"] (defScope s_is_stock) := ⟨rfl, rfl, rfl, by decide +kernel, rfl, by decide +kernel, by decide +kernel⟩
abbrev s_require_stocks : Stmt := topS 13
theorem sc_require_stocks : FnScope ["stocks", "days", "index", "entry"] ["stocks", "days"] (defScope s_require_stocks) := ⟨rfl, rfl, rfl, by decide +kernel, rfl, by decide +kernel, by decide +kernel⟩
abbrev s_require_few : Stmt := topS 14
theorem sc_require_few : FnScope ["stocks", "days", "number", "repair"] ["stocks", "days"] (defScope s_require_few) := ⟨rfl, rfl, rfl, by decide +kernel, rfl, by decide +kernel, by decide +kernel⟩
abbrev s_arrangements : Stmt := topS 15
theorem sc_arrangements : FnScope ["numbers", "found", "sort", "number", "rest", "later"] ["numbers"] (defScope s_arrangements) := ⟨rfl, rfl, rfl, by decide +kernel, rfl, by decide +kernel, by decide +kernel⟩
abbrev s_Unlike_init : Stmt := inClass (topS 16) 0
theorem sc_Unlike_init : FnScope ["self", "stocks", "days"] ["self", "stocks", "days"] (defScope s_Unlike_init) := ⟨rfl, rfl, rfl, by decide +kernel, rfl, by decide +kernel, by decide +kernel⟩
abbrev s_Unlike_ready : Stmt := inClass (topS 16) 1
theorem sc_Unlike_ready : FnScope ["self", "state", "away", "sort", "back", "number", "repair"] ["self", "state"] (defScope s_Unlike_ready) := ⟨rfl, rfl, rfl, by decide +kernel, rfl, by decide +kernel, by decide +kernel⟩
abbrev s_Unlike_after : Stmt := inClass (topS 16) 2
theorem sc_Unlike_after : FnScope ["self", "state", "day", "broken", "found", "sort", "repair", "back"] ["self", "state", "day", "broken"] (defScope s_Unlike_after) := ⟨rfl, rfl, rfl, by decide +kernel, rfl, by decide +kernel, by decide +kernel⟩
abbrev s_Unlike_value : Stmt := inClass (topS 16) 3
theorem sc_Unlike_value : FnScope ["self", "state", "day", "order", "some", "broken", "later"] ["self", "state", "day", "order"] (defScope s_Unlike_value) := ⟨rfl, rfl, rfl, by decide +kernel, rfl, by decide +kernel, by decide +kernel⟩
abbrev s_Unlike_best : Stmt := inClass (topS 16) 4
theorem sc_Unlike_best : FnScope ["self", "state", "day", "orders", "values", "order"] ["self", "state", "day"] (defScope s_Unlike_best) := ⟨rfl, rfl, rfl, by decide +kernel, rfl, by decide +kernel, by decide +kernel⟩
abbrev s_Unlike_rows : Stmt := inClass (topS 16) 5
theorem sc_Unlike_rows : FnScope ["self", "past", "state", "day", "order", "found", "broken"] ["self", "past", "state"] (defScope s_Unlike_rows) := ⟨rfl, rfl, rfl, by decide +kernel, rfl, by decide +kernel, by decide +kernel⟩
abbrev s_unlike_levels : Stmt := topS 17
theorem sc_unlike_levels : FnScope ["stocks", "days"] ["stocks", "days"] (defScope s_unlike_levels) := ⟨rfl, rfl, rfl, by decide +kernel, rfl, by decide +kernel, by decide +kernel⟩
abbrev s_best_orders : Stmt := topS 18
theorem sc_best_orders : FnScope ["stocks", "days", "unlike", "most", "order"] ["stocks", "days"] (defScope s_best_orders) := ⟨rfl, rfl, rfl, by decide +kernel, rfl, by decide +kernel, by decide +kernel⟩
abbrev s_unlike_table : Stmt := topS 19
theorem sc_unlike_table : FnScope ["stocks", "days", "unlike"] ["stocks", "days"] (defScope s_unlike_table) := ⟨rfl, rfl, rfl, by decide +kernel, rfl, by decide +kernel, by decide +kernel⟩
abbrev s_law_mixed : Stmt := topS 21
theorem sc_law_mixed : FnScope ["_law_cell", "_law_k", "_law_figure"] ["_law_cell", "_law_k"] (defScope s_law_mixed) := ⟨rfl, rfl, rfl, by decide +kernel, rfl, by decide +kernel, by decide +kernel⟩
abbrev s_law_source : Stmt := topS 22
theorem sc_law_source : FnScope ["_law_cell"] ["_law_cell"] (defScope s_law_source) := ⟨rfl, rfl, rfl, by decide +kernel, rfl, by decide +kernel, by decide +kernel⟩
abbrev s_law_take : Stmt := topS 23
theorem sc_law_take : FnScope ["_law_source_here", "_law_many", "_law_found"] ["_law_source_here", "_law_many"] (defScope s_law_take) := ⟨rfl, rfl, rfl, by decide +kernel, rfl, by decide +kernel, by decide +kernel⟩
abbrev s_law_one : Stmt := topS 24
theorem sc_law_one : FnScope ["_law_source_here", "_law_some"] ["_law_source_here", "_law_some"] (defScope s_law_one) := ⟨rfl, rfl, rfl, by decide +kernel, rfl, by decide +kernel, by decide +kernel⟩
abbrev s_law_stocks : Stmt := topS 25
theorem sc_law_stocks : FnScope ["_law_source_here", "_law_sorts_most", "_law_pieces_most", "_law_found", "_law_free", "_law_sort_here", "_law_many"] ["_law_source_here", "_law_sorts_most", "_law_pieces_most"] (defScope s_law_stocks) := ⟨rfl, rfl, rfl, by decide +kernel, rfl, by decide +kernel, by decide +kernel⟩
abbrev s_law_usable : Stmt := topS 26
theorem sc_law_usable : FnScope ["_law_stock_used", "_law_broken_on", "_law_day", "_law_found", "_law_many", "_law_repair_days", "_law_some", "_law_gone", "_law_at"] ["_law_stock_used", "_law_broken_on", "_law_day"] (defScope s_law_usable) := ⟨rfl, rfl, rfl, by decide +kernel, rfl, by decide +kernel, by decide +kernel⟩
abbrev s_law_arranged : Stmt := topS 27
theorem sc_law_arranged : FnScope ["_law_numbers", "_law_found", "_law_sort_here", "_law_many", "_law_rest", "_law_later"] ["_law_numbers"] (defScope s_law_arranged) := ⟨rfl, rfl, rfl, by decide +kernel, rfl, by decide +kernel, by decide +kernel⟩
abbrev s_law_hit : Stmt := topS 28
theorem sc_law_hit : FnScope ["_law_broken_on", "_law_some", "_law_day", "_law_found", "_law_sort_here"] ["_law_broken_on", "_law_some", "_law_day"] (defScope s_law_hit) := ⟨rfl, rfl, rfl, by decide +kernel, rfl, by decide +kernel, by decide +kernel⟩
abbrev s_law_worth : Stmt := topS 29
theorem sc_law_worth : FnScope ["_law_stock_used", "_law_last", "_law_broken_on", "_law_day", "_law_order_used", "_law_known", "_law_total", "_law_many", "_law_later"] ["_law_stock_used", "_law_last", "_law_broken_on", "_law_day", "_law_order_used", "_law_known"] (defScope s_law_worth) := ⟨rfl, rfl, rfl, by decide +kernel, rfl, by decide +kernel, by decide +kernel⟩
abbrev s_law_most : Stmt := topS 30
theorem sc_law_most : FnScope ["_law_stock_used", "_law_last", "_law_broken_on", "_law_day", "_law_known", "_law_some", "_law_amounts", "_law_one_here"] ["_law_stock_used", "_law_last", "_law_broken_on", "_law_day", "_law_known"] (defScope s_law_most) := ⟨rfl, rfl, rfl, by decide +kernel, rfl, by decide +kernel, by decide +kernel⟩
abbrev s_law_followed : Stmt := topS 31
theorem sc_law_followed : FnScope ["_law_stock_used", "_law_last", "_law_past_used", "_law_broken_on", "_law_rows_used", "_law_day", "_law_places", "_law_order_used", "_law_sort_here", "_law_many", "_law_total", "_law_later", "_law_some", "_law_at", "_law_row"] ["_law_stock_used", "_law_last", "_law_past_used", "_law_broken_on", "_law_rows_used"] (defScope s_law_followed) := ⟨rfl, rfl, rfl, by decide +kernel, rfl, by decide +kernel, by decide +kernel⟩
abbrev s_law_is_row : Stmt := topS 32
theorem sc_law_is_row : FnScope ["_law_stock_used", "_law_last", "_law_row", "_law_plain", "_law_one_here"] ["_law_stock_used", "_law_last", "_law_row"] (defScope s_law_is_row) := ⟨rfl, rfl, rfl, by decide +kernel, rfl, by decide +kernel, by decide +kernel⟩
abbrev s_law_table_due : Stmt := topS 33
theorem sc_law_table_due : FnScope ["_law_stock_used", "_law_last", "_law_claim", "_law_rows_used", "_law_index", "_law_row", "_law_told", "_law_one_here"] ["_law_stock_used", "_law_last", "_law_claim", "_law_rows_used"] (defScope s_law_table_due) := ⟨rfl, rfl, rfl, by decide +kernel, rfl, by decide +kernel, by decide +kernel⟩
abbrev s_law_right : Stmt := topS 34
theorem sc_law_right : FnScope ["_law_stock_used", "_law_last", "_law_known", "_law_nothing", "_law_due", "_law_orders_due", "_law_turn", "_law_some", "_law_found", "_law_number_told", "_law_rows_told", "_law_before", "_law_one_here"] ["_law_stock_used", "_law_last"] (defScope s_law_right) := ⟨rfl, rfl, rfl, by decide +kernel, rfl, by decide +kernel, by decide +kernel⟩
abbrev s_law : Stmt := topS 35
theorem sc_law : FnScope ["_law_script", "_law_cell", "_law_source_here"] ["_law_script"] (defScope s_law) := ⟨rfl, rfl, rfl, by decide +kernel, rfl, by decide +kernel, by decide +kernel⟩
abbrev s_InvalidStocks_init : Stmt := inClass (topS 4) 0
theorem sc_InvalidStocks_init : FnScope ["self", "index"] ["self", "index"] (defScope s_InvalidStocks_init) := ⟨rfl, rfl, rfl, by decide +kernel, rfl, by decide +kernel, by decide +kernel⟩
abbrev s_InvalidNumber_init : Stmt := inClass (topS 3) 0
theorem sc_InvalidNumber_init : FnScope ["self", "name"] ["self", "name"] (defScope s_InvalidNumber_init) := ⟨rfl, rfl, rfl, by decide +kernel, rfl, by decide +kernel, by decide +kernel⟩
abbrev s_TooLarge_init : Stmt := inClass (topS 5) 0
theorem sc_TooLarge_init : FnScope ["self", "limit"] ["self", "limit"] (defScope s_TooLarge_init) := ⟨rfl, rfl, rfl, by decide +kernel, rfl, by decide +kernel, by decide +kernel⟩
@[simp] theorem sne_after_best : ((("after" : Str) == "best") = false) := by decide +kernel
@[simp] theorem snp_after_best : ((("after" : Str) = "best") = False) := eq_false (by decide +kernel)
@[simp] theorem sne_after_days : ((("after" : Str) == "days") = false) := by decide +kernel
@[simp] theorem snp_after_days : ((("after" : Str) = "days") = False) := eq_false (by decide +kernel)
@[simp] theorem sne_after_known : ((("after" : Str) == "known") = false) := by decide +kernel
@[simp] theorem snp_after_known : ((("after" : Str) = "known") = False) := eq_false (by decide +kernel)
@[simp] theorem sne_after_ready : ((("after" : Str) == "ready") = false) := by decide +kernel
@[simp] theorem snp_after_ready : ((("after" : Str) = "ready") = False) := eq_false (by decide +kernel)
@[simp] theorem sne_after_rows : ((("after" : Str) == "rows") = false) := by decide +kernel
@[simp] theorem snp_after_rows : ((("after" : Str) = "rows") = False) := eq_false (by decide +kernel)
@[simp] theorem sne_after_stocks : ((("after" : Str) == "stocks") = false) := by decide +kernel
@[simp] theorem snp_after_stocks : ((("after" : Str) = "stocks") = False) := eq_false (by decide +kernel)
@[simp] theorem sne_after_value : ((("after" : Str) == "value") = false) := by decide +kernel
@[simp] theorem snp_after_value : ((("after" : Str) = "value") = False) := eq_false (by decide +kernel)
@[simp] theorem sne_best_after : ((("best" : Str) == "after") = false) := by decide +kernel
@[simp] theorem snp_best_after : ((("best" : Str) = "after") = False) := eq_false (by decide +kernel)
@[simp] theorem sne_best_days : ((("best" : Str) == "days") = false) := by decide +kernel
@[simp] theorem snp_best_days : ((("best" : Str) = "days") = False) := eq_false (by decide +kernel)
@[simp] theorem sne_best_known : ((("best" : Str) == "known") = false) := by decide +kernel
@[simp] theorem snp_best_known : ((("best" : Str) = "known") = False) := eq_false (by decide +kernel)
@[simp] theorem sne_best_ready : ((("best" : Str) == "ready") = false) := by decide +kernel
@[simp] theorem snp_best_ready : ((("best" : Str) = "ready") = False) := eq_false (by decide +kernel)
@[simp] theorem sne_best_rows : ((("best" : Str) == "rows") = false) := by decide +kernel
@[simp] theorem snp_best_rows : ((("best" : Str) = "rows") = False) := eq_false (by decide +kernel)
@[simp] theorem sne_best_stocks : ((("best" : Str) == "stocks") = false) := by decide +kernel
@[simp] theorem snp_best_stocks : ((("best" : Str) = "stocks") = False) := eq_false (by decide +kernel)
@[simp] theorem sne_best_value : ((("best" : Str) == "value") = false) := by decide +kernel
@[simp] theorem snp_best_value : ((("best" : Str) = "value") = False) := eq_false (by decide +kernel)
@[simp] theorem sne_days_after : ((("days" : Str) == "after") = false) := by decide +kernel
@[simp] theorem snp_days_after : ((("days" : Str) = "after") = False) := eq_false (by decide +kernel)
@[simp] theorem sne_days_best : ((("days" : Str) == "best") = false) := by decide +kernel
@[simp] theorem snp_days_best : ((("days" : Str) = "best") = False) := eq_false (by decide +kernel)
@[simp] theorem sne_days_known : ((("days" : Str) == "known") = false) := by decide +kernel
@[simp] theorem snp_days_known : ((("days" : Str) = "known") = False) := eq_false (by decide +kernel)
@[simp] theorem sne_days_ready : ((("days" : Str) == "ready") = false) := by decide +kernel
@[simp] theorem snp_days_ready : ((("days" : Str) = "ready") = False) := eq_false (by decide +kernel)
@[simp] theorem sne_days_rows : ((("days" : Str) == "rows") = false) := by decide +kernel
@[simp] theorem snp_days_rows : ((("days" : Str) = "rows") = False) := eq_false (by decide +kernel)
@[simp] theorem sne_days_stocks : ((("days" : Str) == "stocks") = false) := by decide +kernel
@[simp] theorem snp_days_stocks : ((("days" : Str) = "stocks") = False) := eq_false (by decide +kernel)
@[simp] theorem sne_days_value : ((("days" : Str) == "value") = false) := by decide +kernel
@[simp] theorem snp_days_value : ((("days" : Str) = "value") = False) := eq_false (by decide +kernel)
@[simp] theorem sne_known_after : ((("known" : Str) == "after") = false) := by decide +kernel
@[simp] theorem snp_known_after : ((("known" : Str) = "after") = False) := eq_false (by decide +kernel)
@[simp] theorem sne_known_best : ((("known" : Str) == "best") = false) := by decide +kernel
@[simp] theorem snp_known_best : ((("known" : Str) = "best") = False) := eq_false (by decide +kernel)
@[simp] theorem sne_known_days : ((("known" : Str) == "days") = false) := by decide +kernel
@[simp] theorem snp_known_days : ((("known" : Str) = "days") = False) := eq_false (by decide +kernel)
@[simp] theorem sne_known_ready : ((("known" : Str) == "ready") = false) := by decide +kernel
@[simp] theorem snp_known_ready : ((("known" : Str) = "ready") = False) := eq_false (by decide +kernel)
@[simp] theorem sne_known_rows : ((("known" : Str) == "rows") = false) := by decide +kernel
@[simp] theorem snp_known_rows : ((("known" : Str) = "rows") = False) := eq_false (by decide +kernel)
@[simp] theorem sne_known_stocks : ((("known" : Str) == "stocks") = false) := by decide +kernel
@[simp] theorem snp_known_stocks : ((("known" : Str) = "stocks") = False) := eq_false (by decide +kernel)
@[simp] theorem sne_known_value : ((("known" : Str) == "value") = false) := by decide +kernel
@[simp] theorem snp_known_value : ((("known" : Str) = "value") = False) := eq_false (by decide +kernel)
@[simp] theorem sne_ready_after : ((("ready" : Str) == "after") = false) := by decide +kernel
@[simp] theorem snp_ready_after : ((("ready" : Str) = "after") = False) := eq_false (by decide +kernel)
@[simp] theorem sne_ready_best : ((("ready" : Str) == "best") = false) := by decide +kernel
@[simp] theorem snp_ready_best : ((("ready" : Str) = "best") = False) := eq_false (by decide +kernel)
@[simp] theorem sne_ready_days : ((("ready" : Str) == "days") = false) := by decide +kernel
@[simp] theorem snp_ready_days : ((("ready" : Str) = "days") = False) := eq_false (by decide +kernel)
@[simp] theorem sne_ready_known : ((("ready" : Str) == "known") = false) := by decide +kernel
@[simp] theorem snp_ready_known : ((("ready" : Str) = "known") = False) := eq_false (by decide +kernel)
@[simp] theorem sne_ready_rows : ((("ready" : Str) == "rows") = false) := by decide +kernel
@[simp] theorem snp_ready_rows : ((("ready" : Str) = "rows") = False) := eq_false (by decide +kernel)
@[simp] theorem sne_ready_stocks : ((("ready" : Str) == "stocks") = false) := by decide +kernel
@[simp] theorem snp_ready_stocks : ((("ready" : Str) = "stocks") = False) := eq_false (by decide +kernel)
@[simp] theorem sne_ready_value : ((("ready" : Str) == "value") = false) := by decide +kernel
@[simp] theorem snp_ready_value : ((("ready" : Str) = "value") = False) := eq_false (by decide +kernel)
@[simp] theorem sne_rows_after : ((("rows" : Str) == "after") = false) := by decide +kernel
@[simp] theorem snp_rows_after : ((("rows" : Str) = "after") = False) := eq_false (by decide +kernel)
@[simp] theorem sne_rows_best : ((("rows" : Str) == "best") = false) := by decide +kernel
@[simp] theorem snp_rows_best : ((("rows" : Str) = "best") = False) := eq_false (by decide +kernel)
@[simp] theorem sne_rows_days : ((("rows" : Str) == "days") = false) := by decide +kernel
@[simp] theorem snp_rows_days : ((("rows" : Str) = "days") = False) := eq_false (by decide +kernel)
@[simp] theorem sne_rows_known : ((("rows" : Str) == "known") = false) := by decide +kernel
@[simp] theorem snp_rows_known : ((("rows" : Str) = "known") = False) := eq_false (by decide +kernel)
@[simp] theorem sne_rows_ready : ((("rows" : Str) == "ready") = false) := by decide +kernel
@[simp] theorem snp_rows_ready : ((("rows" : Str) = "ready") = False) := eq_false (by decide +kernel)
@[simp] theorem sne_rows_stocks : ((("rows" : Str) == "stocks") = false) := by decide +kernel
@[simp] theorem snp_rows_stocks : ((("rows" : Str) = "stocks") = False) := eq_false (by decide +kernel)
@[simp] theorem sne_rows_value : ((("rows" : Str) == "value") = false) := by decide +kernel
@[simp] theorem snp_rows_value : ((("rows" : Str) = "value") = False) := eq_false (by decide +kernel)
@[simp] theorem sne_stocks_after : ((("stocks" : Str) == "after") = false) := by decide +kernel
@[simp] theorem snp_stocks_after : ((("stocks" : Str) = "after") = False) := eq_false (by decide +kernel)
@[simp] theorem sne_stocks_best : ((("stocks" : Str) == "best") = false) := by decide +kernel
@[simp] theorem snp_stocks_best : ((("stocks" : Str) = "best") = False) := eq_false (by decide +kernel)
@[simp] theorem sne_stocks_days : ((("stocks" : Str) == "days") = false) := by decide +kernel
@[simp] theorem snp_stocks_days : ((("stocks" : Str) = "days") = False) := eq_false (by decide +kernel)
@[simp] theorem sne_stocks_known : ((("stocks" : Str) == "known") = false) := by decide +kernel
@[simp] theorem snp_stocks_known : ((("stocks" : Str) = "known") = False) := eq_false (by decide +kernel)
@[simp] theorem sne_stocks_ready : ((("stocks" : Str) == "ready") = false) := by decide +kernel
@[simp] theorem snp_stocks_ready : ((("stocks" : Str) = "ready") = False) := eq_false (by decide +kernel)
@[simp] theorem sne_stocks_rows : ((("stocks" : Str) == "rows") = false) := by decide +kernel
@[simp] theorem snp_stocks_rows : ((("stocks" : Str) = "rows") = False) := eq_false (by decide +kernel)
@[simp] theorem sne_stocks_value : ((("stocks" : Str) == "value") = false) := by decide +kernel
@[simp] theorem snp_stocks_value : ((("stocks" : Str) = "value") = False) := eq_false (by decide +kernel)
@[simp] theorem sne_value_after : ((("value" : Str) == "after") = false) := by decide +kernel
@[simp] theorem snp_value_after : ((("value" : Str) = "after") = False) := eq_false (by decide +kernel)
@[simp] theorem sne_value_best : ((("value" : Str) == "best") = false) := by decide +kernel
@[simp] theorem snp_value_best : ((("value" : Str) = "best") = False) := eq_false (by decide +kernel)
@[simp] theorem sne_value_days : ((("value" : Str) == "days") = false) := by decide +kernel
@[simp] theorem snp_value_days : ((("value" : Str) = "days") = False) := eq_false (by decide +kernel)
@[simp] theorem sne_value_known : ((("value" : Str) == "known") = false) := by decide +kernel
@[simp] theorem snp_value_known : ((("value" : Str) = "known") = False) := eq_false (by decide +kernel)
@[simp] theorem sne_value_ready : ((("value" : Str) == "ready") = false) := by decide +kernel
@[simp] theorem snp_value_ready : ((("value" : Str) = "ready") = False) := eq_false (by decide +kernel)
@[simp] theorem sne_value_rows : ((("value" : Str) == "rows") = false) := by decide +kernel
@[simp] theorem snp_value_rows : ((("value" : Str) = "rows") = False) := eq_false (by decide +kernel)
@[simp] theorem sne_value_stocks : ((("value" : Str) == "stocks") = false) := by decide +kernel
@[simp] theorem snp_value_stocks : ((("value" : Str) = "stocks") = False) := eq_false (by decide +kernel)
/-! ### what the bodies compute -/
def b_is_integer : GS := gRet (gAndV (gOp1 (dIsi "int") (gV 0)) (gOp1 dNot (gOp1 (dIsi "bool") (gV 0))))
def F_is_integer : List D → List MO → R D := runF 1 b_is_integer
def b_is_at_least : GS := gRet (gAndV (gCallF 1 F_is_integer (gCons (gV 0) (gNil))) (gOp2 dGe (gV 0) (gV 1)))
def F_is_at_least : List D → List MO → R D := runF 2 b_is_at_least
def b_is_stock : GS := gSeq (gIf (gOrT (gNotT (gVal (gOp1 (dIsi "tuple") (gV 0)))) (gOrT (gVal (gOp2 dNeA (gCall (fn1 dLen) (gCons (gV 0) (gNil))) (gC (.int 2)))) (gNotT (gVal (gCallF 2 F_is_at_least (gCons (gOp2 dIx (gV 0) (gC (.int 0))) (gCons (gC (.int 0)) (gNil)))))))) (gRet (gC (.bl false))) (gPass)) (gRet (gOrV (gOp2 dIsN (gOp2 dIx (gV 0) (gC (.int 1))) (gC .non)) (gCallF 2 F_is_at_least (gCons (gOp2 dIx (gV 0) (gC (.int 1))) (gCons (gC (.int 0)) (gNil))))))
def F_is_stock : List D → List MO → R D := runF 1 b_is_stock
def lb_require_stocks_1 : GS := gSeq (gIf (gNotT (gVal (gCallF 1 F_is_stock (gCons (gV 3) (gNil))))) (gRaise 0 (gV 2)) (gPass)) (gForget [2, 3])
def b_require_stocks : GS := gSeq (gIf (gOrT (gNotT (gVal (gOp1 (dIsiT ["list", "tuple"]) (gV 0)))) (gNotT (gVal (gChain dLe dLe (gC (.int 1)) (gCall (fn1 dLen) (gCons (gV 0) (gNil))) (gC (.int 3)))))) (gRaise 0 (gOp1 dNeg (gC (.int 1)))) (gPass)) (gSeq (gSeq (gSeq (gForget [2, 3]) (gFor (gEnum (gV 0)) (gToT (gToCons (gTo 2) (gToCons (gTo 3) (gToNil)))) (lb_require_stocks_1))) (gForget [2, 3])) (gIf (gNotT (gVal (gCallF 2 F_is_at_least (gCons (gV 1) (gCons (gC (.int 0)) (gNil)))))) (gRaise 1 (gC (.str (Str.ofString "days")))) (gPass)))
def F_require_stocks : List D → List MO → R D := runF 4 b_require_stocks
def b_require_few : GS := gIf (gOrT (gVal (gOp2 dGt (gCall (fn1 dSum) (gCons (gLc (gSeqI (gV 0)) (gToT (gToCons (gTo 2) (gToCons (gTo 3) (gToNil)))) (gYes) (gV 2) [2, 3]) (gNil))) (gC (.int 4)))) (gVal (gOp2 dGt (gV 1) (gC (.int 4))))) (gRaise 2 (gC (.int 4))) (gPass)
def F_require_few : List D → List MO → R D := runF 4 b_require_few
def le_arrangements_1 (F_arrangements : List D → List MO → R D) : GE := gOp2 dAddP (gTupP (gCons (gV 2) (gNil))) (gV 5)
def lb_arrangements_1 (F_arrangements : List D → List MO → R D) : GS := gSeq (gIf (gVal (gOp2 dGt (gV 3) (gC (.int 0)))) (gSeq (gAsg (gOp2 dAdd (gOp2 dAdd (gSl (gV 0) (gNoO) (gO (gV 2))) (gLst (gCons (gOp2 dSub (gV 3) (gC (.int 1))) (gNil)))) (gSl (gV 0) (gO (gOp2 dAdd (gV 2) (gC (.int 1)))) (gNoO))) (gTo 4)) (gExpr (gMeth1 mExtend (gV 1) (gLc (gSeqI (gCallF 1 F_arrangements (gCons (gV 4) (gNil)))) (gTo 5) (gYes) (le_arrangements_1 F_arrangements) [5])))) (gPass)) (gForget [2, 3, 4])
def b_arrangements (F_arrangements : List D → List MO → R D) : GS := gSeq (gIf (gVal (gOp2 dEqA (gCall (fn1 dSum) (gCons (gV 0) (gNil))) (gC (.int 0)))) (gRet (gLst (gCons (gTupP (gNil)) (gNil)))) (gPass)) (gSeq (gAsg (gLstO (gNil)) (gTo 1)) (gSeq (gSeq (gSeq (gSeq (gForget [2, 3, 4]) (gFor (gEnum (gV 0)) (gToT (gToCons (gTo 2) (gToCons (gTo 3) (gToNil)))) (lb_arrangements_1 F_arrangements))) (gForget [2, 3, 4])) (gFz 1)) (gRet (gV 1))))
def FR_arrangements : Nat → Nat → List D → List MO → R D
  | 0, _ => fun _ _ => .bad
  | n + 1, _ => runF 6 (b_arrangements (FR_arrangements n 0))
def F_arrangements : List D → List MO → R D := FR_arrangements 6 0
def b_Unlike_init : GS := gSeq (gSetFs (gTup (gCons (gCall (fn1 dList) (gCons (gV 1) (gNil))) (gCons (gV 2) (gNil)))) (gHCons (gAttr "Unlike" "stocks" 0) (gHCons (gAttr "Unlike" "days" 0) (gHNil)))) (gSetF "Unlike" "known" (gDct0O) (gV 0))
def F_Unlike_init : List D → List MO → R D := runW 3 b_Unlike_init
def le_Unlike_ready_2 : GE := gOp2 dSub (gV 5) (gRd1 dCnt (gV 2) (gV 3))
def b_Unlike_ready : GS := gSeq (gAsg (gLc (gSeqI (gV 1)) (gToT (gToCons (gTo 3) (gToCons (gTo 4) (gToNil)))) (gYes) (gV 3) [3, 4]) (gTo 2)) (gRet (gLc (gEnum (gFld "Unlike" "stocks" (gV 0))) (gToT (gToCons (gTo 3) (gToCons (gToT (gToCons (gTo 5) (gToCons (gTo 6) (gToNil)))) (gToNil)))) (gYes) (le_Unlike_ready_2) [3, 5, 6]))
def F_Unlike_ready : List D → List MO → R D := runF 7 b_Unlike_ready
def lb_Unlike_after_1 : GS := gSeq (gAsg (gOp2 dIx (gOp2 dIx (gFld "Unlike" "stocks" (gV 0)) (gV 5)) (gC (.int 1))) (gTo 6)) (gSeq (gExpr (gMeth1 mAppend (gV 4) (gTup (gCons (gV 5) (gCons (gIfE (gVal (gOp2 dIsN (gV 6) (gC .non))) (gOp2 dAdd (gFld "Unlike" "days" (gV 0)) (gC (.int 1))) (gCall (fn2 dMin2) (gCons (gOp2 dAdd (gOp2 dAdd (gV 2) (gC (.int 1))) (gV 6)) (gCons (gOp2 dAdd (gFld "Unlike" "days" (gV 0)) (gC (.int 1))) (gNil))))) (gNil)))))) (gForget [5, 6]))
def le_Unlike_after_1 : GE := gTup (gCons (gV 5) (gCons (gV 7) (gNil)))
def b_Unlike_after : GS := gSeq (gAsg (gListO (gCons (gV 1) (gNil))) (gTo 4)) (gSeq (gSeq (gSeq (gSeq (gForget [5, 6]) (gFor (gSeqI (gV 3)) (gTo 5) (lb_Unlike_after_1))) (gForget [5, 6])) (gFz 4)) (gRet (gCall (fn1 dTuple) (gCons (gCall (fn1 dSortB) (gCons (gLc (gSeqI (gV 4)) (gToT (gToCons (gTo 5) (gToCons (gTo 7) (gToNil)))) (gVal (gOp2 dGtA (gV 7) (gOp2 dAdd (gV 2) (gC (.int 1))))) (le_Unlike_after_1) [5, 7]) (gNil))) (gNil)))))
def F_Unlike_after : List D → List MO → R D := runF 8 b_Unlike_after
def le_Unlike_best_1 (F_Unlike_best F_Unlike_value : List D → List MO → R D) : GE := gMethW "Unlike" "value" 4 F_Unlike_value (gV 0) (gCons (gV 1) (gCons (gV 2) (gCons (gV 5) (gNil))))
def b_Unlike_best (F_Unlike_best F_Unlike_value : List D → List MO → R D) : GS := gSeq (gIf (gVal (gOp2 dGt (gV 2) (gFld "Unlike" "days" (gV 0)))) (gRet (gTup (gCons (gC (.int 1)) (gCons (gC .non) (gNil))))) (gPass)) (gSeq (gIf (gVal (gOp2 dNotInN (gTup (gCons (gV 1) (gCons (gV 2) (gNil)))) (gFld "Unlike" "known" (gV 0)))) (gSeq (gAsg (gCallF 1 F_arrangements (gCons (gMethW "Unlike" "ready" 2 F_Unlike_ready (gV 0) (gCons (gV 1) (gNil))) (gNil))) (gTo 3)) (gSeq (gAsg (gLc (gSeqI (gV 3)) (gTo 5) (gYes) (le_Unlike_best_1 F_Unlike_best F_Unlike_value) [5]) (gTo 4)) (gSetX (gTup (gCons (gCall (fn1 dMax) (gCons (gV 4) (gNil))) (gCons (gOp2 dIx (gV 3) (gIndex (gV 4) (gCall (fn1 dMax) (gCons (gV 4) (gNil))))) (gNil)))) (gFld "Unlike" "known" (gV 0)) (gTup (gCons (gV 1) (gCons (gV 2) (gNil))))))) (gPass)) (gRet (gOp2 dIxN (gFld "Unlike" "known" (gV 0)) (gTup (gCons (gV 1) (gCons (gV 2) (gNil)))))))
def le_Unlike_value_1 (F_Unlike_best F_Unlike_value : List D → List MO → R D) : GE := gMethW "Unlike" "after" 4 F_Unlike_after (gV 0) (gCons (gV 1) (gCons (gV 2) (gCons (gSl (gWk (gV 3)) (gNoO) (gO (gV 5))) (gNil))))
def le_Unlike_value_2 (F_Unlike_best F_Unlike_value : List D → List MO → R D) : GE := gOp2 dIx (gMethW "Unlike" "best" 3 F_Unlike_best (gV 0) (gCons (gV 6) (gCons (gOp2 dAdd (gV 2) (gC (.int 1))) (gNil)))) (gC (.int 0))
def b_Unlike_value (F_Unlike_best F_Unlike_value : List D → List MO → R D) : GS := gSeq (gAsg (gLc (gRng1 (gCons (gOp2 dAdd (gCall (fn1 dLen) (gCons (gWk (gV 3)) (gNil))) (gC (.int 1))) (gNil))) (gTo 5) (gYes) (le_Unlike_value_1 F_Unlike_best F_Unlike_value) [5]) (gTo 4)) (gRet (gCall (fn1 dSum) (gCons (gLc (gSeqI (gV 4)) (gTo 6) (gYes) (le_Unlike_value_2 F_Unlike_best F_Unlike_value) [6]) (gNil))))
def FR_Unlike_best : Nat → Nat → List D → List MO → R D
  | 0, _ => fun _ _ => .bad
  | n + 1, 0 => runF 6 (b_Unlike_best (FR_Unlike_best n 0) (FR_Unlike_best n 1))
  | n + 1, _ => runF 7 (b_Unlike_value (FR_Unlike_best n 0) (FR_Unlike_best n 1))
def F_Unlike_best : List D → List MO → R D := FR_Unlike_best 20 0
def F_Unlike_value : List D → List MO → R D := FR_Unlike_best 20 1
def lb_Unlike_rows_1 (F_Unlike_rows : List D → List MO → R D) : GS := gSeq (gExpr (gMeth1 mExtend (gV 5) (gMethW "Unlike" "rows" 3 F_Unlike_rows (gV 0) (gCons (gOp2 dAdd (gV 1) (gTup (gCons (gV 6) (gNil)))) (gCons (gMethW "Unlike" "after" 4 F_Unlike_after (gV 0) (gCons (gV 2) (gCons (gV 3) (gCons (gSl (gWk (gV 4)) (gNoO) (gO (gV 6))) (gNil))))) (gNil)))))) (gForget [6])
def b_Unlike_rows (F_Unlike_rows : List D → List MO → R D) : GS := gSeq (gAsg (gOp2 dAdd (gCall (fn1 dLen) (gCons (gV 1) (gNil))) (gC (.int 1))) (gTo 3)) (gSeq (gIf (gVal (gOp2 dGt (gV 3) (gFld "Unlike" "days" (gV 0)))) (gRet (gLstO (gNil))) (gPass)) (gSeq (gAsg (gOp2 dIx (gMethW "Unlike" "best" 3 F_Unlike_best (gV 0) (gCons (gV 2) (gCons (gV 3) (gNil)))) (gC (.int 1))) (gTo 4)) (gSeq (gAsg (gLstO (gCons (gTup (gCons (gV 1) (gCons (gV 4) (gNil)))) (gNil))) (gTo 5)) (gSeq (gSeq (gSeq (gForget [6]) (gFor (gRng1 (gCons (gOp2 dAdd (gCall (fn1 dLen) (gCons (gWk (gV 4)) (gNil))) (gC (.int 1))) (gNil))) (gTo 6) (lb_Unlike_rows_1 F_Unlike_rows))) (gForget [6])) (gRet (gV 5))))))
def FR_Unlike_rows : Nat → Nat → List D → List MO → R D
  | 0, _ => fun _ _ => .bad
  | n + 1, _ => runF 7 (b_Unlike_rows (FR_Unlike_rows n 0))
def F_Unlike_rows : List D → List MO → R D := FR_Unlike_rows 6 0
def b_unlike_levels : GS := gSeq (gExpr (gCallF 2 F_require_stocks (gCons (gV 0) (gCons (gV 1) (gNil))))) (gSeq (gExpr (gCallF 2 F_require_few (gCons (gV 0) (gCons (gV 1) (gNil))))) (gRet (gOp2 dIx (gMethW "Unlike" "best" 3 F_Unlike_best (gNewW "Unlike" 3 F_Unlike_init (gCons (gV 0) (gCons (gV 1) (gNil)))) (gCons (gTup (gNil)) (gCons (gC (.int 1)) (gNil)))) (gC (.int 0)))))
def F_unlike_levels : List D → List MO → R D := runF 2 b_unlike_levels
def b_best_orders : GS := gSeq (gExpr (gCallF 2 F_require_stocks (gCons (gV 0) (gCons (gV 1) (gNil))))) (gSeq (gExpr (gCallF 2 F_require_few (gCons (gV 0) (gCons (gV 1) (gNil))))) (gSeq (gIf (gVal (gOp2 dEqA (gV 1) (gC (.int 0)))) (gRet (gLstO (gCons (gTup (gNil)) (gNil)))) (gPass)) (gSeq (gAsg (gNewW "Unlike" 3 F_Unlike_init (gCons (gV 0) (gCons (gV 1) (gNil)))) (gTo 2)) (gSeq (gAsg (gOp2 dIx (gMethW "Unlike" "best" 3 F_Unlike_best (gV 2) (gCons (gTup (gNil)) (gCons (gC (.int 1)) (gNil)))) (gC (.int 0))) (gTo 3)) (gRet (gLcO (gSeqI (gCallF 1 F_arrangements (gCons (gMethW "Unlike" "ready" 2 F_Unlike_ready (gV 2) (gCons (gTup (gNil)) (gNil))) (gNil)))) (gTo 4) (gVal (gOp2 dEqA (gMethW "Unlike" "value" 4 F_Unlike_value (gV 2) (gCons (gTup (gNil)) (gCons (gC (.int 1)) (gCons (gV 4) (gNil))))) (gV 3))) (gV 4) [4]))))))
def F_best_orders : List D → List MO → R D := runF 5 b_best_orders
def b_unlike_table : GS := gSeq (gExpr (gCallF 2 F_require_stocks (gCons (gV 0) (gCons (gV 1) (gNil))))) (gSeq (gExpr (gCallF 2 F_require_few (gCons (gV 0) (gCons (gV 1) (gNil))))) (gSeq (gAsg (gNewW "Unlike" 3 F_Unlike_init (gCons (gV 0) (gCons (gV 1) (gNil)))) (gTo 2)) (gRet (gTup (gCons (gOp2 dIx (gMethW "Unlike" "best" 3 F_Unlike_best (gV 2) (gCons (gTup (gNil)) (gCons (gC (.int 1)) (gNil)))) (gC (.int 0))) (gCons (gMethW "Unlike" "rows" 3 F_Unlike_rows (gV 2) (gCons (gTup (gNil)) (gCons (gTup (gNil)) (gNil)))) (gNil)))))))
def F_unlike_table : List D → List MO → R D := runW 3 b_unlike_table
def b_law_mixed : GS := gSeq (gAsg (gOp2 dMod (gOp2 dMulT (gOp2 dAdd (gOp2 dMod (gV 0) (gC (.int 2147483646))) (gC (.int 1))) (gOp2 dAdd (gOp2 dMulT (gV 1) (gC (.int 7919))) (gC (.int 104729)))) (gC (.int 2147483647))) (gTo 2)) (gSeq (gAsg (gOp2 dMod (gOp2 dMulT (gOp2 dAdd (gV 2) (gOp2 dMulT (gOp2 dMod (gOp2 dFdiv (gV 0) (gC (.int 2147483646))) (gC (.int 1000003))) (gOp2 dAdd (gV 1) (gC (.int 31))))) (gC (.int 48271))) (gC (.int 2147483629))) (gTo 2)) (gSeq (gAsg (gOp2 dMod (gOp2 dMulT (gV 2) (gOp2 dAdd (gOp2 dAdd (gOp2 dFdiv (gV 2) (gC (.int 1013))) (gC (.int 69621))) (gV 1))) (gC (.int 2147483587))) (gTo 2)) (gRet (gOp2 dMod (gOp2 dMulT (gV 2) (gOp2 dAdd (gOp2 dFdiv (gV 2) (gC (.int 2003))) (gC (.int 40692)))) (gC (.int 2147483563))))))
def F_law_mixed : List D → List MO → R D := runF 3 b_law_mixed
def b_law_source : GS := gRet (gLstO (gCons (gV 0) (gCons (gV 0) (gCons (gC (.int 0)) (gNil)))))
def F_law_source : List D → List MO → R D := runF 1 b_law_source
def b_law_take : GS := gSeq (gIf (gVal (gOp2 dGe (gOp2 dIx (gV 0) (gC (.int 0))) (gOp2 dPow (gC (.int 10)) (gC (.int 18))))) (gSeq (gAsg (gOp2 dMod (gOp2 dIx (gV 0) (gC (.int 0))) (gV 1)) (gTo 2)) (gSeq (gSetI (gOp2 dFdiv (gOp2 dIx (gV 0) (gC (.int 0))) (gV 1)) (gV 0) (gC (.int 0))) (gRet (gV 2)))) (gPass)) (gSeq (gSetI (gOp2 dAdd (gOp2 dIx (gV 0) (gC (.int 2))) (gC (.int 1))) (gV 0) (gC (.int 2))) (gRet (gOp2 dMod (gCallF 2 F_law_mixed (gCons (gOp2 dIx (gV 0) (gC (.int 1))) (gCons (gOp2 dIx (gV 0) (gC (.int 2))) (gNil)))) (gV 1))))
def F_law_take : List D → List MO → R D := runF 3 b_law_take
def b_law_one : GS := gRet (gOp2 dIx (gV 1) (gCallF 2 F_law_take (gCons (gV 0) (gCons (gCall (fn1 dLen) (gCons (gV 1) (gNil))) (gNil)))))
def F_law_one : List D → List MO → R D := runF 2 b_law_one
def lb_law_stocks_1 : GS := gSeq (gAsg (gCallF 2 F_law_take (gCons (gV 0) (gCons (gOp2 dAdd (gV 4) (gC (.int 1))) (gNil)))) (gTo 6)) (gSeq (gExpr (gMeth1 mAppend (gV 3) (gTup (gCons (gV 6) (gCons (gCallF 2 F_law_one (gCons (gV 0) (gCons (gLst (gCons (gC (.int 0)) (gCons (gC (.int 0)) (gCons (gC (.int 1)) (gCons (gC (.int 2)) (gCons (gOp2 dPow (gC (.int 10)) (gC (.int 20))) (gCons (gC .non) (gNil)))))))) (gNil)))) (gNil)))))) (gSeq (gAsg (gOp2 dSub (gV 4) (gV 6)) (gTo 4)) (gForget [5, 6])))
def b_law_stocks : GS := gSeq (gPar2 3 4 (gCons (gLstO (gNil)) (gCons (gV 2) (gNil)))) (gSeq (gSeq (gSeq (gSeq (gForget [5, 6]) (gFor (gRng1 (gCons (gOp2 dAdd (gC (.int 1)) (gCallF 2 F_law_take (gCons (gV 0) (gCons (gV 1) (gNil))))) (gNil))) (gTo 5) (lb_law_stocks_1))) (gForget [4, 5, 6])) (gFz 3)) (gRet (gV 3)))
def F_law_stocks : List D → List MO → R D := runF 7 b_law_stocks
def lb_law_usable_1 : GS := gSeq (gAsg (gLc (gSeqI (gV 6)) (gTo 8) (gOrT (gVal (gOp2 dIsN (gV 5) (gC .non))) (gVal (gOp2 dGt (gOp2 dAdd (gOp2 dAdd (gV 8) (gC (.int 1))) (gV 5)) (gV 2)))) (gV 8) [8]) (gTo 7)) (gSeq (gExpr (gMeth1 mAppend (gV 3) (gOp2 dSub (gV 4) (gCall (fn1 dLen) (gCons (gV 7) (gNil)))))) (gForget [4, 5, 6, 7]))
def b_law_usable : GS := gSeq (gAsg (gLstO (gNil)) (gTo 3)) (gSeq (gSeq (gSeq (gSeq (gForget [4, 5, 6, 7]) (gFor (gZip (gV 0) (gV 1)) (gToT (gToCons (gToT (gToCons (gTo 4) (gToCons (gTo 5) (gToNil)))) (gToCons (gTo 6) (gToNil)))) (lb_law_usable_1))) (gForget [4, 5, 6, 7])) (gFz 3)) (gRet (gV 3)))
def F_law_usable : List D → List MO → R D := runF 9 b_law_usable
def le_law_arranged_1 (F_law_arranged : List D → List MO → R D) : GE := gOp2 dAdd (gTup (gCons (gV 2) (gNil))) (gV 5)
def lb_law_arranged_1 (F_law_arranged : List D → List MO → R D) : GS := gSeq (gIf (gVal (gOp2 dGt (gV 3) (gC (.int 0)))) (gSeq (gAsg (gOp2 dAdd (gOp2 dAdd (gSl (gV 0) (gNoO) (gO (gV 2))) (gLst (gCons (gOp2 dSub (gV 3) (gC (.int 1))) (gNil)))) (gSl (gV 0) (gO (gOp2 dAdd (gV 2) (gC (.int 1)))) (gNoO))) (gTo 4)) (gExpr (gMeth1 mExtend (gV 1) (gLc (gSeqI (gCallF 1 F_law_arranged (gCons (gV 4) (gNil)))) (gTo 5) (gYes) (le_law_arranged_1 F_law_arranged) [5])))) (gPass)) (gForget [2, 3, 4])
def b_law_arranged (F_law_arranged : List D → List MO → R D) : GS := gSeq (gAsg (gLstO (gCons (gTup (gNil)) (gNil))) (gTo 1)) (gSeq (gSeq (gSeq (gSeq (gForget [2, 3, 4]) (gFor (gEnum (gV 0)) (gToT (gToCons (gTo 2) (gToCons (gTo 3) (gToNil)))) (lb_law_arranged_1 F_law_arranged))) (gForget [2, 3, 4])) (gFz 1)) (gRet (gV 1)))
def FR_law_arranged : Nat → Nat → List D → List MO → R D
  | 0, _ => fun _ _ => .bad
  | n + 1, _ => runF 6 (b_law_arranged (FR_law_arranged n 0))
def F_law_arranged : List D → List MO → R D := FR_law_arranged 6 0
def lb_law_hit_1 : GS := gSeq (gSetI (gOp2 dAdd (gOp2 dIx (gV 3) (gV 4)) (gTup (gCons (gV 2) (gNil)))) (gV 3) (gV 4)) (gForget [4])
def b_law_hit : GS := gSeq (gAsg (gListO (gCons (gV 0) (gNil))) (gTo 3)) (gSeq (gSeq (gSeq (gSeq (gForget [4]) (gFor (gSeqI (gV 1)) (gTo 4) (lb_law_hit_1))) (gForget [4])) (gFz 3)) (gRet (gCall (fn1 dTuple) (gCons (gV 3) (gNil)))))
def F_law_hit : List D → List MO → R D := runF 5 b_law_hit
def lb_law_worth_1 (F_law_worth F_law_most : List D → List MO → R D) : GS := gSeq (gAsg (gCallF 3 F_law_hit (gCons (gV 2) (gCons (gSl (gV 4) (gNoO) (gO (gV 7))) (gCons (gV 3) (gNil))))) (gTo 8)) (gSeq (gAsg (gOp2 dAdd (gV 6) (gCallF 5 F_law_most (gCons (gV 0) (gCons (gV 1) (gCons (gV 8) (gCons (gOp2 dAdd (gV 3) (gC (.int 1))) (gCons (gV 5) (gNil)))))))) (gTo 6)) (gForget [7, 8]))
def b_law_worth (F_law_worth F_law_most : List D → List MO → R D) : GS := gSeq (gAsg (gC (.int 0)) (gTo 6)) (gSeq (gSeq (gSeq (gForget [7, 8]) (gFor (gRng1 (gCons (gOp2 dAdd (gCall (fn1 dLen) (gCons (gV 4) (gNil))) (gC (.int 1))) (gNil))) (gTo 7) (lb_law_worth_1 F_law_worth F_law_most))) (gForget [7, 8])) (gRet (gV 6)))
def le_law_most_1 (F_law_worth F_law_most : List D → List MO → R D) : GE := gCallF 6 F_law_worth (gCons (gV 0) (gCons (gV 1) (gCons (gV 2) (gCons (gV 3) (gCons (gV 7) (gCons (gV 4) (gNil)))))))
def b_law_most (F_law_worth F_law_most : List D → List MO → R D) : GS := gSeq (gIf (gVal (gOp2 dGt (gV 3) (gV 1))) (gRet (gC (.int 1))) (gPass)) (gSeq (gIf (gVal (gOp2 dNotInN (gTup (gCons (gV 2) (gCons (gV 3) (gNil)))) (gV 4))) (gSeq (gAsg (gCallF 1 F_law_arranged (gCons (gCallF 3 F_law_usable (gCons (gV 0) (gCons (gV 2) (gCons (gV 3) (gNil))))) (gNil))) (gTo 5)) (gSeq (gAsg (gLc (gSeqI (gV 5)) (gTo 7) (gYes) (le_law_most_1 F_law_worth F_law_most) [7]) (gTo 6)) (gSetX (gCall (fn1 dMax) (gCons (gV 6) (gNil))) (gV 4) (gTup (gCons (gV 2) (gCons (gV 3) (gNil))))))) (gPass)) (gRet (gOp2 dIxN (gV 4) (gTup (gCons (gV 2) (gCons (gV 3) (gNil)))))))
def FR_law_worth : Nat → Nat → List D → List MO → R D
  | 0, _ => fun _ _ => .bad
  | n + 1, 0 => runF 9 (b_law_worth (FR_law_worth n 0) (FR_law_worth n 1))
  | n + 1, _ => runF 8 (b_law_most (FR_law_worth n 0) (FR_law_worth n 1))
def F_law_worth : List D → List MO → R D := FR_law_worth 12 0
def F_law_most : List D → List MO → R D := FR_law_worth 12 1
def lb_law_followed_1 (F_law_followed : List D → List MO → R D) : GS := gSeq (gIf (gVal (gOp2 dGt (gCntP (gV 7) (gV 8)) (gV 9))) (gRet (gTup (gCons (gOp2 dIx (gV 6) (gC (.int 0))) (gNil)))) (gPass)) (gForget [8, 9])
def lb_law_followed_2 (F_law_followed : List D → List MO → R D) : GS := gSeq (gAsg (gCallF 3 F_law_hit (gCons (gV 3) (gCons (gSl (gWk (gV 7)) (gNoO) (gO (gV 9))) (gCons (gV 5) (gNil))))) (gTo 11)) (gSeq (gAsg (gCallF 5 F_law_followed (gCons (gV 0) (gCons (gV 1) (gCons (gOp2 dAdd (gV 2) (gTup (gCons (gV 9) (gNil)))) (gCons (gV 11) (gCons (gV 4) (gNil))))))) (gTo 12)) (gSeq (gIf (gVal (gOp1 (dIsi "tuple") (gV 12))) (gRet (gV 12)) (gPass)) (gSeq (gAsg (gOp2 dAdd (gV 10) (gV 12)) (gTo 10)) (gForget [9, 11, 12]))))
def b_law_followed (F_law_followed : List D → List MO → R D) : GS := gSeq (gAsg (gOp2 dAdd (gCall (fn1 dLen) (gCons (gV 2) (gNil))) (gC (.int 1))) (gTo 5)) (gSeq (gIf (gVal (gOp2 dGt (gV 5) (gV 1))) (gRet (gC (.int 1))) (gPass)) (gSeq (gAsg (gLcJ (gEnumJ (gV 4)) (gToT (gToCons (gTo 13) (gToCons (gTo 14) (gToNil)))) (gVal (gOp2 dEqA (gOp2 dIx (gV 14) (gC (.int 0))) (gV 2))) (gV 13) [13, 14]) (gTo 6)) (gSeq (gIf (gVal (gOp2 dEqA (gV 6) (gLst (gNil)))) (gRet (gTup (gCons (gCall (fn1 dLen) (gCons (gV 4) (gNil))) (gNil)))) (gPass)) (gSeq (gAsg (gOp2 dIx (gOp2 dIx (gV 4) (gOp2 dIx (gV 6) (gC (.int 0)))) (gC (.int 1))) (gTo 7)) (gSeq (gSeq (gSeq (gForget [8, 9]) (gFor (gEnum (gCallF 3 F_law_usable (gCons (gV 0) (gCons (gV 3) (gCons (gV 5) (gNil)))))) (gToT (gToCons (gTo 8) (gToCons (gTo 9) (gToNil)))) (lb_law_followed_1 F_law_followed))) (gForget [8, 9])) (gSeq (gAsg (gC (.int 0)) (gTo 10)) (gSeq (gSeq (gSeq (gForget [9, 11, 12]) (gFor (gRng1 (gCons (gOp2 dAdd (gCall (fn1 dLen) (gCons (gWk (gV 7)) (gNil))) (gC (.int 1))) (gNil))) (gTo 9) (lb_law_followed_2 F_law_followed))) (gForget [9, 11, 12])) (gRet (gV 10)))))))))
def FR_law_followed : Nat → Nat → List D → List MO → R D
  | 0, _ => fun _ _ => .bad
  | n + 1, _ => runF 15 (b_law_followed (FR_law_followed n 0))
def F_law_followed : List D → List MO → R D := FR_law_followed 8 0
def b_law_is_row : GS := gSeq (gIf (gOrT (gNotT (gVal (gOp1 (dIsi "tuple") (gV 2)))) (gOrT (gVal (gOp2 dNeA (gCall (fn1 dLen) (gCons (gV 2) (gNil))) (gC (.int 2)))) (gOrT (gNotT (gVal (gOp1 (dIsi "tuple") (gWk (gOp2 dIx (gV 2) (gC (.int 0))))))) (gNotT (gVal (gOp1 (dIsi "tuple") (gWk (gOp2 dIx (gV 2) (gC (.int 1)))))))))) (gRet (gC (.bl false))) (gPass)) (gSeq (gAsg (gLc (gSeqI (gOp2 dAdd (gWk (gOp2 dIx (gV 2) (gC (.int 0)))) (gWk (gOp2 dIx (gV 2) (gC (.int 1)))))) (gTo 4) (gOrT (gNotT (gVal (gOp1 (dIsi "int") (gV 4)))) (gOrT (gVal (gOp1 (dIsi "bool") (gV 4))) (gVal (gOp2 dLt (gV 4) (gC (.int 0)))))) (gV 4) [4]) (gTo 3)) (gRet (gAndV (gOp2 dEqA (gV 3) (gLst (gNil))) (gAndV (gOp2 dLt (gCall (fn1 dLen) (gCons (gWk (gOp2 dIx (gV 2) (gC (.int 0)))) (gNil))) (gV 1)) (gOp2 dLt (gCall (fn1 dMaxV) (gCons (gOp2 dAdd (gWk (gOp2 dIx (gV 2) (gC (.int 1)))) (gTup (gCons (gC (.int 0)) (gNil)))) (gNil))) (gCall (fn1 dLen) (gCons (gV 0) (gNil))))))))
def F_law_is_row : List D → List MO → R D := runF 5 b_law_is_row
def le_law_table_due_1 : GE := gOp2 dIx (gV 7) (gC (.int 0))
def lb_law_table_due_1 : GS := gSeq (gIf (gOrT (gNotT (gVal (gCallF 3 F_law_is_row (gCons (gV 0) (gCons (gV 1) (gCons (gV 5) (gNil))))))) (gVal (gOp2 dInA (gOp2 dIx (gV 5) (gC (.int 0))) (gLc (gSeqI (gSl (gV 3) (gNoO) (gO (gV 4)))) (gTo 7) (gYes) (le_law_table_due_1) [7])))) (gRet (gTup (gCons (gC (.str (Str.ofString "table"))) (gCons (gV 4) (gNil))))) (gPass)) (gForget [4, 5])
def b_law_table_due : GS := gSeq (gIf (gNotT (gVal (gOp1 (dIsi "list") (gV 3)))) (gRet (gTup (gCons (gC (.str (Str.ofString "table"))) (gCons (gOp1 dNeg (gC (.int 1))) (gNil))))) (gPass)) (gSeq (gSeq (gSeq (gForget [4, 5]) (gForJ (gEnumJ (gV 3)) (gToT (gToCons (gTo 4) (gToCons (gTo 5) (gToNil)))) (lb_law_table_due_1))) (gForget [4, 5])) (gSeq (gAsg (gCallF 5 F_law_followed (gCons (gV 0) (gCons (gV 1) (gCons (gTup (gNil)) (gCons (gOp2 dMulT (gTup (gCons (gTup (gNil)) (gNil))) (gCall (fn1 dLen) (gCons (gV 0) (gNil)))) (gCons (gV 3) (gNil))))))) (gTo 6)) (gSeq (gIf (gVal (gOp1 (dIsi "tuple") (gV 6))) (gRet (gTup (gCons (gC (.str (Str.ofString "table"))) (gCons (gOp2 dIx (gV 6) (gC (.int 0))) (gNil))))) (gPass)) (gRet (gIfE (gVal (gOp2 dGtA (gV 2) (gV 6))) (gTup (gCons (gC (.str (Str.ofString "many"))) (gCons (gV 6) (gNil)))) (gC .non))))))
def F_law_table_due : List D → List MO → R D := runF 8 b_law_table_due
def lb_law_right_1 : GS := gScope (gSeq (gAsg (gCallF 2 F_best_orders (gCons (gV 0) (gCons (gV 1) (gNil)))) (gTo 8)) (gSeq (gIf (gOrT (gVal (gOp2 dNeF (gV 8) (gV 5))) (gNotT (gVal (gOp1 (dIsi "list") (gV 8))))) (gRet (gC (.bl false))) (gPass)) (gSeq (gExpr (gMeth1 mAppend (gV 8) (gC .non))) (gSeq (gAsg (gCallW 2 F_unlike_table (gCons (gV 0) (gCons (gV 1) (gNil)))) (gToT (gToCons (gTo 9) (gToCons (gTo 10) (gToNil))))) (gSeq (gIf (gOrT (gVal (gOp2 dNeF (gV 9) (gV 4))) (gVal (gOp2 dNotN (gCallF 4 F_law_table_due (gCons (gV 0) (gCons (gV 1) (gCons (gV 4) (gCons (gV 10) (gNil)))))) (gC .non)))) (gRet (gC (.bl false))) (gPass)) (gSeq (gIf (gVal (gOp2 dNeF (gCallF 4 F_law_table_due (gCons (gV 0) (gCons (gV 1) (gCons (gOp2 dAdd (gV 4) (gC (.int 1))) (gCons (gV 10) (gNil)))))) (gTup (gCons (gC (.str (Str.ofString "many"))) (gCons (gV 4) (gNil)))))) (gRet (gC (.bl false))) (gPass)) (gSeq (gAsg (gCall (fn1 dList) (gCons (gV 10) (gNil))) (gTo 11)) (gSeq (gExpr (gMeth0 mClear (gV 10))) (gSeq (gIf (gVal (gOp2 dNeF (gCallWK 2 F_unlike_table [1, 0] gNil (gCons (gV 1) (gCons (gCall (fn1 dTuple) (gCons (gV 0) (gNil))) (gNil)))) (gTup (gCons (gV 4) (gCons (gV 11) (gNil)))))) (gRet (gC (.bl false))) (gPass)) (gForget [6, 8, 9, 10, 11]))))))))))
def b_law_right : GS := gSeq (gAsg (gTup (gCons (gDct0O) (gCons (gOp2 dMulT (gTup (gCons (gTup (gNil)) (gNil))) (gCall (fn1 dLen) (gCons (gV 0) (gNil)))) (gNil)))) (gToT (gToCons (gTo 2) (gToCons (gTo 3) (gToNil))))) (gSeq (gAsg (gCallF 5 F_law_most (gCons (gV 0) (gCons (gV 1) (gCons (gV 3) (gCons (gC (.int 1)) (gCons (gV 2) (gNil))))))) (gTo 4)) (gSeq (gAsg (gLst (gCons (gTup (gNil)) (gNil))) (gTo 5)) (gSeq (gIf (gVal (gOp2 dGtA (gV 1) (gC (.int 0)))) (gSeq (gAsg (gCallF 1 F_law_arranged (gCons (gCallF 3 F_law_usable (gCons (gV 0) (gCons (gV 3) (gCons (gC (.int 1)) (gNil))))) (gNil))) (gTo 7)) (gAsg (gCall (fn1 dSortB) (gCons (gLc (gSeqI (gV 7)) (gTo 12) (gVal (gOp2 dEqF (gCallF 6 F_law_worth (gCons (gV 0) (gCons (gV 1) (gCons (gV 3) (gCons (gC (.int 1)) (gCons (gV 12) (gCons (gV 2) (gNil)))))))) (gV 4))) (gV 12) [12]) (gNil))) (gTo 5))) (gPass)) (gSeq (gIf (gOrT (gVal (gOp2 dNeF (gCallF 2 F_unlike_levels (gCons (gV 0) (gCons (gV 1) (gNil)))) (gV 4))) (gVal (gOp2 dNeF (gCallK 2 F_unlike_levels [1, 0] gNil (gCons (gV 1) (gCons (gCall (fn1 dTuple) (gCons (gV 0) (gNil))) (gNil)))) (gV 4)))) (gRet (gC (.bl false))) (gPass)) (gSeq (gSeq (gSeq (gForget [6, 8, 9, 10, 11]) (gFor (gRng1 (gCons (gC (.int 2)) (gNil))) (gTo 6) (lb_law_right_1))) (gForget [6, 8, 9, 10, 11])) (gRet (gOp2 dEqF (gCallK 2 F_best_orders [1, 0] gNil (gCons (gV 1) (gCons (gCall (fn1 dTuple) (gCons (gV 0) (gNil))) (gNil)))) (gV 5))))))))
def F_law_right : List D → List MO → R D := runW 13 b_law_right
def lb_law_1 : GS := gScope (gSeq (gAsg (gCallF 1 F_law_source (gCons (gV 1) (gNil))) (gTo 2)) (gSeq (gIf (gNotT (gVal (gCallW 2 F_law_right (gCons (gCallF 3 F_law_stocks (gCons (gV 2) (gCons (gC (.int 3)) (gCons (gC (.int 3)) (gNil))))) (gCons (gCallF 2 F_law_take (gCons (gV 2) (gCons (gC (.int 4)) (gNil)))) (gNil)))))) (gRet (gC (.bl false))) (gPass)) (gForget [1, 2])))
def b_law : GS := gSeq (gSeq (gSeq (gForget [1, 2]) (gFor (gSeqI (gSl (gOp2 dAdd (gV 0) (gLst (gCons (gC (.int 0)) (gNil)))) (gNoO) (gO (gC (.int 4))))) (gTo 1) (lb_law_1))) (gForget [1, 2])) (gSeq (gIf (gOrT (gVal (gOp2 dNeA (gCallF 2 F_unlike_levels (gCons (gLst (gCons (gTup (gCons (gC (.int 1)) (gCons (gC (.int 0)) (gNil)))) (gCons (gTup (gCons (gC (.int 1)) (gCons (gC .non) (gNil)))) (gNil)))) (gCons (gC (.int 2)) (gNil)))) (gC (.int 8)))) (gVal (gOp2 dNeA (gCallF 2 F_best_orders (gCons (gLst (gCons (gTup (gCons (gC (.int 1)) (gCons (gC (.int 0)) (gNil)))) (gCons (gTup (gCons (gC (.int 1)) (gCons (gC .non) (gNil)))) (gNil)))) (gCons (gC (.int 2)) (gNil)))) (gLst (gCons (gTup (gCons (gC (.int 0)) (gCons (gC (.int 1)) (gNil)))) (gNil)))))) (gRet (gC (.bl false))) (gPass)) (gSeq (gIf (gOrT (gNotT (gVal (gCallW 2 F_law_right (gCons (gLst (gCons (gTup (gCons (gC (.int 2)) (gCons (gC (.int 0)) (gNil)))) (gCons (gTup (gCons (gC (.int 1)) (gCons (gC (.int 1)) (gNil)))) (gCons (gTup (gCons (gC (.int 1)) (gCons (gC .non) (gNil)))) (gNil))))) (gCons (gC (.int 2)) (gNil)))))) (gNotT (gVal (gCallW 2 F_law_right (gCons (gLst (gCons (gTup (gCons (gC (.int 1)) (gCons (gC (.int 0)) (gNil)))) (gCons (gTup (gCons (gC (.int 1)) (gCons (gC (.int 1)) (gNil)))) (gNil)))) (gCons (gC (.int 4)) (gNil))))))) (gRet (gC (.bl false))) (gPass)) (gRet (gCallW 2 F_law_right (gCons (gLst (gCons (gTup (gCons (gC (.int 1)) (gCons (gC (.int 0)) (gNil)))) (gCons (gTup (gCons (gC (.int 1)) (gCons (gC (.int 1)) (gNil)))) (gCons (gTup (gCons (gC (.int 2)) (gCons (gC .non) (gNil)))) (gNil))))) (gCons (gC (.int 3)) (gNil)))))))
def F_law : List D → List MO → R D := runF 3 b_law
/-! ### where everything stands -/
structure Ad where
  f_is_integer : Addr
  fd_is_integer : FuncData
  f_is_at_least : Addr
  fd_is_at_least : FuncData
  f_is_stock : Addr
  fd_is_stock : FuncData
  f_require_stocks : Addr
  fd_require_stocks : FuncData
  f_require_few : Addr
  fd_require_few : FuncData
  f_arrangements : Addr
  fd_arrangements : FuncData
  f_Unlike_init : Addr
  fd_Unlike_init : FuncData
  f_Unlike_ready : Addr
  fd_Unlike_ready : FuncData
  f_Unlike_after : Addr
  fd_Unlike_after : FuncData
  f_Unlike_value : Addr
  fd_Unlike_value : FuncData
  f_Unlike_best : Addr
  fd_Unlike_best : FuncData
  f_Unlike_rows : Addr
  fd_Unlike_rows : FuncData
  f_unlike_levels : Addr
  fd_unlike_levels : FuncData
  f_best_orders : Addr
  fd_best_orders : FuncData
  f_unlike_table : Addr
  fd_unlike_table : FuncData
  f_law_mixed : Addr
  fd_law_mixed : FuncData
  f_law_source : Addr
  fd_law_source : FuncData
  f_law_take : Addr
  fd_law_take : FuncData
  f_law_one : Addr
  fd_law_one : FuncData
  f_law_stocks : Addr
  fd_law_stocks : FuncData
  f_law_usable : Addr
  fd_law_usable : FuncData
  f_law_arranged : Addr
  fd_law_arranged : FuncData
  f_law_hit : Addr
  fd_law_hit : FuncData
  f_law_worth : Addr
  fd_law_worth : FuncData
  f_law_most : Addr
  fd_law_most : FuncData
  f_law_followed : Addr
  fd_law_followed : FuncData
  f_law_is_row : Addr
  fd_law_is_row : FuncData
  f_law_table_due : Addr
  fd_law_table_due : FuncData
  f_law_right : Addr
  fd_law_right : FuncData
  f_law : Addr
  fd_law : FuncData
  c_Unlike : Addr
  xf_InvalidStocks : Addr
  xd_InvalidStocks : FuncData
  xf_InvalidNumber : Addr
  xd_InvalidNumber : FuncData
  xf_TooLarge : Addr
  xd_TooLarge : FuncData
  x_InvalidStocks : Addr
  x_InvalidNumber : Addr
  x_TooLarge : Addr
  t_MAX_PIECES : Tok
  t_MAX_SORTS : Tok
def errC (A : Ad) : CT := ⟨fun n => match n with | 0 => A.x_InvalidStocks | 1 => A.x_InvalidNumber | 2 => A.x_TooLarge | _ => A.x_InvalidStocks, fun n => match n with | 0 => "index" | 1 => "name" | 2 => "limit" | _ => ""⟩
structure Tx (K : PySem.W.Frag) (mg : Str → Option Value) (A : Ad) : Prop where
  F_is_integer : Fun K "is_integer" "is_integer" s_is_integer A.f_is_integer A.fd_is_integer
  b_is_integer : Binds K A.fd_is_integer ["value"] []
  g_is_integer : mg "is_integer" = some (.ref A.f_is_integer)
  F_is_at_least : Fun K "is_at_least" "is_at_least" s_is_at_least A.f_is_at_least A.fd_is_at_least
  b_is_at_least : Binds K A.fd_is_at_least ["value", "low"] []
  g_is_at_least : mg "is_at_least" = some (.ref A.f_is_at_least)
  F_is_stock : Fun K "is_stock" "is_stock" s_is_stock A.f_is_stock A.fd_is_stock
  b_is_stock : Binds K A.fd_is_stock ["value"] []
  g_is_stock : mg "is_stock" = some (.ref A.f_is_stock)
  F_require_stocks : Fun K "require_stocks" "require_stocks" s_require_stocks A.f_require_stocks A.fd_require_stocks
  b_require_stocks : Binds K A.fd_require_stocks ["stocks", "days"] []
  g_require_stocks : mg "require_stocks" = some (.ref A.f_require_stocks)
  F_require_few : Fun K "require_few" "require_few" s_require_few A.f_require_few A.fd_require_few
  b_require_few : Binds K A.fd_require_few ["stocks", "days"] []
  g_require_few : mg "require_few" = some (.ref A.f_require_few)
  F_arrangements : Fun K "arrangements" "arrangements" s_arrangements A.f_arrangements A.fd_arrangements
  b_arrangements : Binds K A.fd_arrangements ["numbers"] []
  g_arrangements : mg "arrangements" = some (.ref A.f_arrangements)
  F_Unlike_init : Fun K "__init__" "Unlike.__init__" s_Unlike_init A.f_Unlike_init A.fd_Unlike_init
  b_Unlike_init : Binds K A.fd_Unlike_init ["self", "stocks", "days"] []
  F_Unlike_ready : Fun K "ready" "Unlike.ready" s_Unlike_ready A.f_Unlike_ready A.fd_Unlike_ready
  b_Unlike_ready : Binds K A.fd_Unlike_ready ["self", "state"] []
  m_Unlike_ready : Meth K A.c_Unlike "ready" A.f_Unlike_ready
  F_Unlike_after : Fun K "after" "Unlike.after" s_Unlike_after A.f_Unlike_after A.fd_Unlike_after
  b_Unlike_after : Binds K A.fd_Unlike_after ["self", "state", "day", "broken"] []
  m_Unlike_after : Meth K A.c_Unlike "after" A.f_Unlike_after
  F_Unlike_value : Fun K "value" "Unlike.value" s_Unlike_value A.f_Unlike_value A.fd_Unlike_value
  b_Unlike_value : Binds K A.fd_Unlike_value ["self", "state", "day", "order"] []
  m_Unlike_value : Meth K A.c_Unlike "value" A.f_Unlike_value
  F_Unlike_best : Fun K "best" "Unlike.best" s_Unlike_best A.f_Unlike_best A.fd_Unlike_best
  b_Unlike_best : Binds K A.fd_Unlike_best ["self", "state", "day"] []
  m_Unlike_best : Meth K A.c_Unlike "best" A.f_Unlike_best
  F_Unlike_rows : Fun K "rows" "Unlike.rows" s_Unlike_rows A.f_Unlike_rows A.fd_Unlike_rows
  b_Unlike_rows : Binds K A.fd_Unlike_rows ["self", "past", "state"] []
  m_Unlike_rows : Meth K A.c_Unlike "rows" A.f_Unlike_rows
  F_unlike_levels : Fun K "unlike_levels" "unlike_levels" s_unlike_levels A.f_unlike_levels A.fd_unlike_levels
  b_unlike_levels : Binds K A.fd_unlike_levels ["stocks", "days"] []
  g_unlike_levels : mg "unlike_levels" = some (.ref A.f_unlike_levels)
  F_best_orders : Fun K "best_orders" "best_orders" s_best_orders A.f_best_orders A.fd_best_orders
  b_best_orders : Binds K A.fd_best_orders ["stocks", "days"] []
  g_best_orders : mg "best_orders" = some (.ref A.f_best_orders)
  F_unlike_table : Fun K "unlike_table" "unlike_table" s_unlike_table A.f_unlike_table A.fd_unlike_table
  b_unlike_table : Binds K A.fd_unlike_table ["stocks", "days"] []
  g_unlike_table : mg "unlike_table" = some (.ref A.f_unlike_table)
  F_law_mixed : Fun K "_law_mixed" "_law_mixed" s_law_mixed A.f_law_mixed A.fd_law_mixed
  b_law_mixed : Binds K A.fd_law_mixed ["_law_cell", "_law_k"] []
  g_law_mixed : mg "_law_mixed" = some (.ref A.f_law_mixed)
  F_law_source : Fun K "_law_source" "_law_source" s_law_source A.f_law_source A.fd_law_source
  b_law_source : Binds K A.fd_law_source ["_law_cell"] []
  g_law_source : mg "_law_source" = some (.ref A.f_law_source)
  F_law_take : Fun K "_law_take" "_law_take" s_law_take A.f_law_take A.fd_law_take
  b_law_take : Binds K A.fd_law_take ["_law_source_here", "_law_many"] []
  g_law_take : mg "_law_take" = some (.ref A.f_law_take)
  F_law_one : Fun K "_law_one" "_law_one" s_law_one A.f_law_one A.fd_law_one
  b_law_one : Binds K A.fd_law_one ["_law_source_here", "_law_some"] []
  g_law_one : mg "_law_one" = some (.ref A.f_law_one)
  F_law_stocks : Fun K "_law_stocks" "_law_stocks" s_law_stocks A.f_law_stocks A.fd_law_stocks
  b_law_stocks : Binds K A.fd_law_stocks ["_law_source_here", "_law_sorts_most", "_law_pieces_most"] []
  g_law_stocks : mg "_law_stocks" = some (.ref A.f_law_stocks)
  F_law_usable : Fun K "_law_usable" "_law_usable" s_law_usable A.f_law_usable A.fd_law_usable
  b_law_usable : Binds K A.fd_law_usable ["_law_stock_used", "_law_broken_on", "_law_day"] []
  g_law_usable : mg "_law_usable" = some (.ref A.f_law_usable)
  F_law_arranged : Fun K "_law_arranged" "_law_arranged" s_law_arranged A.f_law_arranged A.fd_law_arranged
  b_law_arranged : Binds K A.fd_law_arranged ["_law_numbers"] []
  g_law_arranged : mg "_law_arranged" = some (.ref A.f_law_arranged)
  F_law_hit : Fun K "_law_hit" "_law_hit" s_law_hit A.f_law_hit A.fd_law_hit
  b_law_hit : Binds K A.fd_law_hit ["_law_broken_on", "_law_some", "_law_day"] []
  g_law_hit : mg "_law_hit" = some (.ref A.f_law_hit)
  F_law_worth : Fun K "_law_worth" "_law_worth" s_law_worth A.f_law_worth A.fd_law_worth
  b_law_worth : Binds K A.fd_law_worth ["_law_stock_used", "_law_last", "_law_broken_on", "_law_day", "_law_order_used", "_law_known"] []
  g_law_worth : mg "_law_worth" = some (.ref A.f_law_worth)
  F_law_most : Fun K "_law_most" "_law_most" s_law_most A.f_law_most A.fd_law_most
  b_law_most : Binds K A.fd_law_most ["_law_stock_used", "_law_last", "_law_broken_on", "_law_day", "_law_known"] []
  g_law_most : mg "_law_most" = some (.ref A.f_law_most)
  F_law_followed : Fun K "_law_followed" "_law_followed" s_law_followed A.f_law_followed A.fd_law_followed
  b_law_followed : Binds K A.fd_law_followed ["_law_stock_used", "_law_last", "_law_past_used", "_law_broken_on", "_law_rows_used"] []
  g_law_followed : mg "_law_followed" = some (.ref A.f_law_followed)
  F_law_is_row : Fun K "_law_is_row" "_law_is_row" s_law_is_row A.f_law_is_row A.fd_law_is_row
  b_law_is_row : Binds K A.fd_law_is_row ["_law_stock_used", "_law_last", "_law_row"] []
  g_law_is_row : mg "_law_is_row" = some (.ref A.f_law_is_row)
  F_law_table_due : Fun K "_law_table_due" "_law_table_due" s_law_table_due A.f_law_table_due A.fd_law_table_due
  b_law_table_due : Binds K A.fd_law_table_due ["_law_stock_used", "_law_last", "_law_claim", "_law_rows_used"] []
  g_law_table_due : mg "_law_table_due" = some (.ref A.f_law_table_due)
  F_law_right : Fun K "_law_right" "_law_right" s_law_right A.f_law_right A.fd_law_right
  b_law_right : Binds K A.fd_law_right ["_law_stock_used", "_law_last"] []
  g_law_right : mg "_law_right" = some (.ref A.f_law_right)
  F_law : Fun K "law" "law" s_law A.f_law A.fd_law
  b_law : Binds K A.fd_law ["_law_script"] []
  g_law : mg "law" = some (.ref A.f_law)
  n_Unlike : PySem.W.nsIn K mainGlobals "Unlike" = some (some (.ref A.c_Unlike))
  cl_Unlike : Cls K A.c_Unlike
  g_Unlike : mg "Unlike" = some (.ref A.c_Unlike)
  mk_Unlike : Mk K A.c_Unlike A.f_Unlike_init
  na_Unlike_days : NoAttr K A.c_Unlike "days"
  na_Unlike_known : NoAttr K A.c_Unlike "known"
  na_Unlike_stocks : NoAttr K A.c_Unlike "stocks"
  x_InvalidStocks : XC K A.x_InvalidStocks A.xf_InvalidStocks "index" A.xd_InvalidStocks s_InvalidStocks_init "InvalidStocks.__init__"
  x_InvalidNumber : XC K A.x_InvalidNumber A.xf_InvalidNumber "name" A.xd_InvalidNumber s_InvalidNumber_init "InvalidNumber.__init__"
  x_TooLarge : XC K A.x_TooLarge A.xf_TooLarge "limit" A.xd_TooLarge s_TooLarge_init "TooLarge.__init__"
  gx_InvalidStocks : mg "InvalidStocks" = some (.ref A.x_InvalidStocks)
  gx_InvalidNumber : mg "InvalidNumber" = some (.ref A.x_InvalidNumber)
  gx_TooLarge : mg "TooLarge" = some (.ref A.x_TooLarge)
  k_best_orders_days_stocks : KwBinds K A.fd_best_orders ["stocks", "days"] ["days", "stocks"] 0 [1, 0]
  k_unlike_levels_days_stocks : KwBinds K A.fd_unlike_levels ["stocks", "days"] ["days", "stocks"] 0 [1, 0]
  k_unlike_table_days_stocks : KwBinds K A.fd_unlike_table ["stocks", "days"] ["days", "stocks"] 0 [1, 0]
  m_bool : mg "bool" = none
  m_enumerate : mg "enumerate" = none
  m_int : mg "int" = none
  m_isinstance : mg "isinstance" = none
  m_len : mg "len" = none
  m_list : mg "list" = none
  m_max : mg "max" = none
  m_min : mg "min" = none
  m_range : mg "range" = none
  m_sorted : mg "sorted" = none
  m_sum : mg "sum" = none
  m_tuple : mg "tuple" = none
  m_zip : mg "zip" = none
  c_MAX_PIECES : mg "MAX_PIECES" = some (.int 4 A.t_MAX_PIECES)
  c_MAX_SORTS : mg "MAX_SORTS" = some (.int 3 A.t_MAX_SORTS)
/-! ### each def computes its function -/
section
variable {P : Program} {w : World} {K : PySem.W.Frag} {mg : Str → Option Value} {base : Heap} {A : Ad}
theorem mkX_InvalidStocks (T : Tx K mg A) : FnOk P w K mg base CX0 1 A.xf_InvalidStocks A.xd_InvalidStocks ["self", "index"] (spI A.x_InvalidStocks "index") := maker_ok T.x_InvalidStocks sc_InvalidStocks_init rfl (by decide) (by decide) (by first | exact Or.inl rfl | exact Or.inr (Or.inl rfl) | exact Or.inr (Or.inr rfl)) (by first | exact Or.inl rfl | exact Or.inr (Or.inl rfl) | exact Or.inr (Or.inr rfl)) (fun _ => rfl)
theorem mkX_InvalidNumber (T : Tx K mg A) : FnOk P w K mg base CX0 1 A.xf_InvalidNumber A.xd_InvalidNumber ["self", "name"] (spI A.x_InvalidNumber "name") := maker_ok T.x_InvalidNumber sc_InvalidNumber_init rfl (by decide) (by decide) (by first | exact Or.inl rfl | exact Or.inr (Or.inl rfl) | exact Or.inr (Or.inr rfl)) (by first | exact Or.inl rfl | exact Or.inr (Or.inl rfl) | exact Or.inr (Or.inr rfl)) (fun _ => rfl)
theorem mkX_TooLarge (T : Tx K mg A) : FnOk P w K mg base CX0 1 A.xf_TooLarge A.xd_TooLarge ["self", "limit"] (spI A.x_TooLarge "limit") := maker_ok T.x_TooLarge sc_TooLarge_init rfl (by decide) (by decide) (by first | exact Or.inl rfl | exact Or.inr (Or.inl rfl) | exact Or.inr (Or.inr rfl)) (by first | exact Or.inl rfl | exact Or.inr (Or.inl rfl) | exact Or.inr (Or.inr rfl)) (fun _ => rfl)
set_option maxHeartbeats 4000000 in
theorem ok_is_integer (T : Tx K mg A) : FnQ P w K mg base (errC A) 2 A.f_is_integer A.fd_is_integer ["value"] F_is_integer := by
  refine fq_of T.F_is_integer sc_is_integer fun cdv A' outer s H E hr hgu => ?_
  exact qss_one (qs_ret (qe_and (qe_isi rfl T.m_isinstance rfl T.m_int (by decide +kernel) (qe_v 0)) (qe_one (qe_not (qe_isi rfl T.m_isinstance rfl T.m_bool (by decide +kernel) (qe_v 0))))))
set_option maxHeartbeats 4000000 in
theorem ok_is_at_least (T : Tx K mg A) : FnQ P w K mg base (errC A) 3 A.f_is_at_least A.fd_is_at_least ["value", "low"] F_is_at_least := by
  have c_is_integer := ok_is_integer (P := P) (w := w) (base := base) T
  refine fq_of T.F_is_at_least sc_is_at_least fun cdv A' outer s H E hr hgu => ?_
  exact qss_one (qs_ret (qe_and (qe_call c_is_integer (hr.mono (by decide)) hgu (takes_of rfl rfl rfl rfl) rfl T.g_is_integer T.F_is_integer.kp T.b_is_integer (qa_cons (qe_v 0) (qa_nil))) (qe_one (qe_cmp op_ge ok_ge (qe_v 0) (qe_v 1) rfl))))
set_option maxHeartbeats 4000000 in
theorem ok_is_stock (T : Tx K mg A) : FnQ P w K mg base (errC A) 4 A.f_is_stock A.fd_is_stock ["value"] F_is_stock := by
  have c_is_at_least := ok_is_at_least (P := P) (w := w) (base := base) T
  refine fq_of T.F_is_stock sc_is_stock fun cdv A' outer s H E hr hgu => ?_
  exact qss_cons (qs_if (qt_of (qw_or (qt_not (qt_val (qe_isi rfl T.m_isinstance rfl T.m_tuple (by decide +kernel) (qe_v 0)))) (qw_or (qt_cmp (op_neA hr.units) ok_neA (qe_callB call_len (.of1 ok_len) rfl T.m_len (by decide +kernel) (qa_cons (qe_v 0) (qa_nil))) (qe_int) rfl) (qw_or1 (qt_not (qt_val (qe_call c_is_at_least (hr.mono (by decide)) hgu (takes_of rfl rfl rfl rfl) rfl T.g_is_at_least T.F_is_at_least.kp T.b_is_at_least (qa_cons (qe_ix ix_A ok_ix (qe_v 0) (qe_int)) (qa_cons (qe_int) (qa_nil)))))))))) (qss_one (qs_ret (qe_bl))) (qss_nil)) (qss_one (qs_ret (qe_or (qe_cmp op_isN ok_isN (qe_ix ix_A ok_ix (qe_v 0) (qe_int)) (qe_non) rfl) (qe_one (qe_call c_is_at_least (hr.mono (by decide)) hgu (takes_of rfl rfl rfl rfl) rfl T.g_is_at_least T.F_is_at_least.kp T.b_is_at_least (qa_cons (qe_ix ix_A ok_ix (qe_v 0) (qe_int)) (qa_cons (qe_int) (qa_nil))))))))
set_option maxHeartbeats 4000000 in
theorem ok_require_stocks (T : Tx K mg A) : FnQ P w K mg base (errC A) 5 A.f_require_stocks A.fd_require_stocks ["stocks", "days"] F_require_stocks := by
  have c_is_at_least := ok_is_at_least (P := P) (w := w) (base := base) T
  have c_is_stock := ok_is_stock (P := P) (w := w) (base := base) T
  refine fq_of T.F_require_stocks sc_require_stocks fun cdv A' outer s H E hr hgu => ?_
  exact qss_cons (qs_if (qt_of (qw_or (qt_not (qt_val (qe_isi2 rfl T.m_isinstance rfl T.m_list (by decide +kernel) rfl T.m_tuple (by decide +kernel) (qe_v 0)))) (qw_or1 (qt_not (qt_chain op_le ok_le op_le ok_le (qe_int) (qe_callB call_len (.of1 ok_len) rfl T.m_len (by decide +kernel) (qa_cons (qe_v 0) (qa_nil))) (qe_gint rfl T.c_MAX_SORTS)))))) (qss_one (qs_raise T.x_InvalidStocks (mkX_InvalidStocks T) (hr.mono (by decide)) rfl (takes_of rfl rfl rfl rfl) rfl T.gx_InvalidStocks rfl rfl (qe_un un_neg ok_neg (qe_int)))) (qss_nil)) (qss_cons (qs_forget [2, 3] (qs_pre [2, 3] (qs_for (passes_of rfl) rfl (qi_enum rfl T.m_enumerate (qe_v 0)) (qg_tup rfl (qgs_cons (qg_name 2 sc_require_stocks.nd) (qgs_cons (qg_name 3 sc_require_stocks.nd) (qgs_nil))) (hlen := len_cons (len_cons (len_nil)))) (qss_one (qs_forget [2, 3] (qs_if (qt_not (qt_val (qe_call c_is_stock (hr.mono (by decide)) hgu (takes_of rfl rfl rfl rfl) rfl T.g_is_stock T.F_is_stock.kp T.b_is_stock (qa_cons (qe_v 3) (qa_nil))))) (qss_one (qs_raise T.x_InvalidStocks (mkX_InvalidStocks T) (hr.mono (by decide)) rfl (takes_of rfl rfl rfl rfl) rfl T.gx_InvalidStocks rfl rfl (qe_v 2))) (qss_nil))))))) (qss_one (qs_if (qt_not (qt_val (qe_call c_is_at_least (hr.mono (by decide)) hgu (takes_of rfl rfl rfl rfl) rfl T.g_is_at_least T.F_is_at_least.kp T.b_is_at_least (qa_cons (qe_v 1) (qa_cons (qe_int) (qa_nil)))))) (qss_one (qs_raise T.x_InvalidNumber (mkX_InvalidNumber T) (hr.mono (by decide)) rfl (takes_of rfl rfl rfl rfl) rfl T.gx_InvalidNumber rfl rfl (qe_str))) (qss_nil))))
set_option maxHeartbeats 4000000 in
theorem ok_require_few (T : Tx K mg A) : FnQ P w K mg base (errC A) 3 A.f_require_few A.fd_require_few ["stocks", "days"] F_require_few := by
  refine fq_of T.F_require_few sc_require_few fun cdv A' outer s H E hr hgu => ?_
  exact qss_one (qs_if (qt_of (qw_or (qt_cmp op_gt ok_gt (qe_callB (cr_sum rfl) (.of1 ok_sum) rfl T.m_sum (by decide +kernel) (qa_cons (qe_lc rfl sc_require_few.nd (qi_seq (qe_v 0)) (blkOk_by (N := ["stocks", "days", "number", "repair"]) (sc := defScope s_require_few) (own := [("number", 2), ("repair", 3)]) (by decide +kernel)) (fun _ _ _ _ _ => qg_tup rfl (qgs_cons (qg_name 2 sc_require_few.nd) (qgs_cons (qg_name 3 sc_require_few.nd) (qgs_nil))) (hlen := len_cons (len_cons (len_nil)))) (fun _ _ _ _ _ => qts_nil) (fun _ _ _ _ _ => qe_v 2)) (qa_nil))) (qe_gint rfl T.c_MAX_PIECES) rfl) (qw_or1 (qt_cmp op_gt ok_gt (qe_v 1) (qe_gint rfl T.c_MAX_PIECES) rfl)))) (qss_one (qs_raise T.x_TooLarge (mkX_TooLarge T) (hr.mono (by decide)) rfl (takes_of rfl rfl rfl rfl) rfl T.gx_TooLarge rfl rfl (qe_gint rfl T.c_MAX_PIECES))) (qss_nil))
set_option maxHeartbeats 4000000 in
theorem okR_arrangements (T : Tx K mg A) : ∀ n : Nat, FnQ P w K mg base (errC A) (1 + n) A.f_arrangements A.fd_arrangements ["numbers"] (FR_arrangements n 0) := by
  intro n
  induction n with
  | zero => exact fnQ_bad
  | succ n ih =>
    have c_arrangements := ih
    refine ?_
    · refine FnQ.mono (j := 1 + n + 1) ?_ (by omega)
      refine fq_of T.F_arrangements sc_arrangements fun cdv A' outer s H E hr hgu => ?_
      exact qss_cons (qs_if (qt_cmp (op_eqA hr.units) ok_eqA (qe_callB (cr_sum rfl) (.of1 ok_sum) rfl T.m_sum (by decide +kernel) (qa_cons (qe_v 0) (qa_nil))) (qe_int) rfl) (qss_one (qs_ret (qe_lst (qa_cons (qe_tupP (qa_nil)) (qa_nil))))) (qss_nil)) (qss_cons (qs_asg (qe_lstO (qa_nil)) (qg_name 1 sc_arrangements.nd)) (qss_cons (qs_fz 1 (qs_forget [2, 3, 4] (qs_pre [2, 3, 4] (qs_for (passes_of rfl) rfl (qi_enum rfl T.m_enumerate (qe_v 0)) (qg_tup rfl (qgs_cons (qg_name 2 sc_arrangements.nd) (qgs_cons (qg_name 3 sc_arrangements.nd) (qgs_nil))) (hlen := len_cons (len_cons (len_nil)))) (qss_one (qs_forget [2, 3, 4] (qs_if (qt_cmp op_gt ok_gt (qe_v 3) (qe_int) rfl) (qss_cons (qs_asg (qe_bin op_addA ok_add (qe_bin op_addA ok_add (qe_slice (qe_v 0) (qo_none) (qo_some (qe_v 2))) (qe_lst (qa_cons (qe_bin op_sub ok_sub (qe_v 3) (qe_int)) (qa_nil)))) (qe_slice (qe_v 0) (qo_some (qe_bin op_addA ok_add (qe_v 2) (qe_int))) (qo_none))) (qg_name 4 sc_arrangements.nd)) (qss_one (qs_expr (qe_meth1 PySem.F.slot_list_extend PySem.F.type_list_extend mt_extendS ok_extend (qe_v 1) (qe_lc rfl sc_arrangements.nd (qi_seq (qe_call c_arrangements (hr.mono (by omega)) hgu (takes_of rfl rfl rfl rfl) rfl T.g_arrangements T.F_arrangements.kp T.b_arrangements (qa_cons (qe_v 4) (qa_nil)))) (blkOk_by (N := ["numbers", "found", "sort", "number", "rest", "later"]) (sc := defScope s_arrangements) (own := [("later", 5)]) (by decide +kernel)) (fun _ _ _ _ _ => qg_name 5 sc_arrangements.nd) (fun _ _ _ _ _ => qts_nil) (fun _ _ _ _ _ => qe_bin op_catP ok_addP (qe_tupP (qa_cons (qe_v 2) (qa_nil))) (qe_v 5))))))) (qss_nil)))))))) (qss_one (qs_ret (qe_v 1)))))
theorem ok_arrangements (T : Tx K mg A) : FnQ P w K mg base (errC A) 7 A.f_arrangements A.fd_arrangements ["numbers"] F_arrangements := (okR_arrangements T 6)
set_option maxHeartbeats 4000000 in
theorem ok_Unlike_init (T : Tx K mg A) : FnQ P w K mg base (errC A) 2 A.f_Unlike_init A.fd_Unlike_init ["self", "stocks", "days"] F_Unlike_init := by
  refine fqW_of T.F_Unlike_init sc_Unlike_init fun cdv A' outer s H E hr hgu => ?_
  exact qss_cons (qs_setFs rfl (qe_tup (qa_cons (qe_callTy (T := "") call_list_of (.of1 ok_list) rfl T.m_list (by decide +kernel) (qa_cons (qe_v 1) (qa_nil))) (qa_cons (qe_v 2) (qa_nil)))) (qhs_cons (qh_att (C := errC A) 0 T.n_Unlike T.cl_Unlike T.na_Unlike_stocks (qe_v 0)) (qhs_cons (qh_att (C := errC A) 0 T.n_Unlike T.cl_Unlike T.na_Unlike_days (qe_v 0)) (qhs_nil))) (hlen := hlen_cons (hlen_cons (hlen_nil)))) (qss_one (qs_setF T.n_Unlike T.cl_Unlike T.na_Unlike_known (qe_dct0O) (qe_v 0)))
set_option maxHeartbeats 4000000 in
theorem ok_Unlike_ready (T : Tx K mg A) : FnQ P w K mg base (errC A) 2 A.f_Unlike_ready A.fd_Unlike_ready ["self", "state"] F_Unlike_ready := by
  refine fq_of T.F_Unlike_ready sc_Unlike_ready fun cdv A' outer s H E hr hgu => ?_
  exact qss_cons (qs_asg (qe_lc rfl sc_Unlike_ready.nd (qi_seq (qe_v 1)) (blkOk_by (N := ["self", "state", "away", "sort", "back", "number", "repair"]) (sc := defScope s_Unlike_ready) (own := [("sort", 3), ("back", 4)]) (by decide +kernel)) (fun _ _ _ _ _ => qg_tup rfl (qgs_cons (qg_name 3 sc_Unlike_ready.nd) (qgs_cons (qg_name 4 sc_Unlike_ready.nd) (qgs_nil))) (hlen := len_cons (len_cons (len_nil)))) (fun _ _ _ _ _ => qts_nil) (fun _ _ _ _ _ => qe_v 3)) (qg_name 2 sc_Unlike_ready.nd)) (qss_one (qs_ret (qe_lc rfl sc_Unlike_ready.nd (qi_enum rfl T.m_enumerate (qe_fld T.n_Unlike T.cl_Unlike T.na_Unlike_stocks (qe_v 0))) (blkOk_by (N := ["self", "state", "away", "sort", "back", "number", "repair"]) (sc := defScope s_Unlike_ready) (own := [("sort", 3), ("number", 5), ("repair", 6)]) (by decide +kernel)) (fun _ _ _ _ _ => qg_tup rfl (qgs_cons (qg_name 3 sc_Unlike_ready.nd) (qgs_cons (qg_tup rfl (qgs_cons (qg_name 5 sc_Unlike_ready.nd) (qgs_cons (qg_name 6 sc_Unlike_ready.nd) (qgs_nil))) (hlen := len_cons (len_cons (len_nil)))) (qgs_nil))) (hlen := len_cons (len_cons (len_nil)))) (fun _ _ _ _ _ => qts_nil) (fun _ _ _ _ _ => qe_bin op_sub ok_sub (qe_v 5) (qe_count (qe_v 2) (qe_v 3))))))
set_option maxHeartbeats 4000000 in
theorem ok_Unlike_after (T : Tx K mg A) : FnQ P w K mg base (errC A) 2 A.f_Unlike_after A.fd_Unlike_after ["self", "state", "day", "broken"] F_Unlike_after := by
  refine fq_of T.F_Unlike_after sc_Unlike_after fun cdv A' outer s H E hr hgu => ?_
  exact qss_cons (qs_asg (qe_listO rfl T.m_list (by decide +kernel) (qa_cons (qe_v 1) (qa_nil))) (qg_name 4 sc_Unlike_after.nd)) (qss_cons (qs_fz 4 (qs_forget [5, 6] (qs_pre [5, 6] (qs_for (passes_of rfl) rfl (qi_seq (qe_v 3)) (qg_name 5 sc_Unlike_after.nd) (qss_cons (qs_asg (qe_ix ix_A ok_ix (qe_ix ix_A ok_ix (qe_fld T.n_Unlike T.cl_Unlike T.na_Unlike_stocks (qe_v 0)) (qe_v 5)) (qe_int)) (qg_name 6 sc_Unlike_after.nd)) (qss_one (qs_forget [5, 6] (qs_expr (qe_meth1 PySem.F.slot_list_append PySem.F.type_list_append mt_append ok_append (qe_v 4) (qe_tup (qa_cons (qe_v 5) (qa_cons (qe_if (qt_cmp op_isN ok_isN (qe_v 6) (qe_non) rfl) (qe_bin op_addA ok_add (qe_fld T.n_Unlike T.cl_Unlike T.na_Unlike_days (qe_v 0)) (qe_int)) (qe_callB (call_min2 rfl) (.of2 ok_min2) rfl T.m_min (by decide +kernel) (qa_cons (qe_bin op_addA ok_add (qe_bin op_addA ok_add (qe_v 2) (qe_int)) (qe_v 6)) (qa_cons (qe_bin op_addA ok_add (qe_fld T.n_Unlike T.cl_Unlike T.na_Unlike_days (qe_v 0)) (qe_int)) (qa_nil))))) (qa_nil))))))))))))) (qss_one (qs_ret (qe_callTy (T := "") call_tuple_of (.of1 ok_tuple) rfl T.m_tuple (by decide +kernel) (qa_cons (qe_callB (cr_srtB rfl (room70 hr)) (.of1 ok_srtB) rfl T.m_sorted (by decide +kernel) (qa_cons (qe_lc rfl sc_Unlike_after.nd (qi_seq (qe_v 4)) (blkOk_by (N := ["self", "state", "day", "broken", "found", "sort", "repair", "back"]) (sc := defScope s_Unlike_after) (own := [("sort", 5), ("back", 7)]) (by decide +kernel)) (fun _ _ _ _ _ => qg_tup rfl (qgs_cons (qg_name 5 sc_Unlike_after.nd) (qgs_cons (qg_name 7 sc_Unlike_after.nd) (qgs_nil))) (hlen := len_cons (len_cons (len_nil)))) (fun _ _ _ _ _ => qts_one (qt_cmp (op_gtA (units65 hr)) ok_gtA (qe_v 7) (qe_bin op_addA ok_add (qe_v 2) (qe_int)) rfl)) (fun _ _ _ _ _ => qe_tup (qa_cons (qe_v 5) (qa_cons (qe_v 7) (qa_nil))))) (qa_nil))) (qa_nil))))))
set_option maxHeartbeats 4000000 in
theorem okR_Unlike_best (T : Tx K mg A) : ∀ n : Nat, FnQ P w K mg base (errC A) (7 + n) A.f_Unlike_best A.fd_Unlike_best ["self", "state", "day"] (FR_Unlike_best n 0) ∧ FnQ P w K mg base (errC A) (7 + n) A.f_Unlike_value A.fd_Unlike_value ["self", "state", "day", "order"] (FR_Unlike_best n 1) := by
  intro n
  induction n with
  | zero => exact ⟨fnQ_bad, fnQ_bad⟩
  | succ n ih =>
    obtain ⟨c_Unlike_best, c_Unlike_value⟩ := ih
    have c_Unlike_after := ok_Unlike_after (P := P) (w := w) (base := base) T
    have c_Unlike_ready := ok_Unlike_ready (P := P) (w := w) (base := base) T
    have c_arrangements := ok_arrangements (P := P) (w := w) (base := base) T
    refine ⟨?_, ?_⟩
    · refine FnQ.mono (j := 7 + n + 1) ?_ (by omega)
      refine fq_of T.F_Unlike_best sc_Unlike_best fun cdv A' outer s H E hr hgu => ?_
      exact qss_cons (qs_if (qt_cmp op_gt ok_gt (qe_v 2) (qe_fld T.n_Unlike T.cl_Unlike T.na_Unlike_days (qe_v 0)) rfl) (qss_one (qs_ret (qe_tup (qa_cons (qe_int) (qa_cons (qe_non) (qa_nil)))))) (qss_nil)) (qss_cons (qs_if (qt_cmp (op_notInN (room8 hr)) ok_notInN (qe_tup (qa_cons (qe_v 1) (qa_cons (qe_v 2) (qa_nil)))) (qe_fld T.n_Unlike T.cl_Unlike T.na_Unlike_known (qe_v 0)) rfl) (qss_cons (qs_asg (qe_call c_arrangements (hr.mono (by omega)) hgu (takes_of rfl rfl rfl rfl) rfl T.g_arrangements T.F_arrangements.kp T.b_arrangements (qa_cons (qe_methW T.n_Unlike T.cl_Unlike T.m_Unlike_ready c_Unlike_ready (hr.mono (by omega)) hgu (takes_of rfl rfl rfl rfl) T.b_Unlike_ready (qe_v 0) (qa_cons (qe_v 1) (qa_nil))) (qa_nil))) (qg_name 3 sc_Unlike_best.nd)) (qss_cons (qs_lc (i := 4) rfl sc_Unlike_best.nd rfl rfl (sw_true rfl rfl rfl (by decide +kernel)) (qi_seq (qe_v 3)) (blkOk_by (N := ["self", "state", "day", "orders", "values", "order"]) (sc := defScope s_Unlike_best) (own := [("order", 5)]) (by decide +kernel)) (fun _ _ _ _ _ => qg_name 5 sc_Unlike_best.nd) (fun _ _ _ _ _ => qts_nil) (fun _ _ _ _ _ => qe_methW T.n_Unlike T.cl_Unlike T.m_Unlike_value c_Unlike_value (hr.mono (by omega)) hgu takes_no T.b_Unlike_value (qe_v 0) (qa_cons (qe_v 1) (qa_cons (qe_v 2) (qa_cons (qe_v 5) (qa_nil)))))) (qss_one (qs_setX (room8 hr) (qe_tup (qa_cons (qe_callB (cr_max rfl) (.of1 ok_max) rfl T.m_max (by decide +kernel) (qa_cons (qe_v 4) (qa_nil))) (qa_cons (qe_ix ix_A ok_ix (qe_v 3) (qe_index (units65 hr) (qe_v 4) (qe_callB (cr_max rfl) (.of1 ok_max) rfl T.m_max (by decide +kernel) (qa_cons (qe_v 4) (qa_nil))))) (qa_nil)))) (qe_fld T.n_Unlike T.cl_Unlike T.na_Unlike_known (qe_v 0)) (qe_tup (qa_cons (qe_v 1) (qa_cons (qe_v 2) (qa_nil)))))))) (qss_nil)) (qss_one (qs_ret (qe_ix (ix_N (room8 hr)) ok_ixN (qe_fld T.n_Unlike T.cl_Unlike T.na_Unlike_known (qe_v 0)) (qe_tup (qa_cons (qe_v 1) (qa_cons (qe_v 2) (qa_nil))))))))
    · refine FnQ.mono (j := 7 + n + 1) ?_ (by omega)
      refine fq_of T.F_Unlike_value sc_Unlike_value fun cdv A' outer s H E hr hgu => ?_
      exact qss_cons (qs_lc (i := 4) rfl sc_Unlike_value.nd rfl rfl (sw_true rfl rfl rfl (by decide +kernel)) (qi_rng1 rfl T.m_range (qa_cons (qe_bin op_addA ok_add (qe_callB call_len (.of1 ok_len) rfl T.m_len (by decide +kernel) (qa_cons (qe_wk (qe_v 3)) (qa_nil))) (qe_int)) (qa_nil))) (blkOk_by (N := ["self", "state", "day", "order", "some", "broken", "later"]) (sc := defScope s_Unlike_value) (own := [("broken", 5)]) (by decide +kernel)) (fun _ _ _ _ _ => qg_name 5 sc_Unlike_value.nd) (fun _ _ _ _ _ => qts_nil) (fun _ _ _ _ _ => qe_methW T.n_Unlike T.cl_Unlike T.m_Unlike_after c_Unlike_after (hr.mono (by omega)) hgu takes_no T.b_Unlike_after (qe_v 0) (qa_cons (qe_v 1) (qa_cons (qe_v 2) (qa_cons (qe_slice (qe_wk (qe_v 3)) (qo_none) (qo_some (qe_v 5))) (qa_nil)))))) (qss_one (qs_ret (qe_callB (cr_sum rfl) (.of1 ok_sum) rfl T.m_sum (by decide +kernel) (qa_cons (qe_lc rfl sc_Unlike_value.nd (qi_seq (qe_v 4)) (blkOk_by (N := ["self", "state", "day", "order", "some", "broken", "later"]) (sc := defScope s_Unlike_value) (own := [("later", 6)]) (by decide +kernel)) (fun _ _ _ _ _ => qg_name 6 sc_Unlike_value.nd) (fun _ _ _ _ _ => qts_nil) (fun _ _ _ _ _ => qe_ix ix_A ok_ix (qe_methW T.n_Unlike T.cl_Unlike T.m_Unlike_best c_Unlike_best (hr.mono (by omega)) hgu takes_no T.b_Unlike_best (qe_v 0) (qa_cons (qe_v 6) (qa_cons (qe_bin op_addA ok_add (qe_v 2) (qe_int)) (qa_nil)))) (qe_int))) (qa_nil)))))
theorem ok_Unlike_best (T : Tx K mg A) : FnQ P w K mg base (errC A) 27 A.f_Unlike_best A.fd_Unlike_best ["self", "state", "day"] F_Unlike_best := (okR_Unlike_best T 20).1
theorem ok_Unlike_value (T : Tx K mg A) : FnQ P w K mg base (errC A) 27 A.f_Unlike_value A.fd_Unlike_value ["self", "state", "day", "order"] F_Unlike_value := (okR_Unlike_best T 20).2
set_option maxHeartbeats 4000000 in
theorem okR_Unlike_rows (T : Tx K mg A) : ∀ n : Nat, FnQ P w K mg base (errC A) (27 + n) A.f_Unlike_rows A.fd_Unlike_rows ["self", "past", "state"] (FR_Unlike_rows n 0) := by
  intro n
  induction n with
  | zero => exact fnQ_bad
  | succ n ih =>
    have c_Unlike_rows := ih
    have c_Unlike_after := ok_Unlike_after (P := P) (w := w) (base := base) T
    have c_Unlike_best := ok_Unlike_best (P := P) (w := w) (base := base) T
    refine ?_
    · refine FnQ.mono (j := 27 + n + 1) ?_ (by omega)
      refine fq_of T.F_Unlike_rows sc_Unlike_rows fun cdv A' outer s H E hr hgu => ?_
      exact qss_cons (qs_asg (qe_bin op_addA ok_add (qe_callB call_len (.of1 ok_len) rfl T.m_len (by decide +kernel) (qa_cons (qe_v 1) (qa_nil))) (qe_int)) (qg_name 3 sc_Unlike_rows.nd)) (qss_cons (qs_if (qt_cmp op_gt ok_gt (qe_v 3) (qe_fld T.n_Unlike T.cl_Unlike T.na_Unlike_days (qe_v 0)) rfl) (qss_one (qs_ret (qe_lstO (qa_nil)))) (qss_nil)) (qss_cons (qs_asg (qe_ix ix_A ok_ix (qe_methW T.n_Unlike T.cl_Unlike T.m_Unlike_best c_Unlike_best (hr.mono (by omega)) hgu (takes_of rfl rfl rfl rfl) T.b_Unlike_best (qe_v 0) (qa_cons (qe_v 2) (qa_cons (qe_v 3) (qa_nil)))) (qe_int)) (qg_name 4 sc_Unlike_rows.nd)) (qss_cons (qs_asg (qe_lstO (qa_cons (qe_tup (qa_cons (qe_v 1) (qa_cons (qe_v 4) (qa_nil)))) (qa_nil))) (qg_name 5 sc_Unlike_rows.nd)) (qss_cons (qs_forget [6] (qs_pre [6] (qs_for (passes_of rfl) rfl (qi_rng1 rfl T.m_range (qa_cons (qe_bin op_addA ok_add (qe_callB call_len (.of1 ok_len) rfl T.m_len (by decide +kernel) (qa_cons (qe_wk (qe_v 4)) (qa_nil))) (qe_int)) (qa_nil))) (qg_name 6 sc_Unlike_rows.nd) (qss_one (qs_forget [6] (qs_expr (qe_meth1 PySem.F.slot_list_extend PySem.F.type_list_extend mt_extendS ok_extend (qe_v 5) (qe_methW T.n_Unlike T.cl_Unlike T.m_Unlike_rows c_Unlike_rows (hr.mono (by omega)) hgu (takes_of rfl rfl rfl rfl) T.b_Unlike_rows (qe_v 0) (qa_cons (qe_bin op_addA ok_add (qe_v 1) (qe_tup (qa_cons (qe_v 6) (qa_nil)))) (qa_cons (qe_methW T.n_Unlike T.cl_Unlike T.m_Unlike_after c_Unlike_after (hr.mono (by omega)) hgu (takes_of rfl rfl rfl rfl) T.b_Unlike_after (qe_v 0) (qa_cons (qe_v 2) (qa_cons (qe_v 3) (qa_cons (qe_slice (qe_wk (qe_v 4)) (qo_none) (qo_some (qe_v 6))) (qa_nil))))) (qa_nil))))))))))) (qss_one (qs_ret (qe_v 5)))))))
theorem ok_Unlike_rows (T : Tx K mg A) : FnQ P w K mg base (errC A) 33 A.f_Unlike_rows A.fd_Unlike_rows ["self", "past", "state"] F_Unlike_rows := (okR_Unlike_rows T 6)
set_option maxHeartbeats 4000000 in
theorem ok_unlike_levels (T : Tx K mg A) : FnQ P w K mg base (errC A) 28 A.f_unlike_levels A.fd_unlike_levels ["stocks", "days"] F_unlike_levels := by
  have c_Unlike_init := ok_Unlike_init (P := P) (w := w) (base := base) T
  have c_Unlike_best := ok_Unlike_best (P := P) (w := w) (base := base) T
  have c_require_few := ok_require_few (P := P) (w := w) (base := base) T
  have c_require_stocks := ok_require_stocks (P := P) (w := w) (base := base) T
  refine fq_of T.F_unlike_levels sc_unlike_levels fun cdv A' outer s H E hr hgu => ?_
  exact qss_cons (qs_expr (qe_call c_require_stocks (hr.mono (by decide)) hgu (takes_of rfl rfl rfl rfl) rfl T.g_require_stocks T.F_require_stocks.kp T.b_require_stocks (qa_cons (qe_v 0) (qa_cons (qe_v 1) (qa_nil))))) (qss_cons (qs_expr (qe_call c_require_few (hr.mono (by decide)) hgu (takes_of rfl rfl rfl rfl) rfl T.g_require_few T.F_require_few.kp T.b_require_few (qa_cons (qe_v 0) (qa_cons (qe_v 1) (qa_nil))))) (qss_one (qs_ret (qe_ix ix_A ok_ix (qe_methW T.n_Unlike T.cl_Unlike T.m_Unlike_best c_Unlike_best (hr.mono (by decide)) hgu (takes_of rfl rfl rfl rfl) T.b_Unlike_best (qe_newW T.n_Unlike T.mk_Unlike c_Unlike_init (hr.mono (by decide)) hgu (takes_of rfl rfl rfl rfl) rfl T.g_Unlike T.b_Unlike_init (qa_cons (qe_v 0) (qa_cons (qe_v 1) (qa_nil)))) (qa_cons (qe_tup (qa_nil)) (qa_cons (qe_int) (qa_nil)))) (qe_int)))))
set_option maxHeartbeats 4000000 in
theorem ok_best_orders (T : Tx K mg A) : FnQ P w K mg base (errC A) 28 A.f_best_orders A.fd_best_orders ["stocks", "days"] F_best_orders := by
  have c_Unlike_init := ok_Unlike_init (P := P) (w := w) (base := base) T
  have c_Unlike_best := ok_Unlike_best (P := P) (w := w) (base := base) T
  have c_Unlike_ready := ok_Unlike_ready (P := P) (w := w) (base := base) T
  have c_Unlike_value := ok_Unlike_value (P := P) (w := w) (base := base) T
  have c_arrangements := ok_arrangements (P := P) (w := w) (base := base) T
  have c_require_few := ok_require_few (P := P) (w := w) (base := base) T
  have c_require_stocks := ok_require_stocks (P := P) (w := w) (base := base) T
  refine fq_of T.F_best_orders sc_best_orders fun cdv A' outer s H E hr hgu => ?_
  exact qss_cons (qs_expr (qe_call c_require_stocks (hr.mono (by decide)) hgu (takes_of rfl rfl rfl rfl) rfl T.g_require_stocks T.F_require_stocks.kp T.b_require_stocks (qa_cons (qe_v 0) (qa_cons (qe_v 1) (qa_nil))))) (qss_cons (qs_expr (qe_call c_require_few (hr.mono (by decide)) hgu (takes_of rfl rfl rfl rfl) rfl T.g_require_few T.F_require_few.kp T.b_require_few (qa_cons (qe_v 0) (qa_cons (qe_v 1) (qa_nil))))) (qss_cons (qs_if (qt_cmp (op_eqA hr.units) ok_eqA (qe_v 1) (qe_int) rfl) (qss_one (qs_ret (qe_lstO (qa_cons (qe_tup (qa_nil)) (qa_nil))))) (qss_nil)) (qss_cons (qs_asg (qe_newW T.n_Unlike T.mk_Unlike c_Unlike_init (hr.mono (by decide)) hgu (takes_of rfl rfl rfl rfl) rfl T.g_Unlike T.b_Unlike_init (qa_cons (qe_v 0) (qa_cons (qe_v 1) (qa_nil)))) (qg_name 2 sc_best_orders.nd)) (qss_cons (qs_asg (qe_ix ix_A ok_ix (qe_methW T.n_Unlike T.cl_Unlike T.m_Unlike_best c_Unlike_best (hr.mono (by decide)) hgu (takes_of rfl rfl rfl rfl) T.b_Unlike_best (qe_v 2) (qa_cons (qe_tup (qa_nil)) (qa_cons (qe_int) (qa_nil)))) (qe_int)) (qg_name 3 sc_best_orders.nd)) (qss_one (qs_ret (qe_lcO rfl sc_best_orders.nd (qi_seq (qe_call c_arrangements (hr.mono (by decide)) hgu (takes_of rfl rfl rfl rfl) rfl T.g_arrangements T.F_arrangements.kp T.b_arrangements (qa_cons (qe_methW T.n_Unlike T.cl_Unlike T.m_Unlike_ready c_Unlike_ready (hr.mono (by decide)) hgu (takes_of rfl rfl rfl rfl) T.b_Unlike_ready (qe_v 2) (qa_cons (qe_tup (qa_nil)) (qa_nil))) (qa_nil)))) (blkOk_by (N := ["stocks", "days", "unlike", "most", "order"]) (sc := defScope s_best_orders) (own := [("order", 4)]) (by decide +kernel)) (fun _ _ _ _ _ => qg_name 4 sc_best_orders.nd) (fun _ _ _ _ _ => qts_one (qt_cmp (op_eqA hr.units) ok_eqA (qe_methW T.n_Unlike T.cl_Unlike T.m_Unlike_value c_Unlike_value (hr.mono (by decide)) hgu takes_no T.b_Unlike_value (qe_v 2) (qa_cons (qe_tup (qa_nil)) (qa_cons (qe_int) (qa_cons (qe_v 4) (qa_nil))))) (qe_v 3) rfl)) (fun _ _ _ _ _ => qe_v 4))))))))
set_option maxHeartbeats 4000000 in
theorem ok_unlike_table (T : Tx K mg A) : FnQ P w K mg base (errC A) 34 A.f_unlike_table A.fd_unlike_table ["stocks", "days"] F_unlike_table := by
  have c_Unlike_init := ok_Unlike_init (P := P) (w := w) (base := base) T
  have c_Unlike_best := ok_Unlike_best (P := P) (w := w) (base := base) T
  have c_Unlike_rows := ok_Unlike_rows (P := P) (w := w) (base := base) T
  have c_require_few := ok_require_few (P := P) (w := w) (base := base) T
  have c_require_stocks := ok_require_stocks (P := P) (w := w) (base := base) T
  refine fqW_of T.F_unlike_table sc_unlike_table fun cdv A' outer s H E hr hgu => ?_
  exact qss_cons (qs_expr (qe_call c_require_stocks (hr.mono (by decide)) hgu (takes_of rfl rfl rfl rfl) rfl T.g_require_stocks T.F_require_stocks.kp T.b_require_stocks (qa_cons (qe_v 0) (qa_cons (qe_v 1) (qa_nil))))) (qss_cons (qs_expr (qe_call c_require_few (hr.mono (by decide)) hgu (takes_of rfl rfl rfl rfl) rfl T.g_require_few T.F_require_few.kp T.b_require_few (qa_cons (qe_v 0) (qa_cons (qe_v 1) (qa_nil))))) (qss_cons (qs_asg (qe_newW T.n_Unlike T.mk_Unlike c_Unlike_init (hr.mono (by decide)) hgu (takes_of rfl rfl rfl rfl) rfl T.g_Unlike T.b_Unlike_init (qa_cons (qe_v 0) (qa_cons (qe_v 1) (qa_nil)))) (qg_name 2 sc_unlike_table.nd)) (qss_one (qs_ret (qe_tup (qa_cons (qe_ix ix_A ok_ix (qe_methW T.n_Unlike T.cl_Unlike T.m_Unlike_best c_Unlike_best (hr.mono (by decide)) hgu (takes_of rfl rfl rfl rfl) T.b_Unlike_best (qe_v 2) (qa_cons (qe_tup (qa_nil)) (qa_cons (qe_int) (qa_nil)))) (qe_int)) (qa_cons (qe_methW T.n_Unlike T.cl_Unlike T.m_Unlike_rows c_Unlike_rows (hr.mono (by decide)) hgu (takes_of rfl rfl rfl rfl) T.b_Unlike_rows (qe_v 2) (qa_cons (qe_tup (qa_nil)) (qa_cons (qe_tup (qa_nil)) (qa_nil)))) (qa_nil))))))))
set_option maxHeartbeats 4000000 in
theorem ok_law_mixed (T : Tx K mg A) : FnQ P w K mg base (errC A) 2 A.f_law_mixed A.fd_law_mixed ["_law_cell", "_law_k"] F_law_mixed := by
  refine fq_of T.F_law_mixed sc_law_mixed fun cdv A' outer s H E hr hgu => ?_
  exact qss_cons (qs_asg (qe_bin op_modP ok_mod (qe_bin op_mulT ok_mulT (qe_bin op_addA ok_add (qe_bin op_modP ok_mod (qe_v 0) (qe_int)) (qe_int)) (qe_bin op_addA ok_add (qe_bin op_mulT ok_mulT (qe_v 1) (qe_int)) (qe_int))) (qe_int)) (qg_name 2 sc_law_mixed.nd)) (qss_cons (qs_asg (qe_bin op_modP ok_mod (qe_bin op_mulT ok_mulT (qe_bin op_addA ok_add (qe_v 2) (qe_bin op_mulT ok_mulT (qe_bin op_modP ok_mod (qe_bin op_fdivW ok_fdiv (qe_v 0) (qe_int)) (qe_int)) (qe_bin op_addA ok_add (qe_v 1) (qe_int)))) (qe_int)) (qe_int)) (qg_name 2 sc_law_mixed.nd)) (qss_cons (qs_asg (qe_bin op_modP ok_mod (qe_bin op_mulT ok_mulT (qe_v 2) (qe_bin op_addA ok_add (qe_bin op_addA ok_add (qe_bin op_fdivW ok_fdiv (qe_v 2) (qe_int)) (qe_int)) (qe_v 1))) (qe_int)) (qg_name 2 sc_law_mixed.nd)) (qss_one (qs_ret (qe_bin op_modP ok_mod (qe_bin op_mulT ok_mulT (qe_v 2) (qe_bin op_addA ok_add (qe_bin op_fdivW ok_fdiv (qe_v 2) (qe_int)) (qe_int))) (qe_int))))))
set_option maxHeartbeats 4000000 in
theorem ok_law_source (T : Tx K mg A) : FnQ P w K mg base (errC A) 2 A.f_law_source A.fd_law_source ["_law_cell"] F_law_source := by
  refine fq_of T.F_law_source sc_law_source fun cdv A' outer s H E hr hgu => ?_
  exact qss_one (qs_ret (qe_lstO (qa_cons (qe_v 0) (qa_cons (qe_v 0) (qa_cons (qe_int) (qa_nil))))))
set_option maxHeartbeats 4000000 in
theorem ok_law_take (T : Tx K mg A) : FnQ P w K mg base (errC A) 3 A.f_law_take A.fd_law_take ["_law_source_here", "_law_many"] F_law_take := by
  have c_law_mixed := ok_law_mixed (P := P) (w := w) (base := base) T
  refine fq_of T.F_law_take sc_law_take fun cdv A' outer s H E hr hgu => ?_
  exact qss_cons (qs_if (qt_cmp op_ge ok_ge (qe_ix ix_A ok_ix (qe_v 0) (qe_int)) (qe_bin op_pow ok_pow (qe_int) (qe_int)) rfl) (qss_cons (qs_asg (qe_bin op_modP ok_mod (qe_ix ix_A ok_ix (qe_v 0) (qe_int)) (qe_v 1)) (qg_name 2 sc_law_take.nd)) (qss_cons (qs_setI (qe_bin op_fdivW ok_fdiv (qe_ix ix_A ok_ix (qe_v 0) (qe_int)) (qe_v 1)) (qe_v 0) (qe_int)) (qss_one (qs_ret (qe_v 2))))) (qss_nil)) (qss_cons (qs_setI (qe_bin op_addA ok_add (qe_ix ix_A ok_ix (qe_v 0) (qe_int)) (qe_int)) (qe_v 0) (qe_int)) (qss_one (qs_ret (qe_bin op_modP ok_mod (qe_call c_law_mixed (hr.mono (by decide)) hgu (takes_of rfl rfl rfl rfl) rfl T.g_law_mixed T.F_law_mixed.kp T.b_law_mixed (qa_cons (qe_ix ix_A ok_ix (qe_v 0) (qe_int)) (qa_cons (qe_ix ix_A ok_ix (qe_v 0) (qe_int)) (qa_nil)))) (qe_v 1)))))
set_option maxHeartbeats 4000000 in
theorem ok_law_one (T : Tx K mg A) : FnQ P w K mg base (errC A) 4 A.f_law_one A.fd_law_one ["_law_source_here", "_law_some"] F_law_one := by
  have c_law_take := ok_law_take (P := P) (w := w) (base := base) T
  refine fq_of T.F_law_one sc_law_one fun cdv A' outer s H E hr hgu => ?_
  exact qss_one (qs_ret (qe_ix ix_A ok_ix (qe_v 1) (qe_call c_law_take (hr.mono (by decide)) hgu (takes_of rfl rfl rfl rfl) rfl T.g_law_take T.F_law_take.kp T.b_law_take (qa_cons (qe_v 0) (qa_cons (qe_callB call_len (.of1 ok_len) rfl T.m_len (by decide +kernel) (qa_cons (qe_v 1) (qa_nil))) (qa_nil))))))
set_option maxHeartbeats 4000000 in
theorem ok_law_stocks (T : Tx K mg A) : FnQ P w K mg base (errC A) 5 A.f_law_stocks A.fd_law_stocks ["_law_source_here", "_law_sorts_most", "_law_pieces_most"] F_law_stocks := by
  have c_law_one := ok_law_one (P := P) (w := w) (base := base) T
  have c_law_take := ok_law_take (P := P) (w := w) (base := base) T
  refine fq_of T.F_law_stocks sc_law_stocks fun cdv A' outer s H E hr hgu => ?_
  exact qss_cons (qs_par2 3 4 rfl sc_law_stocks.nd (qa_cons (qe_lstO (qa_nil)) (qa_cons (qe_v 2) (qa_nil)))) (qss_cons (qs_fz 3 (qs_forget [4, 5, 6] (qs_pre [5, 6] (qs_for (passes_of rfl) rfl (qi_rng1 rfl T.m_range (qa_cons (qe_bin op_addA ok_add (qe_int) (qe_call c_law_take (hr.mono (by decide)) hgu (takes_of rfl rfl rfl rfl) rfl T.g_law_take T.F_law_take.kp T.b_law_take (qa_cons (qe_v 0) (qa_cons (qe_v 1) (qa_nil))))) (qa_nil))) (qg_name 5 sc_law_stocks.nd) (qss_cons (qs_asg (qe_call c_law_take (hr.mono (by decide)) hgu (takes_of rfl rfl rfl rfl) rfl T.g_law_take T.F_law_take.kp T.b_law_take (qa_cons (qe_v 0) (qa_cons (qe_bin op_addA ok_add (qe_v 4) (qe_int)) (qa_nil)))) (qg_name 6 sc_law_stocks.nd)) (qss_cons (qs_expr (qe_meth1 PySem.F.slot_list_append PySem.F.type_list_append mt_append ok_append (qe_v 3) (qe_tup (qa_cons (qe_v 6) (qa_cons (qe_call c_law_one (hr.mono (by decide)) hgu (takes_of rfl rfl rfl rfl) rfl T.g_law_one T.F_law_one.kp T.b_law_one (qa_cons (qe_v 0) (qa_cons (qe_lst (qa_cons (qe_int) (qa_cons (qe_int) (qa_cons (qe_int) (qa_cons (qe_int) (qa_cons (qe_bin op_pow ok_pow (qe_int) (qe_int)) (qa_cons (qe_non) (qa_nil)))))))) (qa_nil)))) (qa_nil)))))) (qss_one (qs_forget [5, 6] (qs_asg (qe_bin op_sub ok_sub (qe_v 4) (qe_v 6)) (qg_name 4 sc_law_stocks.nd)))))))))) (qss_one (qs_ret (qe_v 3))))
set_option maxHeartbeats 4000000 in
theorem ok_law_usable (T : Tx K mg A) : FnQ P w K mg base (errC A) 2 A.f_law_usable A.fd_law_usable ["_law_stock_used", "_law_broken_on", "_law_day"] F_law_usable := by
  refine fq_of T.F_law_usable sc_law_usable fun cdv A' outer s H E hr hgu => ?_
  exact qss_cons (qs_asg (qe_lstO (qa_nil)) (qg_name 3 sc_law_usable.nd)) (qss_cons (qs_fz 3 (qs_forget [4, 5, 6, 7] (qs_pre [4, 5, 6, 7] (qs_for (passes_of rfl) rfl (qi_zip rfl T.m_zip (qe_v 0) (qe_v 1)) (qg_tup rfl (qgs_cons (qg_tup rfl (qgs_cons (qg_name 4 sc_law_usable.nd) (qgs_cons (qg_name 5 sc_law_usable.nd) (qgs_nil))) (hlen := len_cons (len_cons (len_nil)))) (qgs_cons (qg_name 6 sc_law_usable.nd) (qgs_nil))) (hlen := len_cons (len_cons (len_nil)))) (qss_cons (qs_lc (i := 7) rfl sc_law_usable.nd rfl rfl (sw_true rfl rfl rfl (by decide +kernel)) (qi_seq (qe_v 6)) (blkOk_by (N := ["_law_stock_used", "_law_broken_on", "_law_day", "_law_found", "_law_many", "_law_repair_days", "_law_some", "_law_gone", "_law_at"]) (sc := defScope s_law_usable) (own := [("_law_at", 8)]) (by decide +kernel)) (fun _ _ _ _ _ => qg_name 8 sc_law_usable.nd) (fun _ _ _ _ _ => qts_one (qt_of (qw_or (qt_cmp op_isN ok_isN (qe_v 5) (qe_non) rfl) (qw_or1 (qt_cmp op_gt ok_gt (qe_bin op_addA ok_add (qe_bin op_addA ok_add (qe_v 8) (qe_int)) (qe_v 5)) (qe_v 2) rfl))))) (fun _ _ _ _ _ => qe_v 8)) (qss_one (qs_forget [4, 5, 6, 7] (qs_expr (qe_meth1 PySem.F.slot_list_append PySem.F.type_list_append mt_append ok_append (qe_v 3) (qe_bin op_sub ok_sub (qe_v 4) (qe_callB call_len (.of1 ok_len) rfl T.m_len (by decide +kernel) (qa_cons (qe_v 7) (qa_nil))))))))))))) (qss_one (qs_ret (qe_v 3))))
set_option maxHeartbeats 4000000 in
theorem okR_law_arranged (T : Tx K mg A) : ∀ n : Nat, FnQ P w K mg base (errC A) (1 + n) A.f_law_arranged A.fd_law_arranged ["_law_numbers"] (FR_law_arranged n 0) := by
  intro n
  induction n with
  | zero => exact fnQ_bad
  | succ n ih =>
    have c_law_arranged := ih
    refine ?_
    · refine FnQ.mono (j := 1 + n + 1) ?_ (by omega)
      refine fq_of T.F_law_arranged sc_law_arranged fun cdv A' outer s H E hr hgu => ?_
      exact qss_cons (qs_asg (qe_lstO (qa_cons (qe_tup (qa_nil)) (qa_nil))) (qg_name 1 sc_law_arranged.nd)) (qss_cons (qs_fz 1 (qs_forget [2, 3, 4] (qs_pre [2, 3, 4] (qs_for (passes_of rfl) rfl (qi_enum rfl T.m_enumerate (qe_v 0)) (qg_tup rfl (qgs_cons (qg_name 2 sc_law_arranged.nd) (qgs_cons (qg_name 3 sc_law_arranged.nd) (qgs_nil))) (hlen := len_cons (len_cons (len_nil)))) (qss_one (qs_forget [2, 3, 4] (qs_if (qt_cmp op_gt ok_gt (qe_v 3) (qe_int) rfl) (qss_cons (qs_asg (qe_bin op_addA ok_add (qe_bin op_addA ok_add (qe_slice (qe_v 0) (qo_none) (qo_some (qe_v 2))) (qe_lst (qa_cons (qe_bin op_sub ok_sub (qe_v 3) (qe_int)) (qa_nil)))) (qe_slice (qe_v 0) (qo_some (qe_bin op_addA ok_add (qe_v 2) (qe_int))) (qo_none))) (qg_name 4 sc_law_arranged.nd)) (qss_one (qs_expr (qe_meth1 PySem.F.slot_list_extend PySem.F.type_list_extend mt_extendS ok_extend (qe_v 1) (qe_lc rfl sc_law_arranged.nd (qi_seq (qe_call c_law_arranged (hr.mono (by omega)) hgu (takes_of rfl rfl rfl rfl) rfl T.g_law_arranged T.F_law_arranged.kp T.b_law_arranged (qa_cons (qe_v 4) (qa_nil)))) (blkOk_by (N := ["_law_numbers", "_law_found", "_law_sort_here", "_law_many", "_law_rest", "_law_later"]) (sc := defScope s_law_arranged) (own := [("_law_later", 5)]) (by decide +kernel)) (fun _ _ _ _ _ => qg_name 5 sc_law_arranged.nd) (fun _ _ _ _ _ => qts_nil) (fun _ _ _ _ _ => qe_bin op_addA ok_add (qe_tup (qa_cons (qe_v 2) (qa_nil))) (qe_v 5))))))) (qss_nil)))))))) (qss_one (qs_ret (qe_v 1))))
theorem ok_law_arranged (T : Tx K mg A) : FnQ P w K mg base (errC A) 7 A.f_law_arranged A.fd_law_arranged ["_law_numbers"] F_law_arranged := (okR_law_arranged T 6)
set_option maxHeartbeats 4000000 in
theorem ok_law_hit (T : Tx K mg A) : FnQ P w K mg base (errC A) 2 A.f_law_hit A.fd_law_hit ["_law_broken_on", "_law_some", "_law_day"] F_law_hit := by
  refine fq_of T.F_law_hit sc_law_hit fun cdv A' outer s H E hr hgu => ?_
  exact qss_cons (qs_asg (qe_listO rfl T.m_list (by decide +kernel) (qa_cons (qe_v 0) (qa_nil))) (qg_name 3 sc_law_hit.nd)) (qss_cons (qs_fz 3 (qs_forget [4] (qs_pre [4] (qs_for (passes_of rfl) rfl (qi_seq (qe_v 1)) (qg_name 4 sc_law_hit.nd) (qss_one (qs_forget [4] (qs_setI (qe_bin op_addA ok_add (qe_ix ix_A ok_ix (qe_v 3) (qe_v 4)) (qe_tup (qa_cons (qe_v 2) (qa_nil)))) (qe_v 3) (qe_v 4)))))))) (qss_one (qs_ret (qe_callTy (T := "") call_tuple_of (.of1 ok_tuple) rfl T.m_tuple (by decide +kernel) (qa_cons (qe_v 3) (qa_nil))))))
set_option maxHeartbeats 4000000 in
theorem okR_law_worth (T : Tx K mg A) : ∀ n : Nat, FnQ P w K mg base (errC A) (7 + n) A.f_law_worth A.fd_law_worth ["_law_stock_used", "_law_last", "_law_broken_on", "_law_day", "_law_order_used", "_law_known"] (FR_law_worth n 0) ∧ FnQ P w K mg base (errC A) (7 + n) A.f_law_most A.fd_law_most ["_law_stock_used", "_law_last", "_law_broken_on", "_law_day", "_law_known"] (FR_law_worth n 1) := by
  intro n
  induction n with
  | zero => exact ⟨fnQ_bad, fnQ_bad⟩
  | succ n ih =>
    obtain ⟨c_law_worth, c_law_most⟩ := ih
    have c_law_arranged := ok_law_arranged (P := P) (w := w) (base := base) T
    have c_law_hit := ok_law_hit (P := P) (w := w) (base := base) T
    have c_law_usable := ok_law_usable (P := P) (w := w) (base := base) T
    refine ⟨?_, ?_⟩
    · refine FnQ.mono (j := 7 + n + 1) ?_ (by omega)
      refine fq_of T.F_law_worth sc_law_worth fun cdv A' outer s H E hr hgu => ?_
      exact qss_cons (qs_asg (qe_int) (qg_name 6 sc_law_worth.nd)) (qss_cons (qs_forget [7, 8] (qs_pre [7, 8] (qs_for (passes_of rfl) rfl (qi_rng1 rfl T.m_range (qa_cons (qe_bin op_addA ok_add (qe_callB call_len (.of1 ok_len) rfl T.m_len (by decide +kernel) (qa_cons (qe_v 4) (qa_nil))) (qe_int)) (qa_nil))) (qg_name 7 sc_law_worth.nd) (qss_cons (qs_asg (qe_call c_law_hit (hr.mono (by omega)) hgu (takes_of rfl rfl rfl rfl) rfl T.g_law_hit T.F_law_hit.kp T.b_law_hit (qa_cons (qe_v 2) (qa_cons (qe_slice (qe_v 4) (qo_none) (qo_some (qe_v 7))) (qa_cons (qe_v 3) (qa_nil))))) (qg_name 8 sc_law_worth.nd)) (qss_one (qs_forget [7, 8] (qs_asg (qe_bin op_addA ok_add (qe_v 6) (qe_call c_law_most (hr.mono (by omega)) hgu (takes_of rfl rfl rfl rfl) rfl T.g_law_most T.F_law_most.kp T.b_law_most (qa_cons (qe_v 0) (qa_cons (qe_v 1) (qa_cons (qe_v 8) (qa_cons (qe_bin op_addA ok_add (qe_v 3) (qe_int)) (qa_cons (qe_v 5) (qa_nil)))))))) (qg_name 6 sc_law_worth.nd)))))))) (qss_one (qs_ret (qe_v 6))))
    · refine FnQ.mono (j := 7 + n + 1) ?_ (by omega)
      refine fq_of T.F_law_most sc_law_most fun cdv A' outer s H E hr hgu => ?_
      exact qss_cons (qs_if (qt_cmp op_gt ok_gt (qe_v 3) (qe_v 1) rfl) (qss_one (qs_ret (qe_int))) (qss_nil)) (qss_cons (qs_if (qt_cmp (op_notInN (room8 hr)) ok_notInN (qe_tup (qa_cons (qe_v 2) (qa_cons (qe_v 3) (qa_nil)))) (qe_v 4) rfl) (qss_cons (qs_asg (qe_call c_law_arranged (hr.mono (by omega)) hgu (takes_of rfl rfl rfl rfl) rfl T.g_law_arranged T.F_law_arranged.kp T.b_law_arranged (qa_cons (qe_call c_law_usable (hr.mono (by omega)) hgu (takes_of rfl rfl rfl rfl) rfl T.g_law_usable T.F_law_usable.kp T.b_law_usable (qa_cons (qe_v 0) (qa_cons (qe_v 2) (qa_cons (qe_v 3) (qa_nil))))) (qa_nil))) (qg_name 5 sc_law_most.nd)) (qss_cons (qs_lc (i := 6) rfl sc_law_most.nd rfl rfl (sw_true rfl rfl rfl (by decide +kernel)) (qi_seq (qe_v 5)) (blkOk_by (N := ["_law_stock_used", "_law_last", "_law_broken_on", "_law_day", "_law_known", "_law_some", "_law_amounts", "_law_one_here"]) (sc := defScope s_law_most) (own := [("_law_one_here", 7)]) (by decide +kernel)) (fun _ _ _ _ _ => qg_name 7 sc_law_most.nd) (fun _ _ _ _ _ => qts_nil) (fun _ _ _ _ _ => qe_call c_law_worth (hr.mono (by omega)) hgu takes_no rfl T.g_law_worth T.F_law_worth.kp T.b_law_worth (qa_cons (qe_v 0) (qa_cons (qe_v 1) (qa_cons (qe_v 2) (qa_cons (qe_v 3) (qa_cons (qe_v 7) (qa_cons (qe_v 4) (qa_nil))))))))) (qss_one (qs_setX (room8 hr) (qe_callB (cr_max rfl) (.of1 ok_max) rfl T.m_max (by decide +kernel) (qa_cons (qe_v 6) (qa_nil))) (qe_v 4) (qe_tup (qa_cons (qe_v 2) (qa_cons (qe_v 3) (qa_nil)))))))) (qss_nil)) (qss_one (qs_ret (qe_ix (ix_N (room8 hr)) ok_ixN (qe_v 4) (qe_tup (qa_cons (qe_v 2) (qa_cons (qe_v 3) (qa_nil))))))))
theorem ok_law_worth (T : Tx K mg A) : FnQ P w K mg base (errC A) 19 A.f_law_worth A.fd_law_worth ["_law_stock_used", "_law_last", "_law_broken_on", "_law_day", "_law_order_used", "_law_known"] F_law_worth := (okR_law_worth T 12).1
theorem ok_law_most (T : Tx K mg A) : FnQ P w K mg base (errC A) 19 A.f_law_most A.fd_law_most ["_law_stock_used", "_law_last", "_law_broken_on", "_law_day", "_law_known"] F_law_most := (okR_law_worth T 12).2
set_option maxHeartbeats 4000000 in
theorem okR_law_followed (T : Tx K mg A) : ∀ n : Nat, FnQ P w K mg base (errC A) (2 + n) A.f_law_followed A.fd_law_followed ["_law_stock_used", "_law_last", "_law_past_used", "_law_broken_on", "_law_rows_used"] (FR_law_followed n 0) := by
  intro n
  induction n with
  | zero => exact fnQ_bad
  | succ n ih =>
    have c_law_followed := ih
    have c_law_hit := ok_law_hit (P := P) (w := w) (base := base) T
    have c_law_usable := ok_law_usable (P := P) (w := w) (base := base) T
    refine ?_
    · refine FnQ.mono (j := 2 + n + 1) ?_ (by omega)
      refine fq_of T.F_law_followed sc_law_followed fun cdv A' outer s H E hr hgu => ?_
      exact qss_cons (qs_asg (qe_bin op_addA ok_add (qe_callB call_len (.of1 ok_len) rfl T.m_len (by decide +kernel) (qa_cons (qe_v 2) (qa_nil))) (qe_int)) (qg_name 5 sc_law_followed.nd)) (qss_cons (qs_if (qt_cmp op_gt ok_gt (qe_v 5) (qe_v 1) rfl) (qss_one (qs_ret (qe_int))) (qss_nil)) (qss_cons (qs_lcJ (i := 6) rfl sc_law_followed.nd rfl rfl (sw_true rfl rfl rfl (by decide +kernel)) (qj_enum rfl T.m_enumerate (qe_v 4)) jok_enum (blkOk_by (N := ["_law_stock_used", "_law_last", "_law_past_used", "_law_broken_on", "_law_rows_used", "_law_day", "_law_places", "_law_order_used", "_law_sort_here", "_law_many", "_law_total", "_law_later", "_law_some", "_law_at", "_law_row"]) (sc := defScope s_law_followed) (own := [("_law_at", 13), ("_law_row", 14)]) (by decide +kernel)) (fun _ _ _ _ _ => qg_tup rfl (qgs_cons (qg_name 13 sc_law_followed.nd) (qgs_cons (qg_name 14 sc_law_followed.nd) (qgs_nil))) (hlen := len_cons (len_cons (len_nil)))) (fun _ _ _ _ _ => qts_one (qt_cmp (op_eqA hr.units) ok_eqA (qe_ix ix_A ok_ix (qe_v 14) (qe_int)) (qe_v 2) rfl)) (fun _ _ _ _ _ => qe_v 13) (pure_val (pure_op2 (pure_op2 (pure_v _) (pure_c _)) (pure_v _))) (pure_v _)) (qss_cons (qs_if (qt_cmp (op_eqA hr.units) ok_eqA (qe_v 6) (qe_lst (qa_nil)) rfl) (qss_one (qs_ret (qe_tup (qa_cons (qe_callB call_len (.of1 ok_len) rfl T.m_len (by decide +kernel) (qa_cons (qe_v 4) (qa_nil))) (qa_nil))))) (qss_nil)) (qss_cons (qs_asg (qe_ix ix_A ok_ix (qe_ix ix_A ok_ix (qe_v 4) (qe_ix ix_A ok_ix (qe_v 6) (qe_int))) (qe_int)) (qg_name 7 sc_law_followed.nd)) (qss_cons (qs_forget [8, 9] (qs_pre [8, 9] (qs_for (passes_of rfl) rfl (qi_enum rfl T.m_enumerate (qe_call c_law_usable (hr.mono (by omega)) hgu (takes_of rfl rfl rfl rfl) rfl T.g_law_usable T.F_law_usable.kp T.b_law_usable (qa_cons (qe_v 0) (qa_cons (qe_v 3) (qa_cons (qe_v 5) (qa_nil)))))) (qg_tup rfl (qgs_cons (qg_name 8 sc_law_followed.nd) (qgs_cons (qg_name 9 sc_law_followed.nd) (qgs_nil))) (hlen := len_cons (len_cons (len_nil)))) (qss_one (qs_forget [8, 9] (qs_if (qt_cmp op_gt ok_gt (qe_countP (qe_v 7) (qe_v 8)) (qe_v 9) rfl) (qss_one (qs_ret (qe_tup (qa_cons (qe_ix ix_A ok_ix (qe_v 6) (qe_int)) (qa_nil))))) (qss_nil))))))) (qss_cons (qs_asg (qe_int) (qg_name 10 sc_law_followed.nd)) (qss_cons (qs_forget [9, 11, 12] (qs_pre [9, 11, 12] (qs_for (passes_of rfl) rfl (qi_rng1 rfl T.m_range (qa_cons (qe_bin op_addA ok_add (qe_callB call_len (.of1 ok_len) rfl T.m_len (by decide +kernel) (qa_cons (qe_wk (qe_v 7)) (qa_nil))) (qe_int)) (qa_nil))) (qg_name 9 sc_law_followed.nd) (qss_cons (qs_asg (qe_call c_law_hit (hr.mono (by omega)) hgu (takes_of rfl rfl rfl rfl) rfl T.g_law_hit T.F_law_hit.kp T.b_law_hit (qa_cons (qe_v 3) (qa_cons (qe_slice (qe_wk (qe_v 7)) (qo_none) (qo_some (qe_v 9))) (qa_cons (qe_v 5) (qa_nil))))) (qg_name 11 sc_law_followed.nd)) (qss_cons (qs_asg (qe_call c_law_followed (hr.mono (by omega)) hgu (takes_of rfl rfl rfl rfl) rfl T.g_law_followed T.F_law_followed.kp T.b_law_followed (qa_cons (qe_v 0) (qa_cons (qe_v 1) (qa_cons (qe_bin op_addA ok_add (qe_v 2) (qe_tup (qa_cons (qe_v 9) (qa_nil)))) (qa_cons (qe_v 11) (qa_cons (qe_v 4) (qa_nil))))))) (qg_name 12 sc_law_followed.nd)) (qss_cons (qs_if (qt_val (qe_isi rfl T.m_isinstance rfl T.m_tuple (by decide +kernel) (qe_v 12))) (qss_one (qs_ret (qe_v 12))) (qss_nil)) (qss_one (qs_forget [9, 11, 12] (qs_asg (qe_bin op_addA ok_add (qe_v 10) (qe_v 12)) (qg_name 10 sc_law_followed.nd)))))))))) (qss_one (qs_ret (qe_v 10))))))))))
theorem ok_law_followed (T : Tx K mg A) : FnQ P w K mg base (errC A) 10 A.f_law_followed A.fd_law_followed ["_law_stock_used", "_law_last", "_law_past_used", "_law_broken_on", "_law_rows_used"] F_law_followed := (okR_law_followed T 8)
set_option maxHeartbeats 4000000 in
theorem ok_law_is_row (T : Tx K mg A) : FnQ P w K mg base (errC A) 2 A.f_law_is_row A.fd_law_is_row ["_law_stock_used", "_law_last", "_law_row"] F_law_is_row := by
  refine fq_of T.F_law_is_row sc_law_is_row fun cdv A' outer s H E hr hgu => ?_
  exact qss_cons (qs_if (qt_of (qw_or (qt_not (qt_val (qe_isi rfl T.m_isinstance rfl T.m_tuple (by decide +kernel) (qe_v 2)))) (qw_or (qt_cmp (op_neA hr.units) ok_neA (qe_callB call_len (.of1 ok_len) rfl T.m_len (by decide +kernel) (qa_cons (qe_v 2) (qa_nil))) (qe_int) rfl) (qw_or (qt_not (qt_val (qe_isi rfl T.m_isinstance rfl T.m_tuple (by decide +kernel) (qe_wk (qe_ix ix_A ok_ix (qe_v 2) (qe_int)))))) (qw_or1 (qt_not (qt_val (qe_isi rfl T.m_isinstance rfl T.m_tuple (by decide +kernel) (qe_wk (qe_ix ix_A ok_ix (qe_v 2) (qe_int))))))))))) (qss_one (qs_ret (qe_bl))) (qss_nil)) (qss_cons (qs_lc (i := 3) rfl sc_law_is_row.nd rfl rfl (sw_true rfl rfl rfl (by decide +kernel)) (qi_seq (qe_bin op_addA ok_add (qe_wk (qe_ix ix_A ok_ix (qe_v 2) (qe_int))) (qe_wk (qe_ix ix_A ok_ix (qe_v 2) (qe_int))))) (blkOk_by (N := ["_law_stock_used", "_law_last", "_law_row", "_law_plain", "_law_one_here"]) (sc := defScope s_law_is_row) (own := [("_law_one_here", 4)]) (by decide +kernel)) (fun _ _ _ _ _ => qg_name 4 sc_law_is_row.nd) (fun _ _ _ _ _ => qts_one (qt_of (qw_or (qt_not (qt_val (qe_isi rfl T.m_isinstance rfl T.m_int (by decide +kernel) (qe_v 4)))) (qw_or (qt_val (qe_isi rfl T.m_isinstance rfl T.m_bool (by decide +kernel) (qe_v 4))) (qw_or1 (qt_cmp op_lt ok_lt (qe_v 4) (qe_int) rfl)))))) (fun _ _ _ _ _ => qe_v 4)) (qss_one (qs_ret (qe_and (qe_cmp (op_eqA hr.units) ok_eqA (qe_v 3) (qe_lst (qa_nil)) rfl) (qe_and (qe_cmp op_lt ok_lt (qe_callB call_len (.of1 ok_len) rfl T.m_len (by decide +kernel) (qa_cons (qe_wk (qe_ix ix_A ok_ix (qe_v 2) (qe_int))) (qa_nil))) (qe_v 1) rfl) (qe_one (qe_cmp op_lt ok_lt (qe_callB (cr_maxV rfl (room70 hr)) (.of1 ok_maxV) rfl T.m_max (by decide +kernel) (qa_cons (qe_bin op_addA ok_add (qe_wk (qe_ix ix_A ok_ix (qe_v 2) (qe_int))) (qe_tup (qa_cons (qe_int) (qa_nil)))) (qa_nil))) (qe_callB call_len (.of1 ok_len) rfl T.m_len (by decide +kernel) (qa_cons (qe_v 0) (qa_nil))) rfl)))))))
set_option maxHeartbeats 4000000 in
theorem ok_law_table_due (T : Tx K mg A) : FnQ P w K mg base (errC A) 11 A.f_law_table_due A.fd_law_table_due ["_law_stock_used", "_law_last", "_law_claim", "_law_rows_used"] F_law_table_due := by
  have c_law_followed := ok_law_followed (P := P) (w := w) (base := base) T
  have c_law_is_row := ok_law_is_row (P := P) (w := w) (base := base) T
  refine fq_of T.F_law_table_due sc_law_table_due fun cdv A' outer s H E hr hgu => ?_
  exact qss_cons (qs_if (qt_not (qt_val (qe_isi rfl T.m_isinstance rfl T.m_list (by decide +kernel) (qe_v 3)))) (qss_one (qs_ret (qe_tup (qa_cons (qe_str) (qa_cons (qe_un un_neg ok_neg (qe_int)) (qa_nil)))))) (qss_nil)) (qss_cons (qs_forget [4, 5] (qs_pre [4, 5] (qs_forJ (passes_of rfl) rfl (qj_enum rfl T.m_enumerate (qe_v 3)) (qg_tup rfl (qgs_cons (qg_name 4 sc_law_table_due.nd) (qgs_cons (qg_name 5 sc_law_table_due.nd) (qgs_nil))) (hlen := len_cons (len_cons (len_nil)))) (qss_one (qs_forget [4, 5] (qs_if (qt_of (qw_or (qt_not (qt_val (qe_call c_law_is_row (hr.mono (by decide)) hgu (takes_of rfl rfl rfl rfl) rfl T.g_law_is_row T.F_law_is_row.kp T.b_law_is_row (qa_cons (qe_v 0) (qa_cons (qe_v 1) (qa_cons (qe_v 5) (qa_nil))))))) (qw_or1 (qt_cmp (op_inA (units65 hr)) ok_inA (qe_ix ix_A ok_ix (qe_v 5) (qe_int)) (qe_lc rfl sc_law_table_due.nd (qi_seq (qe_slice (qe_v 3) (qo_none) (qo_some (qe_v 4)))) (blkOk_by (N := ["_law_stock_used", "_law_last", "_law_claim", "_law_rows_used", "_law_index", "_law_row", "_law_told", "_law_one_here"]) (sc := defScope s_law_table_due) (own := [("_law_one_here", 7)]) (by decide +kernel)) (fun _ _ _ _ _ => qg_name 7 sc_law_table_due.nd) (fun _ _ _ _ _ => qts_nil) (fun _ _ _ _ _ => qe_ix ix_A ok_ix (qe_v 7) (qe_int))) rfl)))) (qss_one (qs_ret (qe_tup (qa_cons (qe_str) (qa_cons (qe_v 4) (qa_nil)))))) (qss_nil))))))) (qss_cons (qs_asg (qe_call c_law_followed (hr.mono (by decide)) hgu (takes_of rfl rfl rfl rfl) rfl T.g_law_followed T.F_law_followed.kp T.b_law_followed (qa_cons (qe_v 0) (qa_cons (qe_v 1) (qa_cons (qe_tup (qa_nil)) (qa_cons (qe_bin op_mulT ok_mulT (qe_tup (qa_cons (qe_tup (qa_nil)) (qa_nil))) (qe_callB call_len (.of1 ok_len) rfl T.m_len (by decide +kernel) (qa_cons (qe_v 0) (qa_nil)))) (qa_cons (qe_v 3) (qa_nil))))))) (qg_name 6 sc_law_table_due.nd)) (qss_cons (qs_if (qt_val (qe_isi rfl T.m_isinstance rfl T.m_tuple (by decide +kernel) (qe_v 6))) (qss_one (qs_ret (qe_tup (qa_cons (qe_str) (qa_cons (qe_ix ix_A ok_ix (qe_v 6) (qe_int)) (qa_nil)))))) (qss_nil)) (qss_one (qs_ret (qe_if (qt_cmp (op_gtA (units65 hr)) ok_gtA (qe_v 2) (qe_v 6) rfl) (qe_tup (qa_cons (qe_str) (qa_cons (qe_v 6) (qa_nil)))) (qe_non)))))))
set_option maxHeartbeats 4000000 in
theorem ok_law_right (T : Tx K mg A) : FnQ P w K mg base (errC A) 35 A.f_law_right A.fd_law_right ["_law_stock_used", "_law_last"] F_law_right := by
  have c_law_arranged := ok_law_arranged (P := P) (w := w) (base := base) T
  have c_law_most := ok_law_most (P := P) (w := w) (base := base) T
  have c_law_table_due := ok_law_table_due (P := P) (w := w) (base := base) T
  have c_law_usable := ok_law_usable (P := P) (w := w) (base := base) T
  have c_law_worth := ok_law_worth (P := P) (w := w) (base := base) T
  have c_best_orders := ok_best_orders (P := P) (w := w) (base := base) T
  have c_unlike_levels := ok_unlike_levels (P := P) (w := w) (base := base) T
  have c_unlike_table := ok_unlike_table (P := P) (w := w) (base := base) T
  refine fqW_of T.F_law_right sc_law_right fun cdv A' outer s H E hr hgu => ?_
  exact qss_cons (qs_asg (qe_tup (qa_cons (qe_dct0O) (qa_cons (qe_bin op_mulT ok_mulT (qe_tup (qa_cons (qe_tup (qa_nil)) (qa_nil))) (qe_callB call_len (.of1 ok_len) rfl T.m_len (by decide +kernel) (qa_cons (qe_v 0) (qa_nil)))) (qa_nil)))) (qg_tup rfl (qgs_cons (qg_name 2 sc_law_right.nd) (qgs_cons (qg_name 3 sc_law_right.nd) (qgs_nil))) (hlen := len_cons (len_cons (len_nil))))) (qss_cons (qs_asg (qe_call c_law_most (hr.mono (by decide)) hgu (takes_of rfl rfl rfl rfl) rfl T.g_law_most T.F_law_most.kp T.b_law_most (qa_cons (qe_v 0) (qa_cons (qe_v 1) (qa_cons (qe_v 3) (qa_cons (qe_int) (qa_cons (qe_v 2) (qa_nil))))))) (qg_name 4 sc_law_right.nd)) (qss_cons (qs_asg (qe_lst (qa_cons (qe_tup (qa_nil)) (qa_nil))) (qg_name 5 sc_law_right.nd)) (qss_cons (qs_if (qt_cmp (op_gtA (units65 hr)) ok_gtA (qe_v 1) (qe_int) rfl) (qss_cons (qs_asg (qe_call c_law_arranged (hr.mono (by decide)) hgu (takes_of rfl rfl rfl rfl) rfl T.g_law_arranged T.F_law_arranged.kp T.b_law_arranged (qa_cons (qe_call c_law_usable (hr.mono (by decide)) hgu (takes_of rfl rfl rfl rfl) rfl T.g_law_usable T.F_law_usable.kp T.b_law_usable (qa_cons (qe_v 0) (qa_cons (qe_v 3) (qa_cons (qe_int) (qa_nil))))) (qa_nil))) (qg_name 7 sc_law_right.nd)) (qss_one (qs_asg (qe_callB (cr_srtB rfl (room70 hr)) (.of1 ok_srtB) rfl T.m_sorted (by decide +kernel) (qa_cons (qe_lc rfl sc_law_right.nd (qi_seq (qe_v 7)) (blkOk_by (N := ["_law_stock_used", "_law_last", "_law_known", "_law_nothing", "_law_due", "_law_orders_due", "_law_turn", "_law_some", "_law_found", "_law_number_told", "_law_rows_told", "_law_before", "_law_one_here"]) (sc := defScope s_law_right) (own := [("_law_one_here", 12)]) (by decide +kernel)) (fun _ _ _ _ _ => qg_name 12 sc_law_right.nd) (fun _ _ _ _ _ => qts_one (qt_cmp (op_eqD hr.units) ok_eqF (qe_call c_law_worth (hr.mono (by decide)) hgu takes_no rfl T.g_law_worth T.F_law_worth.kp T.b_law_worth (qa_cons (qe_v 0) (qa_cons (qe_v 1) (qa_cons (qe_v 3) (qa_cons (qe_int) (qa_cons (qe_v 12) (qa_cons (qe_v 2) (qa_nil)))))))) (qe_v 4) rfl)) (fun _ _ _ _ _ => qe_v 12)) (qa_nil))) (qg_name 5 sc_law_right.nd)))) (qss_nil)) (qss_cons (qs_if (qt_of (qw_or (qt_cmp (op_neD hr.units) ok_neF (qe_call c_unlike_levels (hr.mono (by decide)) hgu (takes_of rfl rfl rfl rfl) rfl T.g_unlike_levels T.F_unlike_levels.kp T.b_unlike_levels (qa_cons (qe_v 0) (qa_cons (qe_v 1) (qa_nil)))) (qe_v 4) rfl) (qw_or1 (qt_cmp (op_neD hr.units) ok_neF (qe_callK0 c_unlike_levels (hr.mono (by decide)) hgu (takes_of rfl rfl rfl rfl) rfl T.g_unlike_levels T.F_unlike_levels.kp T.k_unlike_levels_days_stocks (qk_cons (qe_v 1) (qk_cons (qe_callTy (T := "") call_tuple_of (.of1 ok_tuple) rfl T.m_tuple (by decide +kernel) (qa_cons (qe_v 0) (qa_nil))) (qk_nil))) (gCons_len (gCons_len (fun _ _ _ _ h => gNil_len h)))) (qe_v 4) rfl)))) (qss_one (qs_ret (qe_bl))) (qss_nil)) (qss_cons (qs_forget [6, 8, 9, 10, 11] (qs_pre [6, 8, 9, 10, 11] (qs_for (passes_of rfl) rfl (qi_rng1 rfl T.m_range (qa_cons (qe_int) (qa_nil))) (qg_name 6 sc_law_right.nd) (qss_scope (qss_cons (qs_asg (qe_call c_best_orders (hr.mono (by decide)) hgu (takes_of rfl rfl rfl rfl) rfl T.g_best_orders T.F_best_orders.kp T.b_best_orders (qa_cons (qe_v 0) (qa_cons (qe_v 1) (qa_nil)))) (qg_name 8 sc_law_right.nd)) (qss_cons (qs_if (qt_of (qw_or (qt_cmp (op_neD hr.units) ok_neF (qe_v 8) (qe_v 5) rfl) (qw_or1 (qt_not (qt_val (qe_isi rfl T.m_isinstance rfl T.m_list (by decide +kernel) (qe_v 8))))))) (qss_one (qs_ret (qe_bl))) (qss_nil)) (qss_cons (qs_expr (qe_meth1 PySem.F.slot_list_append PySem.F.type_list_append mt_append ok_append (qe_v 8) (qe_non))) (qss_cons (qs_asg (qe_callW c_unlike_table (hr.mono (by decide)) hgu (takes_of rfl rfl rfl rfl) rfl T.g_unlike_table T.F_unlike_table.kp T.b_unlike_table (qa_cons (qe_v 0) (qa_cons (qe_v 1) (qa_nil)))) (qg_tup rfl (qgs_cons (qg_name 9 sc_law_right.nd) (qgs_cons (qg_name 10 sc_law_right.nd) (qgs_nil))) (hlen := len_cons (len_cons (len_nil))))) (qss_cons (qs_if (qt_of (qw_or (qt_cmp (op_neD hr.units) ok_neF (qe_v 9) (qe_v 4) rfl) (qw_or1 (qt_cmp op_notN ok_notN (qe_call c_law_table_due (hr.mono (by decide)) hgu (takes_of rfl rfl rfl rfl) rfl T.g_law_table_due T.F_law_table_due.kp T.b_law_table_due (qa_cons (qe_v 0) (qa_cons (qe_v 1) (qa_cons (qe_v 4) (qa_cons (qe_v 10) (qa_nil)))))) (qe_non) rfl)))) (qss_one (qs_ret (qe_bl))) (qss_nil)) (qss_cons (qs_if (qt_cmp (op_neD hr.units) ok_neF (qe_call c_law_table_due (hr.mono (by decide)) hgu (takes_of rfl rfl rfl rfl) rfl T.g_law_table_due T.F_law_table_due.kp T.b_law_table_due (qa_cons (qe_v 0) (qa_cons (qe_v 1) (qa_cons (qe_bin op_addA ok_add (qe_v 4) (qe_int)) (qa_cons (qe_v 10) (qa_nil)))))) (qe_tup (qa_cons (qe_str) (qa_cons (qe_v 4) (qa_nil)))) rfl) (qss_one (qs_ret (qe_bl))) (qss_nil)) (qss_cons (qs_asg (qe_callTy (T := "") call_list_of (.of1 ok_list) rfl T.m_list (by decide +kernel) (qa_cons (qe_v 10) (qa_nil))) (qg_name 11 sc_law_right.nd)) (qss_cons (qs_expr (qe_meth0 PySem.F.slot_list_clear PySem.F.type_list_clear mt_clear ok_clear (qe_v 10))) (qss_one (qs_forget [6, 8, 9, 10, 11] (qs_if (qt_cmp (op_neD hr.units) ok_neF (qe_callWK0 c_unlike_table (hr.mono (by decide)) hgu (takes_of rfl rfl rfl rfl) rfl T.g_unlike_table T.F_unlike_table.kp T.k_unlike_table_days_stocks (qk_cons (qe_v 1) (qk_cons (qe_callTy (T := "") call_tuple_of (.of1 ok_tuple) rfl T.m_tuple (by decide +kernel) (qa_cons (qe_v 0) (qa_nil))) (qk_nil))) (gCons_len (gCons_len (fun _ _ _ _ h => gNil_len h)))) (qe_tup (qa_cons (qe_v 4) (qa_cons (qe_v 11) (qa_nil)))) rfl) (qss_one (qs_ret (qe_bl))) (qss_nil)))))))))))))))) (qss_one (qs_ret (qe_cmp (op_eqD hr.units) ok_eqF (qe_callK0 c_best_orders (hr.mono (by decide)) hgu (takes_of rfl rfl rfl rfl) rfl T.g_best_orders T.F_best_orders.kp T.k_best_orders_days_stocks (qk_cons (qe_v 1) (qk_cons (qe_callTy (T := "") call_tuple_of (.of1 ok_tuple) rfl T.m_tuple (by decide +kernel) (qa_cons (qe_v 0) (qa_nil))) (qk_nil))) (gCons_len (gCons_len (fun _ _ _ _ h => gNil_len h)))) (qe_v 5) rfl))))))))
set_option maxHeartbeats 4000000 in
theorem ok_law (T : Tx K mg A) : FnQ P w K mg base (errC A) 36 A.f_law A.fd_law ["_law_script"] F_law := by
  have c_law_right := ok_law_right (P := P) (w := w) (base := base) T
  have c_law_source := ok_law_source (P := P) (w := w) (base := base) T
  have c_law_stocks := ok_law_stocks (P := P) (w := w) (base := base) T
  have c_law_take := ok_law_take (P := P) (w := w) (base := base) T
  have c_best_orders := ok_best_orders (P := P) (w := w) (base := base) T
  have c_unlike_levels := ok_unlike_levels (P := P) (w := w) (base := base) T
  refine fq_of T.F_law sc_law fun cdv A' outer s H E hr hgu => ?_
  exact qss_cons (qs_forget [1, 2] (qs_pre [1, 2] (qs_for (passes_of rfl) rfl (qi_seq (qe_slice (qe_bin op_addA ok_add (qe_v 0) (qe_lst (qa_cons (qe_int) (qa_nil)))) (qo_none) (qo_some (qe_int)))) (qg_name 1 sc_law.nd) (qss_scope (qss_cons (qs_asg (qe_call c_law_source (hr.mono (by decide)) hgu (takes_of rfl rfl rfl rfl) rfl T.g_law_source T.F_law_source.kp T.b_law_source (qa_cons (qe_v 1) (qa_nil))) (qg_name 2 sc_law.nd)) (qss_one (qs_forget [1, 2] (qs_if (qt_not (qt_val (qe_callW c_law_right (hr.mono (by decide)) hgu (takes_of rfl rfl rfl rfl) rfl T.g_law_right T.F_law_right.kp T.b_law_right (qa_cons (qe_call c_law_stocks (hr.mono (by decide)) hgu (takes_of rfl rfl rfl rfl) rfl T.g_law_stocks T.F_law_stocks.kp T.b_law_stocks (qa_cons (qe_v 2) (qa_cons (qe_int) (qa_cons (qe_int) (qa_nil))))) (qa_cons (qe_call c_law_take (hr.mono (by decide)) hgu (takes_of rfl rfl rfl rfl) rfl T.g_law_take T.F_law_take.kp T.b_law_take (qa_cons (qe_v 2) (qa_cons (qe_int) (qa_nil)))) (qa_nil)))))) (qss_one (qs_ret (qe_bl))) (qss_nil))))))))) (qss_cons (qs_if (qt_of (qw_or (qt_cmp (op_neA hr.units) ok_neA (qe_call c_unlike_levels (hr.mono (by decide)) hgu (takes_of rfl rfl rfl rfl) rfl T.g_unlike_levels T.F_unlike_levels.kp T.b_unlike_levels (qa_cons (qe_lst (qa_cons (qe_tup (qa_cons (qe_int) (qa_cons (qe_int) (qa_nil)))) (qa_cons (qe_tup (qa_cons (qe_int) (qa_cons (qe_non) (qa_nil)))) (qa_nil)))) (qa_cons (qe_int) (qa_nil)))) (qe_int) rfl) (qw_or1 (qt_cmp (op_neA hr.units) ok_neA (qe_call c_best_orders (hr.mono (by decide)) hgu (takes_of rfl rfl rfl rfl) rfl T.g_best_orders T.F_best_orders.kp T.b_best_orders (qa_cons (qe_lst (qa_cons (qe_tup (qa_cons (qe_int) (qa_cons (qe_int) (qa_nil)))) (qa_cons (qe_tup (qa_cons (qe_int) (qa_cons (qe_non) (qa_nil)))) (qa_nil)))) (qa_cons (qe_int) (qa_nil)))) (qe_lst (qa_cons (qe_tup (qa_cons (qe_int) (qa_cons (qe_int) (qa_nil)))) (qa_nil))) rfl)))) (qss_one (qs_ret (qe_bl))) (qss_nil)) (qss_cons (qs_if (qt_of (qw_or (qt_not (qt_val (qe_callW c_law_right (hr.mono (by decide)) hgu (takes_of rfl rfl rfl rfl) rfl T.g_law_right T.F_law_right.kp T.b_law_right (qa_cons (qe_lst (qa_cons (qe_tup (qa_cons (qe_int) (qa_cons (qe_int) (qa_nil)))) (qa_cons (qe_tup (qa_cons (qe_int) (qa_cons (qe_int) (qa_nil)))) (qa_cons (qe_tup (qa_cons (qe_int) (qa_cons (qe_non) (qa_nil)))) (qa_nil))))) (qa_cons (qe_int) (qa_nil)))))) (qw_or1 (qt_not (qt_val (qe_callW c_law_right (hr.mono (by decide)) hgu (takes_of rfl rfl rfl rfl) rfl T.g_law_right T.F_law_right.kp T.b_law_right (qa_cons (qe_lst (qa_cons (qe_tup (qa_cons (qe_int) (qa_cons (qe_int) (qa_nil)))) (qa_cons (qe_tup (qa_cons (qe_int) (qa_cons (qe_int) (qa_nil)))) (qa_nil)))) (qa_cons (qe_int) (qa_nil))))))))) (qss_one (qs_ret (qe_bl))) (qss_nil)) (qss_one (qs_ret (qe_callW c_law_right (hr.mono (by decide)) hgu (takes_of rfl rfl rfl rfl) rfl T.g_law_right T.F_law_right.kp T.b_law_right (qa_cons (qe_lst (qa_cons (qe_tup (qa_cons (qe_int) (qa_cons (qe_int) (qa_nil)))) (qa_cons (qe_tup (qa_cons (qe_int) (qa_cons (qe_int) (qa_nil)))) (qa_cons (qe_tup (qa_cons (qe_int) (qa_cons (qe_non) (qa_nil)))) (qa_nil))))) (qa_cons (qe_int) (qa_nil))))))))
end
end
end My

set_option Elab.async false
set_option linter.all false
set_option maxRecDepth 100000
set_option maxHeartbeats 4000000
namespace My
open PySem PySem.Spec PyProof.Rows L2 Bk
/-! ### the law's draws -/
def mixI (b c : Int) : Int :=
  let f := (b % 2147483646 + 1) * (c * 7919 + 104729) % 2147483647
  let f := (f + b / 2147483646 % 1000003 * (c + 31)) * 48271 % 2147483629
  let f := f * (f / 1013 + 69621 + c) % 2147483587
  f * (f / 2003 + 40692) % 2147483563
theorem fd_small {i j : Int} (h0 : 0 < j) (h : j < 2 ^ 62) : fdivOk i j = true := by
  have a : j.natAbs < 2 ^ 62 := by omega
  have b : j.natAbs.log2 < 62 := by
    by_cases z : j.natAbs = 0
    · omega
    · exact (Nat.log2_lt z).mpr a
  simp [fdivOk, h0]
  omega
theorem m_mixed (b c : Int) : F_law_mixed [.int b, .int c] [] = .ok (.int (mixI b c)) [] := by
  have r1 : ∀ x : Int, mulOk x 7919 = true := fun x => mulOk_r x (by decide) (by decide)
  have r2 : ∀ x : Int, mulOk x 48271 = true := fun x => mulOk_r x (by decide) (by decide)
  have r3 : ∀ x y : Int, mulOk (x % 2147483646 + 1) y = true := fun x y => mulOk_m1 x y (by decide) (by decide)
  have r4 : ∀ x y : Int, mulOk (x % 1000003) y = true := fun x y => mulOk_m x y (by decide) (by decide)
  have r5 : ∀ x y : Int, mulOk (x % 2147483629) y = true := fun x y => mulOk_m x y (by decide) (by decide)
  have r6 : ∀ x y : Int, mulOk (x % 2147483587) y = true := fun x y => mulOk_m x y (by decide) (by decide)
  have d1 : ∀ x : Int, fdivOk x 2147483646 = true := fun x => fd_small (by decide) (by decide)
  have d2 : ∀ x : Int, fdivOk x 1013 = true := fun x => fd_small (by decide) (by decide)
  have d3 : ∀ x : Int, fdivOk x 2003 = true := fun x => fd_small (by decide) (by decide)
  simp [F_law_mixed, b_law_mixed, runF, e_mul, r1, r2, r3, r4, r5, r6, d1, d2, d3, fin, cutOk, retR, below]
  rfl
theorem m_source (v : Int) : F_law_source [.int v] [] = .ok (.ref 0) [.lst [.int v, .int v, .int 0]] := by
  simp [F_law_source, b_law_source, runF, fin, cutOk, retR, belows, below]
/-- a source: what is left of the number, the number, how often it was drawn anew -/
abbrev Src3 := Int × Int × Int
def srcO (s : Src3) : MO := .lst [.int s.1, .int s.2.1, .int s.2.2]
@[simp] theorem srcO_bl (m : Nat) (s : Src3) : belowO m (srcO s) = true := rfl
def tk (s : Src3) (n : Int) : Int := if 1000000000000000000 ≤ s.1 then s.1 % n else mixI s.2.1 (s.2.2 + 1) % n
def tn (s : Src3) (n : Int) : Src3 := if 1000000000000000000 ≤ s.1 then (s.1 / n, s.2.1, s.2.2) else (s.1, s.2.1, s.2.2 + 1)
theorem m_take (s : Src3) {n : Int} (h0 : 0 < n) (h : n < 2 ^ 62) : F_law_take [.ref 0, .int n] [srcO s] = .ok (.int (tk s n)) [srcO (tn s n)] := by
  have d := fun i => fd_small (i := i) h0 h
  have p : powOk 10 18 = true := by decide
  have c : callF F_law_mixed [.int s.2.1, .int (s.2.2 + 1)] [.lst [.int s.1, .int s.2.1, .int (s.2.2 + 1)]] = .ok (.int (mixI s.2.1 (s.2.2 + 1))) [.lst [.int s.1, .int s.2.1, .int (s.2.2 + 1)]] := by
    simp [callF, lendK, getAll, flatArgs, below, lentOk, lendA, m_mixed, backD, setAll]
  have e : (10 : Int) ^ (18 : Int).toNat = 10 ^ 18 := rfl
  simp only [tk, tn]
  by_cases q : (1000000000000000000 : Int) ≤ s.1
  · simp [F_law_take, b_law_take, runF, srcO, listD, setR, ixN, p, d, h0, fin, cutOk, retR, below, belowO, belows, q, e]
  · simp [F_law_take, b_law_take, runF, srcO, listD, setR, ixN, p, d, h0, fin, cutOk, retR, below, belowO, belows, q, c, e]
theorem tk_lo (s : Src3) {n : Int} (h : 0 < n) : 0 ≤ tk s n := by
  unfold tk
  split <;> exact Int.emod_nonneg _ (by omega)
theorem tk_hi (s : Src3) {n : Int} (h : 0 < n) : tk s n < n := by
  unfold tk
  split <;> exact Int.emod_lt_of_pos _ h
/-- a draw from a source that is ours -/
theorem c_take {k : Nat} {M : List MO} {s : Src3} {n : Int} (hk : M[k]? = some (srcO s)) (h0 : 0 < n) (h : n < 2 ^ 62) : callF F_law_take [.ref k, .int n] M = .ok (.int (tk s n)) (M.set k (srcO (tn s n))) := by
  have e : lentOk [srcO s] = true := rfl
  have e2 : ∀ t : Src3, belowO 0 (srcO t) = true := fun t => rfl
  simp [callF, lendK, getAll, flatArgs, below, hk, e, e2, lendA, m_take s h0 h, backD, setAll]
theorem c_source (v : Int) (M : List MO) : callF F_law_source [.int v] M = .ok (.ref M.length) (M ++ [srcO (v, v, 0)]) := by
  simp [callF, lendK, getAll, flatArgs, below, lentOk, lendA, m_source, backD, setAll, srcO, belowO, belows]
end My

set_option Elab.async false
set_option linter.all false
set_option maxRecDepth 100000
set_option maxHeartbeats 4000000
namespace My
open PySem PySem.Spec PyProof.Rows L2 Bk
/-! ### calendars -/
abbrev Cal := List (Int × Option Int)
def optD : Option Int → D
  | none => .non
  | some r => .int r
@[simp] theorem optD_below (m : Nat) (o : Option Int) : below m (optD o) = true := by cases o <;> rfl
def entD (p : Int × Option Int) : D := .tup [.int p.1, optD p.2]
def calD (t : Bool) (c : Cal) : D := if t = true then .tup (c.map entD) else .lst (c.map entD)
theorem ent_below (m : Nat) (p : Int × Option Int) : below m (entD p) = true := by simp [entD]
@[simp] theorem ents_below (m : Nat) (c : Cal) : belows m (c.map entD) = true := by
  rw [belows_all, List.all_map, List.all_eq_true]
  exact fun p _ => ent_below m p
@[simp] theorem calD_below (m : Nat) (t : Bool) (c : Cal) : below m (calD t c) = true := by cases t <;> simp [calD]
@[simp] theorem calD_items (M : List MO) (t : Bool) (c : Cal) : itemsD M (calD t c) = some (c.map entD) := by cases t <;> rfl
@[simp] theorem calD_seq (t : Bool) (c : Cal) : seqD (calD t c) = some (c.map entD) := by cases t <;> rfl
@[simp] theorem calD_len (M : List MO) (t : Bool) (c : Cal) : dLen M (calD t c) = some (.int c.length) := by cases t <;> simp [calD]
@[simp] theorem calD_isi (M : List MO) (t : Bool) (c : Cal) : dIsiT ["list", "tuple"] M (calD t c) = some (.bl true) := by cases t <;> rfl
end My

set_option Elab.async false
set_option linter.all false
set_option maxRecDepth 100000
set_option maxHeartbeats 8000000
namespace My
open PySem PySem.Spec PyProof.Rows L2 Bk
def StB (M : List MO) : Prop := ∀ o ∈ M, ∀ m, M.length ≤ m → belowO m o = true
theorem StB.cut {M : List MO} (h : StB M) (X : List MO) : cutOk M.length (M ++ X) = true := by
  unfold cutOk
  rw [List.take_left, List.all_eq_true]
  exact fun o ho => h o ho _ (Nat.le_refl _)
theorem StB.cut0 {M : List MO} (h : StB M) : cutOk M.length M = true := by
  have := h.cut []
  rwa [List.append_nil] at this
theorem StB.add {M : List MO} (h : StB M) {o : MO} (ho : ∀ m, belowO m o = true) : StB (M ++ [o]) := fun x hx m hm => by
  rw [List.length_append, List.length_singleton] at hm
  rcases List.mem_append.mp hx with q | q
  · exact h x q m (by omega)
  · have : x = o := by simpa using q
    rw [this]
    exact ho m
theorem StB.set {M : List MO} (h : StB M) (k : Nat) {o : MO} (ho : ∀ m, M.length ≤ m → belowO m o = true) : StB (M.set k o) := fun x hx m hm => by
  rw [List.length_set] at hm
  rcases List.mem_or_eq_of_mem_set hx with q | q
  · exact h x q m hm
  · rw [q]
    exact ho m hm
theorem StB.nil : StB [] := fun x hx => absurd hx (by simp)
theorem set_sameW {M : List MO} {k : Nat} {o : MO} (h : M[k]? = some o) : M.set k o = M := by
  apply List.ext_getElem?
  intro i
  rw [List.getElem?_set]
  split
  · rename_i e
    subst e
    split
    · exact h.symm
    · rw [List.getElem?_eq_none (by omega)]
  · rfl
end My

set_option Elab.async false
set_option linter.all false
set_option maxRecDepth 100000
set_option maxHeartbeats 8000000
namespace My
open PySem PySem.Spec PyProof.Rows L2 Bk
/-! ### dicts of ours as functions on their keys -/
section
variable {α : Type} [DecidableEq α]
structure KeyOk (κ : α → D) (ν : α → NestedKey) : Prop where
  k : ∀ a, keyD (κ a) = some (ν a)
  i : ∀ a b, ν a = ν b → a = b
  d : ∀ a, (ν a).depth ≤ 8
  t : ∀ a, isTup (κ a) = true
variable {κ : α → D} {ν : α → NestedKey}
theorem KeyOk.all (h : KeyOk κ ν) : ∀ ss : List α, keysD (ss.map κ) = some (ss.map ν)
  | [] => rfl
  | s :: r => by
    rw [List.map_cons, List.map_cons]
    show (match keyD (κ s), keysD (r.map κ) with
      | some k, some ks => some (k :: ks)
      | _, _ => none) = _
    rw [h.k, h.all r]
theorem KeyOk.tups (h : KeyOk κ ν) (ss : List α) : (ss.map κ).all isTup = true := by
  rw [List.all_map, List.all_eq_true]
  intro s _
  exact h.t s
def posG (s : α) : List α → Option Nat
  | [] => none
  | x :: xs => if x = s then some 0 else (posG s xs).map (· + 1)
theorem KeyOk.pos (h : KeyOk κ ν) (s : α) : ∀ ss : List α, posK (ν s) (ss.map ν) = posG s ss
  | [] => rfl
  | x :: xs => by
    rw [List.map_cons]
    unfold posK posG
    by_cases e : x = s
    · rw [if_pos (by rw [e]), if_pos e]
    · rw [if_neg fun z => e (h.i _ _ z), if_neg e, h.pos s xs]
theorem posG_none {s : α} : ∀ {ss : List α}, s ∉ ss → posG s ss = none
  | [], _ => rfl
  | x :: xs, h => by
    unfold posG
    rw [if_neg fun e => h (by simp [e]), posG_none fun z => h (by simp [z])]
    rfl
theorem posG_some {s : α} : ∀ {ss : List α}, s ∈ ss → ∃ i, posG s ss = some i ∧ ss[i]? = some s
  | [], h => by cases h
  | x :: xs, h => by
    unfold posG
    by_cases e : x = s
    · rw [if_pos e]
      exact ⟨0, rfl, by simp [e]⟩
    · rw [if_neg e]
      have : s ∈ xs := by
        rcases List.mem_cons.mp h with w | w
        · exact absurd w.symm e
        · exact w
      obtain ⟨i, h1, h2⟩ := posG_some this
      exact ⟨i + 1, by rw [h1]; rfl, by simpa using h2⟩
theorem KeyOk.look (h : KeyOk κ ν) (f : α → D) (ss : List α) (s : α) : lookD (ss.map κ) (ss.map f) (κ s) = some (if s ∈ ss then some (f s) else none) := by
  have c : ((ss.map κ).all isTup && isTup (κ s) && decide ((ν s).depth ≤ 8)) = true := by rw [h.tups, h.t, decide_eq_true (h.d s)]; rfl
  unfold lookD
  rw [h.all, h.k]
  simp only
  rw [if_pos c, h.pos]
  by_cases q : s ∈ ss
  · obtain ⟨i, h1, h2⟩ := posG_some q
    rw [if_pos q, h1]
    simp [h2]
  · rw [if_neg q, posG_none q]
    rfl
def insG (ss : List α) (s : α) : List α := if s ∈ ss then ss else ss ++ [s]
theorem insG_mem {ss : List α} {s x : α} : x ∈ insG ss s ↔ x ∈ ss ∨ x = s := by
  unfold insG
  split
  · rename_i h
    constructor
    · exact .inl
    · rintro (w | w)
      · exact w
      · rw [w]; exact h
  · simp
theorem insG_nodup {ss : List α} {s : α} (h : ss.Nodup) : (insG ss s).Nodup := by
  unfold insG
  split
  · exact h
  · rename_i q
    rw [List.nodup_append]
    exact ⟨h, by simp, fun a ha b hb e => q (by have : b = s := by simpa using hb
                                                rw [← this, ← e]; exact ha)⟩
theorem KeyOk.put (h : KeyOk κ ν) (f : α → D) {ss : List α} (s : α) (hz : ss.length < sizeLine) : putKV (ss.map κ) (ss.map f) (κ s) (f s) = some ((insG ss s).map κ, (insG ss s).map f) := by
  have c : (isTup (κ s) && decide ((ν s).depth ≤ 8) && decide ((ss.map f).length < sizeLine)) = true := by rw [h.t, decide_eq_true (h.d s)]; simp [hz]
  unfold putKV insG
  rw [h.all, h.k]
  simp only
  rw [if_pos c, h.pos]
  by_cases q : s ∈ ss
  · obtain ⟨i, h1, h2⟩ := posG_some q
    rw [if_pos q, h1]
    simp only
    congr 2
    apply List.ext_getElem?
    intro j
    rw [List.getElem?_set]
    by_cases e : i = j
    · subst e
      have lt : i < ss.length := (List.getElem?_eq_some_iff.mp h2).1
      rw [if_pos rfl, if_pos (by simpa using lt), List.getElem?_map, h2]
      rfl
    · rw [if_neg e]
  · rw [if_neg q, posG_none q]
    simp
end
theorem keysD_intsB : ∀ l : List Int, keysD (l.map D.int) = some (l.map .num)
  | [] => rfl
  | p :: r => by
    rw [List.map_cons, List.map_cons]
    show (match keyD (.int p), keysD (r.map D.int) with
      | some k, some ks => some (k :: ks)
      | _, _ => none) = _
    rw [keysD_intsB r]
    rfl
theorem nums_inj : ∀ {s t : List Int}, s.map NestedKey.num = t.map NestedKey.num → s = t
  | [], [], _ => rfl
  | [], q :: t, h => by simp at h
  | p :: s, [], h => by simp at h
  | p :: s, q :: t, h => by
    simp only [List.map_cons, List.cons.injEq, NestedKey.num.injEq] at h
    rw [nums_inj h.2, h.1]
end My

set_option Elab.async false
set_option linter.all false
set_option maxRecDepth 100000
set_option maxHeartbeats 4000000
namespace My
open PySem PySem.Spec PyProof.Rows L2 Bk
/-! ### orders of pieces, plainly -/
theorem sum_setZ (v : Int) : ∀ (ns : List Int) (i : Nat), i < ns.length → (ns.set i v).sum = ns.sum - ns.getD i 0 + v
  | [], i, h => absurd h (by simp)
  | x :: ns, 0, _ => by simp; omega
  | x :: ns, i + 1, h => by
    have := sum_setZ v ns i (by simpa using h)
    simp only [List.set_cons_succ, List.sum_cons, List.getD_cons_succ]
    omega
theorem sum_ge : ∀ (ns : List Int) (i : Nat), (∀ x ∈ ns, 0 ≤ x) → ns.getD i 0 ≤ ns.sum ∧ 0 ≤ ns.sum ∧ 0 ≤ ns.getD i 0
  | [], i, _ => by simp
  | x :: ns, 0, h => by
    have a := h x (by simp)
    have b := (sum_ge ns 0 fun y hy => h y (by simp [hy])).2.1
    simp
    omega
  | x :: ns, i + 1, h => by
    have a := h x (by simp)
    have b := sum_ge ns i fun y hy => h y (by simp [hy])
    rw [List.getD_cons_succ, List.sum_cons]
    omega
theorem sum_zeroZ : ∀ (ns : List Int), (∀ x ∈ ns, 0 ≤ x) → (∀ i, i < ns.length → ns.getD i 0 = 0) → ns.sum = 0
  | [], _, _ => rfl
  | x :: ns, h, z => by
    have a := z 0 (by simp)
    have b := sum_zeroZ ns (fun y hy => h y (by simp [hy])) fun i hi => by
      have := z (i + 1) (by simpa using hi)
      rwa [List.getD_cons_succ] at this
    rw [List.getD_cons_zero] at a
    rw [List.sum_cons, a, b]
    rfl
def decN (ns : List Int) (i : Nat) : List Int := ns.set i (ns.getD i 0 - 1)
theorem decN_len (ns : List Int) (i : Nat) : (decN ns i).length = ns.length := by simp [decN]
theorem decN_at {ns : List Int} {i : Nat} (hi : i < ns.length) (j : Nat) : (decN ns i).getD j 0 = ns.getD j 0 - (if i = j then 1 else 0) := by
  unfold decN
  rw [List.getD_eq_getElem?_getD, List.getElem?_set]
  by_cases e : i = j
  · subst e
    rw [if_pos rfl, if_pos hi, if_pos rfl]
    rfl
  · rw [if_neg e, if_neg e, List.getD_eq_getElem?_getD]
    omega
theorem decN_nn {ns : List Int} (h : ∀ x ∈ ns, 0 ≤ x) {i : Nat} (hp : 0 < ns.getD i 0) : ∀ x ∈ decN ns i, 0 ≤ x := fun x hx => by
  rcases List.mem_or_eq_of_mem_set hx with q | q
  · exact h x q
  · omega
theorem decN_sum {ns : List Int} {i : Nat} (hi : i < ns.length) : (decN ns i).sum = ns.sum - 1 := by
  unfold decN
  rw [sum_setZ _ ns i hi]
  omega
/-- orders of all pieces, and of up to all -/
def arrF : Nat → List Int → List (List Int)
  | 0, _ => [[]]
  | k + 1, ns => if ns.sum = 0 then [[]] else (List.range ns.length).flatMap fun i => if 0 < ns.getD i 0 then (arrF k (decN ns i)).map fun o => (i : Int) :: o else []
def alrF : Nat → List Int → List (List Int)
  | 0, _ => [[]]
  | k + 1, ns => [] :: (List.range ns.length).flatMap fun i => if 0 < ns.getD i 0 then (alrF k (decN ns i)).map fun o => (i : Int) :: o else []
def Rng (ns : List Int) (o : List Int) : Prop := ∀ x ∈ o, ∃ i : Nat, i < ns.length ∧ x = (i : Int)
def Ful (ns o : List Int) : Prop := Rng ns o ∧ ∀ i, i < ns.length → ((o.count (i : Int) : Nat) : Int) = ns.getD i 0
def Upt (ns o : List Int) : Prop := Rng ns o ∧ ∀ i, i < ns.length → ((o.count (i : Int) : Nat) : Int) ≤ ns.getD i 0
theorem count_consZ (i j : Nat) (o : List Int) : (((i : Int) :: o).count (j : Int) : Nat) = o.count (j : Int) + (if i = j then 1 else 0) := by
  rw [List.count_cons]
  by_cases e : i = j
  · subst e
    simp
  · have : ¬ ((i : Int) = (j : Int)) := by omega
    simp [e, this]
theorem ful_cons {ns o : List Int} {x : Int} (h : ∀ y ∈ ns, 0 ≤ y) : Ful ns (x :: o) ↔ ∃ i : Nat, i < ns.length ∧ x = (i : Int) ∧ 0 < ns.getD i 0 ∧ Ful (decN ns i) o := by
  constructor
  · rintro ⟨a, b⟩
    obtain ⟨i, hi, rfl⟩ := a x (by simp)
    have bi := b i hi
    rw [count_consZ, if_pos rfl] at bi
    refine ⟨i, hi, rfl, by omega, fun y hy => ?_, fun j hj => ?_⟩
    · rw [decN_len]
      exact a y (by simp [hy])
    · rw [decN_len] at hj
      have := b j hj
      rw [count_consZ] at this
      rw [decN_at hi]
      split at this <;> simp_all <;> omega
  · rintro ⟨i, hi, rfl, hp, a, b⟩
    refine ⟨fun y hy => ?_, fun j hj => ?_⟩
    · rcases List.mem_cons.mp hy with rfl | hy
      · exact ⟨i, hi, rfl⟩
      · have := a y hy
        rwa [decN_len] at this
    · have := b j (by rw [decN_len]; exact hj)
      rw [decN_at hi] at this
      rw [count_consZ]
      split at this <;> simp_all <;> omega
theorem upt_cons {ns o : List Int} {x : Int} (h : ∀ y ∈ ns, 0 ≤ y) : Upt ns (x :: o) ↔ ∃ i : Nat, i < ns.length ∧ x = (i : Int) ∧ 0 < ns.getD i 0 ∧ Upt (decN ns i) o := by
  constructor
  · rintro ⟨a, b⟩
    obtain ⟨i, hi, rfl⟩ := a x (by simp)
    have bi := b i hi
    rw [count_consZ, if_pos rfl] at bi
    refine ⟨i, hi, rfl, by omega, fun y hy => ?_, fun j hj => ?_⟩
    · rw [decN_len]
      exact a y (by simp [hy])
    · rw [decN_len] at hj
      have := b j hj
      rw [count_consZ] at this
      rw [decN_at hi]
      split at this <;> simp_all <;> omega
  · rintro ⟨i, hi, rfl, hp, a, b⟩
    refine ⟨fun y hy => ?_, fun j hj => ?_⟩
    · rcases List.mem_cons.mp hy with rfl | hy
      · exact ⟨i, hi, rfl⟩
      · have := a y hy
        rwa [decN_len] at this
    · have := b j (by rw [decN_len]; exact hj)
      rw [decN_at hi] at this
      rw [count_consZ]
      split at this <;> simp_all <;> omega
theorem mem_arr : ∀ (k : Nat) (ns o : List Int), (∀ x ∈ ns, 0 ≤ x) → ns.sum ≤ (k : Int) → (o ∈ arrF k ns ↔ Ful ns o)
  | 0, ns, o, h, hk => by
    have z : ∀ i, ns.getD i 0 = 0 := fun i => by have := sum_ge ns i h; omega
    rw [arrF, List.mem_singleton]
    constructor
    · rintro rfl
      exact ⟨fun x hx => (by cases hx), fun i _ => by rw [z]; rfl⟩
    · intro f
      cases o with
      | nil => rfl
      | cons x o =>
        obtain ⟨i, hi, _, hp, _⟩ := (ful_cons h).mp f
        rw [z] at hp
        omega
  | k + 1, ns, o, h, hk => by
    rw [arrF]
    by_cases c : ns.sum = 0
    · rw [if_pos c]
      have z : ∀ i, ns.getD i 0 = 0 := fun i => by have := sum_ge ns i h; omega
      rw [List.mem_singleton]
      constructor
      · rintro rfl
        exact ⟨fun x hx => (by cases hx), fun i _ => by rw [z]; rfl⟩
      · intro f
        cases o with
        | nil => rfl
        | cons x o =>
          obtain ⟨i, hi, _, hp, _⟩ := (ful_cons h).mp f
          rw [z] at hp
          omega
    · rw [if_neg c, List.mem_flatMap]
      cases o with
      | nil =>
        constructor
        · rintro ⟨i, _, hm⟩
          split at hm
          · obtain ⟨_, _, e⟩ := List.mem_map.mp hm
            cases e
          · cases hm
        · intro f
          exact absurd (sum_zeroZ ns h fun i hi => by have := f.2 i hi; simpa using this.symm) c
      | cons x o =>
        rw [ful_cons h]
        constructor
        · rintro ⟨i, hi, hm⟩
          have hi := List.mem_range.mp hi
          split at hm
          · rename_i hp
            obtain ⟨o', ho, e⟩ := List.mem_map.mp hm
            injection e with e1 e2
            subst e2
            exact ⟨i, hi, e1.symm, hp, (mem_arr k _ _ (decN_nn h hp) (by rw [decN_sum hi]; omega)).mp ho⟩
          · cases hm
        · rintro ⟨i, hi, rfl, hp, f⟩
          refine ⟨i, List.mem_range.mpr hi, ?_⟩
          rw [if_pos hp]
          exact List.mem_map.mpr ⟨o, (mem_arr k _ _ (decN_nn h hp) (by rw [decN_sum hi]; omega)).mpr f, rfl⟩
theorem mem_alr : ∀ (k : Nat) (ns o : List Int), (∀ x ∈ ns, 0 ≤ x) → ns.sum ≤ (k : Int) → (o ∈ alrF k ns ↔ Upt ns o)
  | 0, ns, o, h, hk => by
    have z : ∀ i, ns.getD i 0 = 0 := fun i => by have := sum_ge ns i h; omega
    rw [alrF, List.mem_singleton]
    constructor
    · rintro rfl
      exact ⟨fun x hx => (by cases hx), fun i _ => by rw [z]; simp⟩
    · intro f
      cases o with
      | nil => rfl
      | cons x o =>
        obtain ⟨i, hi, _, hp, _⟩ := (upt_cons h).mp f
        rw [z] at hp
        omega
  | k + 1, ns, o, h, hk => by
    rw [alrF, List.mem_cons, List.mem_flatMap]
    cases o with
    | nil =>
      refine ⟨fun _ => ⟨fun x hx => (by cases hx), fun i _ => ?_⟩, fun _ => .inl rfl⟩
      have := (sum_ge ns i h).2.2
      simpa using this
    | cons x o =>
      rw [upt_cons h]
      constructor
      · rintro (e | ⟨i, hi, hm⟩)
        · cases e
        · have hi := List.mem_range.mp hi
          split at hm
          · rename_i hp
            obtain ⟨o', ho, e⟩ := List.mem_map.mp hm
            injection e with e1 e2
            subst e2
            exact ⟨i, hi, e1.symm, hp, (mem_alr k _ _ (decN_nn h hp) (by rw [decN_sum hi]; omega)).mp ho⟩
          · cases hm
      · rintro ⟨i, hi, rfl, hp, f⟩
        refine .inr ⟨i, List.mem_range.mpr hi, ?_⟩
        rw [if_pos hp]
        exact List.mem_map.mpr ⟨o, (mem_alr k _ _ (decN_nn h hp) (by rw [decN_sum hi]; omega)).mpr f, rfl⟩
theorem ful_upt {ns o : List Int} (f : Ful ns o) : Upt ns o := ⟨f.1, fun i hi => by rw [f.2 i hi]; exact Int.le_refl _⟩
/-- an order can be made longer, until all pieces are used -/
theorem upt_ext {ns : List Int} (h : ∀ x ∈ ns, 0 ≤ x) : ∀ (m : Nat) (o : List Int), Upt ns o → ns.sum - o.length ≤ (m : Int) → ∃ e, Ful ns (o ++ e)
  | m, o, u, hm => by
    by_cases c : ∀ i, i < ns.length → ((o.count (i : Int) : Nat) : Int) = ns.getD i 0
    · exact ⟨[], by rw [List.append_nil]; exact ⟨u.1, c⟩⟩
    · obtain ⟨i, hi, hne⟩ : ∃ i, i < ns.length ∧ ((o.count (i : Int) : Nat) : Int) ≠ ns.getD i 0 := by
        simpa using c
      have ui := u.2 i hi
      have u' : Upt ns (o ++ [(i : Int)]) := ⟨fun x hx => by
        rcases List.mem_append.mp hx with q | q
        · exact u.1 x q
        · exact ⟨i, hi, by simpa using q⟩, fun j hj => by
        have uj := u.2 j hj
        have q := count_consZ i j []
        rw [List.count_nil] at q
        have q2 : ((o ++ [(i : Int)]).count (j : Int) : Nat) = o.count (j : Int) + [(i : Int)].count (j : Int) := List.count_append
        by_cases e : i = j
        · subst e
          rw [if_pos rfl] at q
          omega
        · rw [if_neg e] at q
          omega⟩
      cases m with
      | zero =>
        exfalso
        have le : ∀ (k : Nat) (ns o : List Int), (∀ x ∈ ns, 0 ≤ x) → o.length ≤ k → Upt ns o → (o.length : Int) ≤ ns.sum := fun k => by
          induction k with
          | zero =>
            intro ns o h1 h2 _
            have := (sum_ge ns 0 h1).2.1
            omega
          | succ k ih =>
            intro ns o h1 h2 u
            cases o with
            | nil => simpa using (sum_ge ns 0 h1).2.1
            | cons x o =>
              obtain ⟨i, hi, _, hp, u2⟩ := (upt_cons h1).mp u
              have := ih (decN ns i) o (decN_nn h1 hp) (by simpa using h2) u2
              rw [decN_sum hi] at this
              rw [List.length_cons]
              omega
        have := le _ ns _ h (Nat.le_refl _) u'
        rw [List.length_append] at this
        simp at this
        omega
      | succ m =>
        obtain ⟨e, f⟩ := upt_ext h m (o ++ [(i : Int)]) u' (by rw [List.length_append]; simp; omega)
        exact ⟨(i : Int) :: e, by simpa using f⟩
end My

set_option Elab.async false
set_option linter.all false
set_option maxRecDepth 100000
set_option maxHeartbeats 4000000
namespace My
open PySem PySem.Spec PyProof.Rows L2 Bk
/-! ### the worth of an order, plainly -/
def Vg (g : List Int → Int) (o : List Int) : Int := ((List.range (o.length + 1)).map fun b => g (o.take b)).sum
theorem Vg_app (g : List Int → Int) (o : List Int) (x : Int) : Vg g (o ++ [x]) = Vg g o + g (o ++ [x]) := by
  unfold Vg
  rw [List.length_append, List.length_singleton, List.range_succ, List.map_append, List.sum_append]
  have e1 : (List.range (o.length + 1)).map (fun b => g ((o ++ [x]).take b)) = (List.range (o.length + 1)).map fun b => g (o.take b) := List.map_congr_left fun b hb => by
    have := List.mem_range.mp hb
    rw [List.take_append_of_le_length (by omega)]
  have e2 : (o ++ [x]).take (o.length + 1) = o ++ [x] := List.take_of_length_le (by simp)
  rw [e1]
  simp [e2]
theorem Vg_ext {g : List Int → Int} (h : ∀ o, 1 ≤ g o) (o : List Int) : ∀ e : List Int, Vg g o + e.length ≤ Vg g (o ++ e)
  | [] => by simp
  | x :: e => by
    have a := Vg_app g o x
    have b := h (o ++ [x])
    have c := Vg_ext h (o ++ [x]) e
    have : o ++ [x] ++ e = o ++ x :: e := by simp
    rw [this] at c
    rw [List.length_cons]
    omega
  termination_by e => e.length
theorem Vg_pos {g : List Int → Int} (h : ∀ o, 1 ≤ g o) (o : List Int) : 1 ≤ Vg g o := by
  have := Vg_ext h [] o
  rw [List.nil_append] at this
  have e : Vg g [] = g [] := by simp [Vg]
  have := h []
  omega
theorem Vg_congr {g g' : List Int → Int} {o : List Int} (h : ∀ b, b ≤ o.length → g (o.take b) = g' (o.take b)) : Vg g o = Vg g' o := by
  unfold Vg
  refine congrArg List.sum (List.map_congr_left fun b hb => ?_)
  exact h b (by have := List.mem_range.mp hb; omega)
theorem maxI_geZ : ∀ {is : List Int}, is ≠ [] → maxI is ∈ is ∧ ∀ y ∈ is, y ≤ maxI is
  | [], h => absurd rfl h
  | [i], _ => ⟨by simp [maxI], fun y hy => by
      have e : y = i := by simpa using hy
      rw [e]
      exact Int.le_refl i⟩
  | i :: j :: r, _ => by
    obtain ⟨h1, h2⟩ := maxI_geZ (is := j :: r) (by simp)
    have e : maxI (i :: j :: r) = if maxI (j :: r) ≤ i then i else maxI (j :: r) := rfl
    rw [e]
    split
    · rename_i q
      refine ⟨by simp, fun y hy => ?_⟩
      rcases List.mem_cons.mp hy with z | z
      · omega
      · have := h2 y z
        omega
    · rename_i q
      refine ⟨List.mem_cons_of_mem _ h1, fun y hy => ?_⟩
      rcases List.mem_cons.mp hy with z | z
      · omega
      · exact h2 y z
theorem arr_ne {k : Nat} {ns : List Int} (h : ∀ x ∈ ns, 0 ≤ x) (hk : ns.sum ≤ (k : Int)) : ∃ o, o ∈ arrF k ns := by
  obtain ⟨e, f⟩ := upt_ext h ns.sum.toNat [] ⟨fun x hx => (by cases hx), fun i _ => by have := (sum_ge ns i h).2.2; simpa using this⟩ (by simp; omega)
  exact ⟨_, (mem_arr k ns _ h hk).mpr f⟩
/-- trying all orders finds no more than trying those of all pieces -/
theorem max_same {g : List Int → Int} (hg : ∀ o, 1 ≤ g o) {k : Nat} {ns : List Int} (h : ∀ x ∈ ns, 0 ≤ x) (hk : ns.sum ≤ (k : Int)) : maxI ((alrF k ns).map (Vg g)) = maxI ((arrF k ns).map (Vg g)) := by
  obtain ⟨o0, h0⟩ := arr_ne h hk
  have n1 : (arrF k ns).map (Vg g) ≠ [] := List.ne_nil_of_mem (List.mem_map_of_mem h0)
  have n2 : (alrF k ns).map (Vg g) ≠ [] := List.ne_nil_of_mem (List.mem_map_of_mem ((mem_alr k ns o0 h hk).mpr (ful_upt ((mem_arr k ns o0 h hk).mp h0))))
  obtain ⟨a1, a2⟩ := maxI_geZ n1
  obtain ⟨b1, b2⟩ := maxI_geZ n2
  obtain ⟨o1, m1, e1⟩ := List.mem_map.mp a1
  obtain ⟨o2, m2, e2⟩ := List.mem_map.mp b1
  have u2 := (mem_alr k ns o2 h hk).mp m2
  obtain ⟨e, f⟩ := upt_ext h ns.sum.toNat o2 u2 (by have := (sum_ge ns 0 h).2.1; omega)
  have c1 := a2 _ (List.mem_map_of_mem ((mem_arr k ns _ h hk).mpr f))
  have c2 := b2 _ (List.mem_map_of_mem ((mem_alr k ns o1 h hk).mpr (ful_upt ((mem_arr k ns o1 h hk).mp m1))))
  have c3 := Vg_ext hg o2 e
  omega
/-- the best orders use all pieces -/
theorem best_same {g : List Int → Int} (hg : ∀ o, 1 ≤ g o) {k : Nat} {ns : List Int} (h : ∀ x ∈ ns, 0 ≤ x) (hk : ns.sum ≤ (k : Int)) (o : List Int) : (o ∈ alrF k ns ∧ Vg g o = maxI ((arrF k ns).map (Vg g))) ↔ (o ∈ arrF k ns ∧ Vg g o = maxI ((arrF k ns).map (Vg g))) := by
  obtain ⟨o0, h0⟩ := arr_ne h hk
  have n1 : (arrF k ns).map (Vg g) ≠ [] := List.ne_nil_of_mem (List.mem_map_of_mem h0)
  obtain ⟨a1, a2⟩ := maxI_geZ n1
  constructor
  · rintro ⟨m, e⟩
    refine ⟨?_, e⟩
    obtain ⟨x, f⟩ := upt_ext h ns.sum.toNat o ((mem_alr k ns o h hk).mp m) (by have := (sum_ge ns 0 h).2.1; omega)
    have c1 := a2 _ (List.mem_map_of_mem ((mem_arr k ns _ h hk).mpr f))
    have c3 := Vg_ext hg o x
    have : x = [] := List.length_eq_zero_iff.mp (by omega)
    subst this
    rw [List.append_nil] at f
    exact (mem_arr k ns o h hk).mpr f
  · rintro ⟨m, e⟩
    exact ⟨(mem_alr k ns o h hk).mpr (ful_upt ((mem_arr k ns o h hk).mp m)), e⟩
/-! in ascending order, without doubles -/
theorem pw_flat {α : Type} {R : List Int → List Int → Prop} (f : α → List (List Int)) : ∀ (l : List α), (∀ i ∈ l, (f i).Pairwise R) → l.Pairwise (fun i j => ∀ a ∈ f i, ∀ b ∈ f j, R a b) → (l.flatMap f).Pairwise R
  | [], _, _ => by simp
  | i :: l, h1, h2 => by
    obtain ⟨c1, c2⟩ := List.pairwise_cons.mp h2
    rw [List.flatMap_cons, List.pairwise_append]
    refine ⟨h1 i (by simp), pw_flat f l (fun j hj => h1 j (by simp [hj])) c2, fun a ha b hb => ?_⟩
    obtain ⟨j, hj, hb⟩ := List.mem_flatMap.mp hb
    exact c1 j hj a ha b hb
theorem arr_asc : ∀ (k : Nat) (ns : List Int), (arrF k ns).Pairwise fun a b => a < b
  | 0, _ => by simp [arrF]
  | k + 1, ns => by
    rw [arrF]
    split
    · simp
    · refine pw_flat _ _ (fun i _ => ?_) ?_
      · split
        · rw [List.pairwise_map]
          exact (arr_asc k _).imp fun h => List.cons_lt_cons_iff.mpr (.inr ⟨rfl, h⟩)
        · simp
      · refine List.pairwise_lt_range.imp fun {i j} hij a ha b hb => ?_
        split at ha
        · split at hb
          · obtain ⟨x, _, rfl⟩ := List.mem_map.mp ha
            obtain ⟨y, _, rfl⟩ := List.mem_map.mp hb
            exact List.cons_lt_cons_iff.mpr (.inl (by omega))
          · cases hb
        · cases ha
theorem alr_nodup : ∀ (k : Nat) (ns : List Int), (alrF k ns).Pairwise fun a b => a ≠ b
  | 0, _ => by simp [alrF]
  | k + 1, ns => by
    rw [alrF, List.pairwise_cons]
    refine ⟨fun o ho => ?_, pw_flat _ _ (fun i _ => ?_) ?_⟩
    · obtain ⟨i, _, hm⟩ := List.mem_flatMap.mp ho
      split at hm
      · obtain ⟨x, _, rfl⟩ := List.mem_map.mp hm
        exact fun e => by cases e
      · cases hm
    · split
      · rw [List.pairwise_map]
        exact (alr_nodup k _).imp fun h e => h (by injection e)
      · simp
    · refine List.pairwise_lt_range.imp fun {i j} hij a ha b hb => ?_
      split at ha
      · split at hb
        · obtain ⟨x, _, rfl⟩ := List.mem_map.mp ha
          obtain ⟨y, _, rfl⟩ := List.mem_map.mp hb
          intro e
          injection e with e1 _
          omega
        · cases hb
      · cases ha
/-- two ascending lists of the same rows are one -/
theorem asc_one : ∀ {a b : List (List Int)}, a.Pairwise (fun x y => x < y) → b.Pairwise (fun x y => x < y) → (∀ x, x ∈ a ↔ x ∈ b) → a = b
  | [], [], _, _, _ => rfl
  | [], y :: b, _, _, h => absurd ((h y).mpr (by simp)) (by simp)
  | x :: a, [], _, _, h => absurd ((h x).mp (by simp)) (by simp)
  | x :: a, y :: b, ha, hb, h => by
    obtain ⟨a1, a2⟩ := List.pairwise_cons.mp ha
    obtain ⟨b1, b2⟩ := List.pairwise_cons.mp hb
    have e : x = y := by
      rcases List.mem_cons.mp ((h x).mp (by simp)) with q | q
      · exact q
      · rcases List.mem_cons.mp ((h y).mpr (by simp)) with r | r
        · exact r.symm
        · exact absurd (List.lt_trans (b1 x q) (a1 y r)) (List.lt_irrefl y)
    subst e
    have : a = b := asc_one a2 b2 fun z => by
      have hz := h z
      rw [List.mem_cons, List.mem_cons] at hz
      constructor
      · intro m
        rcases hz.mp (.inr m) with r | r
        · exact absurd (a1 z m) (by rw [r]; exact List.lt_irrefl x)
        · exact r
      · intro m
        rcases hz.mpr (.inr m) with r | r
        · exact absurd (b1 z m) (by rw [r]; exact List.lt_irrefl x)
        · exact r
    rw [this]
end My

set_option Elab.async false
set_option linter.all false
set_option maxRecDepth 100000
set_option maxHeartbeats 4000000
namespace My
open PySem PySem.Spec PyProof.Rows L2 Bk
/-! ### what is away, by the program and by the law -/
abbrev Stk := List (Int × Option Int)
def Stk.at (st : Stk) (i : Nat) : Int × Option Int := List.getD st i (0, none)
/-- the day on which a piece that broke is back -/
def bkU (st : Stk) (n : Int) (day : Int) (i : Nat) : Int := match (st.at i).2 with
  | none => n + 1
  | some r => if n + 1 < day + 1 + r then n + 1 else day + 1 + r
def aftL (st : Stk) (n : Int) (S : List (List Int)) (day : Int) (o : List Int) : List (List Int) := (S ++ o.map fun s => [s, bkU st n day s.toNat]).filter fun r => decide (day + 1 < r.getD 1 0)
def aft (st : Stk) (n : Int) (S : List (List Int)) (day : Int) (o : List Int) : List (List Int) := srtR (aftL st n S day o)
def rdyU (st : Stk) (S : List (List Int)) : List Int := (List.range st.length).map fun i => (st.at i).1 - ((S.map fun r => r.getD 0 0).count (i : Int) : Nat)
def bst (st : Stk) (n : Int) : Nat → List (List Int) → Int → Int
  | 0, _, _ => 1
  | m + 1, S, day => maxI ((arrF 4 (rdyU st S)).map (Vg fun o => bst st n m (aft st n S day o) (day + 1)))
def goneU (st : Stk) (day : Int) (i : Nat) (a : Int) : Bool := match (st.at i).2 with
  | none => true
  | some r => decide (day < a + 1 + r)
def hitL (day : Int) : List (List Int) → List Int → List (List Int)
  | B, [] => B
  | B, s :: o => hitL day (B.set s.toNat (B.getD s.toNat [] ++ [day])) o
def usb (st : Stk) (B : List (List Int)) (day : Int) : List Int := (List.range st.length).map fun i => (st.at i).1 - (((B.getD i []).filter (goneU st day i)).length : Nat)
def mst (st : Stk) : Nat → List (List Int) → Int → Int
  | 0, _, _ => 1
  | m + 1, B, day => maxI ((alrF 4 (usb st B day)).map (Vg fun o => mst st m (hitL day B o) (day + 1)))
def lifI (st : Stk) (n : Int) (B : List (List Int)) (day : Int) (i : Nat) : List (List Int) := ((B.getD i []).filter (goneU st day i)).map fun a => [(i : Int), bkU st n a i]
def lifts (st : Stk) (n : Int) (B : List (List Int)) (day : Int) : List (List Int) := (List.range st.length).flatMap (lifI st n B day)
structure Rel (st : Stk) (n : Int) (S B : List (List Int)) (day : Int) : Prop where
  l : B.length = st.length
  p : S.Perm (lifts st n B day)
  pos : ∀ b ∈ B, ∀ a ∈ b, a < day
theorem Rel.start (st : Stk) (n : Int) : Rel st n [] (List.replicate st.length []) 1 := by
  refine ⟨by simp, ?_, fun b hb a ha => ?_⟩
  · have : lifts st n (List.replicate st.length []) 1 = [] := by
      unfold lifts
      rw [List.flatMap_eq_nil_iff]
      intro i _
      unfold lifI
      have : (List.replicate st.length ([] : List Int)).getD i [] = [] := by
        rw [List.getD_eq_getElem?_getD, List.getElem?_replicate]
        split <;> rfl
      rw [this]
      rfl
    rw [this]
  · rw [List.eq_of_mem_replicate hb] at ha
    cases ha
theorem count_flat (f : Nat → List Int) (x : Int) : ∀ l : List Nat, (l.flatMap f).count x = (l.map fun i => (f i).count x).sum
  | [] => rfl
  | i :: l => by rw [List.flatMap_cons, List.count_append, List.map_cons, List.sum_cons, count_flat f x l]
theorem sum_one {g : Nat → Nat} {i : Nat} : ∀ {l : List Nat}, l.Nodup → i ∈ l → (∀ j ∈ l, j ≠ i → g j = 0) → (l.map g).sum = g i
  | [], _, h, _ => by cases h
  | j :: l, nd, h, z => by
    obtain ⟨n1, n2⟩ := List.nodup_cons.mp nd
    rw [List.map_cons, List.sum_cons]
    by_cases e : j = i
    · subst e
      have : (l.map g).sum = 0 := by
        have : l.map g = l.map fun _ => 0 := List.map_congr_left fun k hk => z k (by simp [hk]) fun w => n1 (w ▸ hk)
        rw [this]
        have z : ∀ l : List Nat, (l.map fun _ => 0).sum = 0 := fun l => by
          induction l with
          | nil => rfl
          | cons x l ih => rw [List.map_cons, List.sum_cons, ih]
        exact z l
      omega
    · have h2 : i ∈ l := by
        rcases List.mem_cons.mp h with q | q
        · exact absurd q.symm e
        · exact q
      rw [z j (by simp) e, sum_one n2 h2 fun k hk => z k (by simp [hk])]
      omega
theorem Rel.rdy {st : Stk} {n : Int} {S B : List (List Int)} {day : Int} (h : Rel st n S B day) : rdyU st S = usb st B day := by
  unfold rdyU usb
  refine List.map_congr_left fun i hi => ?_
  have e1 : (S.map fun r => r.getD 0 0).count (i : Int) = ((lifts st n B day).map fun r => r.getD 0 0).count (i : Int) := (h.p.map _).count_eq _
  have e2 : (lifts st n B day).map (fun r => r.getD 0 0) = (List.range st.length).flatMap fun j => ((B.getD j []).filter (goneU st day j)).map fun _ => (j : Int) := by
    unfold lifts
    rw [List.map_flatMap]
    congr 1
    funext j
    unfold lifI
    rw [List.map_map]
    rfl
  have e3 : ((List.range st.length).flatMap fun j => ((B.getD j []).filter (goneU st day j)).map fun _ => (j : Int)).count (i : Int) = ((B.getD i []).filter (goneU st day i)).length := by
    rw [count_flat]
    have : ∀ (l : List Int) (j : Nat), (l.map fun _ => (j : Int)).count (i : Int) = if j = i then l.length else 0 := fun l j => by
      rw [List.map_const', List.count_replicate]
      by_cases e : j = i
      · subst e
        simp
      · have : ¬ ((j : Int) = (i : Int)) := by omega
        simp [e, this]
    rw [sum_one (i := i) List.nodup_range hi fun j _ hj => by rw [this, if_neg hj], this, if_pos rfl]
  rw [e1, e2, e3]
theorem gone_bk {st : Stk} {n day a : Int} {i : Nat} (hd : day + 1 ≤ n) : decide (day + 1 < bkU st n a i) = goneU st (day + 1) i a := by
  unfold bkU goneU
  cases (st.at i).2 with
  | none =>
    simp only [decide_eq_true_eq]
    omega
  | some r =>
    simp only
    refine decide_eq_decide.mpr ?_
    split <;> omega
theorem gone_mono {st : Stk} {day a : Int} {i : Nat} (h : goneU st (day + 1) i a = true) : goneU st day i a = true := by
  unfold goneU at *
  cases e : (st.at i).2 with
  | none => rfl
  | some r =>
    rw [e] at h
    simp only [decide_eq_true_eq] at h ⊢
    omega
theorem flat_add {α β : Type} [DecidableEq α] {f f' : α → List β} {s : α} {e : List β} (hs : f' s = f s ++ e) (ho : ∀ j, j ≠ s → f' j = f j) : ∀ {l : List α}, l.Nodup → s ∈ l → (l.flatMap f').Perm (l.flatMap f ++ e)
  | [], _, h => by cases h
  | j :: l, nd, h => by
    obtain ⟨n1, n2⟩ := List.nodup_cons.mp nd
    rw [List.flatMap_cons, List.flatMap_cons]
    by_cases q : j = s
    · subst q
      have e1 : l.flatMap f' = l.flatMap f := by
        clear h nd n2
        induction l with
        | nil => rfl
        | cons k l ih =>
          rw [List.flatMap_cons, List.flatMap_cons, ho k (fun w => n1 (by simp [w])), ih fun w => n1 (by simp [w])]
      rw [e1, hs, List.append_assoc, List.append_assoc]
      exact List.Perm.append_left _ List.perm_append_comm
    · have h2 : s ∈ l := by
        rcases List.mem_cons.mp h with w | w
        · exact absurd w.symm q
        · exact w
      rw [ho j q, List.append_assoc]
      exact List.Perm.append_left _ (flat_add hs ho n2 h2)
theorem hit_len (day : Int) : ∀ (o : List Int) (B : List (List Int)), (hitL day B o).length = B.length
  | [], B => rfl
  | s :: o, B => by rw [hitL, hit_len day o, List.length_set]
theorem hit_pos {day : Int} : ∀ (o : List Int) {B : List (List Int)}, (∀ b ∈ B, ∀ a ∈ b, a < day + 1) → ∀ b ∈ hitL day B o, ∀ a ∈ b, a < day + 1
  | [], B, h => h
  | s :: o, B, h => by
    rw [hitL]
    refine hit_pos o fun b hb a ha => ?_
    rcases List.mem_or_eq_of_mem_set hb with q | q
    · exact h b q a ha
    · rw [q] at ha
      rcases List.mem_append.mp ha with w | w
      · rw [List.getD_eq_getElem?_getD] at w
        cases e : B[s.toNat]? with
        | none => rw [e] at w; cases w
        | some x => rw [e] at w; exact h x (List.mem_of_getElem? e) a w
      · have : a = day := by simpa using w
        omega
theorem hit_lifts {st : Stk} {n day : Int} (hd : day + 1 ≤ n) : ∀ (o : List Int) {B : List (List Int)}, B.length = st.length → (∀ s ∈ o, ∃ i : Nat, i < st.length ∧ s = (i : Int)) →
    (lifts st n (hitL day B o) (day + 1)).Perm (lifts st n B (day + 1) ++ (o.map fun s => [s, bkU st n day s.toNat]).filter fun r => decide (day + 1 < r.getD 1 0))
  | [], B, _, _ => by simp [hitL]
  | s :: o, B, hB, ho => by
    obtain ⟨i, hi, rfl⟩ := ho s (by simp)
    rw [hitL, Int.toNat_natCast]
    have ih := hit_lifts hd o (B := B.set i (B.getD i [] ++ [day])) (by rw [List.length_set]; exact hB) fun x hx => ho x (by simp [hx])
    refine ih.trans ?_
    have one : (lifts st n (B.set i (B.getD i [] ++ [day])) (day + 1)).Perm (lifts st n B (day + 1) ++ if goneU st (day + 1) i day = true then [[(i : Int), bkU st n day i]] else []) := by
      unfold lifts
      refine flat_add (s := i) ?_ ?_ List.nodup_range (List.mem_range.mpr hi)
      · unfold lifI
        have : (B.set i (B.getD i [] ++ [day])).getD i [] = B.getD i [] ++ [day] := by
          rw [List.getD_eq_getElem?_getD, List.getElem?_set_self (by omega)]
          rfl
        rw [this, List.filter_append, List.map_append]
        congr 1
        by_cases g : goneU st (day + 1) i day = true <;> simp [g]
      · intro j hj
        unfold lifI
        have : (B.set i (B.getD i [] ++ [day])).getD j [] = B.getD j [] := by
          rw [List.getD_eq_getElem?_getD, List.getElem?_set_ne (Ne.symm hj), List.getD_eq_getElem?_getD]
        rw [this]
    refine (one.append_right _).trans ?_
    rw [List.append_assoc]
    refine List.Perm.append_left _ ?_
    rw [List.map_cons, List.filter_cons]
    have gb := gone_bk (st := st) (n := n) (day := day) (a := day) (i := i) hd
    have e : ([(i : Int), bkU st n day (i : Int).toNat]).getD 1 0 = bkU st n day i := by simp
    rw [e, gb]
    by_cases g : goneU st (day + 1) i day = true
    · rw [if_pos g, if_pos g]
      simp
    · rw [if_neg g, if_neg g]
      simp
theorem Rel.next {st : Stk} {n : Int} {S B : List (List Int)} {day : Int} (h : Rel st n S B day) (hd : day + 1 ≤ n) {o : List Int} (ho : ∀ s ∈ o, ∃ i : Nat, i < st.length ∧ s = (i : Int)) : Rel st n (aft st n S day o) (hitL day B o) (day + 1) := by
  refine ⟨by rw [hit_len]; exact h.l, ?_, hit_pos o fun b hb a ha => by have := h.pos b hb a ha; omega⟩
  refine (List.mergeSort_perm _ _).trans (List.Perm.trans ?_ (hit_lifts hd o h.l ho).symm)
  unfold aftL
  rw [List.filter_append]
  refine List.Perm.append_right _ ?_
  refine (h.p.filter _).trans ?_
  have : (lifts st n B day).filter (fun r => decide (day + 1 < r.getD 1 0)) = lifts st n B (day + 1) := by
    unfold lifts
    rw [List.filter_flatMap]
    congr 1
    funext i
    unfold lifI
    rw [List.filter_map, List.filter_filter]
    congr 1
    refine List.filter_congr fun a _ => ?_
    have gb := gone_bk (st := st) (n := n) (day := day) (a := a) (i := i) hd
    show (decide (day + 1 < bkU st n a i) && goneU st day i a) = goneU st (day + 1) i a
    rw [gb]
    by_cases g : goneU st (day + 1) i a = true
    · rw [g, gone_mono g]
      rfl
    · rw [Bool.not_eq_true] at g
      rw [g]
      rfl
  rw [this]
end My

set_option Elab.async false
set_option linter.all false
set_option maxRecDepth 100000
set_option maxHeartbeats 4000000
namespace My
open PySem PySem.Spec PyProof.Rows L2 Bk
/-! ### the program's best and the law's most are one -/
theorem nil_alr (k : Nat) (ns : List Int) : [] ∈ alrF k ns := by
  cases k <;> simp [alrF]
theorem mst_pos (st : Stk) : ∀ (m : Nat) (B : List (List Int)) (day : Int), 1 ≤ mst st m B day
  | 0, _, _ => Int.le_refl _
  | m + 1, B, day => by
    rw [mst]
    have n := nil_alr 4 (usb st B day)
    obtain ⟨_, b⟩ := maxI_geZ (List.ne_nil_of_mem (List.mem_map_of_mem (f := Vg fun o => mst st m (hitL day B o) (day + 1)) n))
    have c := b _ (List.mem_map_of_mem n)
    have d := Vg_pos (g := fun o => mst st m (hitL day B o) (day + 1)) (fun o => mst_pos st m _ _) []
    omega
/-- no more is away than there is -/
def Few4 (st : Stk) (B : List (List Int)) (day : Int) : Prop := ∀ i, i < st.length → (((B.getD i []).filter (goneU st day i)).length : Int) ≤ (st.at i).1
structure StkOk (st : Stk) : Prop where
  l1 : 1 ≤ st.length
  l3 : st.length ≤ 3
  n : ∀ p ∈ st, 0 ≤ p.1
  r : ∀ p ∈ st, ∀ r, p.2 = some r → 0 ≤ r
  t : (st.map (·.1)).sum ≤ 4
theorem usb_at {st : Stk} {B : List (List Int)} {day : Int} {i : Nat} (hi : i < st.length) : (usb st B day).getD i 0 = (st.at i).1 - (((B.getD i []).filter (goneU st day i)).length : Nat) := by
  unfold usb
  rw [List.getD_eq_getElem?_getD, List.getElem?_map, List.getElem?_range hi]
  rfl
theorem usb_len (st : Stk) (B : List (List Int)) (day : Int) : (usb st B day).length = st.length := by simp [usb]
theorem usb_nn {st : Stk} {B : List (List Int)} {day : Int} (h : Few4 st B day) : ∀ x ∈ usb st B day, 0 ≤ x := fun x hx => by
  obtain ⟨i, hi, rfl⟩ := List.mem_map.mp hx
  have := h i (List.mem_range.mp hi)
  omega
theorem sum_leZ : ∀ {a b : List Int}, a.length = b.length → (∀ i, i < a.length → a.getD i 0 ≤ b.getD i 0) → a.sum ≤ b.sum
  | [], [], _, _ => Int.le_refl _
  | [], _ :: _, h, _ => by simp at h
  | _ :: _, [], h, _ => by simp at h
  | x :: a, y :: b, h, k => by
    have h0 := k 0 (by simp)
    have ih := sum_leZ (a := a) (b := b) (by simpa using h) fun i hi => by
      have := k (i + 1) (by simpa using hi)
      rwa [List.getD_cons_succ, List.getD_cons_succ] at this
    rw [List.getD_cons_zero, List.getD_cons_zero] at h0
    rw [List.sum_cons, List.sum_cons]
    omega
theorem usb_sum {st : Stk} (hs : StkOk st) (B : List (List Int)) (day : Int) : (usb st B day).sum ≤ ((4 : Nat) : Int) := by
  have := sum_leZ (a := usb st B day) (b := st.map (·.1)) (by simp [usb]) fun i hi => by
    rw [usb_len] at hi
    rw [usb_at hi]
    have e : (st.map (·.1)).getD i 0 = (st.at i).1 := by
      unfold Stk.at
      rw [List.getD_eq_getElem?_getD, List.getD_eq_getElem?_getD, List.getElem?_map]
      cases st[i]? <;> rfl
    rw [e]
    omega
  have := hs.t
  omega
theorem hit_at {day : Int} (i : Nat) : ∀ (o : List Int) (B : List (List Int)), i < B.length → (∀ s ∈ o, ∃ j : Nat, s = (j : Int)) → (hitL day B o).getD i [] = B.getD i [] ++ List.replicate (o.count (i : Int)) day
  | [], B, _, _ => by simp [hitL]
  | s :: o, B, hi, ho => by
    obtain ⟨j, rfl⟩ := ho s (by simp)
    rw [hitL, Int.toNat_natCast, hit_at i o _ (by rw [List.length_set]; exact hi) fun x hx => ho x (by simp [hx])]
    have c := count_consZ j i o
    by_cases e : j = i
    · subst e
      rw [if_pos rfl] at c
      have g : (B.set j (B.getD j [] ++ [day])).getD j [] = B.getD j [] ++ [day] := by
        rw [List.getD_eq_getElem?_getD, List.getElem?_set_self hi]
        rfl
      rw [g, c, List.append_assoc]
      congr 1
    · rw [if_neg e] at c
      have g : (B.set j (B.getD j [] ++ [day])).getD i [] = B.getD i [] := by
        rw [List.getD_eq_getElem?_getD, List.getElem?_set_ne e, List.getD_eq_getElem?_getD]
      rw [g, c]
      rfl
theorem Few4.next {st : Stk} {B : List (List Int)} {day : Int} (h : Few4 st B day) (hl : B.length = st.length) {o : List Int} (u : Upt (usb st B day) o) : Few4 st (hitL day B o) (day + 1) := fun i hi => by
  have a := u.2 i (by rw [usb_len]; exact hi)
  rw [usb_at hi] at a
  rw [hit_at i o B (by omega) fun s hs => by obtain ⟨j, _, e⟩ := u.1 s hs; exact ⟨j, e⟩, List.filter_append, List.length_append]
  have b : ((B.getD i []).filter (goneU st (day + 1) i)).length ≤ ((B.getD i []).filter (goneU st day i)).length := by
    have : (B.getD i []).filter (goneU st (day + 1) i) = ((B.getD i []).filter (goneU st day i)).filter (goneU st (day + 1) i) := by
      rw [List.filter_filter]
      refine List.filter_congr fun x _ => ?_
      by_cases g : goneU st (day + 1) i x = true
      · rw [g, gone_mono g]
        rfl
      · rw [Bool.not_eq_true] at g
        rw [g]
        rfl
    rw [this]
    exact List.length_filter_le _ _
  have c := List.length_filter_le (goneU st (day + 1) i) (List.replicate (o.count (i : Int)) day)
  rw [List.length_replicate] at c
  omega
theorem Upt.take {ns o : List Int} (u : Upt ns o) (b : Nat) : Upt ns (o.take b) := ⟨fun x hx => u.1 x (List.mem_of_mem_take hx), fun i hi => by
  have a := u.2 i hi
  have : (o.take b).count (i : Int) ≤ o.count (i : Int) := (List.take_sublist b o).count_le _
  omega⟩
theorem Few4.start {st : Stk} (hs : StkOk st) : Few4 st (List.replicate st.length []) 1 := fun i hi => by
  have e : (List.replicate st.length ([] : List Int)).getD i [] = [] := by
    rw [List.getD_eq_getElem?_getD, List.getElem?_replicate]
    split <;> rfl
  rw [e]
  have : st.at i ∈ st := by
    unfold Stk.at
    rw [List.getD_eq_getElem?_getD, List.getElem?_eq_getElem hi]
    exact List.getElem_mem hi
  have := hs.n _ this
  simpa using this
theorem bst_mst {st : Stk} (hs : StkOk st) {n : Int} : ∀ (m : Nat) (S B : List (List Int)) (day : Int), Rel st n S B day → Few4 st B day → day + m = n + 1 → bst st n m S day = mst st m B day
  | 0, _, _, _, _, _, _ => rfl
  | m + 1, S, B, day, h, hf, hd => by
    have nn := usb_nn hf
    have ns := usb_sum hs B day
    rw [bst, mst, max_same (fun o => mst_pos st m _ _) nn ns, h.rdy]
    refine congrArg maxI (List.map_congr_left fun o ho => ?_)
    have u := ful_upt ((mem_arr 4 _ _ nn ns).mp ho)
    refine Vg_congr fun b _ => ?_
    have ub := u.take b
    cases m with
    | zero => rfl
    | succ m => exact bst_mst hs (m + 1) _ _ _ (h.next (by omega) fun s hs' => by obtain ⟨i, hi, e⟩ := ub.1 s hs'; rw [usb_len] at hi; exact ⟨i, hi, e⟩) (hf.next h.l ub) (by omega)
/-- the worth of an order, by both -/
theorem worth_same {st : Stk} (hs : StkOk st) {n : Int} {m : Nat} {S B : List (List Int)} {day : Int} (h : Rel st n S B day) (hf : Few4 st B day) (hd : day + (m + 1 : Nat) = n + 1) {o : List Int} (u : Upt (usb st B day) o) :
    Vg (fun o => bst st n m (aft st n S day o) (day + 1)) o = Vg (fun o => mst st m (hitL day B o) (day + 1)) o := by
  refine Vg_congr fun b _ => ?_
  have ub := u.take b
  cases m with
  | zero => rfl
  | succ m => exact bst_mst hs (m + 1) _ _ _ (h.next (by omega) fun s hs' => by obtain ⟨i, hi, e⟩ := ub.1 s hs'; rw [usb_len] at hi; exact ⟨i, hi, e⟩) (hf.next h.l ub) (by omega)
end My

set_option Elab.async false
set_option linter.all false
set_option maxRecDepth 100000
set_option maxHeartbeats 8000000
namespace My
open PySem PySem.Spec PyProof.Rows L2 Bk
/-! ### orders, walked -/
theorem flat_len {f : Nat → List (List Int)} {B : Nat} (h : ∀ i, (f i).length ≤ B) : ∀ l : List Nat, (l.flatMap f).length ≤ l.length * B
  | [] => by simp
  | i :: l => by
    have a := h i
    have b := flat_len h l
    rw [List.flatMap_cons, List.length_append, List.length_cons, Nat.add_mul]
    omega
theorem arr_len : ∀ (k : Nat) (ns : List Int), ns.length ≤ 3 → (arrF k ns).length ≤ 4 ^ k
  | 0, _, _ => by simp [arrF]
  | k + 1, ns, h => by
    have p : 1 ≤ 4 ^ k := Nat.pow_pos (by decide)
    rw [arrF]
    split
    · rw [Nat.pow_succ]
      simp
      omega
    · have := flat_len (f := fun i => if 0 < ns.getD i 0 then (arrF k (decN ns i)).map fun o => (i : Int) :: o else []) (B := 4 ^ k) (fun i => by
        split
        · rw [List.length_map]
          exact arr_len k _ (by rw [decN_len]; exact h)
        · simp) (List.range ns.length)
      rw [List.length_range] at this
      rw [Nat.pow_succ]
      have q : ns.length * 4 ^ k ≤ 3 * 4 ^ k := Nat.mul_le_mul_right _ h
      omega
theorem alr_len : ∀ (k : Nat) (ns : List Int), ns.length ≤ 3 → (alrF k ns).length ≤ 4 ^ k
  | 0, _, _ => by simp [alrF]
  | k + 1, ns, h => by
    have p : 1 ≤ 4 ^ k := Nat.pow_pos (by decide)
    rw [alrF, List.length_cons]
    have := flat_len (f := fun i => if 0 < ns.getD i 0 then (alrF k (decN ns i)).map fun o => (i : Int) :: o else []) (B := 4 ^ k) (fun i => by
      split
      · rw [List.length_map]
        exact alr_len k _ (by rw [decN_len]; exact h)
      · simp) (List.range ns.length)
    rw [List.length_range] at this
    rw [Nat.pow_succ]
    have q : ns.length * 4 ^ k ≤ 3 * 4 ^ k := Nat.mul_le_mul_right _ h
    omega
theorem cutD_fromZ {ds : List D} {n : Nat} : Bk.cutD ds (some (n : Int)) none = ds.drop n := by
  unfold Bk.cutD
  rw [HT.sIx_none, HT.sIx_nat]
  by_cases h : n ≤ ds.length
  · rw [Nat.min_eq_left h, List.take_of_length_le (by simp)]
  · rw [Nat.min_eq_right (by omega), List.drop_eq_nil_of_le (by omega), List.drop_eq_nil_of_le (by omega)]
    simp
theorem rest_cut (M : List MO) {ns : List Int} {i : Nat} (hi : i < ns.length) (h3 : ns.length ≤ 3) (v : Int) : ∃ a b, dCut M none (some (i : Nat)) (.lst (ns.map D.int)) = some (.lst a) ∧ dCut M (some ((i : Int) + 1)) none (.lst (ns.map D.int)) = some (.lst b) ∧
    dAdd M (.lst a) (.lst [.int v]) = some (.lst (a ++ [.int v])) ∧ dAdd M (.lst (a ++ [.int v])) (.lst b) = some (.lst ((ns.set i v).map D.int)) := by
  have sz : 2000 ≤ sizeLine := by rw [sizeLine_eq]; omega
  refine ⟨(ns.take i).map D.int, (ns.drop (i + 1)).map D.int, ?_, ?_, ?_, ?_⟩
  · simp only [dCut, listD, Option.map_some, cutD_upto, List.map_take]
  · have e : (i : Int) + 1 = ((i + 1 : Nat) : Int) := by omega
    rw [e]
    simp only [dCut, listD, Option.map_some, cutD_fromZ, List.map_drop]
  · rw [e_addL, if_pos (by simp; omega)]
  · rw [e_addL, if_pos (by simp; omega), List.set_eq_take_append_cons_drop, if_pos hi]
    simp
def tlL (t : Nat → List (List Int)) (ns : List Int) (l : List Nat) : List (List Int) := l.flatMap fun j => if 0 < ns.getD j 0 then (t j).map fun o => (j : Int) :: o else []
/-- an order as a tuple that is known to have no dict -/
def ordI (o : List Int) : D := .ptu (o.map D.int)
theorem tl_lc {f : List Int → D} {M : List MO} {gg : GG} {ge : GE} {Γ : Bk.Env} {Γ1 : D → Bk.Env} {i : Nat} (hg : ∀ d, gg d Γ = some (Γ1 d)) (he : ∀ o : List Int, o.length ≤ 100 → ge (Γ1 (f o)) M = .ok (f ((i : Int) :: o)) M) (L : List (List Int)) (hL : L.length ≤ 2000) (ho : ∀ o ∈ L, o.length ≤ 100) :
    gLcL gg gYes ge Γ (L.map f) [] M = .ok ((L.map fun o => (i : Int) :: o).map f) M := by
  have sz : 20000 ≤ sizeLine := by rw [sizeLine_eq]; omega
  have := lcL_run (gg := gg) (ge := ge) (Γ := Γ) (M := M) f (fun o => f ((i : Int) :: o)) L [] (by simp; omega) fun o hm => ⟨_, hg _, he o (ho o hm)⟩
  rw [this, List.nil_append, List.map_map]
  rfl
theorem arr_loop {F : List D → List MO → Bk.R D} {ns : List Int} (h3 : ns.length ≤ 3) (hb : ∀ x ∈ ns, -1000 ≤ x ∧ x ≤ 1000) {t : Nat → List (List Int)} (hF : ∀ i, i < ns.length → 0 < ns.getD i 0 → ∀ M, callF F [.lst ((decN ns i).map D.int)] M = .ok (.lst ((t i).map ordI)) M) (ht : ∀ i, (t i).length ≤ 2000) (ho : ∀ i, ∀ o ∈ t i, o.length ≤ 100) :
    ∀ (m i : Nat) (acc : List (List Int)), i + m = ns.length → acc.length + 2000 * m ≤ 10000 → gForL (gToT (gToCons (gTo 2) (gToCons (gTo 3) (gToNil)))) (lb_arrangements_1 F) (enumL (i : Int) ((ns.drop i).map D.int)) [some (.lst (ns.map D.int)), some (.ref 0), none, none, none, none] [.lst (acc.map ordI)]
      = .nx [some (.lst (ns.map D.int)), some (.ref 0), none, none, none, none] [.lst ((acc ++ tlL t ns (List.range' i m)).map ordI)]
  | 0, i, acc, hi, _ => by
    rw [List.drop_eq_nil_of_le (by omega)]
    simp [enumL, tlL]
  | m + 1, i, acc, hi, hl => by
    have sz : 20000 ≤ sizeLine := by rw [sizeLine_eq]; omega
    have il : i < ns.length := by omega
    have gi : ns[i] = ns.getD i 0 := by rw [List.getD_eq_getElem?_getD, List.getElem?_eq_getElem il]; rfl
    have ei : ((i + 1 : Nat) : Int) = (i : Int) + 1 := by omega
    rw [List.drop_eq_getElem_cons il, List.map_cons, enumL, gi]
    have er : List.range' i (m + 1) = i :: List.range' (i + 1) m := rfl
    by_cases q : 0 < ns.getD i 0
    · have ih := arr_loop h3 hb hF ht ho m (i + 1) (acc ++ (t i).map fun o => (i : Int) :: o) (by omega) (by have := ht i; rw [List.length_append, List.length_map]; omega)
      rw [ei] at ih
      have e2 : acc ++ tlL t ns (List.range' i (m + 1)) = (acc ++ (t i).map fun o => (i : Int) :: o) ++ tlL t ns (List.range' (i + 1) m) := by
        rw [er]
        unfold tlL
        rw [List.flatMap_cons, if_pos q, List.append_assoc]
      rw [e2]
      refine (forL_cons (Γ1 := [some (.lst (ns.map D.int)), some (.ref 0), some (.int (i : Nat)), some (.int (ns.getD i 0)), none, none]) (by simp) ?_).trans ih
      obtain ⟨a, b, c1, c2, c3, c4⟩ := rest_cut [.lst (acc.map ordI)] il h3 (ns.getD i 0 - 1)
      have cf := hF i il q [.lst (acc.map ordI)]
      unfold decN at cf
      have sb : ∀ M, dSub M (.int (ns.getD i 0)) (.int 1) = some (.int (ns.getD i 0 - 1)) := fun M => by simp
      have gt : ∀ M, dGt M (.int (ns.getD i 0)) (.int 0) = some (.bl true) := fun M => by rw [e_gt, decide_eq_true q]
      have lc := tl_lc (f := ordI) (M := [.lst (acc.map ordI)]) (gg := gTo 5) (ge := le_arrangements_1 F) (i := i) (Γ := [some (.lst (ns.map D.int)), some (.ref 0), some (.int (i : Nat)), some (.int (ns.getD i 0)), some (.lst ((ns.set i (ns.getD i 0 - 1)).map D.int)), none])
        (Γ1 := fun d => [some (.lst (ns.map D.int)), some (.ref 0), some (.int (i : Nat)), some (.int (ns.getD i 0)), some (.lst ((ns.set i (ns.getD i 0 - 1)).map D.int)), some d]) (fun d => by simp) (fun o hol => by
          have ad : ∀ M, dAddP M (.ptu [.int (i : Nat)]) (ordI o) = some (ordI ((i : Int) :: o)) := fun M => by
            show dAddP M (.ptu [.int (i : Nat)]) (.ptu (o.map D.int)) = _
            rw [e_addP, if_pos (by simp; omega)]
            rfl
          generalize ordI o = TO at *
          generalize ordI ((i : Int) :: o) = TI at *
          simp [-e_addP, le_arrangements_1, ad, show 1 ≤ sizeLine by omega]) (t i) (ht i) (ho i)
      have sq : seqD (.lst ((t i).map ordI)) = some ((t i).map ordI) := rfl
      have qa : (acc.map ordI).length + (((t i).map fun o => (i : Int) :: o).map ordI).length ≤ sizeLine := by have := ht i; rw [List.length_map, List.length_map, List.length_map]; omega
      rw [List.map_append]
      generalize ((t i).map fun o => (i : Int) :: o).map ordI = L2 at *
      generalize (t i).map ordI = L1 at *
      generalize acc.map ordI = AC at *
      generalize (ns.set i (ns.getD i 0 - 1)).map D.int = NS2 at *
      generalize ns.map D.int = NS at *
      generalize ns.getD i 0 = x at *
      generalize ((i : Nat) : Int) = ii at *
      simp [-e_addL, -e_sub, -e_gt, lb_arrangements_1, gt, c1, c2, c3, c4, sb, cf, sq, lc, listD, isListD, mutR, mExtend, qa]
    · have ih := arr_loop h3 hb hF ht ho m (i + 1) acc (by omega) (by omega)
      rw [ei] at ih
      have e2 : acc ++ tlL t ns (List.range' i (m + 1)) = acc ++ tlL t ns (List.range' (i + 1) m) := by
        rw [er]
        unfold tlL
        rw [List.flatMap_cons, if_neg q]
        rfl
      rw [e2]
      refine (forL_cons (Γ1 := [some (.lst (ns.map D.int)), some (.ref 0), some (.int (i : Nat)), some (.int (ns.getD i 0)), none, none]) (by simp) ?_).trans ih
      have gt : ∀ M, dGt M (.int (ns.getD i 0)) (.int 0) = some (.bl false) := fun M => by rw [e_gt, decide_eq_false q]
      generalize ns.getD i 0 = x at *
      simp [-e_gt, lb_arrangements_1, gt]
theorem tlL_arr (k : Nat) (ns : List Int) : tlL (fun i => arrF k (decN ns i)) ns (List.range ns.length) = (List.range ns.length).flatMap fun i => if 0 < ns.getD i 0 then (arrF k (decN ns i)).map fun o => (i : Int) :: o else [] := rfl
theorem ful_len : ∀ (k : Nat) (ns o : List Int), o ∈ arrF k ns → o.length ≤ k
  | 0, _, o, h => by
    have : o = [] := by simpa [arrF] using h
    subst this
    simp
  | k + 1, ns, o, h => by
    rw [arrF] at h
    split at h
    · have : o = [] := by simpa using h
      subst this
      simp
    · obtain ⟨i, _, hm⟩ := List.mem_flatMap.mp h
      split at hm
      · obtain ⟨x, hx, rfl⟩ := List.mem_map.mp hm
        have := ful_len k _ x hx
        simpa using this
      · cases hm
theorem tups_below (m : Nat) (rs : List (List Int)) : belows m (rs.map tupI) = true := by
  rw [belows_all, List.all_map, List.all_eq_true]
  intro r _
  have := belows_ints m r
  simpa [tupI, below] using this
theorem ords_below (m : Nat) (rs : List (List Int)) : belows m (rs.map ordI) = true := by
  rw [belows_all, List.all_map, List.all_eq_true]
  intro r _
  have := belows_ints m r
  simpa [ordI, below] using this
theorem sumZ (M : List MO) (l : List Int) : dSum M (.lst (l.map D.int)) = some (.int l.sum) := by
  simp [dSum, ofInts, listD]
theorem fr_arr : ∀ (k n : Nat) (ns : List Int), k ≤ 4 → k + 1 ≤ n → ns.length ≤ 3 → (∀ x ∈ ns, 0 ≤ x) → ns.sum ≤ (k : Int) → FR_arrangements n 0 [.lst (ns.map D.int)] [] = .ok (.lst ((arrF k ns).map ordI)) []
  | k, 0, _, _, h, _, _, _ => absurd h (by omega)
  | 0, n + 1, ns, hk, hn, h3, h0, hs => by
    have z := (sum_ge ns 0 h0).2.1
    have e : ns.sum = 0 := by omega
    have su : ∀ M, dSum M (.lst (ns.map D.int)) = some (.int 0) := fun M => by rw [sumZ, e]
    have bl := belows_ints 0 ns
    rw [arrF]
    generalize ns.map D.int = NS at *
    simp [FR_arrangements, b_arrangements, runF, su, ordI]
  | k + 1, n + 1, ns, hk, hn, h3, h0, hs => by
    have su : ∀ M, dSum M (.lst (ns.map D.int)) = some (.int ns.sum) := fun M => sumZ M ns
    rw [arrF]
    by_cases c : ns.sum = 0
    · rw [if_pos c]
      rw [c] at su
      generalize ns.map D.int = NS at *
      simp [FR_arrangements, b_arrangements, runF, su, ordI]
    · rw [if_neg c]
      have lp := arr_loop (F := FR_arrangements n 0) h3 (fun x hx => by
        obtain ⟨i, hi, e⟩ := List.getElem_of_mem hx
        have a := sum_ge ns i h0
        have : ns.getD i 0 = x := by rw [List.getD_eq_getElem?_getD, List.getElem?_eq_getElem hi, ← e]; rfl
        omega) (t := fun i => arrF k (decN ns i)) (fun i hi hp M => by
          have := fr_arr k n (decN ns i) (by omega) (by omega) (by rw [decN_len]; exact h3) (decN_nn h0 hp) (by rw [decN_sum hi]; omega)
          exact c_flat this M (by simpa [belows, below] using belows_ints 0 (decN ns i)) (by simpa [below] using ords_below 0 (arrF k (decN ns i)))) (fun i => by
          by_cases q : i < ns.length
          · have a := arr_len k (decN ns i) (by rw [decN_len]; exact h3)
            have b : 4 ^ k ≤ 4 ^ 4 := Nat.pow_le_pow_right (by decide) (by omega)
            have : (4 : Nat) ^ 4 = 256 := rfl
            omega
          · have a := arr_len k (decN ns i) (by rw [decN_len]; exact h3)
            have b : 4 ^ k ≤ 4 ^ 4 := Nat.pow_le_pow_right (by decide) (by omega)
            have : (4 : Nat) ^ 4 = 256 := rfl
            omega) (fun i o ho => by have := ful_len k _ o ho; omega) ns.length 0 [] (by omega) (by simp; omega)
      have er : List.range' 0 ns.length = List.range ns.length := (List.range_eq_range' ..).symm
      rw [er, tlL_arr, List.nil_append, List.drop_zero, List.map_nil] at lp
      have lp : gForL _ _ (enumL 0 (ns.map D.int)) _ _ = _ := lp
      have bt := ords_below 0 ((List.range ns.length).flatMap fun i => if 0 < ns.getD i 0 then (arrF k (decN ns i)).map fun o => (i : Int) :: o else [])
      have bt1 := ords_below 1 ((List.range ns.length).flatMap fun i => if 0 < ns.getD i 0 then (arrF k (decN ns i)).map fun o => (i : Int) :: o else [])
      have sq : seqD (.lst (ns.map D.int)) = some (ns.map D.int) := rfl
      have eq : ∀ M, dEqA M (.int ns.sum) (.int 0) = some (.bl false) := fun M => by simp [c]
      generalize ((List.range ns.length).flatMap fun i => if 0 < ns.getD i 0 then (arrF k (decN ns i)).map fun o => (i : Int) :: o else []).map ordI = RS at *
      generalize ns.map D.int = NS at *
      generalize ns.sum = S at *
      simp [FR_arrangements, b_arrangements, runF, su, eq, sq, lp, bt, bt1]
theorem c_arr {ns : List Int} (h3 : ns.length ≤ 3) (h0 : ∀ x ∈ ns, 0 ≤ x) (hs : ns.sum ≤ ((4 : Nat) : Int)) (M : List MO) : callF F_arrangements [.lst (ns.map D.int)] M = .ok (.lst ((arrF 4 ns).map ordI)) M :=
  c_flat (fr_arr 4 6 ns (by omega) (by omega) h3 h0 hs) M (by simpa [belows, below] using belows_ints 0 ns) (by simpa [below] using ords_below 0 (arrF 4 ns))
end My

set_option Elab.async false
set_option linter.all false
set_option maxRecDepth 100000
set_option maxHeartbeats 8000000
namespace My
open PySem PySem.Spec PyProof.Rows L2 Bk
/-! ### the law's orders, walked -/
theorem alr_loop {F : List D → List MO → Bk.R D} {ns : List Int} (h3 : ns.length ≤ 3) (hb : ∀ x ∈ ns, -1000 ≤ x ∧ x ≤ 1000) {t : Nat → List (List Int)} (hF : ∀ i, i < ns.length → 0 < ns.getD i 0 → ∀ M, callF F [.lst ((decN ns i).map D.int)] M = .ok (.lst ((t i).map tupI)) M) (ht : ∀ i, (t i).length ≤ 2000) (ho : ∀ i, ∀ o ∈ t i, o.length ≤ 100) :
    ∀ (m i : Nat) (acc : List (List Int)), i + m = ns.length → acc.length + 2000 * m ≤ 10000 → gForL (gToT (gToCons (gTo 2) (gToCons (gTo 3) (gToNil)))) (lb_law_arranged_1 F) (enumL (i : Int) ((ns.drop i).map D.int)) [some (.lst (ns.map D.int)), some (.ref 0), none, none, none, none] [.lst (acc.map tupI)]
      = .nx [some (.lst (ns.map D.int)), some (.ref 0), none, none, none, none] [.lst ((acc ++ tlL t ns (List.range' i m)).map tupI)]
  | 0, i, acc, hi, _ => by
    rw [List.drop_eq_nil_of_le (by omega)]
    simp [enumL, tlL]
  | m + 1, i, acc, hi, hl => by
    have sz : 20000 ≤ sizeLine := by rw [sizeLine_eq]; omega
    have il : i < ns.length := by omega
    have gi : ns[i] = ns.getD i 0 := by rw [List.getD_eq_getElem?_getD, List.getElem?_eq_getElem il]; rfl
    have ei : ((i + 1 : Nat) : Int) = (i : Int) + 1 := by omega
    rw [List.drop_eq_getElem_cons il, List.map_cons, enumL, gi]
    have er : List.range' i (m + 1) = i :: List.range' (i + 1) m := rfl
    by_cases q : 0 < ns.getD i 0
    · have ih := alr_loop h3 hb hF ht ho m (i + 1) (acc ++ (t i).map fun o => (i : Int) :: o) (by omega) (by have := ht i; rw [List.length_append, List.length_map]; omega)
      rw [ei] at ih
      have e2 : acc ++ tlL t ns (List.range' i (m + 1)) = (acc ++ (t i).map fun o => (i : Int) :: o) ++ tlL t ns (List.range' (i + 1) m) := by
        rw [er]
        unfold tlL
        rw [List.flatMap_cons, if_pos q, List.append_assoc]
      rw [e2]
      refine (forL_cons (Γ1 := [some (.lst (ns.map D.int)), some (.ref 0), some (.int (i : Nat)), some (.int (ns.getD i 0)), none, none]) (by simp) ?_).trans ih
      obtain ⟨a, b, c1, c2, c3, c4⟩ := rest_cut [.lst (acc.map tupI)] il h3 (ns.getD i 0 - 1)
      have cf := hF i il q [.lst (acc.map tupI)]
      unfold decN at cf
      have sb : ∀ M, dSub M (.int (ns.getD i 0)) (.int 1) = some (.int (ns.getD i 0 - 1)) := fun M => by simp
      have gt : ∀ M, dGt M (.int (ns.getD i 0)) (.int 0) = some (.bl true) := fun M => by rw [e_gt, decide_eq_true q]
      have lc := tl_lc (f := tupI) (M := [.lst (acc.map tupI)]) (gg := gTo 5) (ge := le_law_arranged_1 F) (i := i) (Γ := [some (.lst (ns.map D.int)), some (.ref 0), some (.int (i : Nat)), some (.int (ns.getD i 0)), some (.lst ((ns.set i (ns.getD i 0 - 1)).map D.int)), none])
        (Γ1 := fun d => [some (.lst (ns.map D.int)), some (.ref 0), some (.int (i : Nat)), some (.int (ns.getD i 0)), some (.lst ((ns.set i (ns.getD i 0 - 1)).map D.int)), some d]) (fun d => by simp) (fun o hol => by
          have ad : ∀ M, dAdd M (.tup [.int (i : Nat)]) (tupI o) = some (tupI ((i : Int) :: o)) := fun M => by
            show dAdd M (.tup [.int (i : Nat)]) (.tup (o.map D.int)) = _
            rw [e_addT, if_pos (by simp; omega)]
            rfl
          generalize tupI o = TO at *
          generalize tupI ((i : Int) :: o) = TI at *
          simp [-e_addT, le_law_arranged_1, ad]) (t i) (ht i) (ho i)
      have sq : seqD (.lst ((t i).map tupI)) = some ((t i).map tupI) := rfl
      have qa : (acc.map tupI).length + (((t i).map fun o => (i : Int) :: o).map tupI).length ≤ sizeLine := by have := ht i; rw [List.length_map, List.length_map, List.length_map]; omega
      rw [List.map_append]
      generalize ((t i).map fun o => (i : Int) :: o).map tupI = L2 at *
      generalize (t i).map tupI = L1 at *
      generalize acc.map tupI = AC at *
      generalize (ns.set i (ns.getD i 0 - 1)).map D.int = NS2 at *
      generalize ns.map D.int = NS at *
      generalize ns.getD i 0 = x at *
      generalize ((i : Nat) : Int) = ii at *
      simp [-e_addL, -e_sub, -e_gt, lb_law_arranged_1, gt, c1, c2, c3, c4, sb, cf, sq, lc, listD, isListD, mutR, mExtend, qa]
    · have ih := alr_loop h3 hb hF ht ho m (i + 1) acc (by omega) (by omega)
      rw [ei] at ih
      have e2 : acc ++ tlL t ns (List.range' i (m + 1)) = acc ++ tlL t ns (List.range' (i + 1) m) := by
        rw [er]
        unfold tlL
        rw [List.flatMap_cons, if_neg q]
        rfl
      rw [e2]
      refine (forL_cons (Γ1 := [some (.lst (ns.map D.int)), some (.ref 0), some (.int (i : Nat)), some (.int (ns.getD i 0)), none, none]) (by simp) ?_).trans ih
      have gt : ∀ M, dGt M (.int (ns.getD i 0)) (.int 0) = some (.bl false) := fun M => by rw [e_gt, decide_eq_false q]
      generalize ns.getD i 0 = x at *
      simp [-e_gt, lb_law_arranged_1, gt]
theorem upt_len : ∀ (k : Nat) (ns o : List Int), o ∈ alrF k ns → o.length ≤ k
  | 0, _, o, h => by
    have : o = [] := by simpa [alrF] using h
    subst this
    simp
  | k + 1, ns, o, h => by
    rw [alrF, List.mem_cons] at h
    rcases h with rfl | h
    · simp
    · obtain ⟨i, _, hm⟩ := List.mem_flatMap.mp h
      split at hm
      · obtain ⟨x, hx, rfl⟩ := List.mem_map.mp hm
        have := upt_len k _ x hx
        simpa using this
      · cases hm
theorem fr_alr : ∀ (k n : Nat) (ns : List Int), k ≤ 4 → k + 1 ≤ n → ns.length ≤ 3 → (∀ x ∈ ns, 0 ≤ x) → ns.sum ≤ (k : Int) → FR_law_arranged n 0 [.lst (ns.map D.int)] [] = .ok (.lst ((alrF k ns).map tupI)) []
  | k, 0, _, _, h, _, _, _ => absurd h (by omega)
  | k, n + 1, ns, hk, hn, h3, h0, hs => by
    obtain ⟨t, ht1, ht2, ht3, ht4⟩ : ∃ t : Nat → List (List Int), (∀ i, i < ns.length → 0 < ns.getD i 0 → ∀ M, callF (FR_law_arranged n 0) [.lst ((decN ns i).map D.int)] M = .ok (.lst ((t i).map tupI)) M) ∧ (∀ i, (t i).length ≤ 2000) ∧ (∀ i, ∀ o ∈ t i, o.length ≤ 100) ∧ alrF k ns = [] :: tlL t ns (List.range ns.length) := by
      cases k with
      | zero =>
        refine ⟨fun _ => [], fun i hi hp => ?_, fun _ => by simp, fun _ o ho => (by cases ho), ?_⟩
        · have := sum_ge ns i h0
          omega
        · rw [alrF]
          have : tlL (fun _ => []) ns (List.range ns.length) = [] := by
            unfold tlL
            rw [List.flatMap_eq_nil_iff]
            intro j _
            split <;> rfl
          rw [this]
      | succ k =>
        have b : ∀ i, (alrF k (decN ns i)).length ≤ 2000 := fun i => by
          have a := alr_len k (decN ns i) (by rw [decN_len]; exact h3)
          have b : 4 ^ k ≤ 4 ^ 4 := Nat.pow_le_pow_right (by decide) (by omega)
          have : (4 : Nat) ^ 4 = 256 := rfl
          omega
        refine ⟨fun i => alrF k (decN ns i), fun i hi hp M => ?_, b, fun i o ho => by have := upt_len k _ o ho; omega, rfl⟩
        have := fr_alr k n (decN ns i) (by omega) (by omega) (by rw [decN_len]; exact h3) (decN_nn h0 hp) (by rw [decN_sum hi]; omega)
        exact c_flat this M (by simpa [belows, below] using belows_ints 0 (decN ns i)) (by simpa [below] using tups_below 0 (alrF k (decN ns i)))
    have lp := alr_loop (F := FR_law_arranged n 0) h3 (fun x hx => by
      obtain ⟨i, hi, e⟩ := List.getElem_of_mem hx
      have a := sum_ge ns i h0
      have : ns.getD i 0 = x := by rw [List.getD_eq_getElem?_getD, List.getElem?_eq_getElem hi, ← e]; rfl
      omega) ht1 ht2 ht3 ns.length 0 [[]] (by omega) (by simp; omega)
    have er : List.range' 0 ns.length = List.range ns.length := (List.range_eq_range' ..).symm
    rw [er, List.drop_zero, List.singleton_append, ← ht4] at lp
    have lp : gForL _ _ (enumL 0 (ns.map D.int)) _ [.lst [.tup []]] = _ := lp
    have bt := tups_below 0 (alrF k ns)
    have bt1 := tups_below 1 (alrF k ns)
    have sq : seqD (.lst (ns.map D.int)) = some (ns.map D.int) := rfl
    generalize (alrF k ns).map tupI = RS at *
    generalize ns.map D.int = NS at *
    simp [FR_law_arranged, b_law_arranged, runF, sq, lp, bt, bt1]
theorem c_alr {ns : List Int} (h3 : ns.length ≤ 3) (h0 : ∀ x ∈ ns, 0 ≤ x) (hs : ns.sum ≤ ((4 : Nat) : Int)) (M : List MO) : callF F_law_arranged [.lst (ns.map D.int)] M = .ok (.lst ((alrF 4 ns).map tupI)) M :=
  c_flat (fr_alr 4 6 ns (by omega) (by omega) h3 h0 hs) M (by simpa [belows, below] using belows_ints 0 ns) (by simpa [below] using tups_below 0 (alrF 4 ns))
/-! the law's usable and hit -/
def rowD (b : List Int) : D := .tup (b.map D.int)
def rowsD (B : List (List Int)) : D := .tup (B.map rowD)
theorem rowsD_bl (m : Nat) (B : List (List Int)) : below m (rowsD B) = true := by
  have := tups_below m B
  exact this
def goneB (day : Int) (r : Option Int) (a : Int) : Bool := match r with
  | none => true
  | some r => decide (day < a + 1 + r)
theorem goneU_B (st : Stk) (day : Int) (i : Nat) : goneU st day i = goneB day (st.at i).2 := by
  funext x
  unfold goneU goneB
  rfl
theorem use_loop {B : List (List Int)} {day : Int} (st : Stk) (h3 : st.length ≤ 3) (hl : B.length = st.length) (hb : ∀ b ∈ B, b.length ≤ 1000) (x0 x1 : Option D) : ∀ (m i : Nat) (acc : List Int), i + m = st.length → acc.length + m ≤ 100 →
    gForL (gToT (gToCons (gToT (gToCons (gTo 4) (gToCons (gTo 5) (gToNil)))) (gToCons (gTo 6) (gToNil)))) lb_law_usable_1 (zipL ((st.drop i).map entD) ((B.drop i).map rowD)) [x0, x1, some (.int day), some (.ref 0), none, none, none, none, none] [.lst (acc.map D.int)]
      = .nx [x0, x1, some (.int day), some (.ref 0), none, none, none, none, none] [.lst ((acc ++ ((List.range' i m).map fun i => (st.at i).1 - (((B.getD i []).filter (goneU st day i)).length : Nat))).map D.int)]
  | 0, i, acc, hi, _ => by
    rw [List.drop_eq_nil_of_le (by omega)]
    simp [zipL]
  | m + 1, i, acc, hi, hq => by
    have sz : 20000 ≤ sizeLine := by rw [sizeLine_eq]; omega
    have il : i < st.length := by omega
    have ib : i < B.length := by omega
    have gs : st[i] = st.at i := by unfold Stk.at; rw [List.getD_eq_getElem?_getD, List.getElem?_eq_getElem il]; rfl
    have gb : B[i] = B.getD i [] := by rw [List.getD_eq_getElem?_getD, List.getElem?_eq_getElem ib]; rfl
    have bl : (B.getD i []).length ≤ 1000 := by rw [← gb]; exact hb _ (List.getElem_mem ib)
    have er : List.range' i (m + 1) = i :: List.range' (i + 1) m := rfl
    rw [List.drop_eq_getElem_cons il, List.drop_eq_getElem_cons ib, List.map_cons, List.map_cons, zipL, gs, gb, er, List.map_cons]
    have ih := use_loop (day := day) st h3 hl hb x0 x1 m (i + 1) (acc ++ [(st.at i).1 - (((B.getD i []).filter (goneU st day i)).length : Nat)]) (by omega) (by rw [List.length_append, List.length_singleton]; omega)
    rw [List.append_assoc, List.singleton_append] at ih
    obtain ⟨a, r, hst⟩ : ∃ a r, st.at i = (a, r) := ⟨_, _, rfl⟩
    have g0 : goneU st day i = goneB day r := by
      rw [goneU_B, hst]
    refine (forL_cons (Γ1 := [x0, x1, some (.int day), some (.ref 0), some (.int a), some (optD r), some (rowD (B.getD i [])), none, none]) (by rw [hst]; simp [entD]) ?_).trans ih
    have lc := lcL_sel (gg := gTo 8) (gt := gOrT (gVal (gOp2 dIsN (gV 5) (gC .non))) (gVal (gOp2 dGt (gOp2 dAdd (gOp2 dAdd (gV 8) (gC (.int 1))) (gV 5)) (gV 2)))) (ge := gV 8) (Γ := [x0, x1, some (.int day), some (.ref 0), some (.int a), some (optD r), some (rowD (B.getD i [])), none, none]) (M := [.lst (acc.map D.int)]) D.int D.int (goneU st day i) (B.getD i []) [] (by rw [List.length_nil]; omega) fun x hx => by
      refine ⟨[x0, x1, some (.int day), some (.ref 0), some (.int a), some (optD r), some (rowD (B.getD i [])), none, some (.int x)], by simp, ?_, fun _ => by simp⟩
      rw [g0]
      cases r with
      | none => simp [optD, goneB]
      | some r => simp [optD, goneB]
    rw [List.nil_append] at lc
    have ll : ∀ M, dLen M (.lst (((B.getD i []).filter (goneU st day i)).map D.int)) = some (.int (((B.getD i []).filter (goneU st day i)).length : Nat)) := fun M => by simp
    have sq : seqD (rowD (B.getD i [])) = some ((B.getD i []).map D.int) := rfl
    have qa : (acc.map D.int).length < sizeLine := by rw [List.length_map]; omega
    rw [List.map_append, List.map_cons, List.map_nil, hst]
    generalize ((((B.getD i []).filter (goneU st day i)).length : Nat) : Int) = gl at *
    generalize ((B.getD i []).filter (goneU st day i)).map D.int = FL at *
    generalize (B.getD i []).map D.int = BM at *
    generalize rowD (B.getD i []) = RB at *
    generalize acc.map D.int = AC at *
    generalize optD r = OR at *
    simp [-e_lenL, lb_law_usable_1, sq, lc, ll, listD, isListD, mutR, qa]
end My

set_option Elab.async false
set_option linter.all false
set_option maxRecDepth 100000
set_option maxHeartbeats 8000000
namespace My
open PySem PySem.Spec PyProof.Rows L2 Bk
/-! ### usable and hit -/
theorem m_usable {st : Stk} (t : Bool) {B : List (List Int)} {day : Int} (h3 : st.length ≤ 3) (hl : B.length = st.length) (hb : ∀ b ∈ B, b.length ≤ 1000) : F_law_usable [calD t st, rowsD B, .int day] [] = .ok (.lst ((usb st B day).map D.int)) [] := by
  have lp := use_loop (B := B) (day := day) st h3 hl hb (some (calD t st)) (some (rowsD B)) st.length 0 [] (by omega) (by simp; omega)
  have er : List.range' 0 st.length = List.range st.length := (List.range_eq_range' ..).symm
  rw [er, List.nil_append, List.drop_zero, List.drop_zero, List.map_nil] at lp
  have lp : gForL _ _ _ _ _ = .nx _ [.lst ((usb st B day).map D.int)] := lp
  have zq : zipO (calD t st) (rowsD B) = some (zipL (st.map entD) (B.map rowD)) := by cases t <;> rfl
  have b1 := belows_ints 0 (usb st B day)
  have b2 := belows_ints 1 (usb st B day)
  generalize (usb st B day).map D.int = UB at *
  generalize zipL (st.map entD) (B.map rowD) = ZL at *
  generalize calD t st = CD at *
  generalize rowsD B = RB at *
  simp [F_law_usable, b_law_usable, runF, zq, lp, b1, b2]
theorem c_usable {st : Stk} (t : Bool) {B : List (List Int)} {day : Int} (h3 : st.length ≤ 3) (hl : B.length = st.length) (hb : ∀ b ∈ B, b.length ≤ 1000) (M : List MO) : callF F_law_usable [calD t st, rowsD B, .int day] M = .ok (.lst ((usb st B day).map D.int)) M :=
  c_flat (m_usable t h3 hl hb) M (by have := rowsD_bl 0 B; simp [belows, this]) (by simpa [below] using belows_ints 0 (usb st B day))
theorem hit_loop {day : Int} (x0 x1 : Option D) : ∀ (o : List Int) (B : List (List Int)), (∀ s ∈ o, ∃ i : Nat, i < B.length ∧ s = (i : Int)) → (∀ b ∈ B, b.length + o.length ≤ 1000) →
    gForL (gTo 4) lb_law_hit_1 (o.map D.int) [x0, x1, some (.int day), some (.ref 0), none] [.lst (B.map rowD)] = .nx [x0, x1, some (.int day), some (.ref 0), none] [.lst ((hitL day B o).map rowD)]
  | [], B, _, _ => by simp [hitL]
  | s :: o, B, ho, hb => by
    have sz : 20000 ≤ sizeLine := by rw [sizeLine_eq]; omega
    obtain ⟨i, hi, rfl⟩ := ho s (by simp)
    have gi : B[i]? = some (B.getD i []) := by rw [List.getD_eq_getElem?_getD, List.getElem?_eq_getElem hi]; rfl
    have bl := hb _ (List.mem_of_getElem? gi)
    rw [List.length_cons] at bl
    have ih := hit_loop (day := day) x0 x1 o (B.set i (B.getD i [] ++ [day])) (fun x hx => by rw [List.length_set]; exact ho x (by simp [hx])) fun b hbm => by
      rcases List.mem_or_eq_of_mem_set hbm with q | q
      · have := hb b q
        rw [List.length_cons] at this
        omega
      · rw [q, List.length_append, List.length_singleton]
        omega
    rw [hitL, Int.toNat_natCast, List.map_cons]
    refine (forL_cons (Γ1 := [x0, x1, some (.int day), some (.ref 0), some (.int (i : Nat))]) (by simp) ?_).trans ih
    have ix : dIx [.lst (B.map rowD)] (.ref 0) (.int (i : Nat)) = some (rowD (B.getD i [])) := by
      rw [e_ix, itemsD_r]
      have : listD [MO.lst (B.map rowD)] (.ref 0) = some (B.map rowD) := rfl
      rw [this, Option.bind_some, Bk.atI_nat, List.getElem?_map, gi]
      rfl
    have ad : ∀ M, dAdd M (rowD (B.getD i [])) (.tup [.int day]) = some (rowD (B.getD i [] ++ [day])) := fun M => by
      show dAdd M (.tup ((B.getD i []).map D.int)) (.tup [.int day]) = _
      rw [e_addT, if_pos (by rw [List.length_map]; simp only [List.length_cons, List.length_nil]; omega)]
      simp [rowD]
    have em : (B.set i (B.getD i [] ++ [day])).map rowD = (B.map rowD).set i (rowD (B.getD i [] ++ [day])) := List.map_set
    have il : i < (B.map rowD).length := by rw [List.length_map]; exact hi
    have sr : ∀ v : D, setR [.lst (B.map rowD)] (.ref 0) (.int (i : Nat)) v = some [.lst ((B.map rowD).set i v)] := fun v => by
      have e : ixN (B.map rowD).length (i : Int) = some i := by
        unfold ixN
        simp only [List.length_map]
        split <;> simp_all <;> omega
      simp only [setR, List.getElem?_cons_zero, e, List.set_cons_zero]
    rw [em]
    generalize rowD (B.getD i [] ++ [day]) = R1 at *
    generalize rowD (B.getD i []) = R0 at *
    generalize B.map rowD = BM at *
    simp [-e_ix, -e_addT, lb_law_hit_1, ix, ad, sr]
theorem m_hit {day : Int} {o : List Int} {B : List (List Int)} (ho : ∀ s ∈ o, ∃ i : Nat, i < B.length ∧ s = (i : Int)) (hb : ∀ b ∈ B, b.length + o.length ≤ 1000) : F_law_hit [rowsD B, tupI o, .int day] [] = .ok (rowsD (hitL day B o)) [] := by
  have lp := hit_loop (day := day) (some (rowsD B)) (some (tupI o)) o B ho hb
  have sq : seqD (tupI o) = some (o.map D.int) := rfl
  have it : ∀ M, items1 M [rowsD B] = some (B.map rowD) := fun M => rfl
  have b0 := rowsD_bl 0 (hitL day B o)
  have dt : ∀ M, dTuple M (.lst ((hitL day B o).map rowD)) = some (rowsD (hitL day B o)) := fun M => rfl
  have b1 : below 1 (rowsD (hitL day B o)) = true := rowsD_bl 1 _
  have b2 : belows 1 ((hitL day B o).map rowD) = true := tups_below 1 _
  have rt : ∀ x, retR 0 [x] (rowsD (hitL day B o)) = .ok (rowsD (hitL day B o)) [] := fun x => by
    show (if below 0 (rowsD (hitL day B o)) = true then _ else _) = _
    rw [if_pos b0]
    rfl
  generalize rowsD (hitL day B o) = R1 at *
  generalize (hitL day B o).map rowD = HM at *
  generalize B.map rowD = BM at *
  generalize rowsD B = R0 at *
  generalize o.map D.int = OM at *
  generalize tupI o = TO at *
  simp [F_law_hit, b_law_hit, runF, it, sq, lp, dt, b2, rt]
theorem c_hit {day : Int} {o : List Int} {B : List (List Int)} (ho : ∀ s ∈ o, ∃ i : Nat, i < B.length ∧ s = (i : Int)) (hb : ∀ b ∈ B, b.length + o.length ≤ 1000) (M : List MO) : callF F_law_hit [rowsD B, tupI o, .int day] M = .ok (rowsD (hitL day B o)) M :=
  c_flat (m_hit ho hb) M (by have a := rowsD_bl 0 B; have b := belows_ints 0 o; simp [belows, a, tupI, below, b]) (rowsD_bl 0 _)
end My

set_option Elab.async false
set_option linter.all false
set_option maxRecDepth 100000
set_option maxHeartbeats 8000000
namespace My
open PySem PySem.Spec PyProof.Rows L2 Bk
/-! ### the keys of both dicts, and how many there can be -/
abbrev BK := List (List Int) × Int
def kBK (a : BK) : D := .tup [rowsD a.1, .int a.2]
def nBK (a : BK) : NestedKey := .tup [.tup (a.1.map fun b => .tup (b.map .num)), .num a.2]
theorem keysD_rows : ∀ B : List (List Int), keysD (B.map rowD) = some (B.map fun b => .tup (b.map .num))
  | [] => rfl
  | b :: B => by
    rw [List.map_cons, List.map_cons]
    show (match keyD (rowD b), keysD (B.map rowD) with
      | some k, some ks => some (k :: ks)
      | _, _ => none) = _
    have e : keyD (rowD b) = some (.tup (b.map .num)) := by
      show (keysD (b.map D.int)).map NestedKey.tup = _
      rw [keysD_intsB]
      rfl
    rw [e, keysD_rows B]
theorem rows_inj : ∀ {s t : List (List Int)}, (s.map fun b => NestedKey.tup (b.map .num)) = (t.map fun b => NestedKey.tup (b.map .num)) → s = t
  | [], [], _ => rfl
  | [], q :: t, h => by simp at h
  | p :: s, [], h => by simp at h
  | p :: s, q :: t, h => by
    simp only [List.map_cons, List.cons.injEq, NestedKey.tup.injEq] at h
    rw [rows_inj h.2, nums_inj h.1]
theorem keyOk_BK : KeyOk kBK nBK := by
  refine ⟨fun a => ?_, fun a b h => ?_, fun a => ?_, fun a => rfl⟩
  · have e : keyD (rowsD a.1) = some (.tup (a.1.map fun b => .tup (b.map .num))) := by
      show (keysD (a.1.map rowD)).map NestedKey.tup = _
      rw [keysD_rows]
      rfl
    show (keysD [rowsD a.1, .int a.2]).map NestedKey.tup = _
    have e2 : keysD [rowsD a.1, .int a.2] = some [.tup (a.1.map fun b => .tup (b.map .num)), .num a.2] := by
      show (match keyD (rowsD a.1), keysD [.int a.2] with
        | some k, some ks => some (k :: ks)
        | _, _ => none) = _
      rw [e]
      rfl
    rw [e2]
    rfl
  · unfold nBK at h
    injection h with h
    simp only [List.cons.injEq, NestedKey.num.injEq, NestedKey.tup.injEq, and_true] at h
    exact Prod.ext (rows_inj h.1) h.2
  · have h : ∀ l : List Int, NestedKey.depthAll (l.map .num) ≤ 2 := fun l => by
      induction l with
      | nil => simp [NestedKey.depthAll]
      | cons p l ih =>
        simp only [List.map_cons, NestedKey.depthAll, NestedKey.depth]
        omega
    have h2 : ∀ B : List (List Int), NestedKey.depthAll (B.map fun b => .tup (b.map .num)) ≤ 4 := fun B => by
      induction B with
      | nil => simp [NestedKey.depthAll]
      | cons b B ih =>
        have := h b
        simp only [List.map_cons, NestedKey.depthAll, NestedKey.depth]
        omega
    have := h2 a.1
    unfold nBK
    simp only [NestedKey.depth, NestedKey.depthAll]
    omega
theorem pigeon {α : Type} [DecidableEq α] : ∀ {l u : List α}, l.Nodup → (∀ x ∈ l, x ∈ u) → l.length ≤ u.length
  | [], _, _, _ => Nat.zero_le _
  | x :: l, u, nd, h => by
    obtain ⟨n1, n2⟩ := List.nodup_cons.mp nd
    have hx := h x (by simp)
    have := pigeon (l := l) (u := u.erase x) n2 fun y hy => (List.mem_erase_of_ne (fun (e : y = x) => n1 (by rw [← e]; exact hy))).mpr (h y (by simp [hy]))
    rw [List.length_erase_of_mem hx] at this
    have : 0 < u.length := List.length_pos_of_mem hx
    rw [List.length_cons]
    omega
/-- all lists of a length over some items -/
def prodL {α : Type} (R : List α) : Nat → List (List α)
  | 0 => [[]]
  | k + 1 => R.flatMap fun r => (prodL R k).map fun l => r :: l
theorem prodL_len {α : Type} (R : List α) : ∀ k, (prodL R k).length = R.length ^ k
  | 0 => rfl
  | k + 1 => by
    have : ∀ Q : List α, (Q.flatMap fun r => (prodL R k).map fun l => r :: l).length = Q.length * R.length ^ k := fun Q => by
      induction Q with
      | nil => simp
      | cons q Q ih => rw [List.flatMap_cons, List.length_append, ih, List.length_map, prodL_len R k, List.length_cons, Nat.add_mul]; omega
    rw [prodL, this, Nat.pow_succ, Nat.mul_comm]
theorem prodL_mem {α : Type} {R : List α} : ∀ {k : Nat} {l : List α}, l.length = k → (∀ x ∈ l, x ∈ R) → l ∈ prodL R k
  | 0, l, h, _ => by
    have : l = [] := List.length_eq_zero_iff.mp h
    subst this
    simp [prodL]
  | k + 1, [], h, _ => by simp at h
  | k + 1, x :: l, h, hx => by
    rw [prodL, List.mem_flatMap]
    exact ⟨x, hx x (by simp), List.mem_map.mpr ⟨l, prodL_mem (by simpa using h) fun y hy => hx y (by simp [hy]), rfl⟩⟩
/-! what broke on which days -/
def hst3 (a b c : Nat) : List Int := List.replicate a 1 ++ List.replicate b 2 ++ List.replicate c 3
def R3 : List (List Int) := (List.range 5).flatMap fun a => (List.range 5).flatMap fun b => (List.range 5).map fun c => hst3 a b c
def Hist (day : Int) (x : List Int) : Prop := ∃ a b c : Nat, a ≤ 4 ∧ b ≤ 4 ∧ c ≤ 4 ∧ x = hst3 a b c ∧ (day ≤ 3 → c = 0) ∧ (day ≤ 2 → b = 0) ∧ (day ≤ 1 → a = 0)
theorem Hist.mem {day : Int} {x : List Int} (h : Hist day x) : x ∈ R3 := by
  obtain ⟨a, b, c, h1, h2, h3, rfl, _⟩ := h
  exact List.mem_flatMap.mpr ⟨a, List.mem_range.mpr (by omega), List.mem_flatMap.mpr ⟨b, List.mem_range.mpr (by omega), List.mem_map.mpr ⟨c, List.mem_range.mpr (by omega), rfl⟩⟩⟩
theorem Hist.len {day : Int} {x : List Int} (h : Hist day x) : x.length ≤ 12 := by
  obtain ⟨a, b, c, h1, h2, h3, rfl, _⟩ := h
  simp [hst3]
  omega
theorem Hist.next {day : Int} {x : List Int} (h : Hist day x) (d1 : 1 ≤ day) (d3 : day ≤ 3) {k : Nat} (hk : k ≤ 4) : Hist (day + 1) (x ++ List.replicate k day) := by
  obtain ⟨a, b, c, h1, h2, h3, rfl, e3, e2, e1⟩ := h
  rcases (show day = 1 ∨ day = 2 ∨ day = 3 by omega) with rfl | rfl | rfl
  · have := e3 (by omega)
    have := e2 (by omega)
    have := e1 (by omega)
    subst_vars
    exact ⟨k, 0, 0, hk, by omega, by omega, by simp [hst3], by omega, by omega, by omega⟩
  · have := e3 (by omega)
    have := e2 (by omega)
    subst_vars
    exact ⟨a, k, 0, h1, hk, by omega, by simp [hst3], by omega, by omega, by omega⟩
  · have := e3 (by omega)
    subst_vars
    exact ⟨a, b, k, h1, h2, hk, by simp [hst3], by omega, by omega, by omega⟩
def UL (L : Nat) : List BK := (prodL R3 L).flatMap fun B => [((B, 1) : BK), (B, 2), (B, 3), (B, 4)]
theorem UL_len {L : Nat} (h : L ≤ 3) : (UL L).length ≤ 8000000 := by
  have : ∀ Q : List (List (List Int)), (Q.flatMap fun B => [((B, 1) : BK), (B, 2), (B, 3), (B, 4)]).length = Q.length * 4 := fun Q => by
    induction Q with
    | nil => rfl
    | cons q Q ih =>
      rw [List.flatMap_cons, List.length_append, ih]
      simp only [List.length_cons, List.length_nil]
      omega
  unfold UL
  rw [this, prodL_len, show R3.length = 125 by decide +kernel]
  have : 125 ^ L ≤ 125 ^ 3 := Nat.pow_le_pow_right (by decide) h
  have : (125 : Nat) ^ 3 = 1953125 := rfl
  omega
structure LK (L : Nat) (ks : List BK) : Prop where
  nd : ks.Nodup
  u : ∀ k ∈ ks, k ∈ UL L
theorem LK.len {L : Nat} {ks : List BK} (h : LK L ks) (hL : L ≤ 3) : ks.length < sizeLine := by
  have a := pigeon h.nd h.u
  have b := UL_len hL
  rw [sizeLine_eq]
  omega
theorem LK.nil (L : Nat) : LK L [] := ⟨List.nodup_nil, fun k hk => by cases hk⟩
theorem LK.ins {L : Nat} {ks : List BK} (h : LK L ks) {B : List (List Int)} {day : Int} (hB : B.length = L) (hh : ∀ b ∈ B, Hist day b) (d1 : 1 ≤ day) (d4 : day ≤ 4) : LK L (insG ks (B, day)) :=
  ⟨insG_nodup h.nd, fun k hk => by
    rcases insG_mem.mp hk with q | rfl
    · exact h.u k q
    · refine List.mem_flatMap.mpr ⟨B, prodL_mem hB fun b hb => (hh b hb).mem, ?_⟩
      rcases (show day = 1 ∨ day = 2 ∨ day = 3 ∨ day = 4 by omega) with rfl | rfl | rfl | rfl <;> simp⟩
end My

set_option Elab.async false
set_option linter.all false
set_option maxRecDepth 100000
set_option maxHeartbeats 8000000
namespace My
open PySem PySem.Spec PyProof.Rows L2 Bk
/-! ### the law's most, walked -/
theorem inR_iZ {i : Int} (h0 : 0 ≤ i) (h1 : i < 1000000) : Bk.inR i = true := by
  simp [Bk.inR]
  omega
theorem lend_last (k : Nat) : ∀ (m : Nat) (as : List D), belows 0 as = true → lendK (as ++ [.ref k]) = [k] ∧ lendA m (as ++ [.ref k]) = as ++ [.ref m] ∧ flatArgs (as ++ [.ref k]) = true
  | m, [], _ => ⟨rfl, rfl, rfl⟩
  | m, d :: as, h => by
    rw [bls_cons, Bool.and_eq_true] at h
    obtain ⟨a, b, c⟩ := lend_last k m as h.2
    cases d with
    | ref j => simp [below] at h
    | _ => simp [lendK, lendA, flatArgs, a, b, c, h.1]
theorem c_lendZ {F : List D → List MO → Bk.R D} {as : List D} {k : Nat} {M : List MO} {o o' : MO} {x : Int} (h : F (as ++ [.ref 0]) [o] = .ok (.int x) [o']) (ha : belows 0 as = true) (hk : M[k]? = some o) (ho : isDead o = false) (b : belowO 0 o = true) (b' : belowO 0 o' = true) : callF F (as ++ [.ref k]) M = .ok (.int x) (M.set k o') := by
  obtain ⟨l1, l2, l3⟩ := lend_last k 0 as ha
  simp [callF, l1, l2, l3, getAll, hk, lentOk, ho, b, h, b', backD, setAll, below]
section
variable {st : Stk} {n : Int} {t : Bool}
def vL (st : Stk) (n : Int) (k : BK) : D := .int (mst st (n + 1 - k.2).toNat k.1 k.2)
def DK (st : Stk) (n : Int) (ks : List BK) : MO := .dct (ks.map kBK) (ks.map (vL st n))
theorem DK_blm (m : Nat) (st : Stk) (n : Int) (ks : List BK) : belowO m (DK st n ks) = true := by
  have a : ∀ ks : List BK, belows m (ks.map kBK) = true := fun ks => by
    induction ks with
    | nil => rfl
    | cons x xs ih =>
      have := rowsD_bl m x.1
      rw [List.map_cons, bls_cons, ih]
      simp [kBK, below, this]
  have b : ∀ ks : List BK, belows m (ks.map (vL st n)) = true := fun ks => by
    induction ks with
    | nil => rfl
    | cons x xs ih => rw [List.map_cons, bls_cons, ih]; rfl
  simp [DK, belowO, a ks, b ks]
theorem DK_bl (st : Stk) (n : Int) (ks : List BK) : belowO 0 (DK st n ks) = true := DK_blm 0 st n ks
theorem dk_notin (ks : List BK) (B : List (List Int)) (day : Int) : dNotInN [DK st n ks] (.tup [rowsD B, .int day]) (.ref 0) = some (.bl (!decide ((B, day) ∈ ks))) := by
  have e := keyOk_BK.look (vL st n) ks (B, day)
  show ((lookD (ks.map kBK) (ks.map (vL st n)) (kBK (B, day))).map fun o => D.bl !o.isSome) = _
  rw [e]
  by_cases q : (B, day) ∈ ks <;> simp [q]
theorem dk_look (ks : List BK) (B : List (List Int)) (day : Int) (h : (B, day) ∈ ks) : dIxN [DK st n ks] (.ref 0) (.tup [rowsD B, .int day]) = some (.int (mst st (n + 1 - day).toNat B day)) := by
  have e := keyOk_BK.look (vL st n) ks (B, day)
  show ((lookD (ks.map kBK) (ks.map (vL st n)) (kBK (B, day))).bind id) = _
  rw [e, if_pos h]
  rfl
theorem dk_put (ks : List BK) (hl : ks.length < sizeLine) (B : List (List Int)) (day : Int) : setX [DK st n ks] (.ref 0) (.tup [rowsD B, .int day]) (.int (mst st (n + 1 - day).toNat B day)) = some [DK st n (insG ks (B, day))] := by
  have e := keyOk_BK.put (vL st n) (ss := ks) (B, day) hl
  show ((putKV (ks.map kBK) (ks.map (vL st n)) (kBK (B, day)) (vL st n (B, day))).bind fun r => if (ks.map kBK).all isTup = true then some ([DK st n ks].set 0 (.dct r.1 r.2)) else none) = _
  rw [e, Option.bind_some, if_pos (keyOk_BK.tups ks)]
  rfl
structure Val (st : Stk) (n : Int) (B : List (List Int)) (day : Int) : Prop where
  l : B.length = st.length
  d1 : 1 ≤ day
  h : day ≤ n → ∀ b ∈ B, Hist day b
  f : day ≤ n → Few4 st B day
theorem upt_four {st : Stk} (hs : StkOk st) {B : List (List Int)} {day : Int} (hf : Few4 st B day) {o : List Int} (u : Upt (usb st B day) o) (i : Nat) (hi : i < st.length) : o.count (i : Int) ≤ 4 := by
  have a := u.2 i (by rw [usb_len]; exact hi)
  have b := (sum_ge (usb st B day) i (usb_nn hf)).1
  have c := usb_sum hs B day
  omega
theorem Val.next {st : Stk} (hs : StkOk st) {n : Int} (n4 : n ≤ 4) {B : List (List Int)} {day : Int} (v : Val st n B day) (hd : day ≤ n) {o : List Int} (u : Upt (usb st B day) o) : Val st n (hitL day B o) (day + 1) := by
  have f := v.f hd
  refine ⟨by rw [hit_len]; exact v.l, by have := v.d1; omega, fun h b hb => ?_, fun _ => f.next v.l u⟩
  obtain ⟨i, hi, rfl⟩ := List.getElem_of_mem hb
  rw [hit_len] at hi
  have e := hit_at (day := day) i o B hi fun s hs' => by obtain ⟨j, _, e⟩ := u.1 s hs'; exact ⟨j, e⟩
  have e2 : (hitL day B o)[i] = (hitL day B o).getD i [] := by rw [List.getD_eq_getElem?_getD, List.getElem?_eq_getElem (by rw [hit_len]; exact hi)]; rfl
  have e3 : B[i] = B.getD i [] := by rw [List.getD_eq_getElem?_getD, List.getElem?_eq_getElem hi]; rfl
  rw [e2, e, ← e3]
  exact (v.h hd _ (List.getElem_mem hi)).next v.d1 (by omega) (upt_four hs f u i (by rw [← v.l]; exact hi))
def Most (st : Stk) (n : Int) (t : Bool) (N m : Nat) : Prop := ∀ (ks : List BK) (B : List (List Int)) (day : Int), Val st n B day → day + m = n + 1 → LK st.length ks →
  ∃ ks', LK st.length ks' ∧ FR_law_worth N 1 [calD t st, .int n, rowsD B, .int day, .ref 0] [DK st n ks] = .ok (.int (mst st m B day)) [DK st n ks']
def Wrth (st : Stk) (n : Int) (t : Bool) (N m : Nat) : Prop := ∀ (ks : List BK) (B : List (List Int)) (day : Int) (o : List Int), Val st n B day → day + (m + 1 : Nat) = n + 1 → Upt (usb st B day) o → LK st.length ks →
  ∃ ks', LK st.length ks' ∧ FR_law_worth N 0 [calD t st, .int n, rowsD B, .int day, tupI o, .ref 0] [DK st n ks] = .ok (.int (Vg (fun o => mst st m (hitL day B o) (day + 1)) o)) [DK st n ks']
theorem cal_b0 (t : Bool) (st : Stk) : below 0 (calD t st) = true := calD_below 0 t st
theorem upt_len4 {st : Stk} (hs : StkOk st) {B : List (List Int)} {day : Int} (hf : Few4 st B day) {o : List Int} (u : Upt (usb st B day) o) : o.length ≤ 4 := upt_len 4 _ o ((mem_alr 4 _ o (usb_nn hf) (usb_sum hs B day)).mpr u)
theorem worth_loop {st : Stk} (hs : StkOk st) {n : Int} (n4 : n ≤ 4) {t : Bool} {N m : Nat} (hM : Most st n t N m) {B : List (List Int)} {day : Int} (v : Val st n B day) (hd : day + (m + 1 : Nat) = n + 1) {o : List Int} (u : Upt (usb st B day) o) :
    ∀ (j b : Nat) (tot : Int) (ks : List BK), b + j = o.length + 1 → LK st.length ks → ∃ ks', LK st.length ks' ∧ gForL (gTo 7) (lb_law_worth_1 (FR_law_worth N 0) (FR_law_worth N 1)) (rngL (b : Int) j) [some (calD t st), some (.int n), some (rowsD B), some (.int day), some (tupI o), some (.ref 0), some (.int tot), none, none] [DK st n ks]
      = .nx [some (calD t st), some (.int n), some (rowsD B), some (.int day), some (tupI o), some (.ref 0), some (.int (tot + ((List.range' b j).map fun i => mst st m (hitL day B (o.take i)) (day + 1)).sum)), none, none] [DK st n ks']
  | 0, b, tot, ks, _, hk => ⟨ks, hk, by simp [rngL]⟩
  | j + 1, b, tot, ks, hb, hk => by
    have ub := u.take b
    obtain ⟨ks1, k1, e1⟩ := hM ks (hitL day B (o.take b)) (day + 1) (v.next hs n4 (by omega) ub) (by omega) hk
    obtain ⟨ks2, k2, e2⟩ := worth_loop hs n4 hM v hd u j (b + 1) (tot + mst st m (hitL day B (o.take b)) (day + 1)) ks1 (by omega) k1
    refine ⟨ks2, k2, ?_⟩
    have ei : ((b + 1 : Nat) : Int) = (b : Int) + 1 := by omega
    have er : List.range' b (j + 1) = b :: List.range' (b + 1) j := rfl
    rw [ei] at e2
    have et : tot + ((List.range' b (j + 1)).map fun i => mst st m (hitL day B (o.take i)) (day + 1)).sum = tot + mst st m (hitL day B (o.take b)) (day + 1) + ((List.range' (b + 1) j).map fun i => mst st m (hitL day B (o.take i)) (day + 1)).sum := by
      rw [er, List.map_cons, List.sum_cons]
      omega
    rw [et, rngL]
    refine (forL_cons (Γ1 := [some (calD t st), some (.int n), some (rowsD B), some (.int day), some (tupI o), some (.ref 0), some (.int tot), some (.int (b : Nat)), none]) (by simp) ?_).trans e2
    have ol := upt_len4 hs (v.f (by omega)) u
    have ch := fun M => c_hit (day := day) (o := o.take b) (B := B) (fun s hs' => by obtain ⟨i, hi, e⟩ := ub.1 s hs'; rw [usb_len, ← v.l] at hi; exact ⟨i, hi, e⟩) (fun x hx => by have := (v.h (by omega) x hx).len; rw [List.length_take]; omega) M
    have cu : ∀ M, dCut M none (some (b : Nat)) (tupI o) = some (tupI (o.take b)) := fun M => by
      show dCut M none (some (b : Nat)) (.tup (o.map D.int)) = _
      simp only [dCut, listD, Option.map_some, cutD_upto]
      rw [← List.map_take]
    have cm : callF (FR_law_worth N 1) [calD t st, .int n, rowsD (hitL day B (o.take b)), .int (day + 1), .ref 0] [DK st n ks] = .ok (.int (mst st m (hitL day B (o.take b)) (day + 1))) [DK st n ks1] :=
      c_lendZ (as := [calD t st, .int n, rowsD (hitL day B (o.take b)), .int (day + 1)]) (k := 0) (M := [DK st n ks]) e1 (by simp [belows, below, rowsD_bl]) rfl rfl (DK_bl st n ks) (DK_bl st n ks1)
    generalize mst st m (hitL day B (o.take b)) (day + 1) = x at *
    generalize rowsD (hitL day B (o.take b)) = RH at *
    generalize tupI (o.take b) = TB at *
    generalize tupI o = TO at *
    generalize rowsD B = RB at *
    generalize DK st n ks = D0 at *
    generalize DK st n ks1 = D1 at *
    generalize calD t st = CD at *
    generalize ((b : Nat) : Int) = bb at *
    simp [lb_law_worth_1, cu, ch, cm]
theorem wrth_of {st : Stk} (hs : StkOk st) {n : Int} (n4 : n ≤ 4) {t : Bool} {N m : Nat} (hM : Most st n t N m) : Wrth st n t (N + 1) m := fun ks B day o v hd u hk => by
  obtain ⟨ks', k', lp⟩ := worth_loop hs n4 hM v hd u (o.length + 1) 0 0 ks (by omega) hk
  refine ⟨ks', k', ?_⟩
  have ol := upt_len4 hs (v.f (by omega)) u
  have e : (0 : Int) + ((List.range' 0 (o.length + 1)).map fun i => mst st m (hitL day B (o.take i)) (day + 1)).sum = Vg (fun o => mst st m (hitL day B o) (day + 1)) o := by
    unfold Vg
    show _ = ((List.range (o.length + 1)).map fun b => mst st m (hitL day B (o.take b)) (day + 1)).sum
    rw [← List.range_eq_range', Int.zero_add]
  rw [e] at lp
  have lp : gForL (gTo 7) _ (rngL 0 (o.length + 1)) _ _ = _ := lp
  have ln : ∀ M, dLen M (tupI o) = some (.int o.length) := fun M => by
    show dLen M (.tup (o.map D.int)) = _
    simp
  have r1 : rng1 [.int ((o.length : Int) + 1)] = some (rngL 0 (o.length + 1)) := by
    have i1 : Bk.inR ((o.length : Int) + 1) = true := inR_iZ (by omega) (by omega)
    have e : ((o.length : Int) + 1).toNat = o.length + 1 := by omega
    rw [u_rng1, i1, e]
    rfl
  have b1 := DK_blm 1 st n ks'
  generalize Vg (fun o => mst st m (hitL day B o) (day + 1)) o = V at *
  generalize rngL 0 (o.length + 1) = RG at *
  generalize tupI o = TO at *
  generalize rowsD B = RB at *
  generalize DK st n ks = D0 at *
  generalize DK st n ks' = D1 at *
  generalize calD t st = CD at *
  generalize (o.length : Int) = ol at *
  simp [-u_rng1, FR_law_worth, b_law_worth, runF, ln, r1, lp, retR, below, cutOk, b1]
end
end My

set_option Elab.async false
set_option linter.all false
set_option maxRecDepth 100000
set_option maxHeartbeats 8000000
namespace My
open PySem PySem.Spec PyProof.Rows L2 Bk
/-! ### the law's most, whole -/
theorem maxZ (M : List MO) {xs : List Int} (h : xs ≠ []) : dMax M (.lst (xs.map D.int)) = some (.int (maxI xs)) := by
  simp only [dMax, ofInts, listD, Option.bind_some]
  rw [intsD_map]
  simp [h]
section
variable {st : Stk} {n : Int} {t : Bool}
theorem amounts_loop {st : Stk} (hs : StkOk st) {n : Int} {t : Bool} {N m : Nat} (hW : Wrth st n t N m) {B : List (List Int)} {day : Int} (v : Val st n B day) (hd : day + (m + 1 : Nat) = n + 1) (x5 x6 : Option D) :
    ∀ (L : List (List Int)) (acc : List Int) (ks : List BK), (∀ o ∈ L, Upt (usb st B day) o) → acc.length + L.length ≤ 2000 → LK st.length ks → ∃ ks', LK st.length ks' ∧ gLcL (gTo 7) gYes (le_law_most_1 (FR_law_worth N 0) (FR_law_worth N 1)) [some (calD t st), some (.int n), some (rowsD B), some (.int day), some (.ref 0), x5, x6, none] (L.map tupI) (acc.map D.int) [DK st n ks]
      = .ok ((acc ++ L.map (Vg fun o => mst st m (hitL day B o) (day + 1))).map D.int) [DK st n ks']
  | [], acc, ks, _, _, hk => ⟨ks, hk, by simp [gLcL]⟩
  | o :: L, acc, ks, hu, hl, hk => by
    have sz : 20000 ≤ sizeLine := by rw [sizeLine_eq]; omega
    rw [List.length_cons] at hl
    obtain ⟨ks1, k1, e1⟩ := hW ks B day o v hd (hu o (by simp)) hk
    obtain ⟨ks2, k2, e2⟩ := amounts_loop hs hW v hd x5 x6 L (acc ++ [Vg (fun o => mst st m (hitL day B o) (day + 1)) o]) ks1 (fun x hx => hu x (by simp [hx])) (by rw [List.length_append, List.length_singleton]; omega) k1
    refine ⟨ks2, k2, ?_⟩
    have cm : callF (FR_law_worth N 0) [calD t st, .int n, rowsD B, .int day, tupI o, .ref 0] [DK st n ks] = .ok (.int (Vg (fun o => mst st m (hitL day B o) (day + 1)) o)) [DK st n ks1] :=
      c_lendZ (as := [calD t st, .int n, rowsD B, .int day, tupI o]) (k := 0) (M := [DK st n ks]) e1 (by have := belows_ints 0 o; simp [belows, below, rowsD_bl, tupI, this]) rfl rfl (DK_bl st n ks) (DK_bl st n ks1)
    rw [List.map_cons]
    have ea : acc ++ List.map (Vg fun o => mst st m (hitL day B o) (day + 1)) (o :: L) = acc ++ [Vg (fun o => mst st m (hitL day B o) (day + 1)) o] ++ List.map (Vg fun o => mst st m (hitL day B o) (day + 1)) L := by simp
    have em : (acc ++ [Vg (fun o => mst st m (hitL day B o) (day + 1)) o]).map D.int = acc.map D.int ++ [.int (Vg (fun o => mst st m (hitL day B o) (day + 1)) o)] := by simp
    rw [ea, ← e2, em]
    refine lcL_cons (Γ1 := [some (calD t st), some (.int n), some (rowsD B), some (.int day), some (.ref 0), x5, x6, some (tupI o)]) (by simp) ?_ (by rw [List.length_map]; omega)
    generalize Vg (fun o => mst st m (hitL day B o) (day + 1)) o = V at *
    generalize tupI o = TO at *
    generalize rowsD B = RB at *
    generalize DK st n ks = D0 at *
    generalize DK st n ks1 = D1 at *
    generalize calD t st = CD at *
    simp [le_law_most_1, cm]
theorem most_zero {st : Stk} {n : Int} {t : Bool} {N : Nat} : Most st n t (N + 1) 0 := fun ks B day v hd hk => by
  refine ⟨ks, hk, ?_⟩
  have gt : ∀ M, dGt M (.int day) (.int n) = some (.bl true) := fun M => by rw [e_gt, decide_eq_true (by omega)]
  have b1 := DK_blm 1 st n ks
  rw [mst]
  generalize rowsD B = RB at *
  generalize DK st n ks = D0 at *
  generalize calD t st = CD at *
  simp [-e_gt, FR_law_worth, b_law_most, runF, gt, retR, below, cutOk, b1]
theorem most_of {st : Stk} (hs : StkOk st) {n : Int} (n4 : n ≤ 4) {t : Bool} {N m : Nat} (hW : Wrth st n t N m) : Most st n t (N + 1) (m + 1) := fun ks B day v hd hk => by
  have dn : day ≤ n := by omega
  have gt : ∀ M, dGt M (.int day) (.int n) = some (.bl false) := fun M => by rw [e_gt, decide_eq_false (by omega)]
  have fe : (n + 1 - day).toNat = m + 1 := by omega
  have hL := hs.l3
  by_cases q : (B, day) ∈ ks
  · refine ⟨ks, hk, ?_⟩
    have ni := dk_notin (st := st) (n := n) ks B day
    have lk := dk_look (st := st) (n := n) ks B day q
    rw [fe] at lk
    rw [decide_eq_true q] at ni
    have b1 := DK_blm 1 st n ks
    generalize mst st (m + 1) B day = V at *
    generalize rowsD B = RB at *
    generalize DK st n ks = D0 at *
    generalize calD t st = CD at *
    simp [-e_gt, FR_law_worth, b_law_most, runF, gt, ni, lk, retR, below, cutOk, b1]
  · have hf := v.f dn
    have nn := usb_nn hf
    have ns := usb_sum hs B day
    have l3 : (usb st B day).length ≤ 3 := by rw [usb_len]; exact hL
    have cu := fun M => c_usable (st := st) t (B := B) (day := day) hL v.l (fun b hb => by have := (v.h dn b hb).len; omega) M
    have ca := fun M => c_alr l3 nn ns M
    have la := alr_len 4 (usb st B day) l3
    have e44 : (4 : Nat) ^ 4 = 256 := rfl
    obtain ⟨ks', k', lc⟩ := amounts_loop (t := t) hs hW v hd (some (.lst ((alrF 4 (usb st B day)).map tupI))) none (alrF 4 (usb st B day)) [] ks (fun o ho => (mem_alr 4 _ o nn ns).mp ho) (by rw [List.length_nil]; omega) hk
    rw [List.nil_append, List.map_nil] at lc
    have ne : (alrF 4 (usb st B day)).map (Vg fun o => mst st m (hitL day B o) (day + 1)) ≠ [] := List.ne_nil_of_mem (List.mem_map_of_mem (nil_alr 4 _))
    have mx := fun M => maxZ M ne
    have em : maxI ((alrF 4 (usb st B day)).map (Vg fun o => mst st m (hitL day B o) (day + 1))) = mst st (m + 1) B day := rfl
    rw [em] at mx
    have ni := dk_notin (st := st) (n := n) ks B day
    rw [decide_eq_false q] at ni
    have pu := dk_put (st := st) (n := n) ks' (k'.len hL) B day
    have lk := dk_look (st := st) (n := n) (insG ks' (B, day)) B day (insG_mem.mpr (.inr rfl))
    rw [fe] at pu lk
    refine ⟨insG ks' (B, day), k'.ins v.l (v.h dn) v.d1 (by omega), ?_⟩
    have sq : seqD (.lst ((alrF 4 (usb st B day)).map tupI)) = some ((alrF 4 (usb st B day)).map tupI) := rfl
    have b1 := DK_blm 1 st n (insG ks' (B, day))
    generalize mst st (m + 1) B day = V at *
    generalize ((alrF 4 (usb st B day)).map (Vg fun o => mst st m (hitL day B o) (day + 1))).map D.int = VM at *
    generalize (alrF 4 (usb st B day)).map tupI = AL at *
    generalize (usb st B day).map D.int = UB at *
    generalize rowsD B = RB at *
    generalize DK st n ks = D0 at *
    generalize DK st n (insG ks' (B, day)) = D2 at *
    generalize DK st n ks' = D1 at *
    generalize calD t st = CD at *
    simp [-e_gt, FR_law_worth, b_law_most, runF, gt, ni, cu, ca, sq, lc, mx, pu, lk, retR, below, cutOk, b1]
theorem most_all {st : Stk} (hs : StkOk st) {n : Int} (n4 : n ≤ 4) (t : Bool) : ∀ (m N : Nat), 2 * m + 1 ≤ N → Most st n t N m
  | m, 0, h => absurd h (by omega)
  | 0, N + 1, _ => most_zero
  | m + 1, 1, h => absurd h (by omega)
  | m + 1, N + 2, h => most_of hs n4 (wrth_of hs n4 (most_all hs n4 t m N (by omega)))
end
end My

set_option Elab.async false
set_option linter.all false
set_option maxRecDepth 100000
set_option maxHeartbeats 8000000
namespace My
open PySem PySem.Spec PyProof.Rows L2 Bk
/-! ### the program's ready and after -/
def unlO (st : Stk) (n : Int) (kd : Nat) : MO := .obj "Unlike" [("stocks", .lst (st.map entD)), ("days", .int n), ("known", .ref kd)]
theorem enum_map : ∀ (l : List D) (k : Int), enumL k l = (List.range l.length).map fun i : Nat => D.tup [.int (k + (i : Int)), l.getD i .non]
  | [], k => rfl
  | d :: l, k => by
    rw [enumL, enum_map l (k + 1), List.length_cons, List.range_succ_eq_map, List.map_cons, List.map_map]
    have e0 : k + ((0 : Nat) : Int) = k := by omega
    rw [e0]
    refine congrArg (List.cons _) (List.map_congr_left fun i _ => ?_)
    have e1 : k + 1 + (i : Int) = k + ((i + 1 : Nat) : Int) := by omega
    show D.tup [.int (k + 1 + (i : Int)), _] = D.tup [.int (k + ((i + 1 : Nat) : Int)), _]
    rw [e1]
    rfl
/-- the form of a state -/
def Form (st : Stk) (S : List (List Int)) : Prop := ∀ r ∈ S, ∃ (i : Nat) (b : Int), i < st.length ∧ r = [(i : Int), b]
theorem m_ready {M : List MO} (hB : StB M) {k kd : Nat} {st : Stk} {n : Int} (hk : M[k]? = some (unlO st n kd)) (h3 : st.length ≤ 3) {S : List (List Int)} (hS : Form st S) (hl : S.length ≤ 1000) : F_Unlike_ready [.ref k, rowsD S] M = .ok (.lst ((rdyU st S).map D.int)) M := by
  have sz : 20000 ≤ sizeLine := by rw [sizeLine_eq]; omega
  have hM := hB.cut0
  have l1 := lcL_sel (gg := gToT (gToCons (gTo 3) (gToCons (gTo 4) (gToNil)))) (gt := gYes) (ge := gV 3) (Γ := [some (.ref k), some (rowsD S), none, none, none, none, none]) (M := M) rowD (fun r : List Int => .int (r.getD 0 0)) (fun _ => true) S [] (by rw [List.length_nil]; omega) fun r hr => by
    obtain ⟨i, b, _, rfl⟩ := hS r hr
    exact ⟨[some (.ref k), some (rowsD S), none, some (.int (i : Nat)), some (.int b), none, none], by simp [rowD], rfl, fun _ => by simp⟩
  rw [List.nil_append, List.filter_eq_self.mpr fun _ _ => rfl] at l1
  have e1 : S.map (fun r : List Int => D.int (r.getD 0 0)) = (S.map fun r => r.getD 0 0).map D.int := by rw [List.map_map]; rfl
  rw [e1] at l1
  have ct : ∀ (M : List MO) (i : Nat), dCnt M (.lst ((S.map fun r => r.getD 0 0).map D.int)) (.int (i : Nat)) = some (.int (((S.map fun r => r.getD 0 0).count (i : Int) : Nat) : Int)) := fun M i => e_cnt M _ _
  have em : enumL 0 (st.map entD) = (List.range st.length).map fun i => D.tup [.int (i : Nat), entD (st.at i)] := by
    rw [enum_map, List.length_map]
    refine List.map_congr_left fun i hi => ?_
    have hi := List.mem_range.mp hi
    have e : (st.map entD).getD i .non = entD (st.at i) := by
      unfold Stk.at
      rw [List.getD_eq_getElem?_getD, List.getD_eq_getElem?_getD, List.getElem?_map, List.getElem?_eq_getElem hi]
      rfl
    rw [e, Int.zero_add]
  have l2 := lcL_run (gg := gToT (gToCons (gTo 3) (gToCons (gToT (gToCons (gTo 5) (gToCons (gTo 6) (gToNil)))) (gToNil)))) (ge := le_Unlike_ready_2) (Γ := [some (.ref k), some (rowsD S), some (.lst ((S.map fun r => r.getD 0 0).map D.int)), none, none, none, none]) (M := M)
    (fun i : Nat => D.tup [.int (i : Nat), entD (st.at i)]) (fun i : Nat => D.int ((st.at i).1 - ((S.map fun r => r.getD 0 0).count (i : Int) : Nat))) (List.range st.length) [] (by rw [List.length_nil, List.length_range]; omega) fun i _ => by
      obtain ⟨a, r, hst⟩ : ∃ a r, st.at i = (a, r) := ⟨_, _, rfl⟩
      rw [hst]
      refine ⟨[some (.ref k), some (rowsD S), some (.lst ((S.map fun r => r.getD 0 0).map D.int)), some (.int (i : Nat)), none, some (.int a), some (optD r)], by simp [entD], ?_⟩
      have c := ct M i
      generalize (((S.map fun r => r.getD 0 0).count (i : Int) : Nat) : Int) = cc at *
      generalize (S.map fun r => r.getD 0 0).map D.int = SM at *
      simp [le_Unlike_ready_2, c]
  rw [List.nil_append, ← em] at l2
  have e2 : (List.range st.length).map (fun i : Nat => D.int ((st.at i).1 - ((S.map fun r => r.getD 0 0).count (i : Int) : Nat))) = (rdyU st S).map D.int := by unfold rdyU; rw [List.map_map]; rfl
  rw [e2] at l2
  have sq : seqD (rowsD S) = some (S.map rowD) := rfl
  have sq2 : seqD (.lst (st.map entD)) = some (st.map entD) := rfl
  have b := belows_ints M.length (rdyU st S)
  unfold unlO at hk
  generalize (rdyU st S).map D.int = RM at *
  generalize (S.map fun r => r.getD 0 0).map D.int = SM at *
  generalize S.map rowD = SR at *
  generalize rowsD S = SD at *
  generalize st.map entD = EM at *
  simp [F_Unlike_ready, b_Unlike_ready, runF, hk, List.lookup, sq, sq2, l1, l2, hM, retR, below, b]
theorem e_srtZ {rs : List (List Int)} (M : List MO) (hr : ∀ r ∈ rs, r ≠ []) : dSortB M (.lst (rs.map tupI)) = some (.lst ((srtR rs).map tupI)) := by
  cases rs with
  | nil =>
    have : srtR [] = [] := by simp [srtR]
    rw [this]
    rfl
  | cons r rs =>
    have n1 : dSort M (.lst ((r :: rs).map tupI)) = none := rfl
    have ok : srtOk (r :: rs) = true := by
      unfold srtOk
      rw [Bool.or_eq_true]
      right
      rw [List.all_eq_true]
      intro x hx
      exact decide_eq_true (hr x hx)
    unfold dSortB
    rw [n1]
    show ((listD M (.lst ((r :: rs).map tupI))).bind rowsL).bind _ = _
    rw [listD_l, Option.bind_some, rowsL_map, Option.bind_some, if_pos ok]
def bkR (n day : Int) (r : Option Int) : Int := match r with
  | none => n + 1
  | some r => if n + 1 < day + 1 + r then n + 1 else day + 1 + r
theorem bkU_R (st : Stk) (n day : Int) (i : Nat) : bkU st n day i = bkR n day (st.at i).2 := rfl
theorem after_loop {M : List MO} {k kd : Nat} {st : Stk} {n day : Int} (hk : M[k]? = some (unlO st n kd)) (x1 x3 x7 : Option D) : ∀ (o : List Int) (acc : List (List Int)), (∀ s ∈ o, ∃ i : Nat, i < st.length ∧ s = (i : Int)) → acc.length + o.length ≤ 2000 →
    gForL (gTo 5) lb_Unlike_after_1 (o.map D.int) [some (.ref k), x1, some (.int day), x3, some (.ref M.length), none, none, x7] (M ++ [.lst (acc.map rowD)]) = .nx [some (.ref k), x1, some (.int day), x3, some (.ref M.length), none, none, x7] (M ++ [.lst ((acc ++ o.map fun s => [s, bkU st n day s.toNat]).map rowD)])
  | [], acc, _, _ => by simp
  | s :: o, acc, ho, hl => by
    have sz : 20000 ≤ sizeLine := by rw [sizeLine_eq]; omega
    rw [List.length_cons] at hl
    obtain ⟨i, hi, rfl⟩ := ho s (by simp)
    have ih := after_loop (day := day) hk x1 x3 x7 o (acc ++ [[(i : Int), bkU st n day i]]) (fun x hx => ho x (by simp [hx])) (by rw [List.length_append, List.length_singleton]; omega)
    have ea : acc ++ ((i : Int) :: o).map (fun s => [s, bkU st n day s.toNat]) = acc ++ [[(i : Int), bkU st n day i]] ++ o.map fun s => [s, bkU st n day s.toNat] := by simp
    rw [ea, List.map_cons]
    refine (forL_cons (Γ1 := [some (.ref k), x1, some (.int day), x3, some (.ref M.length), some (.int (i : Nat)), none, x7]) (by simp) ?_).trans ih
    have kl : k < M.length := (List.getElem?_eq_some_iff.mp hk).1
    have hk2 : ∀ X, (M ++ X)[k]? = some (unlO st n kd) := fun X => by rw [List.getElem?_append_left kl]; exact hk
    have ix : ∀ M, dIx M (.lst (st.map entD)) (.int (i : Nat)) = some (entD (st.at i)) := fun M => by
      unfold Stk.at
      rw [e_ix, itemsD_l, Option.bind_some, Bk.atI_nat, List.getElem?_map, List.getElem?_eq_getElem hi, List.getD_eq_getElem?_getD, List.getElem?_eq_getElem hi]
      rfl
    have hg : ∀ o : MO, (M ++ [o])[M.length]? = some o := fun o => by simp
    have hs2 : ∀ o o' : MO, (M ++ [o]).set M.length o' = M ++ [o'] := fun o o' => by simp
    have qa : (acc.map rowD).length < sizeLine := by rw [List.length_map]; omega
    obtain ⟨a, r, hst⟩ : ∃ a r, st.at i = (a, r) := ⟨_, _, rfl⟩
    rw [List.map_append, List.map_cons, List.map_nil]
    have eb : rowD [(i : Int), bkU st n day i] = .tup [.int (i : Nat), .int (bkU st n day i)] := rfl
    rw [eb]
    have ex : ∀ M, dIx M (entD (st.at i)) (.int 1) = some (optD r) := fun M => by rw [hst]; simp [entD]
    have bk : bkU st n day i = bkR n day r := by rw [bkU_R, hst]
    unfold unlO at hk2
    generalize entD (st.at i) = ED at *
    generalize st.map entD = EM at *
    generalize acc.map rowD = AC at *
    cases r with
    | none =>
      have bk : bkU st n day i = n + 1 := bk
      rw [bk]
      simp [-e_ix, lb_Unlike_after_1, hk2, List.lookup, ix, ex, optD, hg, hs2, listD, isListD, mutR, qa]
    | some r =>
      have bk : bkU st n day i = if n + 1 < day + 1 + r then n + 1 else day + 1 + r := bk
      have mn : ∀ M, dMin2 M (.int (day + 1 + r)) (.int (n + 1)) = some (.int (if n + 1 < day + 1 + r then n + 1 else day + 1 + r)) := fun M => by rw [e_min2]
      rw [← bk] at mn
      generalize bkU st n day i = bb at *
      simp [-e_ix, -e_min2, lb_Unlike_after_1, hk2, List.lookup, ix, ex, optD, mn, hg, hs2, listD, isListD, mutR, qa]
end My

set_option Elab.async false
set_option linter.all false
set_option maxRecDepth 100000
set_option maxHeartbeats 8000000
namespace My
open PySem PySem.Spec PyProof.Rows L2 Bk
/-! ### the program's after, whole -/
theorem m_after {M : List MO} (hB : StB M) {k kd : Nat} {st : Stk} {n day : Int} (hk : M[k]? = some (unlO st n kd)) {S : List (List Int)} (hS : Form st S) (hl : S.length ≤ 1000) {o : List Int} (ho : ∀ s ∈ o, ∃ i : Nat, i < st.length ∧ s = (i : Int)) (ol : o.length ≤ 1000) :
    F_Unlike_after [.ref k, rowsD S, .int day, tupI o] M = .ok (rowsD (aft st n S day o)) M := by
  have sz : 20000 ≤ sizeLine := by rw [sizeLine_eq]; omega
  have hM := fun X => hB.cut X
  have lp := after_loop (day := day) hk (some (rowsD S)) (some (tupI o)) none o S ho (by omega)
  have fm : ∀ r ∈ S ++ o.map (fun s => [s, bkU st n day s.toNat]), ∃ (i : Int) (b : Int), r = [i, b] := fun r hr => by
    rcases List.mem_append.mp hr with q | q
    · obtain ⟨i, b, _, e⟩ := hS r q
      exact ⟨i, b, e⟩
    · obtain ⟨s, _, rfl⟩ := List.mem_map.mp q
      exact ⟨_, _, rfl⟩
  obtain ⟨A, hA⟩ : ∃ A, A = S ++ o.map fun s => [s, bkU st n day s.toNat] := ⟨_, rfl⟩
  have Al : A.length ≤ 2000 := by rw [hA]; simp; omega
  rw [← hA] at lp fm
  have lc := fun (M : List MO) => lcL_sel (gg := gToT (gToCons (gTo 5) (gToCons (gTo 7) (gToNil)))) (gt := gVal (gOp2 dGtA (gV 7) (gOp2 dAdd (gV 2) (gC (.int 1))))) (ge := le_Unlike_after_1) (Γ := [some (.ref k), some (rowsD S), some (.int day), some (tupI o), some (.lst (A.map rowD)), none, none, none]) (M := M) rowD rowD (fun r : List Int => decide (day + 1 < r.getD 1 0)) A [] (by rw [List.length_nil]; omega) fun r hr => by
    obtain ⟨i, b, rfl⟩ := fm r hr
    refine ⟨[some (.ref k), some (rowsD S), some (.int day), some (tupI o), some (.lst (A.map rowD)), some (.int i), none, some (.int b)], by simp [rowD], ?_, fun _ => ?_⟩
    · generalize rowsD S = SD
      generalize tupI o = TO
      generalize A.map rowD = AM
      simp
    · simp [le_Unlike_after_1, rowD]
  have e1 : A.filter (fun r : List Int => decide (day + 1 < r.getD 1 0)) = aftL st n S day o := by rw [hA]; rfl
  simp only [List.nil_append, e1] at lc
  have st1 := fun M => e_srtZ M (rs := aftL st n S day o) fun r hr => by
    rw [← e1] at hr
    obtain ⟨i, b, rfl⟩ := fm r (List.mem_filter.mp hr).1
    simp
  have st1 : ∀ M, dSortB M (.lst ((aftL st n S day o).map rowD)) = some (.lst ((aft st n S day o).map rowD)) := st1
  have dt : ∀ M, dTuple M (.lst ((aft st n S day o).map rowD)) = some (rowsD (aft st n S day o)) := fun M => rfl
  have it : ∀ M, items1 M [rowsD S] = some (S.map rowD) := fun M => rfl
  have sq : seqD (tupI o) = some (o.map D.int) := rfl
  have sq2 : seqD (.lst (A.map rowD)) = some (A.map rowD) := rfl
  have bl := rowsD_bl M.length (aft st n S day o)
  have hg : ∀ o : MO, (M ++ [o])[M.length]? = some o := fun o => by simp
  have hs2 : ∀ o o' : MO, (M ++ [o]).set M.length o' = M ++ [o'] := fun o o' => by simp
  have tk : ∀ X, (M ++ X).take M.length = M := fun X => List.take_left
  have bA : belows (M.length + 1) (A.map rowD) = true := tups_below _ A
  have bA0 : ∀ m, belows m (A.map rowD) = true := fun m => tups_below m A
  have rt : ∀ x, retR M.length (M ++ [x]) (rowsD (aft st n S day o)) = .ok (rowsD (aft st n S day o)) M := fun x => by
    show (if below M.length (rowsD (aft st n S day o)) = true then _ else _) = _
    rw [if_pos bl, tk]
  clear bl
  generalize rowsD (aft st n S day o) = R1 at *
  generalize (aft st n S day o).map rowD = R2 at *
  generalize (aftL st n S day o).map rowD = R3 at *
  generalize A.map rowD = AM at *
  generalize S.map rowD = SM at *
  generalize rowsD S = SD at *
  generalize o.map D.int = OM at *
  generalize tupI o = TO at *
  simp [F_Unlike_after, b_Unlike_after, runF, it, sq, lp, hg, hs2, bA, bA0, sq2, lc, st1, dt, hM, rt]
end My

set_option Elab.async false
set_option linter.all false
set_option maxRecDepth 100000
set_option maxHeartbeats 8000000
namespace My
open PySem PySem.Spec PyProof.Rows L2 Bk
/-! ### the program's keys, and how many there can be -/
def Prs : List (List Int) := (List.range 3).flatMap fun (i : Nat) => (List.range 6).map fun (b : Nat) => [(i : Int), (b : Int)]
def UP : List BK := (List.range 5).flatMap fun k => (prodL Prs k).flatMap fun S => [((S, 1) : BK), (S, 2), (S, 3), (S, 4)]
theorem UP_len : UP.length ≤ 8000000 := by
  have f4 : ∀ Q : List (List (List Int)), (Q.flatMap fun S => [((S, 1) : BK), (S, 2), (S, 3), (S, 4)]).length = Q.length * 4 := fun Q => by
    induction Q with
    | nil => rfl
    | cons q Q ih =>
      rw [List.flatMap_cons, List.length_append, ih]
      simp only [List.length_cons, List.length_nil]
      omega
  have p : Prs.length = 18 := by decide +kernel
  have l : ∀ k, ((prodL Prs k).flatMap fun S => [((S, 1) : BK), (S, 2), (S, 3), (S, 4)]).length = 18 ^ k * 4 := fun k => by rw [f4, prodL_len, p]
  unfold UP
  have e : List.range 5 = [0, 1, 2, 3, 4] := rfl
  rw [e]
  have p0 : (18 : Nat) ^ 0 = 1 := rfl
  have p1 : (18 : Nat) ^ 1 = 18 := rfl
  have p2 : (18 : Nat) ^ 2 = 324 := rfl
  have p3 : (18 : Nat) ^ 3 = 5832 := rfl
  have p4 : (18 : Nat) ^ 4 = 104976 := rfl
  generalize hF : (fun k => (prodL Prs k).flatMap fun S => [((S, 1) : BK), (S, 2), (S, 3), (S, 4)]) = F
  have g : ∀ k, (F k).length = 18 ^ k * 4 := fun k => by rw [← hF]; exact l k
  have g0 := g 0
  have g1 := g 1
  have g2 := g 2
  have g3 := g 3
  have g4 := g 4
  rw [List.flatMap_cons, List.flatMap_cons, List.flatMap_cons, List.flatMap_cons, List.flatMap_cons, List.flatMap_nil, List.length_append, List.length_append, List.length_append, List.length_append, List.length_append, List.length_nil]
  omega
structure PK (ks : List BK) : Prop where
  nd : ks.Nodup
  u : ∀ k ∈ ks, k ∈ UP
theorem PK.len {ks : List BK} (h : PK ks) : ks.length < sizeLine := by
  have a := pigeon h.nd h.u
  have b := UP_len
  rw [sizeLine_eq]
  omega
theorem PK.nil : PK [] := ⟨List.nodup_nil, fun k hk => by cases hk⟩
/-- a state that occurs -/
def VP (st : Stk) (n : Int) (S : List (List Int)) (day : Int) : Prop := ∃ B, Rel st n S B day ∧ Val st n B day
theorem lifts_len (st : Stk) (n : Int) (B : List (List Int)) (day : Int) : ((lifts st n B day).length : Int) = ((List.range st.length).map fun i => (((B.getD i []).filter (goneU st day i)).length : Int)).sum := by
  unfold lifts
  have : ∀ l : List Nat, ((l.flatMap (lifI st n B day)).length : Int) = (l.map fun i => (((B.getD i []).filter (goneU st day i)).length : Int)).sum := fun l => by
    induction l with
    | nil => rfl
    | cons i l ih =>
      rw [List.flatMap_cons, List.length_append, List.map_cons, List.sum_cons, ← ih]
      have : (lifI st n B day i).length = ((B.getD i []).filter (goneU st day i)).length := by unfold lifI; rw [List.length_map]
      omega
  exact this _
theorem VP.few {st : Stk} (hs : StkOk st) {n : Int} {S : List (List Int)} {day : Int} (hd : day ≤ n) (v : VP st n S day) : S.length ≤ 4 := by
  obtain ⟨B, r, v⟩ := v
  have a := r.p.length_eq
  have b := lifts_len st n B day
  have c := sum_leZ (a := (List.range st.length).map fun i => (((B.getD i []).filter (goneU st day i)).length : Int)) (b := st.map (·.1)) (by simp) fun i hi => by
    simp only [List.length_map, List.length_range] at hi
    have f := v.f hd i hi
    have e1 : ((List.range st.length).map fun i => (((B.getD i []).filter (goneU st day i)).length : Int)).getD i 0 = (((B.getD i []).filter (goneU st day i)).length : Int) := by
      rw [List.getD_eq_getElem?_getD, List.getElem?_map, List.getElem?_range hi]
      rfl
    have e2 : (st.map (·.1)).getD i 0 = (st.at i).1 := by
      unfold Stk.at
      rw [List.getD_eq_getElem?_getD, List.getD_eq_getElem?_getD, List.getElem?_map]
      cases st[i]? <;> rfl
    rw [e1, e2]
    exact f
  have := hs.t
  omega
theorem hist_ge {day : Int} {x : List Int} (h : Hist day x) : ∀ a ∈ x, 1 ≤ a := fun a ha => by
  obtain ⟨p, q, r, _, _, _, rfl, _⟩ := h
  unfold hst3 at ha
  rcases List.mem_append.mp ha with w | w
  · rcases List.mem_append.mp w with z | z
    · have := List.eq_of_mem_replicate z; omega
    · have := List.eq_of_mem_replicate z; omega
  · have := List.eq_of_mem_replicate w; omega
theorem VP.mem {st : Stk} (hs : StkOk st) {n : Int} (n0 : 0 ≤ n) (n4 : n ≤ 4) {S : List (List Int)} {day : Int} (hd : day ≤ n) (v : VP st n S day) : ∀ r ∈ S, ∃ (i b : Nat), i < st.length ∧ b < 6 ∧ r = [(i : Int), (b : Int)] := fun r hr => by
  obtain ⟨B, rl, v⟩ := v
  have hr := rl.p.mem_iff.mp hr
  unfold lifts at hr
  obtain ⟨i, hi, hm⟩ := List.mem_flatMap.mp hr
  have hi := List.mem_range.mp hi
  unfold lifI at hm
  obtain ⟨a, ha, rfl⟩ := List.mem_map.mp hm
  have ha := (List.mem_filter.mp ha).1
  have ib : i < B.length := by rw [v.l]; exact hi
  have eb : B.getD i [] = B[i] := by rw [List.getD_eq_getElem?_getD, List.getElem?_eq_getElem ib]; rfl
  rw [eb] at ha
  have a1 := hist_ge (v.h hd _ (List.getElem_mem ib)) a ha
  have sm : st.at i ∈ st := by
    unfold Stk.at
    rw [List.getD_eq_getElem?_getD, List.getElem?_eq_getElem hi]
    exact List.getElem_mem hi
  have k : 0 ≤ bkU st n a i ∧ bkU st n a i ≤ 5 := by
    unfold bkU
    cases e : (st.at i).2 with
    | none => simp only; omega
    | some r =>
      have := hs.r _ sm r e
      simp only
      split <;> omega
  obtain ⟨b, hb⟩ := Int.eq_ofNat_of_zero_le k.1
  exact ⟨i, b, hi, by omega, by rw [hb]⟩
theorem VP.form {st : Stk} (hs : StkOk st) {n : Int} (n0 : 0 ≤ n) (n4 : n ≤ 4) {S : List (List Int)} {day : Int} (hd : day ≤ n) (v : VP st n S day) : Form st S := fun r hr => by
  obtain ⟨i, b, hi, _, e⟩ := v.mem hs n0 n4 hd r hr
  exact ⟨i, b, hi, e⟩
theorem PK.ins {ks : List BK} (h : PK ks) {st : Stk} (hs : StkOk st) {n : Int} (n0 : 0 ≤ n) (n4 : n ≤ 4) {S : List (List Int)} {day : Int} (d1 : 1 ≤ day) (hd : day ≤ n) (v : VP st n S day) : PK (insG ks (S, day)) :=
  ⟨insG_nodup h.nd, fun k hk => by
    rcases insG_mem.mp hk with q | rfl
    · exact h.u k q
    · have l4 := v.few hs hd
      have m : S ∈ prodL Prs S.length := prodL_mem rfl fun r hr => by
        obtain ⟨i, b, hi, hb, rfl⟩ := v.mem hs n0 n4 hd r hr
        have := hs.l3
        exact List.mem_flatMap.mpr ⟨i, List.mem_range.mpr (by omega), List.mem_map.mpr ⟨b, List.mem_range.mpr hb, rfl⟩⟩
      refine List.mem_flatMap.mpr ⟨S.length, List.mem_range.mpr (by omega), List.mem_flatMap.mpr ⟨S, m, ?_⟩⟩
      rcases (show day = 1 ∨ day = 2 ∨ day = 3 ∨ day = 4 by omega) with rfl | rfl | rfl | rfl <;> simp⟩
theorem VP.next {st : Stk} (hs : StkOk st) {n : Int} (n4 : n ≤ 4) {S : List (List Int)} {day : Int} (hd : day + 1 ≤ n) (v : VP st n S day) {o : List Int} (u : Upt (rdyU st S) o) : VP st n (aft st n S day o) (day + 1) := by
  obtain ⟨B, r, v⟩ := v
  rw [r.rdy] at u
  exact ⟨_, r.next hd fun s hs' => by obtain ⟨i, hi, e⟩ := u.1 s hs'; rw [usb_len] at hi; exact ⟨i, hi, e⟩, v.next hs n4 (by omega) u⟩
end My

set_option Elab.async false
set_option linter.all false
set_option maxRecDepth 100000
set_option maxHeartbeats 8000000
namespace My
open PySem PySem.Spec PyProof.Rows L2 Bk
/-! ### the program's best and value, walked -/
def gB (st : Stk) (n : Int) (m : Nat) (S : List (List Int)) (day : Int) : List Int → Int := fun o => bst st n m (aft st n S day o) (day + 1)
def fiZ (l : List Int) (v : Int) : Nat := l.findIdx fun x => decide (x = v)
/-- the first of the best orders; m days are left behind the day -/
def bord (st : Stk) (n : Int) (m : Nat) (S : List (List Int)) (day : Int) : List Int := (arrF 4 (rdyU st S)).getD (fiZ ((arrF 4 (rdyU st S)).map (Vg (gB st n m S day))) (maxI ((arrF 4 (rdyU st S)).map (Vg (gB st n m S day))))) []
def vP (st : Stk) (n : Int) (k : BK) : D := .tup [.int (bst st n (n + 1 - k.2).toNat k.1 k.2), ordI (bord st n (n - k.2).toNat k.1 k.2)]
def DP (st : Stk) (n : Int) (ks : List BK) : MO := .dct (ks.map kBK) (ks.map (vP st n))
theorem DP_bl (m : Nat) (st : Stk) (n : Int) (ks : List BK) : belowO m (DP st n ks) = true := by
  have a : ∀ ks : List BK, belows m (ks.map kBK) = true := fun ks => by
    induction ks with
    | nil => rfl
    | cons x xs ih =>
      have := rowsD_bl m x.1
      rw [List.map_cons, bls_cons, ih]
      simp [kBK, below, this]
  have b : ∀ ks : List BK, belows m (ks.map (vP st n)) = true := fun ks => by
    induction ks with
    | nil => rfl
    | cons x xs ih =>
      have := belows_ints m (bord st n (n - x.2).toNat x.1 x.2)
      rw [List.map_cons, bls_cons, ih]
      simp [vP, below, ordI, this]
  simp [DP, belowO, a ks, b ks]
def bestD (st : Stk) (n : Int) (m : Nat) (S : List (List Int)) (day : Int) : D := match m with
  | 0 => .tup [.int 1, .non]
  | m + 1 => .tup [.int (bst st n (m + 1) S day), ordI (bord st n m S day)]
theorem bestD_0 (st : Stk) (n : Int) (m : Nat) (S : List (List Int)) (day : Int) (M : List MO) : dIx M (bestD st n m S day) (.int 0) = some (.int (bst st n m S day)) := by
  cases m <;> simp [bestD, bst]
structure Unl (st : Stk) (n : Int) (k kd : Nat) (M : List MO) (ks : List BK) : Prop where
  B : StB M
  o : M[k]? = some (unlO st n kd)
  d : M[kd]? = some (DP st n ks)
  ne : k ≠ kd
  p : PK ks
theorem Unl.set {st : Stk} {n : Int} {k kd : Nat} {M : List MO} {ks ks' : List BK} (h : Unl st n k kd M ks) (p : PK ks') : Unl st n k kd (M.set kd (DP st n ks')) ks' :=
  ⟨h.B.set kd fun m _ => DP_bl m st n ks', by rw [List.getElem?_set_ne (Ne.symm h.ne)]; exact h.o, by rw [List.getElem?_set_self (List.getElem?_eq_some_iff.mp h.d).1], h.ne, p⟩
theorem Unl.is {st : Stk} {n : Int} {k kd : Nat} {M : List MO} {ks : List BK} (h : Unl st n k kd M ks) {m : Str} (hm : m = "best" ∨ m = "value" ∨ m = "after" ∨ m = "ready" ∨ m = "rows") : Bk.isObj "Unlike" m M (.ref k) = true := by
  have := h.o
  unfold unlO at this
  rcases hm with rfl | rfl | rfl | rfl | rfl <;> simp [Bk.isObj, this, List.lookup]
def Best (st : Stk) (n : Int) (k kd : Nat) (N m : Nat) : Prop := ∀ (M : List MO) (ks : List BK) (S : List (List Int)) (day : Int), Unl st n k kd M ks → 1 ≤ day → (day ≤ n → VP st n S day) → day + m = n + 1 →
  ∃ ks', PK ks' ∧ FR_Unlike_best N 0 [.ref k, rowsD S, .int day] M = .ok (bestD st n m S day) (M.set kd (DP st n ks'))
def Valu (st : Stk) (n : Int) (k kd : Nat) (N m : Nat) : Prop := ∀ (M : List MO) (ks : List BK) (S : List (List Int)) (day : Int) (o : List Int), Unl st n k kd M ks → 1 ≤ day → VP st n S day → day + (m + 1 : Nat) = n + 1 → Upt (rdyU st S) o → o.length ≤ 4 →
  ∃ ks', PK ks' ∧ FR_Unlike_best N 1 [.ref k, rowsD S, .int day, ordI o] M = .ok (.int (Vg (gB st n m S day) o)) (M.set kd (DP st n ks'))
theorem value_loop {st : Stk} (hs : StkOk st) {n : Int} (n4 : n ≤ 4) {k kd : Nat} {N m : Nat} (hb : Best st n k kd N m) {S : List (List Int)} {day : Int} (d1 : 1 ≤ day) (v : VP st n S day) (hd : day + (m + 1 : Nat) = n + 1) {o : List Int} (u : Upt (rdyU st S) o) (x1 x3 x4 x5 : Option D) :
    ∀ (l : List Nat) (acc : List Int) (M : List MO) (ks : List BK), acc.length + l.length ≤ 1000 → Unl st n k kd M ks → ∃ ks', PK ks' ∧ gLcL (gTo 6) gYes (le_Unlike_value_2 (FR_Unlike_best N 0) (FR_Unlike_best N 1)) [some (.ref k), x1, some (.int day), x3, x4, x5, none] (l.map fun b => rowsD (aft st n S day (o.take b))) (acc.map D.int) M
      = .ok ((acc ++ l.map fun b => gB st n m S day (o.take b)).map D.int) (M.set kd (DP st n ks'))
  | [], acc, M, ks, _, h => ⟨ks, h.p, by rw [set_sameW h.d]; simp [gLcL]⟩
  | b :: l, acc, M, ks, hl, h => by
    have sz : 20000 ≤ sizeLine := by rw [sizeLine_eq]; omega
    rw [List.length_cons] at hl
    obtain ⟨ks1, p1, e1⟩ := hb M ks (aft st n S day (o.take b)) (day + 1) h (by omega) (fun hd' => v.next hs n4 hd' (u.take b)) (by omega)
    obtain ⟨ks2, p2, e2⟩ := value_loop hs n4 hb d1 v hd u x1 x3 x4 x5 l (acc ++ [gB st n m S day (o.take b)]) _ ks1 (by rw [List.length_append, List.length_singleton]; omega) (h.set p1)
    rw [List.set_set] at e2
    refine ⟨ks2, p2, ?_⟩
    have i1 := h.is (m := "best") (by simp)
    have b0 := bestD_0 st n m (aft st n S day (o.take b)) (day + 1)
    have ea : acc ++ (b :: l).map (fun b => gB st n m S day (o.take b)) = acc ++ [gB st n m S day (o.take b)] ++ l.map fun b => gB st n m S day (o.take b) := by simp
    have em : (acc ++ [gB st n m S day (o.take b)]).map D.int = acc.map D.int ++ [.int (gB st n m S day (o.take b))] := by simp
    rw [ea, ← e2, em, List.map_cons]
    refine lcL_cons (Γ1 := [some (.ref k), x1, some (.int day), x3, x4, x5, some (rowsD (aft st n S day (o.take b)))]) (by simp) ?_ (by rw [List.length_map]; omega)
    have b0 : ∀ M, dIx M (bestD st n m (aft st n S day (o.take b)) (day + 1)) (.int 0) = some (.int (gB st n m S day (o.take b))) := b0
    clear ea em e2
    generalize gB st n m S day (o.take b) = V at *
    generalize bestD st n m (aft st n S day (o.take b)) (day + 1) = BD at *
    generalize rowsD (aft st n S day (o.take b)) = RS at *
    generalize DP st n ks1 = D1 at *
    simp [-e_ix, -u_isObj, le_Unlike_value_2, i1, e1, b0]
theorem value_of {st : Stk} (hs : StkOk st) {n : Int} (n0 : 0 ≤ n) (n4 : n ≤ 4) {k kd : Nat} {N m : Nat} (hb : Best st n k kd N m) : Valu st n k kd (N + 1) m := fun M ks S day o h d1 v hd u ol => by
  have sz : 20000 ≤ sizeLine := by rw [sizeLine_eq]; omega
  obtain ⟨ks', p', lc⟩ := value_loop hs n4 hb d1 v hd u (some (rowsD S)) (some (ordI o)) (some (.lst ((List.range (o.length + 1)).map fun b => rowsD (aft st n S day (o.take b))))) none (List.range (o.length + 1)) [] M ks (by simp; omega) h
  refine ⟨ks', p', ?_⟩
  have wk : wkD (ordI o) = tupI o := rfl
  have fm := v.form hs n0 n4 (by omega)
  have f4 := v.few hs (by omega)
  have ix : ∀ b : Nat, dCut M none (some (b : Nat)) (tupI o) = some (tupI (o.take b)) := fun b => by
    show dCut M none (some (b : Nat)) (.tup (o.map D.int)) = _
    simp only [dCut, listD, Option.map_some, cutD_upto]
    rw [← List.map_take]
  have rl : ∀ (j : Nat) (z : Nat), rngL (z : Int) j = (List.range j).map fun b : Nat => D.int ((z + b : Nat) : Int) := fun j => by
    induction j with
    | zero => intro z; rfl
    | succ j ih =>
      intro z
      have ek : (z : Int) + 1 = ((z + 1 : Nat) : Int) := by omega
      rw [rngL, ek, ih (z + 1), List.range_succ_eq_map, List.map_cons, List.map_map, Nat.add_zero]
      refine congrArg (List.cons _) (List.map_congr_left fun b _ => ?_)
      show D.int ((z + 1 + b : Nat) : Int) = D.int ((z + (b + 1) : Nat) : Int)
      rw [show z + 1 + b = z + (b + 1) by omega]
  have r0 := rl (o.length + 1) 0
  simp only [Nat.zero_add] at r0
  have i3 := h.is (m := "after") (by simp)
  have l1 := lcL_run (gg := gTo 5) (ge := le_Unlike_value_1 (FR_Unlike_best N 0) (FR_Unlike_best N 1)) (Γ := [some (.ref k), some (rowsD S), some (.int day), some (ordI o), none, none, none]) (M := M) (fun b : Nat => D.int (b : Int)) (fun b : Nat => rowsD (aft st n S day (o.take b))) (List.range (o.length + 1)) [] (by simp; omega) fun b _ => by
    have ma := m_after h.B (day := day) h.o fm (by omega) (o := o.take b) (fun s hs' => by obtain ⟨i, hi, e⟩ := (u.take b).1 s hs'; unfold rdyU at hi; rw [List.length_map, List.length_range] at hi; exact ⟨i, hi, e⟩) (by rw [List.length_take]; omega)
    have ix := ix b
    refine ⟨[some (.ref k), some (rowsD S), some (.int day), some (ordI o), none, some (.int (b : Nat)), none], by simp, ?_⟩
    generalize rowsD (aft st n S day (o.take b)) = RS at *
    generalize tupI (o.take b) = TB at *
    generalize tupI o = TO at *
    generalize ordI o = OO at *
    generalize rowsD S = SD at *
    generalize ((b : Nat) : Int) = bb at *
    simp [-u_isObj, le_Unlike_value_1, i3, wk, ix, ma]
  rw [List.nil_append] at l1
  have l1 : gLcL (gTo 5) gYes (le_Unlike_value_1 (FR_Unlike_best N 0) (FR_Unlike_best N 1)) [some (.ref k), some (rowsD S), some (.int day), some (ordI o), none, none, none] (rngL 0 (o.length + 1)) [] M = .ok ((List.range (o.length + 1)).map fun b => rowsD (aft st n S day (o.take b))) M := by
    have r0 : rngL 0 (o.length + 1) = _ := r0
    rw [r0]
    exact l1
  rw [List.nil_append, List.map_nil] at lc
  have su := fun M => sumZ M ((List.range (o.length + 1)).map fun b => gB st n m S day (o.take b))
  have e : ((List.range (o.length + 1)).map fun b => gB st n m S day (o.take b)).sum = Vg (gB st n m S day) o := rfl
  rw [e] at su
  have ln : ∀ M, dLen M (tupI o) = some (.int o.length) := fun M => by
    show dLen M (.tup (o.map D.int)) = _
    simp
  have r1 : rng1 [.int ((o.length : Int) + 1)] = some (rngL 0 (o.length + 1)) := by
    have i1 : Bk.inR ((o.length : Int) + 1) = true := inR_iZ (by omega) (by omega)
    have e : ((o.length : Int) + 1).toNat = o.length + 1 := by omega
    rw [u_rng1, i1, e]
    rfl
  have sq : seqD (.lst ((List.range (o.length + 1)).map fun b => rowsD (aft st n S day (o.take b)))) = some ((List.range (o.length + 1)).map fun b => rowsD (aft st n S day (o.take b))) := rfl
  have hc : cutOk M.length (M.set kd (DP st n ks')) = true := by
    have := (h.set p').B.cut0
    rwa [List.length_set] at this
  have tk : (M.set kd (DP st n ks')).take M.length = M.set kd (DP st n ks') := List.take_of_length_le (by rw [List.length_set]; exact Nat.le_refl _)
  have ll : (M.set kd (DP st n ks')).length = M.length := List.length_set
  clear rl r0 ix
  generalize Vg (gB st n m S day) o = V at *
  generalize ((List.range (o.length + 1)).map fun b => gB st n m S day (o.take b)).map D.int = G1 at *
  generalize ((List.range (o.length + 1)).map fun b => rowsD (aft st n S day (o.take b))) = G2 at *
  generalize rngL 0 (o.length + 1) = RG at *
  generalize tupI o = TO at *
  generalize ordI o = OO at *
  generalize rowsD S = SD at *
  generalize M.set kd (DP st n ks') = M2 at *
  generalize (o.length : Int) = oo at *
  simp [-u_rng1, FR_Unlike_best, b_Unlike_value, runF, wk, ln, r1, l1, sq, lc, su, retR, below, hc, tk, ll]
end My

set_option Elab.async false
set_option linter.all false
set_option maxRecDepth 100000
set_option maxHeartbeats 8000000
namespace My
open PySem PySem.Spec PyProof.Rows L2 Bk
/-! ### the program's best, whole -/
theorem ints_indexZ (M : List MO) (is : List Int) (v : Int) {j : Nat} (h : is[j]? = some v) (hu : ∀ m, m < j → is[m]? ≠ some v) : dIndex M (.lst (is.map D.int)) (.int v) = some (.int j) := by
  have d := (Dts.ints 0 is).lst
  have e := Dt.int 0 v
  have s : (SeqAt.shaped (.list (is.map PyData.int)) && SeqAt.shaped (.int v)) = true := by rw [e.shaped (by decide), d.shaped (by decide)]; rfl
  unfold dIndex
  rw [e.deref, d.deref, e.e, d.e]
  simp only [s, if_true]
  have f : (is.map PyData.int).findIdx? (fun z => PyData.eqv z (.int v)) = some j := by
    obtain ⟨hj, hq⟩ := List.getElem?_eq_some_iff.mp h
    rw [List.findIdx?_eq_some_iff_getElem]
    refine ⟨by simpa using hj, by simp [PyData.eqv, hq], fun m hm => ?_⟩
    have : is[m]? ≠ some v := hu m hm
    rw [List.getElem?_eq_getElem (by omega)] at this
    simp only [List.getElem_map, PyData.eqv, Bool.not_eq_true, beq_eq_false_iff_ne, ne_eq]
    intro z
    exact this (by rw [z])
  rw [f]
  rfl
theorem fiZ_is {l : List Int} {v : Int} (h : v ∈ l) : l[fiZ l v]? = some v ∧ ∀ m, m < fiZ l v → l[m]? ≠ some v := by
  unfold fiZ
  have lt : l.findIdx (fun x => decide (x = v)) < l.length := List.findIdx_lt_length.mpr ⟨v, h, by simp⟩
  refine ⟨?_, fun m hm e => ?_⟩
  · have := List.findIdx_getElem (w := lt)
    rw [List.getElem?_eq_getElem lt]
    simpa using this
  · have a := List.not_of_lt_findIdx hm
    obtain ⟨w, q⟩ := List.getElem?_eq_some_iff.mp e
    rw [q] at a
    simp at a
section
variable {st : Stk} {n : Int} {k kd : Nat} {M : List MO} {ks : List BK}
theorem u_notin (h : M[kd]? = some (DP st n ks)) (S : List (List Int)) (day : Int) : dNotInN M (.tup [rowsD S, .int day]) (.ref kd) = some (.bl (!decide ((S, day) ∈ ks))) := by
  have e := keyOk_BK.look (vP st n) ks (S, day)
  have d : dctD M (.ref kd) = some (ks.map kBK, ks.map (vP st n)) := by
    unfold DP at h
    simp only [dctD, h]
  have e : lookD (ks.map kBK) (ks.map (vP st n)) (.tup [rowsD S, .int day]) = _ := e
  simp only [dNotInN, d, e]
  by_cases q : (S, day) ∈ ks <;> simp [q]
theorem u_look (h : M[kd]? = some (DP st n ks)) (S : List (List Int)) (day : Int) (q : (S, day) ∈ ks) : dIxN M (.ref kd) (.tup [rowsD S, .int day]) = some (vP st n (S, day)) := by
  have e := keyOk_BK.look (vP st n) ks (S, day)
  have d : dctD M (.ref kd) = some (ks.map kBK, ks.map (vP st n)) := by
    unfold DP at h
    simp only [dctD, h]
  have e : lookD (ks.map kBK) (ks.map (vP st n)) (.tup [rowsD S, .int day]) = _ := e
  simp only [dIxN, d, e, if_pos q]
  rfl
theorem u_put (h : M[kd]? = some (DP st n ks)) (hl : ks.length < sizeLine) (S : List (List Int)) (day : Int) : setX M (.ref kd) (.tup [rowsD S, .int day]) (vP st n (S, day)) = some (M.set kd (DP st n (insG ks (S, day)))) := by
  have e := keyOk_BK.put (vP st n) (ss := ks) (S, day) hl
  have e : putKV (ks.map kBK) (ks.map (vP st n)) (.tup [rowsD S, .int day]) (vP st n (S, day)) = _ := e
  unfold DP at h ⊢
  simp only [setX, h, e, Option.bind_some, keyOk_BK.tups ks, if_true]
theorem vals_loop {st : Stk} (hs : StkOk st) {n : Int} {k kd : Nat} {N m : Nat} (hv : Valu st n k kd N m) {S : List (List Int)} {day : Int} (d1 : 1 ≤ day) (v : VP st n S day) (hd : day + (m + 1 : Nat) = n + 1) (x3 x4 : Option D) :
    ∀ (l : List (List Int)) (acc : List Int) (M : List MO) (ks : List BK), (∀ o ∈ l, Upt (rdyU st S) o ∧ o.length ≤ 4) → acc.length + l.length ≤ 1000 → Unl st n k kd M ks → ∃ ks', PK ks' ∧ gLcL (gTo 5) gYes (le_Unlike_best_1 (FR_Unlike_best N 0) (FR_Unlike_best N 1)) [some (.ref k), some (rowsD S), some (.int day), x3, x4, none] (l.map ordI) (acc.map D.int) M
      = .ok ((acc ++ l.map (Vg (gB st n m S day))).map D.int) (M.set kd (DP st n ks'))
  | [], acc, M, ks, _, _, h => ⟨ks, h.p, by rw [set_sameW h.d]; simp [gLcL]⟩
  | o :: l, acc, M, ks, hu, hl, h => by
    have sz : 20000 ≤ sizeLine := by rw [sizeLine_eq]; omega
    rw [List.length_cons] at hl
    obtain ⟨u, ol⟩ := hu o (by simp)
    obtain ⟨ks1, p1, e1⟩ := hv M ks S day o h d1 v hd u ol
    obtain ⟨ks2, p2, e2⟩ := vals_loop hs hv d1 v hd x3 x4 l (acc ++ [Vg (gB st n m S day) o]) _ ks1 (fun x hx => hu x (by simp [hx])) (by rw [List.length_append, List.length_singleton]; omega) (h.set p1)
    rw [List.set_set] at e2
    refine ⟨ks2, p2, ?_⟩
    have i1 := h.is (m := "value") (by simp)
    have ea : acc ++ (o :: l).map (Vg (gB st n m S day)) = acc ++ [Vg (gB st n m S day) o] ++ l.map (Vg (gB st n m S day)) := by simp
    have em : (acc ++ [Vg (gB st n m S day) o]).map D.int = acc.map D.int ++ [.int (Vg (gB st n m S day) o)] := by simp
    rw [ea, ← e2, em, List.map_cons]
    refine lcL_cons (Γ1 := [some (.ref k), some (rowsD S), some (.int day), x3, x4, some (ordI o)]) (by simp) ?_ (by rw [List.length_map]; omega)
    clear ea em e2
    generalize Vg (gB st n m S day) o = V at *
    generalize ordI o = TO at *
    generalize rowsD S = SD at *
    generalize DP st n ks1 = D1 at *
    simp [-u_isObj, le_Unlike_best_1, i1, e1]
theorem best_zero {st : Stk} {n : Int} {k kd : Nat} {N : Nat} : Best st n k kd (N + 1) 0 := fun M ks S day h d1 _ hd => by
  refine ⟨ks, h.p, ?_⟩
  rw [set_sameW h.d]
  have gt : ∀ M, dGt M (.int day) (.int n) = some (.bl true) := fun M => by rw [e_gt, decide_eq_true (by omega)]
  have hM := h.B.cut0
  have ho := h.o
  unfold unlO at ho
  unfold bestD
  generalize rowsD S = SD at *
  generalize st.map entD = EM at *
  simp [-e_gt, FR_Unlike_best, b_Unlike_best, runF, ho, List.lookup, gt, hM, retR, below]
theorem best_of {st : Stk} (hs : StkOk st) {n : Int} (n0 : 0 ≤ n) (n4 : n ≤ 4) {k kd : Nat} {N m : Nat} (hv : Valu st n k kd N m) : Best st n k kd (N + 1) (m + 1) := fun M ks S day h d1 vp hd => by
  have dn : day ≤ n := by omega
  have v := vp dn
  have gt : ∀ M, dGt M (.int day) (.int n) = some (.bl false) := fun M => by rw [e_gt, decide_eq_false (by omega)]
  have f1 : (n + 1 - day).toNat = m + 1 := by omega
  have f2 : (n - day).toNat = m := by omega
  have vb : vP st n (S, day) = bestD st n (m + 1) S day := by
    unfold vP bestD
    simp only [f1, f2]
  have bb : ∀ j, below j (bestD st n (m + 1) S day) = true := fun j => by
    have := belows_ints j (bord st n m S day)
    simp [bestD, below, ordI, this]
  have ho := h.o
  have ho2 : ∀ x : MO, (M.set kd x)[k]? = some (unlO st n kd) := fun x => by rw [List.getElem?_set_ne (Ne.symm h.ne)]; exact h.o
  have hM := h.B.cut0
  have rt : ∀ M2 : List MO, M2.length = M.length → retR M.length M2 (bestD st n (m + 1) S day) = .ok (bestD st n (m + 1) S day) M2 := fun M2 e => by
    show (if below M.length (.tup [.int (bst st n (m + 1) S day), ordI (bord st n m S day)]) = true then _ else _) = _
    have b : below M.length (.tup [.int (bst st n (m + 1) S day), ordI (bord st n m S day)]) = true := bb M.length
    rw [if_pos b, List.take_of_length_le (by omega)]
  by_cases q : (S, day) ∈ ks
  · refine ⟨ks, h.p, ?_⟩
    rw [set_sameW h.d]
    have ni := u_notin h.d S day
    have lk := u_look h.d S day q
    rw [decide_eq_true q] at ni
    rw [vb] at lk
    have rt := rt M rfl
    unfold unlO at ho
    generalize bestD st n (m + 1) S day = BD at *
    generalize rowsD S = SD at *
    generalize st.map entD = EM at *
    simp [-e_gt, FR_Unlike_best, b_Unlike_best, runF, ho, List.lookup, gt, ni, lk, hM, rt]
  · obtain ⟨B, rl, vl⟩ := v
    have hf := vl.f dn
    have nn : ∀ x ∈ rdyU st S, 0 ≤ x := by rw [rl.rdy]; exact usb_nn hf
    have ns : (rdyU st S).sum ≤ ((4 : Nat) : Int) := by rw [rl.rdy]; exact usb_sum hs B day
    have l3 : (rdyU st S).length ≤ 3 := by rw [rl.rdy, usb_len]; exact hs.l3
    have v := vp dn
    have fm := v.form hs n0 n4 dn
    have f4 := v.few hs dn
    have rd := m_ready h.B h.o hs.l3 fm (by omega)
    have ca := fun M => c_arr l3 nn ns M
    have la := arr_len 4 (rdyU st S) l3
    have e44 : (4 : Nat) ^ 4 = 256 := rfl
    obtain ⟨ks', p', lc⟩ := vals_loop hs hv d1 v hd (some (.lst ((arrF 4 (rdyU st S)).map ordI))) none (arrF 4 (rdyU st S)) [] M ks (fun o ho => ⟨ful_upt ((mem_arr 4 _ o nn ns).mp ho), ful_len 4 _ o ho⟩) (by rw [List.length_nil]; omega) h
    rw [List.nil_append, List.map_nil] at lc
    obtain ⟨o0, h0⟩ := arr_ne nn ns
    have ne : (arrF 4 (rdyU st S)).map (Vg (gB st n m S day)) ≠ [] := List.ne_nil_of_mem (List.mem_map_of_mem h0)
    have mx := fun M => maxZ M ne
    obtain ⟨fi1, fi2⟩ := fiZ_is (maxI_geZ ne).1
    have id := fun M => ints_indexZ M _ _ fi1 fi2
    have em : maxI ((arrF 4 (rdyU st S)).map (Vg (gB st n m S day))) = bst st n (m + 1) S day := rfl
    have ix : ∀ M, dIx M (.lst ((arrF 4 (rdyU st S)).map ordI)) (.int (fiZ ((arrF 4 (rdyU st S)).map (Vg (gB st n m S day))) (bst st n (m + 1) S day) : Nat)) = some (ordI (bord st n m S day)) := fun M => by
      rw [em] at fi1
      have lt := (List.getElem?_eq_some_iff.mp fi1).1
      rw [List.length_map] at lt
      rw [e_ix, itemsD_l, Option.bind_some, Bk.atI_nat, List.getElem?_map, List.getElem?_eq_getElem lt]
      unfold bord
      rw [em, List.getD_eq_getElem?_getD, List.getElem?_eq_getElem lt]
      rfl
    rw [em] at mx id
    have ni := u_notin h.d S day
    rw [decide_eq_false q] at ni
    have w2 := h.set p'
    have pu := u_put w2.d p'.len S day
    rw [List.set_set] at pu
    have w3 := w2.set (p'.ins hs n0 n4 d1 dn v)
    rw [List.set_set] at w3
    have lk := u_look w3.d S day (insG_mem.mpr (.inr rfl))
    rw [vb] at pu lk
    refine ⟨insG ks' (S, day), p'.ins hs n0 n4 d1 dn v, ?_⟩
    have rt := rt (M.set kd (DP st n (insG ks' (S, day)))) List.length_set
    have hc : cutOk M.length (M.set kd (DP st n (insG ks' (S, day)))) = true := by
      have := w3.B.cut0
      rwa [List.length_set] at this
    have ll : (M.set kd (DP st n (insG ks' (S, day)))).length = M.length := List.length_set
    have i1 := h.is (m := "ready") (by simp)
    have sq : seqD (.lst ((arrF 4 (rdyU st S)).map ordI)) = some ((arrF 4 (rdyU st S)).map ordI) := rfl
    have bd : bestD st n (m + 1) S day = .tup [.int (bst st n (m + 1) S day), ordI (bord st n m S day)] := rfl
    have h2 := ho2 (DP st n ks')
    have h3 := ho2 (DP st n (insG ks' (S, day)))
    rw [bd] at pu lk rt ⊢
    clear w2 w3 ho2 bd fi1 fi2 em vb
    unfold unlO at ho h2 h3
    generalize fiZ ((arrF 4 (rdyU st S)).map (Vg (gB st n m S day))) (bst st n (m + 1) S day) = fx at *
    generalize bst st n (m + 1) S day = V at *
    generalize ordI (bord st n m S day) = TO at *
    generalize ((arrF 4 (rdyU st S)).map (Vg (gB st n m S day))).map D.int = VM at *
    generalize (arrF 4 (rdyU st S)).map ordI = AL at *
    generalize (rdyU st S).map D.int = RM at *
    generalize rowsD S = SD at *
    generalize st.map entD = EM at *
    generalize M.set kd (DP st n (insG ks' (S, day))) = M3 at *
    generalize M.set kd (DP st n ks') = M2 at *
    simp [-e_gt, -e_ix, -u_isObj, FR_Unlike_best, b_Unlike_best, runF, ho, h2, h3, List.lookup, gt, ni, i1, rd, ca, sq, lc, mx, id, ix, isListD, pu, lk, hc, ll, rt]
theorem best_all {st : Stk} (hs : StkOk st) {n : Int} (n0 : 0 ≤ n) (n4 : n ≤ 4) (k kd : Nat) : ∀ (m N : Nat), 2 * m + 1 ≤ N → Best st n k kd N m
  | m, 0, h => absurd h (by omega)
  | 0, N + 1, _ => best_zero
  | m + 1, 1, h => absurd h (by omega)
  | m + 1, N + 2, h => best_of hs n0 n4 (value_of hs n0 n4 (best_all hs n0 n4 k kd m N (by omega)))
end
end My

set_option Elab.async false
set_option linter.all false
set_option maxRecDepth 100000
set_option maxHeartbeats 8000000
namespace My
open PySem PySem.Spec PyProof.Rows L2 Bk
/-! ### valid stocks, a new Unlike, unlike_levels -/
theorem m_atleastZ (a b : Int) : F_is_at_least [.int a, .int b] [] = .ok (.bl (decide (b ≤ a))) [] := by
  have i : F_is_integer [.int a] [] = .ok (.bl true) [] := by simp [F_is_integer, b_is_integer, runF]
  have ci := fun M => c_flat i M (by simp) (by simp)
  simp [F_is_at_least, b_is_at_least, runF, ci]
theorem c_atleastZ (a b : Int) (M : List MO) : callF F_is_at_least [.int a, .int b] M = .ok (.bl (decide (b ≤ a))) M := c_flat (m_atleastZ a b) M (by simp) (by simp)
theorem c_stock {p : Int × Option Int} (h0 : 0 ≤ p.1) (hr : ∀ r, p.2 = some r → 0 ≤ r) (M : List MO) : callF F_is_stock [entD p] M = .ok (.bl true) M := by
  refine c_flat ?_ M (by obtain ⟨a, o⟩ := p; cases o <;> simp [belows, below, entD, optD]) rfl
  obtain ⟨a, o⟩ := p
  have c1 := fun M => c_atleastZ a 0 M
  cases o with
  | none => simp [F_is_stock, b_is_stock, runF, entD, optD, c1, h0]
  | some r =>
    have c2 := fun M => c_atleastZ r 0 M
    have := hr r rfl
    simp [F_is_stock, b_is_stock, runF, entD, optD, c1, c2, h0, this]
theorem c_reqst (t : Bool) {st : Stk} (hs : StkOk st) {n : Int} (n0 : 0 ≤ n) (M : List MO) : callF F_require_stocks [calD t st, .int n] M = .ok .non M := by
  refine c_flat ?_ M (by simp [belows, below]) rfl
  have lp : ∀ (l : Stk) (j : Int), (∀ p ∈ l, 0 ≤ p.1 ∧ ∀ r, p.2 = some r → 0 ≤ r) → gForL (gToT (gToCons (gTo 2) (gToCons (gTo 3) (gToNil)))) lb_require_stocks_1 (enumL j (l.map entD)) [some (calD t st), some (.int n), none, none] [] = .nx [some (calD t st), some (.int n), none, none] [] := fun l => by
    induction l with
    | nil => intro j _; simp [enumL]
    | cons p l ih =>
      intro j h
      have hp := h p (by simp)
      have cs := fun M => c_stock hp.1 hp.2 M
      rw [List.map_cons, enumL]
      refine (forL_cons (Γ1 := [some (calD t st), some (.int n), some (.int j), some (entD p)]) (by simp) ?_).trans (ih (j + 1) fun x hx => h x (by simp [hx]))
      generalize calD t st = CD at *
      generalize entD p = EP at *
      simp [lb_require_stocks_1, cs]
  have lp := lp st 0 fun p hp => ⟨hs.n p hp, hs.r p hp⟩
  have ln : ∀ M, dLen M (calD t st) = some (.int st.length) := fun M => calD_len M t st
  have iz : ∀ M, dIsiT ["list", "tuple"] M (calD t st) = some (.bl true) := fun M => by cases t <;> simp [calD]
  have sq : seqD (calD t st) = some (st.map entD) := by cases t <;> rfl
  have c1 := fun M => c_atleastZ n 0 M
  have l1 : (1 : Int) ≤ st.length := by have := hs.l1; omega
  have l3 : (st.length : Int) ≤ 3 := by have := hs.l3; omega
  generalize calD t st = CD at *
  generalize st.map entD = EM at *
  generalize (st.length : Int) = sl at *
  simp [F_require_stocks, b_require_stocks, runF, ln, iz, sq, lp, c1, l1, l3, n0]
theorem c_reqfew (t : Bool) {st : Stk} (hs : StkOk st) {n : Int} (n4 : n ≤ 4) (M : List MO) : callF F_require_few [calD t st, .int n] M = .ok .non M := by
  refine c_flat ?_ M (by simp [belows, below]) rfl
  have sz : 20000 ≤ sizeLine := by rw [sizeLine_eq]; omega
  have l3 := hs.l3
  have lc := lcL_run (gg := gToT (gToCons (gTo 2) (gToCons (gTo 3) (gToNil)))) (ge := gV 2) (Γ := [some (calD t st), some (.int n), none, none]) (M := []) entD (fun p : Int × Option Int => D.int p.1) st [] (by rw [List.length_nil]; omega) fun p _ => ⟨[some (calD t st), some (.int n), some (.int p.1), some (optD p.2)], by simp [entD], by simp⟩
  have e : st.map (fun p : Int × Option Int => D.int p.1) = (st.map (·.1)).map D.int := by rw [List.map_map]; rfl
  rw [List.nil_append, e] at lc
  have su := fun M => sumZ M (st.map (·.1))
  have sq : seqD (calD t st) = some (st.map entD) := by cases t <;> rfl
  have g1 : ¬ (4 < (st.map (·.1)).sum) := by have := hs.t; omega
  have g2 : ¬ (4 < n) := by omega
  generalize calD t st = CD at *
  generalize st.map entD = EM at *
  generalize (st.map (·.1)).map D.int = SM at *
  generalize (st.map (·.1)).sum = ss at *
  simp [F_require_few, b_require_few, runF, sq, lc, su, g1, g2]
theorem m_unew (t : Bool) (st : Stk) (n : Int) (M : List MO) : F_Unlike_init [.ref M.length, calD t st, .int n] (M ++ [.obj "Unlike" []]) = .ok .non (M ++ [unlO st n (M.length + 1), DP st n []]) := by
  have dl : ∀ M, dList M (calD t st) = some (.lst (st.map entD)) := fun M => by cases t <;> rfl
  have g1 : ∀ a : MO, (M ++ [a])[M.length]? = some a := fun a => by simp
  have g2 : ∀ a b : MO, (M ++ [a, b])[M.length]? = some a := fun a b => by rw [List.getElem?_append_right (Nat.le_refl _)]; simp
  have s1 : ∀ a x : MO, (M ++ [a]).set M.length x = M ++ [x] := fun a x => by simp
  have s2 : ∀ a b x : MO, (M ++ [a, b]).set M.length x = M ++ [x, b] := fun a b x => by rw [List.set_append_right _ _ (Nat.le_refl _)]; simp
  unfold unlO DP
  generalize calD t st = CD at *
  generalize st.map entD = EM at *
  simp [F_Unlike_init, b_Unlike_init, runW, finW, dl, g1, g2, s1, s2, gHCons, gAttr, gHNil, setO, putD, List.lookup]
/-- a new object, on any store -/
theorem unl_new {M : List MO} (hB : StB M) (st : Stk) (n : Int) : Unl st n M.length (M.length + 1) (M ++ [unlO st n (M.length + 1), DP st n []]) [] := by
  refine ⟨fun o ho m hm => ?_, by rw [List.getElem?_append_right (Nat.le_refl _)]; simp, by rw [List.getElem?_append_right (by omega)]; simp, by omega, PK.nil⟩
  rw [List.length_append] at hm
  simp only [List.length_cons, List.length_nil] at hm
  rcases List.mem_append.mp ho with q | q
  · exact hB o q m (by omega)
  · simp only [List.mem_cons, List.not_mem_nil, or_false] at q
    rcases q with rfl | rfl
    · have := ents_below m st
      simp [unlO, belowO, below, this]
      omega
    · exact DP_bl m st n []
theorem VP.start {st : Stk} (hs : StkOk st) (n : Int) : VP st n [] 1 := ⟨List.replicate st.length [], Rel.start st n, ⟨by simp, by omega, fun _ b hb => ⟨0, 0, 0, by omega, by omega, by omega, by rw [List.eq_of_mem_replicate hb]; rfl, by omega, by omega, by omega⟩, fun _ => Few4.start hs⟩⟩
theorem c_levels (t : Bool) {st : Stk} (hs : StkOk st) {n : Int} (n0 : 0 ≤ n) (n4 : n ≤ 4) (M : List MO) : callF F_unlike_levels [calD t st, .int n] M = .ok (.int (bst st n n.toNat [] 1)) M := by
  refine c_flat ?_ M (by simp [belows, below]) rfl
  have r1 := fun M => c_reqst t hs n0 M
  have r2 := fun M => c_reqfew t hs n4 M
  have nw := m_unew t st n []
  have u := unl_new StB.nil st n
  obtain ⟨ks', _, e⟩ := best_all hs n0 n4 0 1 n.toNat 20 (by omega) _ [] [] 1 u (by omega) (fun _ => VP.start hs n) (by omega)
  have is := u.is (m := "best") (by simp)
  have b0 := bestD_0 st n n.toNat [] 1
  have e : F_Unlike_best [.ref 0, .tup [], .int 1] [unlO st n 1, DP st n []] = _ := e
  generalize bestD st n n.toNat [] 1 = BD at *
  generalize bst st n n.toNat [] 1 = V at *
  generalize calD t st = CD at *
  simp only [List.length_nil, List.nil_append, Nat.zero_add] at nw is e
  simp [-e_ix, -u_isObj, F_unlike_levels, b_unlike_levels, runF, r1, r2, nw, newR, is, e, b0, retR, below]
end My

set_option Elab.async false
set_option linter.all false
set_option maxRecDepth 100000
set_option maxHeartbeats 8000000
namespace My
open PySem PySem.Spec PyProof.Rows L2 Bk
/-! ### best_orders -/
theorem sel_loop {st : Stk} (hs : StkOk st) {n : Int} (n0 : 0 ≤ n) (n4 : n ≤ 4) {k kd : Nat} {m : Nat} (m3 : m ≤ 3) (hd : (1 : Int) + (m + 1 : Nat) = n + 1) (mo : Int) (x0 x1 : Option D) :
    ∀ (l acc : List (List Int)) (M : List MO) (ks : List BK), (∀ o ∈ l, Upt (rdyU st []) o ∧ o.length ≤ 4) → acc.length + l.length ≤ 1000 → Unl st n k kd M ks → ∃ ks', PK ks' ∧ gLcL (gTo 4) (gVal (gOp2 dEqA (gMethW "Unlike" "value" 4 F_Unlike_value (gV 2) (gCons (gTup (gNil)) (gCons (gC (.int 1)) (gCons (gV 4) (gNil))))) (gV 3))) (gV 4) [x0, x1, some (.ref k), some (.int mo), none] (l.map ordI) (acc.map ordI) M
      = .ok ((acc ++ l.filter fun o => decide (Vg (gB st n m [] 1) o = mo)).map ordI) (M.set kd (DP st n ks'))
  | [], acc, M, ks, _, _, h => ⟨ks, h.p, by rw [set_sameW h.d]; simp [gLcL]⟩
  | o :: l, acc, M, ks, hu, hl, h => by
    have sz : 20000 ≤ sizeLine := by rw [sizeLine_eq]; omega
    rw [List.length_cons] at hl
    obtain ⟨u, ol⟩ := hu o (by simp)
    obtain ⟨ks1, p1, e1⟩ := value_of hs n0 n4 (best_all hs n0 n4 k kd m 19 (by omega)) M ks [] 1 o h (by omega) (VP.start hs n) hd u ol
    have e1 : F_Unlike_value [.ref k, .tup [], .int 1, ordI o] M = _ := e1
    have i1 := h.is (m := "value") (by simp)
    rw [List.map_cons]
    by_cases q : Vg (gB st n m [] 1) o = mo
    · obtain ⟨ks2, p2, e2⟩ := sel_loop hs n0 n4 m3 hd mo x0 x1 l (acc ++ [o]) _ ks1 (fun x hx => hu x (by simp [hx])) (by rw [List.length_append, List.length_singleton]; omega) (h.set p1)
      rw [List.set_set] at e2
      refine ⟨ks2, p2, ?_⟩
      have ea : acc ++ (o :: l).filter (fun o => decide (Vg (gB st n m [] 1) o = mo)) = acc ++ [o] ++ l.filter fun o => decide (Vg (gB st n m [] 1) o = mo) := by simp [q]
      have em : (acc ++ [o]).map ordI = acc.map ordI ++ [ordI o] := by simp
      rw [ea, ← e2, em]
      refine lcL_take (Γ1 := [x0, x1, some (.ref k), some (.int mo), some (ordI o)]) (y := ordI o) (M1 := M.set kd (DP st n ks1)) (M2 := M.set kd (DP st n ks1)) (by simp) ?_ (by simp) (by rw [List.length_map]; omega)
      clear ea em e2
      rw [q] at e1
      generalize ordI o = TO at *
      generalize DP st n ks1 = D1 at *
      simp [-u_isObj, i1, e1]
    · obtain ⟨ks2, p2, e2⟩ := sel_loop hs n0 n4 m3 hd mo x0 x1 l acc _ ks1 (fun x hx => hu x (by simp [hx])) (by omega) (h.set p1)
      rw [List.set_set] at e2
      refine ⟨ks2, p2, ?_⟩
      have ea : acc ++ (o :: l).filter (fun o => decide (Vg (gB st n m [] 1) o = mo)) = acc ++ l.filter fun o => decide (Vg (gB st n m [] 1) o = mo) := by simp [q]
      rw [ea, ← e2]
      refine lcL_skip (Γ1 := [x0, x1, some (.ref k), some (.int mo), some (ordI o)]) (M1 := M.set kd (DP st n ks1)) (by simp) ?_
      clear ea e2
      generalize Vg (gB st n m [] 1) o = V at *
      generalize ordI o = TO at *
      generalize DP st n ks1 = D1 at *
      simp [-u_isObj, i1, e1, q]
def bords (st : Stk) (n : Int) : Nat → List (List Int)
  | 0 => [[]]
  | m + 1 => (arrF 4 (rdyU st [])).filter fun o => decide (Vg (gB st n m [] 1) o = bst st n (m + 1) [] 1)
/-- the best orders as the program gives them -/
def bordsD (st : Stk) (n : Int) (m : Nat) : List D := match m with
  | 0 => [.tup []]
  | m + 1 => (bords st n (m + 1)).map ordI
theorem m_orders (t : Bool) {st : Stk} (hs : StkOk st) {n : Int} (n0 : 0 ≤ n) (n4 : n ≤ 4) : F_best_orders [calD t st, .int n] [] = .ok (.ref 0) [.lst (bordsD st n n.toNat)] := by
  have r1 := fun M => c_reqst t hs n0 M
  have r2 := fun M => c_reqfew t hs n4 M
  obtain ⟨m, rfl⟩ := Int.eq_ofNat_of_zero_le n0
  rw [Int.toNat_natCast]
  cases m with
  | zero =>
    have r1 : ∀ M, callF F_require_stocks [calD t st, .int 0] M = .ok .non M := r1
    have r2 : ∀ M, callF F_require_few [calD t st, .int 0] M = .ok .non M := r2
    generalize calD t st = CD at *
    simp [F_best_orders, b_best_orders, runF, r1, r2, bordsD, retR]
  | succ m =>
    have nw := m_unew t st ((m + 1 : Nat) : Int) []
    have u := unl_new StB.nil st ((m + 1 : Nat) : Int)
    obtain ⟨ks1, p1, e⟩ := best_all hs n0 n4 0 1 (m + 1) 20 (by omega) _ [] [] 1 u (by omega) (fun _ => VP.start hs _) (by omega)
    have is := u.is (m := "best") (by simp)
    have b0 := bestD_0 st ((m + 1 : Nat) : Int) (m + 1) [] 1
    have e : F_Unlike_best [.ref 0, .tup [], .int 1] [unlO st ((m + 1 : Nat) : Int) 1, DP st ((m + 1 : Nat) : Int) []] = .ok _ [unlO st ((m + 1 : Nat) : Int) 1, DP st ((m + 1 : Nat) : Int) ks1] := e
    have u1 := u.set p1
    have u1 : Unl st ((m + 1 : Nat) : Int) 0 1 [unlO st ((m + 1 : Nat) : Int) 1, DP st ((m + 1 : Nat) : Int) ks1] ks1 := u1
    obtain ⟨B, rl, vl⟩ := VP.start hs ((m + 1 : Nat) : Int)
    have hf := vl.f (by omega)
    have nn : ∀ x ∈ rdyU st [], 0 ≤ x := by rw [rl.rdy]; exact usb_nn hf
    have ns : (rdyU st []).sum ≤ ((4 : Nat) : Int) := by rw [rl.rdy]; exact usb_sum hs B 1
    have l3 : (rdyU st []).length ≤ 3 := by rw [rl.rdy, usb_len]; exact hs.l3
    have la := arr_len 4 (rdyU st []) l3
    have e44 : (4 : Nat) ^ 4 = 256 := rfl
    have ca := fun M => c_arr l3 nn ns M
    have rd := m_ready u1.B u1.o hs.l3 (S := []) (fun r hr => by cases hr) (by simp)
    have rd : F_Unlike_ready [.ref 0, .tup []] _ = _ := rd
    have is2 := u1.is (m := "ready") (by simp)
    obtain ⟨ks2, p2, lc⟩ := sel_loop hs n0 n4 (m := m) (by omega) (by omega) (bst st ((m + 1 : Nat) : Int) (m + 1) [] 1) (some (calD t st)) (some (.int ((m + 1 : Nat) : Int))) (arrF 4 (rdyU st [])) [] _ ks1 (fun o ho => ⟨ful_upt ((mem_arr 4 _ o nn ns).mp ho), ful_len 4 _ o ho⟩) (by rw [List.length_nil]; omega) u1
    rw [List.nil_append, List.map_nil] at lc
    have eb : (arrF 4 (rdyU st [])).filter (fun o => decide (Vg (gB st ((m + 1 : Nat) : Int) m [] 1) o = bst st ((m + 1 : Nat) : Int) (m + 1) [] 1)) = bords st ((m + 1 : Nat) : Int) (m + 1) := rfl
    rw [eb] at lc
    have lc : gLcL _ _ _ _ _ _ _ = .ok _ [unlO st ((m + 1 : Nat) : Int) 1, DP st ((m + 1 : Nat) : Int) ks2] := lc
    have sq : seqD (.lst ((arrF 4 (rdyU st [])).map ordI)) = some ((arrF 4 (rdyU st [])).map ordI) := rfl
    show _ = Bk.R.ok _ [.lst ((bords st ((m + 1 : Nat) : Int) (m + 1)).map ordI)]
    have bt := ords_below 0 (bords st ((m + 1 : Nat) : Int) (m + 1))
    have ne : ∀ M, dEqA M (.int ((m + 1 : Nat) : Int)) (.int 0) = some (.bl false) := fun M => by
      have h : ∀ z : Int, z ≠ 0 → dEqA M (.int z) (.int 0) = some (.bl false) := fun z hz => by simp [hz]
      exact h _ (by omega)
    simp only [List.length_nil, List.nil_append, Nat.zero_add] at nw is
    clear u u1 eb rl vl
    generalize (bords st ((m + 1 : Nat) : Int) (m + 1)).map ordI = BO at *
    generalize bestD st ((m + 1 : Nat) : Int) (m + 1) [] 1 = BD at *
    generalize bst st ((m + 1 : Nat) : Int) (m + 1) [] 1 = V at *
    generalize (arrF 4 (rdyU st [])).map ordI = AL at *
    generalize (rdyU st []).map D.int = RM at *
    generalize DP st ((m + 1 : Nat) : Int) ks1 = D1 at *
    generalize DP st ((m + 1 : Nat) : Int) ks2 = D2 at *
    generalize DP st ((m + 1 : Nat) : Int) [] = D0 at *
    generalize unlO st ((m + 1 : Nat) : Int) 1 = U0 at *
    generalize calD t st = CD at *
    generalize ((m + 1 : Nat) : Int) = nn' at *
    simp [-e_ix, -u_isObj, F_best_orders, b_best_orders, runF, r1, r2, ne, nw, newR, is, e, b0, is2, rd, ca, sq, lc, retR, bt]
end My

set_option Elab.async false
set_option linter.all false
set_option maxRecDepth 100000
set_option maxHeartbeats 8000000
namespace My
open PySem PySem.Spec PyProof.Rows L2 Bk
/-! ### best orders, by both -/
theorem srtR_ltZ {rs : List (List Int)} (nd : rs.Nodup) : (srtR rs).Pairwise (· < ·) := by
  have s := List.pairwise_mergeSort (le := leR) (fun a b c h1 h2 => by
    unfold leR at *
    rw [decide_eq_true_eq] at *
    exact List.le_trans h1 h2) (fun a b => by
    unfold leR
    rw [Bool.or_eq_true, decide_eq_true_eq, decide_eq_true_eq]
    exact List.le_total a b) rs
  have nd' : (srtR rs).Nodup := (List.mergeSort_perm rs leR).nodup_iff.mpr nd
  refine (s.and nd').imp fun {a b} h => ?_
  obtain ⟨h1, h2⟩ := h
  unfold leR at h1
  rw [decide_eq_true_eq] at h1
  rcases List.le_iff_lt_or_eq.mp h1 with q | q
  · exact q
  · exact absurd q h2
def B0 (st : Stk) : List (List Int) := List.replicate st.length []
theorem start_val {st : Stk} (hs : StkOk st) (n : Int) : Rel st n [] (B0 st) 1 ∧ Val st n (B0 st) 1 := ⟨Rel.start st n, ⟨by simp [B0], by omega, fun _ b hb => ⟨0, 0, 0, by omega, by omega, by omega, by rw [List.eq_of_mem_replicate hb]; rfl, by omega, by omega, by omega⟩, fun _ => Few4.start hs⟩⟩
theorem due_same {st : Stk} (hs : StkOk st) (m : Nat) : bst st (m : Int) m [] 1 = mst st m (B0 st) 1 := bst_mst hs m [] _ 1 (start_val hs m).1 (Few4.start hs) (by omega)
theorem orders_same {st : Stk} (hs : StkOk st) (m : Nat) : srtR ((alrF 4 (usb st (B0 st) 1)).filter fun o => decide (Vg (fun o => mst st m (hitL 1 (B0 st) o) (1 + 1)) o = mst st (m + 1) (B0 st) 1)) = bords st ((m + 1 : Nat) : Int) (m + 1) := by
  obtain ⟨rl, _⟩ := start_val hs ((m + 1 : Nat) : Int)
  have hf : Few4 st (B0 st) 1 := Few4.start hs
  have nn := usb_nn hf
  have ns := usb_sum hs (B0 st) 1
  have pm := List.mergeSort_perm ((alrF 4 (usb st (B0 st) 1)).filter fun o => decide (Vg (fun o => mst st m (hitL 1 (B0 st) o) (1 + 1)) o = mst st (m + 1) (B0 st) 1)) leR
  refine asc_one (srtR_ltZ ?_) ?_ fun o => ?_
  · exact (List.nodup_iff_pairwise_ne.mpr (alr_nodup 4 _)).sublist List.filter_sublist
  · exact (arr_asc 4 _).sublist List.filter_sublist
  · have e1 : o ∈ srtR ((alrF 4 (usb st (B0 st) 1)).filter fun o => decide (Vg (fun o => mst st m (hitL 1 (B0 st) o) (1 + 1)) o = mst st (m + 1) (B0 st) 1)) ↔ o ∈ alrF 4 (usb st (B0 st) 1) ∧ Vg (fun o => mst st m (hitL 1 (B0 st) o) (1 + 1)) o = mst st (m + 1) (B0 st) 1 := by
      unfold srtR
      rw [pm.mem_iff, List.mem_filter, decide_eq_true_eq]
    have em : mst st (m + 1) (B0 st) 1 = maxI ((arrF 4 (usb st (B0 st) 1)).map (Vg fun o => mst st m (hitL 1 (B0 st) o) (1 + 1))) := by
      rw [mst]
      exact max_same (fun o => mst_pos st m _ _) nn ns
    have due := due_same hs (m + 1)
    rw [e1, em, best_same (fun o => mst_pos st m _ _) nn ns o]
    unfold bords
    rw [List.mem_filter, decide_eq_true_eq, rl.rdy, due, em]
    constructor
    · rintro ⟨a, b⟩
      refine ⟨a, ?_⟩
      have u := ful_upt ((mem_arr 4 _ o nn ns).mp a)
      have w := worth_same hs rl hf (m := m) (by omega) u
      exact w.trans b
    · rintro ⟨a, b⟩
      refine ⟨a, ?_⟩
      have u := ful_upt ((mem_arr 4 _ o nn ns).mp a)
      have w := worth_same hs rl hf (m := m) (by omega) u
      exact w.symm.trans b
end My

set_option Elab.async false
set_option linter.all false
set_option maxRecDepth 100000
set_option maxHeartbeats 8000000
namespace My
open PySem PySem.Spec PyProof.Rows L2 Bk
/-! ### drawn stocks -/
theorem backD_anyY {ks : List Nat} {n : Nat} {d : D} (h : below 0 d = true) : backD ks n d = some d := by
  cases d with
  | ref k => simp [below] at h
  | _ => simp [backD, h]
theorem c_lendY {F : List D → List MO → Bk.R D} {ds : List D} {d : D} {o o' : MO} {k : Nat} {M : List MO} (h : F (.ref 0 :: ds) [o] = .ok d [o']) (hk : M[k]? = some o) (ho : isDead o = false) (hb : belowO 0 o = true) (hb' : belowO 0 o' = true) (ha : belows 0 ds = true) (hd : below 0 d = true) : callF F (.ref k :: ds) M = .ok d (M.set k o') := by
  have l1 := lendK_nil ha
  have l2 : lendA 1 ds = ds := lendA_nil ha
  have l3 := flatArgs_of ha
  simp [callF, lendK, l1, l2, l3, getAll, hk, flatArgs, lentOk, ho, hb, lendA, h, hb', backD_anyY hd, setAll]
theorem t_0Z (s : Src3) (n : Int) (R : List MO) (h0 : 0 < n) (h : n < 1000000000) : callF F_law_take [.ref 0, .int n] (srcO s :: R) = .ok (.int (tk s n)) (srcO (tn s n) :: R) := by
  have := c_take (k := 0) (M := srcO s :: R) (s := s) rfl h0 (by omega)
  rw [List.set_cons_zero] at this
  exact this
theorem c_oneZ {ds : List D} (h : 0 < ds.length) (hl : ds.length ≤ 1000000) (hb : belows 0 ds = true) (s : Src3) : ∃ (d : D) (s' : Src3), (∀ R, callF F_law_one [.ref 0, .lst ds] (srcO s :: R) = .ok d (srcO s' :: R)) ∧ d ∈ ds := by
  have z : (0 : Int) < ds.length := by omega
  have t := fun R => t_0Z s (ds.length : Int) R z (by omega)
  have a0 := tk_lo s z
  have a1 := tk_hi s z
  have lt : (tk s (ds.length : Int)).toNat < ds.length := by omega
  obtain ⟨d, hd⟩ : ∃ d, ds[(tk s (ds.length : Int)).toNat]? = some d := ⟨_, List.getElem?_eq_getElem lt⟩
  have ix : ∀ M, dIx M (.lst ds) (.int (tk s (ds.length : Int))) = some d := fun M => by
    rw [e_ix, itemsD_l, Option.bind_some]
    have e : tk s (ds.length : Int) = (((tk s (ds.length : Int)).toNat : Nat) : Int) := by omega
    rw [e, Bk.atI_nat]
    exact hd
  have bd : below 0 d = true := by
    rw [belows_all, List.all_eq_true] at hb
    exact hb d (List.mem_of_getElem? hd)
  have ln : ∀ M, dLen M (.lst ds) = some (.int ds.length) := fun M => by simp
  have m : F_law_one [.ref 0, .lst ds] [srcO s] = .ok d [srcO (tn s (ds.length : Int))] := by
    have rr : ∀ s' : Src3, retR 1 [srcO s'] d = .ok d [srcO s'] := fun s' => by
      have bd1 : below 1 d = true := below_up d bd
      cases d with
      | ref k => simp [below] at bd
      | _ => simp [retR, bd1]
    generalize tk s (ds.length : Int) = x at *
    generalize tn s (ds.length : Int) = s' at *
    simp [-e_ix, -e_lenL, F_law_one, b_law_one, runF, ln, t, ix, rr]
  refine ⟨d, tn s (ds.length : Int), fun R => ?_, List.mem_of_getElem? hd⟩
  have := c_lendY (k := 0) (M := srcO s :: R) m rfl rfl rfl rfl (by simpa [belows, below] using hb) bd
  rw [List.set_cons_zero] at this
  exact this

theorem stocks_loop (x1 x2 : Option D) : ∀ (m : Nat) (j : Int) (acc : Stk) (s : Src3) (fr : Int), acc.length + m ≤ 3 → 0 ≤ fr → fr ≤ 3 → (acc.map (·.1)).sum + fr ≤ 3 → (∀ p ∈ acc, 0 ≤ p.1) → (∀ p ∈ acc, ∀ r, p.2 = some r → 0 ≤ r) →
    ∃ (acc' : Stk) (s' : Src3) (fr' : Int), gForL (gTo 5) lb_law_stocks_1 (rngL j m) [some (.ref 0), x1, x2, some (.ref 1), some (.int fr), none, none] [srcO s, .lst (acc.map entD)] = .nx [some (.ref 0), x1, x2, some (.ref 1), some (.int fr'), none, none] [srcO s', .lst (acc'.map entD)] ∧ acc'.length = acc.length + m ∧ (acc'.map (·.1)).sum ≤ 3 ∧ (∀ p ∈ acc', 0 ≤ p.1) ∧ ∀ p ∈ acc', ∀ r, p.2 = some r → 0 ≤ r
  | 0, j, acc, s, fr, _, f0, _, h1, h2, h3 => ⟨acc, s, fr, by simp [rngL], rfl, by omega, h2, h3⟩
  | m + 1, j, acc, s, fr, hl, f0, f3, h1, h2, h3 => by
    have sz : 2000 ≤ sizeLine := by rw [sizeLine_eq]; omega
    have t1 := t_0Z s (fr + 1) [.lst (acc.map entD)] (by omega) (by omega)
    have a0 := tk_lo s (n := fr + 1) (by omega)
    have a1 := tk_hi s (n := fr + 1) (by omega)
    generalize tk s (fr + 1) = x at *
    generalize tn s (fr + 1) = s1 at *
    obtain ⟨d, s2, e2, hm⟩ := c_oneZ (ds := [.int 0, .int 0, .int 1, .int 2, .int 100000000000000000000, .non]) (by simp) (by simp) (by simp [below]) s1
    have e2 := e2 [.lst (acc.map entD)]
    obtain ⟨o, rfl, ho⟩ : ∃ o : Option Int, d = optD o ∧ ∀ r, o = some r → 0 ≤ r := by
      simp only [List.mem_cons, List.not_mem_nil, or_false] at hm
      rcases hm with r | r | r | r | r | r
      · exact ⟨some 0, r, fun b h => by injection h with h; omega⟩
      · exact ⟨some 0, r, fun b h => by injection h with h; omega⟩
      · exact ⟨some 1, r, fun b h => by injection h with h; omega⟩
      · exact ⟨some 2, r, fun b h => by injection h with h; omega⟩
      · exact ⟨some 100000000000000000000, r, fun b h => by injection h with h; omega⟩
      · exact ⟨none, r, fun b h => by cases h⟩
    obtain ⟨acc', s', fr', e, l, k1, k2, k3⟩ := stocks_loop x1 x2 m (j + 1) (acc ++ [(x, o)]) s2 (fr - x) (by simp; omega) (by omega) (by omega) (by rw [List.map_append, List.sum_append]; simp; omega)
      (fun p hp => by
        rcases List.mem_append.mp hp with q | q
        · exact h2 p q
        · have : p = (x, o) := by simpa using q
          rw [this]
          exact a0) (fun p hp => by
        rcases List.mem_append.mp hp with q | q
        · exact h3 p q
        · have : p = (x, o) := by simpa using q
          rw [this]
          exact ho)
    refine ⟨acc', s', fr', ?_, by rw [l]; simp; omega, k1, k2, k3⟩
    rw [rngL]
    refine (forL_cons (Γ1 := [some (.ref 0), x1, x2, some (.ref 1), some (.int fr), some (.int j), none]) (by simp) ?_).trans e
    have qa : (acc.map entD).length < sizeLine := by rw [List.length_map]; omega
    have fe : (acc ++ [(x, o)]).map entD = acc.map entD ++ [.tup [.int x, optD o]] := by simp [entD]
    have p20 : ∀ M, dPow M (.int 10) (.int 20) = some (.int 100000000000000000000) := fun M => by rw [e_pow, if_pos (by decide)]; rfl
    rw [fe]
    generalize acc.map entD = AC at *
    generalize optD o = OD at *
    simp [-e_pow, lb_law_stocks_1, t1, p20, e2, listD, isListD, mutR, qa]
end My

set_option Elab.async false
set_option linter.all false
set_option maxRecDepth 100000
set_option maxHeartbeats 8000000
namespace My
open PySem PySem.Spec PyProof.Rows L2 Bk
/-! ### drawn stocks, whole -/
theorem c_stocks (s : Src3) (R : List MO) : ∃ (st : Stk) (s' : Src3), callF F_law_stocks [.ref 0, .int 3, .int 3] (srcO s :: R) = .ok (calD false st) (srcO s' :: R) ∧ StkOk st := by
  have t1 := t_0Z s 3 [.lst []] (by decide) (by decide)
  have a0 := tk_lo s (n := 3) (by decide)
  have a1 := tk_hi s (n := 3) (by decide)
  generalize tk s 3 = x at *
  generalize tn s 3 = s1 at *
  obtain ⟨y, rfl⟩ := Int.eq_ofNat_of_zero_le a0
  obtain ⟨st, s', fr', lp, l, k1, k2, k3⟩ := stocks_loop (some (.int 3)) (some (.int 3)) (1 + y) 0 [] s1 3 (by simp; omega) (by omega) (by omega) (by simp) (fun p hp => by cases hp) (fun p hp => by cases hp)
  rw [List.length_nil, Nat.zero_add] at l
  have hs : StkOk st := ⟨by omega, by omega, k2, k3, by omega⟩
  refine ⟨st, s', ?_, hs⟩
  have r1 : rng1 [.int (1 + (y : Int))] = some (rngL 0 (1 + y)) := by
    have i1 : Bk.inR (1 + (y : Int)) = true := inR_iZ (by omega) (by omega)
    have e : (1 + (y : Int)).toNat = 1 + y := by omega
    rw [u_rng1, i1, e]
    rfl
  have m : F_law_stocks [.ref 0, .int 3, .int 3] [srcO s] = .ok (calD false st) [srcO s'] := by
    have cd : D.lst (st.map entD) = calD false st := rfl
    have bl : below 1 (calD false st) = true := by simp
    have rt : retR 1 [srcO s', .dead] (calD false st) = .ok (calD false st) [srcO s'] := by
      show (if Bk.below 1 (calD false st) = true then _ else _) = _
      rw [if_pos bl]
      rfl
    rw [List.map_nil] at lp
    generalize calD false st = CD at *
    generalize st.map entD = CE at *
    generalize ((y : Nat) : Int) = yy at *
    generalize rngL 0 (1 + y) = RG at *
    simp [-u_rng1, F_law_stocks, b_law_stocks, runF, t1, r1, lp, cd, rt]
  exact c_lendY (k := 0) (M := srcO s :: R) m rfl rfl rfl rfl (by simp) (by simp)
end My

set_option Elab.async false
set_option linter.all false
set_option maxRecDepth 100000
set_option maxHeartbeats 8000000
namespace My
open PySem PySem.Spec PyProof.Rows L2 Bk
/-! ### the program's rows -/
abbrev RwP := List Int × List Int
def rwD (r : RwP) : D := .tup [tupI r.1, ordI r.2]
def rowsP (st : Stk) (n : Int) : Nat → List Int → List (List Int) → List RwP
  | 0, _, _ => []
  | m + 1, p, S => (p, bord st n m S ((p.length : Int) + 1)) :: (List.range ((bord st n m S ((p.length : Int) + 1)).length + 1)).flatMap fun (b : Nat) => rowsP st n m (p ++ [(b : Int)]) (aft st n S ((p.length : Int) + 1) ((bord st n m S ((p.length : Int) + 1)).take b))
theorem rwD_bl (m : Nat) (l : List RwP) : belows m (l.map rwD) = true := by
  rw [belows_all, List.all_map, List.all_eq_true]
  intro r _
  have a := belows_ints m r.1
  have b := belows_ints m r.2
  simp [rwD, below, tupI, ordI, a, b]
theorem bord_mem {st : Stk} (hs : StkOk st) {n : Int} {m : Nat} {S : List (List Int)} {day : Int} (hd : day ≤ n) (v : VP st n S day) : bord st n m S day ∈ arrF 4 (rdyU st S) := by
  obtain ⟨B, rl, vl⟩ := v
  have hf := vl.f hd
  have nn : ∀ x ∈ rdyU st S, 0 ≤ x := by rw [rl.rdy]; exact usb_nn hf
  have ns : (rdyU st S).sum ≤ ((4 : Nat) : Int) := by rw [rl.rdy]; exact usb_sum hs B day
  obtain ⟨o0, h0⟩ := arr_ne nn ns
  have ne : (arrF 4 (rdyU st S)).map (Vg (gB st n m S day)) ≠ [] := List.ne_nil_of_mem (List.mem_map_of_mem h0)
  obtain ⟨fi1, _⟩ := fiZ_is (maxI_geZ ne).1
  have lt := (List.getElem?_eq_some_iff.mp fi1).1
  rw [List.length_map] at lt
  unfold bord
  rw [List.getD_eq_getElem?_getD, List.getElem?_eq_getElem lt]
  exact List.getElem_mem lt
theorem bord_upt {st : Stk} (hs : StkOk st) {n : Int} {m : Nat} {S : List (List Int)} {day : Int} (hd : day ≤ n) (v : VP st n S day) : Upt (rdyU st S) (bord st n m S day) ∧ (bord st n m S day).length ≤ 4 := by
  have b := bord_mem (m := m) hs hd v
  refine ⟨?_, ful_len 4 _ _ b⟩
  obtain ⟨B, rl, vl⟩ := v
  have hf := vl.f hd
  exact ful_upt ((mem_arr 4 _ _ (by rw [rl.rdy]; exact usb_nn hf) (by rw [rl.rdy]; exact usb_sum hs B day)).mp b)
theorem rowsP_len {st : Stk} (hs : StkOk st) {n : Int} (n4 : n ≤ 4) : ∀ (m : Nat) (p : List Int) (S : List (List Int)), (p.length : Int) + 1 + m = n + 1 → (0 < m → VP st n S ((p.length : Int) + 1)) → (rowsP st n m p S).length ≤ 6 ^ m
  | 0, _, _, _, _ => by simp [rowsP]
  | m + 1, p, S, hd, v => by
    have v := v (by omega)
    obtain ⟨u, ol⟩ := bord_upt (m := m) hs (by omega) v
    rw [rowsP, List.length_cons]
    have : ∀ l : List Nat, (l.flatMap fun (b : Nat) => rowsP st n m (p ++ [(b : Int)]) (aft st n S ((p.length : Int) + 1) ((bord st n m S ((p.length : Int) + 1)).take b))).length ≤ l.length * 6 ^ m := fun l => flat_len' l fun b => by
      refine rowsP_len hs n4 m _ _ (by simp; omega) fun hm => ?_
      have := v.next hs n4 (by omega) (u.take b)
      have e : ((p ++ [(b : Int)]).length : Int) + 1 = (p.length : Int) + 1 + 1 := by simp
      rw [e]
      exact this
    have a := this (List.range ((bord st n m S ((p.length : Int) + 1)).length + 1))
    rw [List.length_range] at a
    have q : ((bord st n m S ((p.length : Int) + 1)).length + 1) * 6 ^ m ≤ 5 * 6 ^ m := Nat.mul_le_mul_right _ (by omega)
    have p1 : 1 ≤ 6 ^ m := Nat.pow_pos (by decide)
    rw [Nat.pow_succ]
    omega
where
  flat_len' {f : Nat → List RwP} {B : Nat} (l : List Nat) (h : ∀ i, (f i).length ≤ B) : (l.flatMap f).length ≤ l.length * B := by
    induction l with
    | nil => simp
    | cons i l ih =>
      have a := h i
      rw [List.flatMap_cons, List.length_append, List.length_cons, Nat.add_mul]
      omega
end My

set_option Elab.async false
set_option linter.all false
set_option maxRecDepth 100000
set_option maxHeartbeats 8000000
namespace My
open PySem PySem.Spec PyProof.Rows L2 Bk
/-! ### the program's rows, walked -/
def Rws (st : Stk) (n : Int) (k kd : Nat) (N m : Nat) : Prop := ∀ (M : List MO) (ks : List BK) (p : List Int) (S : List (List Int)), Unl st n k kd M ks → (p.length : Int) + 1 + m = n + 1 → (0 < m → VP st n S ((p.length : Int) + 1)) →
  ∃ ks', PK ks' ∧ FR_Unlike_rows N 0 [.ref k, tupI p, rowsD S] M = .ok (.ref M.length) (M.set kd (DP st n ks') ++ [.lst ((rowsP st n m p S).map rwD)])
theorem rows_zero {st : Stk} {n : Int} {k kd : Nat} {N : Nat} : Rws st n k kd (N + 1) 0 := fun M ks p S h hd _ => by
  refine ⟨ks, h.p, ?_⟩
  rw [set_sameW h.d]
  have gt : ∀ M, dGt M (.int ((p.length : Int) + 1)) (.int n) = some (.bl true) := fun M => by rw [e_gt, decide_eq_true (by omega)]
  have hM := fun X => h.B.cut X
  have ho := h.o
  have ln : ∀ M, dLen M (tupI p) = some (.int p.length) := fun M => by
    show dLen M (.tup (p.map D.int)) = _
    simp
  have hg : ∀ o : MO, (M ++ [o])[M.length]? = some o := fun o => by simp
  have tk : ∀ X, (M ++ X).take M.length = M := fun X => List.take_left
  unfold unlO at ho
  rw [rowsP]
  generalize tupI p = TP at *
  generalize rowsD S = SD at *
  generalize st.map entD = EM at *
  generalize (p.length : Int) = pl at *
  simp [-e_gt, FR_Unlike_rows, b_Unlike_rows, runF, ho, List.lookup, ln, gt, hM, retR, hg, tk]
end My

set_option Elab.async false
set_option linter.all false
set_option maxRecDepth 100000
set_option maxHeartbeats 8000000
namespace My
open PySem PySem.Spec PyProof.Rows L2 Bk
/-! ### the program's rows, walked further -/
theorem rows_loop {st : Stk} (hs : StkOk st) {n : Int} (n0 : 0 ≤ n) (n4 : n ≤ 4) {k kd : Nat} {N m : Nat} (m3 : m ≤ 3) (hR : Rws st n k kd N m) {p : List Int} {S : List (List Int)} {day : Int} (ed : day = (p.length : Int) + 1) (v : VP st n S day) (hd : day + (m + 1 : Nat) = n + 1) {o : List Int} (u : Upt (rdyU st S) o) (ol : o.length ≤ 4) {L : Nat} (Lk : L ≠ k) (Ld : L ≠ kd) :
    ∀ (j b : Nat) (X : List MO) (ks : List BK) (acc : List RwP), b + j = o.length + 1 → Unl st n k kd X ks → X[L]? = some (.lst (acc.map rwD)) → acc.length + 1296 * j ≤ 20000 →
      ∃ (X' : List MO) (ks' : List BK), Unl st n k kd X' ks' ∧ X.length ≤ X'.length ∧ X'[L]? = some (.lst ((acc ++ (List.range' b j).flatMap fun (b : Nat) => rowsP st n m (p ++ [(b : Int)]) (aft st n S day (o.take b))).map rwD)) ∧ (∀ x, x < X.length → x ≠ kd → x ≠ L → X'[x]? = X[x]?) ∧
        gForL (gTo 6) (lb_Unlike_rows_1 (FR_Unlike_rows N 0)) (rngL (b : Int) j) [some (.ref k), some (tupI p), some (rowsD S), some (.int day), some (ordI o), some (.ref L), none] X = .nx [some (.ref k), some (tupI p), some (rowsD S), some (.int day), some (ordI o), some (.ref L), none] X'
  | 0, b, X, ks, acc, _, h, hL, _ => ⟨X, ks, h, Nat.le_refl _, by simpa using hL, fun _ _ _ _ => rfl, by simp [rngL]⟩
  | j + 1, b, X, ks, acc, hb, h, hL, hq => by
    have sz : 200000 ≤ sizeLine := by rw [sizeLine_eq]; omega
    have ub := u.take b
    have e1 : ((p ++ [(b : Int)]).length : Int) + 1 = day + 1 := by rw [ed]; simp
    have vn : 0 < m → VP st n (aft st n S day (o.take b)) (((p ++ [(b : Int)]).length : Int) + 1) := fun hm => by rw [e1]; exact v.next hs n4 (by omega) ub
    obtain ⟨ks1, p1, er⟩ := hR X ks (p ++ [(b : Int)]) (aft st n S day (o.take b)) h (by rw [e1]; omega) vn
    have rl := rowsP_len hs n4 m (p ++ [(b : Int)]) (aft st n S day (o.take b)) (by rw [e1]; omega) vn
    have r6 : 6 ^ m ≤ 6 ^ 3 := Nat.pow_le_pow_right (by decide) m3
    have e63 : (6 : Nat) ^ 3 = 216 := rfl
    obtain ⟨SU, hSU⟩ : ∃ SU, SU = rowsP st n m (p ++ [(b : Int)]) (aft st n S day (o.take b)) := ⟨_, rfl⟩
    rw [← hSU] at er rl
    have Ll := (List.getElem?_eq_some_iff.mp hL).1
    have lk := (List.getElem?_eq_some_iff.mp h.o).1
    have ld := (List.getElem?_eq_some_iff.mp h.d).1
    obtain ⟨X1, hX1⟩ : ∃ X1, X1 = X.set kd (DP st n ks1) ++ [MO.lst (SU.map rwD)] := ⟨_, rfl⟩
    rw [← hX1] at er
    have old : ∀ x, x < X.length → x ≠ kd → X1[x]? = X[x]? := fun x hx q => by rw [hX1, List.getElem?_append_left (by rw [List.length_set]; exact hx), List.getElem?_set_ne (Ne.symm q)]
    have L1 : X1[L]? = some (.lst (acc.map rwD)) := by rw [old L Ll Ld]; exact hL
    have g1 : X1[X.length]? = some (.lst (SU.map rwD)) := by rw [hX1, List.getElem?_append_right (by simp)]; simp
    have n1 : X1.length = X.length + 1 := by rw [hX1]; simp
    have w := h.set p1
    have B1 : StB X1 := by rw [hX1]; exact w.B.add fun m => by simpa [belowO] using rwD_bl m SU
    obtain ⟨X2, hX2⟩ : ∃ X2, X2 = X1.set L (.lst ((acc ++ SU).map rwD)) := ⟨_, rfl⟩
    have w2 : Unl st n k kd X2 ks1 := by
      refine ⟨by rw [hX2]; exact B1.set L fun m _ => by simpa [belowO] using rwD_bl m (acc ++ SU), ?_, ?_, h.ne, p1⟩
      · rw [hX2, List.getElem?_set_ne Lk, old k lk h.ne]
        exact h.o
      · rw [hX2, List.getElem?_set_ne Ld, hX1, List.getElem?_append_left (by rw [List.length_set]; exact ld), List.getElem?_set_self ld]
    have L2 : X2[L]? = some (.lst ((acc ++ SU).map rwD)) := by rw [hX2, List.getElem?_set_self (by omega)]
    have n2 : X2.length = X.length + 1 := by rw [hX2, List.length_set, n1]
    obtain ⟨X', ks', w', l', g', o', lp⟩ := rows_loop hs n0 n4 m3 hR ed v hd u ol Lk Ld j (b + 1) X2 ks1 (acc ++ SU) (by omega) w2 L2 (by rw [List.length_append]; omega)
    have ei : ((b + 1 : Nat) : Int) = (b : Int) + 1 := by omega
    have er' : List.range' b (j + 1) = b :: List.range' (b + 1) j := rfl
    refine ⟨X', ks', w', by omega, ?_, fun x hx q1 q2 => by rw [o' x (by omega) q1 q2, hX2, List.getElem?_set_ne (Ne.symm q2), old x hx q1], ?_⟩
    · rw [g', er', List.flatMap_cons, ← hSU, List.append_assoc]
    rw [ei] at lp
    rw [rngL]
    refine (forL_cons (Γ1 := [some (.ref k), some (tupI p), some (rowsD S), some (.int day), some (ordI o), some (.ref L), some (.int (b : Nat))]) (by simp) ?_).trans lp
    have i1 := h.is (m := "rows") (by simp)
    have i2 := h.is (m := "after") (by simp)
    have fm := v.form hs n0 n4 (by omega)
    have f4 := v.few hs (by omega)
    have ma := m_after h.B (day := day) h.o fm (by omega) (o := o.take b) (fun s hs' => by obtain ⟨i, hi, e⟩ := ub.1 s hs'; unfold rdyU at hi; rw [List.length_map, List.length_range] at hi; exact ⟨i, hi, e⟩) (by rw [List.length_take]; omega)
    have wk : wkD (ordI o) = tupI o := rfl
    have cu : ∀ M, dCut M none (some (b : Nat)) (tupI o) = some (tupI (o.take b)) := fun M => by
      show dCut M none (some (b : Nat)) (.tup (o.map D.int)) = _
      simp only [dCut, listD, Option.map_some, cutD_upto]
      rw [← List.map_take]
    have ad : ∀ M, dAdd M (tupI p) (.tup [.int (b : Nat)]) = some (tupI (p ++ [(b : Int)])) := fun M => by
      show dAdd M (.tup (p.map D.int)) (.tup [.int (b : Nat)]) = _
      rw [e_addT, if_pos (by rw [List.length_map]; simp only [List.length_cons, List.length_nil]; omega)]
      simp [tupI]
    have em : (acc ++ SU).map rwD = acc.map rwD ++ SU.map rwD := List.map_append
    have qa : (acc.map rwD).length + (SU.map rwD).length ≤ sizeLine := by rw [List.length_map, List.length_map]; omega
    rw [em] at hX2
    have ld1 : listD X1 (.ref X.length) = some (SU.map rwD) := by simp only [listD, g1]
    clear lp o' g' w w2 w' hSU rl h ub vn L2 old
    generalize SU.map rwD = SM at *
    generalize acc.map rwD = AM at *
    generalize rowsD (aft st n S day (o.take b)) = RA at *
    generalize tupI (p ++ [(b : Int)]) = TP at *
    generalize tupI (o.take b) = TB at *
    generalize tupI o = TO at *
    generalize ordI o = OO at *
    generalize tupI p = PP at *
    generalize rowsD S = SD at *
    generalize ((b : Nat) : Int) = bb at *
    simp [-u_isObj, lb_Unlike_rows_1, i1, i2, ad, wk, cu, ma, er, mutR, hL, L1, mExtend, g1, listD, isListD, qa, ← hX2]
end My

set_option Elab.async false
set_option linter.all false
set_option maxRecDepth 100000
set_option maxHeartbeats 8000000
namespace My
open PySem PySem.Spec PyProof.Rows L2 Bk
/-! ### the program's rows, whole -/
theorem rows_of {st : Stk} (hs : StkOk st) {n : Int} (n0 : 0 ≤ n) (n4 : n ≤ 4) {k kd : Nat} {N m : Nat} (hR : Rws st n k kd N m) : Rws st n k kd (N + 1) (m + 1) := fun M ks p S h hd vp => by
  have sz : 200000 ≤ sizeLine := by rw [sizeLine_eq]; omega
  have v := vp (by omega)
  obtain ⟨u, ol⟩ := bord_upt (m := m) hs (by omega) v
  obtain ⟨ks1, p1, eb⟩ := best_all hs n0 n4 k kd (m + 1) 20 (by omega) M ks S ((p.length : Int) + 1) h (by omega) (fun _ => v) (by omega)
  have eb : F_Unlike_best [.ref k, rowsD S, .int ((p.length : Int) + 1)] M = _ := eb
  have w := h.set p1
  have lk := (List.getElem?_eq_some_iff.mp h.o).1
  have ld := (List.getElem?_eq_some_iff.mp h.d).1
  obtain ⟨A, hA⟩ : ∃ A, A = M.set kd (DP st n ks1) := ⟨_, rfl⟩
  have Al : A.length = M.length := by rw [hA, List.length_set]
  rw [← hA] at eb w
  have w0 : Unl st n k kd (A ++ [.lst ([(p, bord st n m S ((p.length : Int) + 1))].map rwD)]) ks1 := by
    refine ⟨w.B.add fun m => by simpa [belowO] using rwD_bl m [(p, _)], ?_, ?_, h.ne, p1⟩
    · rw [List.getElem?_append_left (by omega)]; exact w.o
    · rw [List.getElem?_append_left (by omega)]; exact w.d
  obtain ⟨X', ks', w', l', g', o', lp⟩ := rows_loop hs n0 n4 (by omega) hR rfl v (by omega) u ol (L := M.length) (by omega) (by omega) ((bord st n m S ((p.length : Int) + 1)).length + 1) 0 _ ks1 [(p, bord st n m S ((p.length : Int) + 1))] (by omega) w0 (by rw [← Al]; simp) (by simp; omega)
  have lp : gForL (gTo 6) _ (rngL 0 ((bord st n m S ((p.length : Int) + 1)).length + 1)) _ _ = _ := lp
  have eR : [(p, bord st n m S ((p.length : Int) + 1))] ++ (List.range' 0 ((bord st n m S ((p.length : Int) + 1)).length + 1)).flatMap (fun (b : Nat) => rowsP st n m (p ++ [(b : Int)]) (aft st n S ((p.length : Int) + 1) ((bord st n m S ((p.length : Int) + 1)).take b))) = rowsP st n (m + 1) p S := by
    rw [rowsP, ← List.range_eq_range']
    rfl
  rw [eR] at g'
  have tk : X'.take M.length = M.set kd (DP st n ks') := by
    apply List.ext_getElem?
    intro x
    by_cases c : x < M.length
    · rw [List.getElem?_take_of_lt c]
      by_cases e : x = kd
      · subst e
        rw [w'.d, List.getElem?_set_self ld]
      · rw [o' x (by simp; omega) e (by omega), List.getElem?_append_left (by omega), hA, List.getElem?_set_ne (Ne.symm e), List.getElem?_set_ne (Ne.symm e)]
    · rw [List.getElem?_eq_none (by simp; omega), List.getElem?_eq_none (by simp; omega)]
  refine ⟨ks', w'.p, ?_⟩
  have gt : ∀ M, dGt M (.int ((p.length : Int) + 1)) (.int n) = some (.bl false) := fun M => by rw [e_gt, decide_eq_false (by omega)]
  have ln : ∀ M, dLen M (tupI p) = some (.int p.length) := fun M => by
    show dLen M (.tup (p.map D.int)) = _
    simp
  have lno : ∀ M, dLen M (tupI (bord st n m S ((p.length : Int) + 1))) = some (.int (bord st n m S ((p.length : Int) + 1)).length) := fun M => by
    show dLen M (.tup ((bord st n m S ((p.length : Int) + 1)).map D.int)) = _
    simp
  have r1 : rng1 [.int (((bord st n m S ((p.length : Int) + 1)).length : Int) + 1)] = some (rngL 0 ((bord st n m S ((p.length : Int) + 1)).length + 1)) := by
    have i1 : Bk.inR (((bord st n m S ((p.length : Int) + 1)).length : Int) + 1) = true := inR_iZ (by omega) (by omega)
    have e : (((bord st n m S ((p.length : Int) + 1)).length : Int) + 1).toNat = (bord st n m S ((p.length : Int) + 1)).length + 1 := by omega
    rw [u_rng1, i1, e]
    rfl
  have bx : ∀ M, dIx M (bestD st n (m + 1) S ((p.length : Int) + 1)) (.int 1) = some (ordI (bord st n m S ((p.length : Int) + 1))) := fun M => by simp [bestD]
  have ib := h.is (m := "best") (by simp)
  have hc : cutOk M.length X' = true := by
    unfold cutOk
    rw [tk]
    have := (h.set w'.p).B.cut0
    unfold cutOk at this
    rwa [List.length_set, List.take_of_length_le (by rw [List.length_set]; omega)] at this
  have xl : M.length < X'.length := (List.getElem?_eq_some_iff.mp g').1
  have bl := rwD_bl M.length (rowsP st n (m + 1) p S)
  have ho := h.o
  have eq1 : [(p, bord st n m S ((p.length : Int) + 1))].map rwD = [.tup [tupI p, ordI (bord st n m S ((p.length : Int) + 1))]] := rfl
  rw [eq1] at lp
  have rt : retR M.length X' (.ref M.length) = .ok (.ref M.length) (M.set kd (DP st n ks') ++ [.lst ((rowsP st n (m + 1) p S).map rwD)]) := by
    simp only [retR, Nat.lt_irrefl, if_false, g', bl, if_true, tk]
  clear eR tk w w' w0 o' g' hA hR
  unfold unlO at ho
  have Al' : A.length = M.length := Al
  generalize (rowsP st n (m + 1) p S).map rwD = RM at *
  generalize bestD st n (m + 1) S ((p.length : Int) + 1) = BD at *
  generalize rngL 0 ((bord st n m S ((p.length : Int) + 1)).length + 1) = RG at *
  have wk : wkD (ordI (bord st n m S ((p.length : Int) + 1))) = tupI (bord st n m S ((p.length : Int) + 1)) := rfl
  generalize tupI (bord st n m S ((p.length : Int) + 1)) = TO at *
  generalize ordI (bord st n m S ((p.length : Int) + 1)) = OO at *
  generalize ((bord st n m S ((p.length : Int) + 1)).length : Int) = oo at *
  generalize tupI p = TP at *
  generalize rowsD S = SD at *
  generalize st.map entD = EM at *
  generalize (p.length : Int) = pl at *
  simp [-e_gt, -e_ix, -u_isObj, -u_rng1, FR_Unlike_rows, b_Unlike_rows, runF, ho, List.lookup, ln, gt, ib, eb, bx, Al', wk, lno, r1, lp, hc, rt, Nat.le_of_lt xl]
theorem rows_all {st : Stk} (hs : StkOk st) {n : Int} (n0 : 0 ≤ n) (n4 : n ≤ 4) (k kd : Nat) : ∀ (m N : Nat), m + 1 ≤ N → Rws st n k kd N m
  | m, 0, h => absurd h (by omega)
  | 0, N + 1, _ => rows_zero
  | m + 1, N + 1, h => rows_of hs n0 n4 (rows_all hs n0 n4 k kd m N (by omega))
end My

set_option Elab.async false
set_option linter.all false
set_option maxRecDepth 100000
set_option maxHeartbeats 8000000
namespace My
open PySem PySem.Spec PyProof.Rows L2 Bk
/-! ### unlike_table -/
theorem m_table73 (t : Bool) {st : Stk} (hs : StkOk st) {n : Int} (n0 : 0 ≤ n) (n4 : n ≤ 4) {M : List MO} (hB : StB M) : ∃ M' : List MO, StB M' ∧ M'.length = M.length + 3 ∧ (∀ i, i < M.length → M'[i]? = M[i]?) ∧ M'[M.length + 2]? = some (.lst ((rowsP st n n.toNat [] []).map rwD)) ∧
    F_unlike_table [calD t st, .int n] M = .ok (.tup [.int (bst st n n.toNat [] 1), .ref (M.length + 2)]) M' := by
  have r1 := fun M => c_reqst t hs n0 M
  have r2 := fun M => c_reqfew t hs n4 M
  have nw := m_unew t st n M
  have u := unl_new hB st n
  obtain ⟨ks1, p1, e1⟩ := best_all hs n0 n4 M.length (M.length + 1) n.toNat 20 (by omega) _ [] [] 1 u (by omega) (fun _ => VP.start hs n) (by omega)
  have e1 : F_Unlike_best [.ref M.length, .tup [], .int 1] _ = _ := e1
  have is := u.is (m := "best") (by simp)
  have u1 := u.set p1
  have s2 : ∀ a b x : MO, (M ++ [a, b]).set (M.length + 1) x = M ++ [a, x] := fun a b x => by rw [List.set_append_right _ _ (by omega)]; simp
  rw [s2] at e1 u1
  obtain ⟨ks2, p2, e2⟩ := rows_all hs n0 n4 M.length (M.length + 1) n.toNat 6 (by omega) _ ks1 [] [] u1 (by simp; omega) (fun _ => VP.start hs n)
  have e2 : F_Unlike_rows [.ref M.length, .tup [], .tup []] _ = _ := e2
  have is2 := u1.is (m := "rows") (by simp)
  have u2 := u1.set p2
  rw [s2] at e2 u2
  have b0 := bestD_0 st n n.toNat [] 1
  have l2 : (M ++ [unlO st n (M.length + 1), DP st n ks1]).length = M.length + 2 := by simp
  rw [l2] at e2
  refine ⟨(M ++ [unlO st n (M.length + 1), DP st n ks2]) ++ [.lst ((rowsP st n n.toNat [] []).map rwD)], u2.B.add fun m => by simpa [belowO] using rwD_bl m _, by simp, fun i hi => ?_, ?_, ?_⟩
  · rw [List.append_assoc, List.getElem?_append_left hi]
  · rw [List.getElem?_append_right (by simp)]
    simp
  generalize (rowsP st n n.toNat [] []).map rwD = RM at *
  generalize bestD st n n.toNat [] 1 = BD at *
  generalize bst st n n.toNat [] 1 = V at *
  generalize calD t st = CD at *
  generalize M ++ [unlO st n (M.length + 1), DP st n ks2] = M2 at *
  generalize M ++ [unlO st n (M.length + 1), DP st n ks1] = M1 at *
  generalize M ++ [unlO st n (M.length + 1), DP st n []] = M0 at *
  simp [-e_ix, -u_isObj, F_unlike_table, b_unlike_table, runW, finW, r1, r2, nw, newR, is, e1, b0, is2, e2]
end My

set_option Elab.async false
set_option linter.all false
set_option maxRecDepth 100000
set_option maxHeartbeats 8000000
namespace My
open PySem PySem.Spec PyProof.Rows L2 Bk
/-! ### a row of a table, by the law -/
theorem c_isrow (t : Bool) (st : Stk) {n : Int} {r : RwP} (l1 : 1 ≤ st.length) (hp : (r.1.length : Int) < n) (n4 : n ≤ 4) (h1 : ∀ x ∈ r.1, 0 ≤ x) (h2 : ∀ x ∈ r.2, 0 ≤ x ∧ x < st.length) (ol : r.2.length ≤ 4) (M : List MO) : callF F_law_is_row [calD t st, .int n, rwD r] M = .ok (.bl true) M := by
  refine c_flat ?_ M (by have := rwD_bl 0 [r]; simp at this; simp [belows, this]) rfl
  have sz : 20000 ≤ sizeLine := by rw [sizeLine_eq]; omega
  obtain ⟨p, o⟩ := r
  simp only at *
  have i0 : ∀ M, dIx M (rwD (p, o)) (.int 0) = some (tupI p) := fun M => by simp [rwD]
  have wk : wkD (ordI o) = tupI o := rfl
  have wp : wkD (tupI p) = tupI p := rfl
  have i1 : ∀ M, dIx M (rwD (p, o)) (.int 1) = some (ordI o) := fun M => by simp [rwD]
  have ln : ∀ M, dLen M (rwD (p, o)) = some (.int 2) := fun M => by simp [rwD]
  have ip : ∀ M, dIsi "tuple" M (rwD (p, o)) = some (.bl true) := fun M => by simp [rwD]
  have it : ∀ (M : List MO) (x : List Int), dIsi "tuple" M (tupI x) = some (.bl true) := fun M x => by simp [tupI]
  have lp : ∀ M, dLen M (tupI p) = some (.int p.length) := fun M => by
    show dLen M (.tup (p.map D.int)) = _
    simp
  have lc : ∀ M, dLen M (calD t st) = some (.int st.length) := fun M => calD_len M t st
  have ad : ∀ M, dAdd M (tupI p) (tupI o) = some (tupI (p ++ o)) := fun M => by
    show dAdd M (.tup (p.map D.int)) (.tup (o.map D.int)) = _
    rw [e_addT, if_pos (by simp; omega)]
    simp [tupI]
  have ad2 : ∀ M, dAdd M (tupI o) (.tup [.int 0]) = some (tupI (o ++ [0])) := fun M => by
    show dAdd M (.tup (o.map D.int)) (.tup [.int 0]) = _
    rw [e_addT, if_pos (by simp; omega)]
    simp [tupI]
  have sq : seqD (tupI (p ++ o)) = some ((p ++ o).map D.int) := rfl
  have ll := lcL_sel (gg := gTo 4) (gt := gOrT (gNotT (gVal (gOp1 (dIsi "int") (gV 4)))) (gOrT (gVal (gOp1 (dIsi "bool") (gV 4))) (gVal (gOp2 dLt (gV 4) (gC (.int 0)))))) (ge := gV 4) (Γ := [some (calD t st), some (.int n), some (rwD (p, o)), none, none]) (M := []) D.int D.int (fun _ => false) (p ++ o) [] (by simp; omega) fun x hx => by
    have x0 : ¬ (x < 0) := by
      rcases List.mem_append.mp hx with q | q
      · have := h1 x q; omega
      · have := (h2 x q).1; omega
    exact ⟨[some (calD t st), some (.int n), some (rwD (p, o)), none, some (.int x)], by simp, by simp [x0], fun h => by cases h⟩
  have ef : (p ++ o).filter (fun _ => false) = [] := List.filter_eq_nil_iff.mpr fun _ _ => by simp
  rw [ef, List.map_nil, List.append_nil] at ll
  have mx : ∀ M, dMaxV M (tupI (o ++ [0])) = some (.int (maxI (o ++ [0]))) := fun M => e_maxV_t M (by simp)
  have en : ∀ M, dEqA M (.lst []) (.lst []) = some (.bl true) := fun M => by
    have dt := (Dts.nil 0).lst
    exact dEqA_p (eqP_same dt dt.deref dt.deref (by decide)) (fun _ h => by cases h)
  have ml : maxI (o ++ [0]) < st.length := by
    obtain ⟨a, _⟩ := maxI_geZ (show o ++ [0] ≠ [] by simp)
    rcases List.mem_append.mp a with q | q
    · exact (h2 _ q).2
    · have : maxI (o ++ [0]) = 0 := by simpa using q
      omega
  generalize maxI (o ++ [0]) = mm at *
  generalize tupI (o ++ [0]) = T0 at *
  generalize tupI (p ++ o) = T3 at *
  generalize (p ++ o).map D.int = PO at *
  generalize rwD (p, o) = RD at *
  generalize calD t st = CD at *
  generalize (p.length : Int) = pl at *
  generalize (st.length : Int) = sl at *
  simp [-e_ix, -e_lenT, -e_addT, F_law_is_row, b_law_is_row, runF, i0, i1, wk, wp, ln, ip, it, lp, lc, ad, ad2, sq, ll, mx, en, ml, hp]
end My

set_option Elab.async false
set_option linter.all false
set_option maxRecDepth 100000
set_option maxHeartbeats 8000000
namespace My
open PySem PySem.Spec PyProof.Rows L2 Bk
/-! ### the rows of the program's table, plainly -/
theorem bord_worth {st : Stk} (hs : StkOk st) {n : Int} {m : Nat} {S : List (List Int)} {day : Int} (hd : day ≤ n) (v : VP st n S day) : Vg (gB st n m S day) (bord st n m S day) = bst st n (m + 1) S day := by
  obtain ⟨B, rl, vl⟩ := v
  have hf := vl.f hd
  have nn : ∀ x ∈ rdyU st S, 0 ≤ x := by rw [rl.rdy]; exact usb_nn hf
  have ns : (rdyU st S).sum ≤ ((4 : Nat) : Int) := by rw [rl.rdy]; exact usb_sum hs B day
  obtain ⟨o0, h0⟩ := arr_ne nn ns
  have ne : (arrF 4 (rdyU st S)).map (Vg (gB st n m S day)) ≠ [] := List.ne_nil_of_mem (List.mem_map_of_mem h0)
  obtain ⟨fi1, _⟩ := fiZ_is (maxI_geZ ne).1
  have lt := (List.getElem?_eq_some_iff.mp fi1).1
  rw [List.length_map] at lt
  rw [List.getElem?_map, List.getElem?_eq_getElem lt] at fi1
  have e : Vg (gB st n m S day) ((arrF 4 (rdyU st S))[fiZ ((arrF 4 (rdyU st S)).map (Vg (gB st n m S day))) (maxI ((arrF 4 (rdyU st S)).map (Vg (gB st n m S day))))]) = maxI ((arrF 4 (rdyU st S)).map (Vg (gB st n m S day))) := by
    simpa using fi1
  unfold bord
  rw [List.getD_eq_getElem?_getD, List.getElem?_eq_getElem lt, Option.getD_some, e]
  rfl
theorem rowsP_mem (st : Stk) (n : Int) (m : Nat) (p : List Int) (S : List (List Int)) (r : RwP) : r ∈ rowsP st n (m + 1) p S ↔ r = (p, bord st n m S ((p.length : Int) + 1)) ∨ ∃ b : Nat, b ≤ (bord st n m S ((p.length : Int) + 1)).length ∧ r ∈ rowsP st n m (p ++ [(b : Int)]) (aft st n S ((p.length : Int) + 1) ((bord st n m S ((p.length : Int) + 1)).take b)) := by
  rw [rowsP, List.mem_cons, List.mem_flatMap]
  constructor
  · rintro (h | ⟨b, hb, h⟩)
    · exact .inl h
    · exact .inr ⟨b, by have := List.mem_range.mp hb; omega, h⟩
  · rintro (h | ⟨b, hb, h⟩)
    · exact .inl h
    · exact .inr ⟨b, List.mem_range.mpr (by omega), h⟩
theorem rowsP_pre (st : Stk) (n : Int) : ∀ (m : Nat) (p : List Int) (S : List (List Int)) (r : RwP), r ∈ rowsP st n m p S → ∃ e : List Int, r.1 = p ++ e ∧ e.length < m
  | 0, _, _, r, h => by rw [rowsP] at h; cases h
  | m + 1, p, S, r, h => by
    rcases (rowsP_mem st n m p S r).mp h with rfl | ⟨b, _, h⟩
    · exact ⟨[], by simp, by simp⟩
    · obtain ⟨e, h1, h2⟩ := rowsP_pre st n m _ _ r h
      exact ⟨(b : Int) :: e, by rw [h1]; simp, by simpa using h2⟩
theorem flat_ndZ {α : Type} {β : Type} (f : α → List β) : ∀ (l : List α), l.Nodup → (∀ i ∈ l, (f i).Nodup) → (∀ i ∈ l, ∀ j ∈ l, i ≠ j → ∀ a ∈ f i, a ∉ f j) → (l.flatMap f).Nodup
  | [], _, _, _ => by simp
  | i :: l, nd, h1, h2 => by
    rw [List.flatMap_cons, List.nodup_append]
    obtain ⟨ni, nl⟩ := List.nodup_cons.mp nd
    refine ⟨h1 i (by simp), flat_ndZ f l nl (fun j hj => h1 j (by simp [hj])) (fun a ha b hb => h2 a (by simp [ha]) b (by simp [hb])), fun a ha b hb e => ?_⟩
    subst e
    obtain ⟨j, hj, hb⟩ := List.mem_flatMap.mp hb
    exact h2 i (by simp) j (by simp [hj]) (fun e => ni (e ▸ hj)) a ha hb
theorem rowsP_nd (st : Stk) (n : Int) : ∀ (m : Nat) (p : List Int) (S : List (List Int)), ((rowsP st n m p S).map (·.1)).Nodup
  | 0, _, _ => by simp [rowsP]
  | m + 1, p, S => by
    rw [rowsP, List.map_cons, List.map_flatMap, List.nodup_cons]
    refine ⟨fun h => ?_, flat_ndZ _ _ List.nodup_range (fun b _ => rowsP_nd st n m _ _) fun b _ c _ ne a ha hc => ?_⟩
    · obtain ⟨b, _, h⟩ := List.mem_flatMap.mp h
      obtain ⟨r, hr, e⟩ := List.mem_map.mp h
      obtain ⟨e', h1, _⟩ := rowsP_pre st n m _ _ r hr
      have l := congrArg List.length (h1.symm.trans e)
      simp at l
    · obtain ⟨r, hr, e⟩ := List.mem_map.mp ha
      obtain ⟨s, hs, e2⟩ := List.mem_map.mp hc
      obtain ⟨x, h1, _⟩ := rowsP_pre st n m _ _ r hr
      obtain ⟨y, h2, _⟩ := rowsP_pre st n m _ _ s hs
      have q := h1.symm.trans (e.trans (e2.symm.trans h2))
      rw [List.append_assoc, List.append_assoc] at q
      have q := List.append_cancel_left q
      simp at q
      omega
/-- each row has the form -/
theorem rowsP_form {st : Stk} (hs : StkOk st) {n : Int} (n4 : n ≤ 4) : ∀ (m : Nat) (p : List Int) (S : List (List Int)), (p.length : Int) + 1 + m = n + 1 → (∀ x ∈ p, 0 ≤ x) → (0 < m → VP st n S ((p.length : Int) + 1)) → ∀ r ∈ rowsP st n m p S, (r.1.length : Int) < n ∧ (∀ x ∈ r.1, 0 ≤ x) ∧ (∀ x ∈ r.2, 0 ≤ x ∧ x < st.length) ∧ r.2.length ≤ 4
  | 0, _, _, _, _, _, r, h => by rw [rowsP] at h; cases h
  | m + 1, p, S, hd, hp, v, r, h => by
    have v := v (by omega)
    obtain ⟨u, ol⟩ := bord_upt (m := m) hs (by omega) v
    rcases (rowsP_mem st n m p S r).mp h with rfl | ⟨b, _, h⟩
    · refine ⟨by show (p.length : Int) < n; omega, hp, fun x hx => ?_, ol⟩
      obtain ⟨i, hi, e⟩ := u.1 x hx
      unfold rdyU at hi
      rw [List.length_map, List.length_range] at hi
      omega
    · have e : ((p ++ [(b : Int)]).length : Int) + 1 = (p.length : Int) + 1 + 1 := by simp
      refine rowsP_form hs n4 m _ _ (by rw [e]; omega) (fun x hx => ?_) (fun hm => ?_) r h
      · rcases List.mem_append.mp hx with q | q
        · exact hp x q
        · have : x = (b : Int) := by simpa using q
          omega
      · rw [e]
        exact v.next hs n4 (by omega) (u.take b)
/-- a row stands at one place only -/
theorem place_one {T : List RwP} (nd : (T.map (·.1)).Nodup) {r : RwP} (h : r ∈ T) : ∃ a b, T = a ++ r :: b ∧ (∀ x ∈ a, x.1 ≠ r.1) ∧ ∀ x ∈ b, x.1 ≠ r.1 := by
  obtain ⟨a, b, rfl⟩ := List.append_of_mem h
  rw [List.map_append, List.map_cons, List.nodup_append] at nd
  obtain ⟨_, n2, n3⟩ := nd
  obtain ⟨n4, _⟩ := List.nodup_cons.mp n2
  exact ⟨a, b, rfl, fun x hx => n3 _ (List.mem_map_of_mem hx) _ (by simp), fun x hx e => n4 (e ▸ List.mem_map_of_mem hx)⟩
end My

set_option Elab.async false
set_option linter.all false
set_option maxRecDepth 100000
set_option maxHeartbeats 8000000
namespace My
open PySem PySem.Spec PyProof.Rows L2 Bk
/-! ### the law's following of a table, walked -/
theorem tI_dt (n : Nat) (is : List Int) : Dt (n + 1) (tupI is) (.tuple (is.map .int)) := (Dts.ints n is).tup
theorem tI_eqv : ∀ a b : List Int, PyData.eqvAll (a.map PyData.int) (b.map PyData.int) = decide (a = b)
  | [], [] => by simp [PyData.eqvAll]
  | [], _ :: _ => by simp [PyData.eqvAll]
  | _ :: _, [] => by simp [PyData.eqvAll]
  | x :: a, y :: b => by
    simp only [List.map_cons, PyData.eqvAll, tI_eqv a b, List.cons.injEq, Bool.decide_and]
    congr 1
theorem tI_eq (M : List MO) (a b : List Int) : dEqA M (tupI a) (tupI b) = some (.bl (decide (a = b))) := by
  refine dEqA_p (x := tupI a) ?_ (fun _ h => by cases h)
  rw [eqP_of (tI_dt 0 a) (tI_dt 0 b) (Dt.deref (tI_dt 0 a)) (Dt.deref (tI_dt 0 b)) (by decide) (by decide)]
  refine congrArg some ((?_ : _ = PyData.eqvAll (a.map PyData.int) (b.map PyData.int)).trans (tI_eqv a b))
  simp [PyData.eqv]
/-- where the rows of a past stand -/
def plcs (p : List Int) : List RwP → Nat → List Nat
  | [], _ => []
  | r :: T, k => if r.1 = p then k :: plcs p T (k + 1) else plcs p T (k + 1)
theorem plcs_none {p : List Int} : ∀ (T : List RwP) (k : Nat), (∀ r ∈ T, r.1 ≠ p) → plcs p T k = []
  | [], _, _ => rfl
  | r :: T, k, h => by rw [plcs, if_neg (h r (by simp)), plcs_none T (k + 1) fun x hx => h x (by simp [hx])]
theorem plcs_one {p : List Int} {r : RwP} (hr : r.1 = p) {b : List RwP} (hb : ∀ x ∈ b, x.1 ≠ p) : ∀ (a : List RwP) (k : Nat), (∀ x ∈ a, x.1 ≠ p) → plcs p (a ++ r :: b) k = [k + a.length]
  | [], k, _ => by rw [List.nil_append, plcs, if_pos hr, plcs_none b (k + 1) hb]; rfl
  | x :: a, k, h => by
    rw [List.cons_append, plcs, if_neg (h x (by simp)), plcs_one hr hb a (k + 1) fun y hy => h y (by simp [hy]), List.length_cons]
    congr 1
    omega
theorem plcs_lc {p : List Int} {x0 x1 x3 x4 x5 x6 x7 x8 x9 x10 x11 x12 : Option D} {M : List MO} : ∀ (T : List RwP) (k : Nat) (acc : List D), acc.length + T.length ≤ 20000 →
    gLcL (gToT (gToCons (gTo 13) (gToCons (gTo 14) (gToNil)))) (gVal (gOp2 dEqA (gOp2 dIx (gV 14) (gC (.int 0))) (gV 2))) (gV 13) [x0, x1, some (tupI p), x3, x4, x5, x6, x7, x8, x9, x10, x11, x12, none, none] (enumL (k : Int) (T.map rwD)) acc M = .ok (acc ++ (plcs p T k).map fun i => D.int (i : Nat)) M
  | [], k, acc, _ => by simp [gLcL, enumL, plcs]
  | r :: T, k, acc, h => by
    have sz : 20000 ≤ sizeLine := by rw [sizeLine_eq]; omega
    simp only [List.length_cons] at h
    have ek : ((k : Int) + 1) = ((k + 1 : Nat) : Int) := by omega
    have gg : (gToT (gToCons (gTo 13) (gToCons (gTo 14) (gToNil)))) (.tup [.int (k : Nat), rwD r]) [x0, x1, some (tupI p), x3, x4, x5, x6, x7, x8, x9, x10, x11, x12, none, none] = some [x0, x1, some (tupI p), x3, x4, x5, x6, x7, x8, x9, x10, x11, x12, some (.int (k : Nat)), some (rwD r)] := by simp
    have i0 : dIx M (rwD r) (.int 0) = some (tupI r.1) := by simp [rwD]
    have q := tI_eq M r.1 p
    have gt : (gVal (gOp2 dEqA (gOp2 dIx (gV 14) (gC (.int 0))) (gV 2))) [x0, x1, some (tupI p), x3, x4, x5, x6, x7, x8, x9, x10, x11, x12, some (.int (k : Nat)), some (rwD r)] M = .ok (decide (r.1 = p)) M := by
      generalize tupI r.1 = R1 at *
      generalize tupI p = PP at *
      generalize rwD r = RD at *
      simp [-e_ix, i0, q]
    rw [List.map_cons, enumL, ek]
    by_cases c : r.1 = p
    · rw [decide_eq_true c] at gt
      rw [lcL_take (y := .int (k : Nat)) (M2 := M) gg gt (by simp) (by omega), plcs_lc T (k + 1) _ (by rw [List.length_append, List.length_singleton]; omega), plcs, if_pos c]
      simp
    · rw [decide_eq_false c] at gt
      rw [lcL_skip gg gt, plcs_lc T (k + 1) _ (by omega), plcs, if_neg c]
/-- no more pieces of a sort than can be used -/
theorem cnt_loop {F : List D → List MO → Bk.R D} {o : List Int} {x0 x1 x2 x3 x4 x5 x6 x10 x11 x12 x13 x14 : Option D} {M : List MO} : ∀ (us : List Int) (i : Nat), (∀ j, j < us.length → ((o.count ((i + j : Nat) : Int) : Nat) : Int) ≤ us.getD j 0) →
    gForL (gToT (gToCons (gTo 8) (gToCons (gTo 9) (gToNil)))) (lb_law_followed_1 F) (enumL (i : Int) (us.map D.int)) [x0, x1, x2, x3, x4, x5, x6, some (ordI o), none, none, x10, x11, x12, x13, x14] M = .nx [x0, x1, x2, x3, x4, x5, x6, some (ordI o), none, none, x10, x11, x12, x13, x14] M
  | [], i, _ => by simp [enumL]
  | u :: us, i, h => by
    have h0 := h 0 (by simp)
    have h0 : ((o.count (i : Int) : Nat) : Int) ≤ u := by simpa using h0
    have ek : ((i : Int) + 1) = ((i + 1 : Nat) : Int) := by omega
    rw [List.map_cons, enumL, ek]
    have cn : gCntP (gV 7) (gV 8) [x0, x1, x2, x3, x4, x5, x6, some (ordI o), some (.int (i : Nat)), some (.int u), x10, x11, x12, x13, x14] M = .ok (.int (o.count (i : Int) : Nat)) M := by
      have id : intsD (o.map D.int) = some o := intsD_map o
      unfold ordI
      simp [id]
    have gt : dGt M (.int (o.count (i : Int) : Nat)) (.int u) = some (.bl false) := by rw [e_gt, decide_eq_false (by omega)]
    refine (forL_cons (Γ1 := [x0, x1, x2, x3, x4, x5, x6, some (ordI o), some (.int (i : Nat)), some (.int u), x10, x11, x12, x13, x14]) (by simp) ?_).trans (cnt_loop us (i + 1) fun j hj => ?_)
    · generalize ordI o = TO at *
      generalize (o.count (i : Int)) = oc at *
      simp [-e_gt, -u_gCntP, lb_law_followed_1, cn, gt]
    · have := h (j + 1) (by simp; omega)
      have e : i + (j + 1) = i + 1 + j := by omega
      rw [e] at this
      simpa using this
end My

set_option Elab.async false
set_option linter.all false
set_option maxRecDepth 100000
set_option maxHeartbeats 8000000
namespace My
open PySem PySem.Spec PyProof.Rows L2 Bk
/-! ### the law's following of a table, walked further -/
abbrev TM (T : List RwP) : MO := .lst (T.map rwD)
theorem TM_bl (m : Nat) (T : List RwP) : belowO m (TM T) = true := by simpa [belowO] using rwD_bl m T
def Flw (st : Stk) (n : Int) (t : Bool) (T : List RwP) (N m : Nat) : Prop := ∀ (p : List Int) (S B : List (List Int)) (day : Int), day = (p.length : Int) + 1 → (0 < m → Rel st n S B day) → Val st n B day → day + m = n + 1 → (∀ r ∈ rowsP st n m p S, r ∈ T) →
  FR_law_followed N 0 [calD t st, .int n, tupI p, rowsD B, .ref 0] [TM T] = .ok (.int (bst st n m S day)) [TM T]
theorem follow_loop {st : Stk} (hs : StkOk st) {n : Int} (n4 : n ≤ 4) {t : Bool} {T : List RwP} {N m : Nat} (hF : Flw st n t T N m) {p : List Int} {S B : List (List Int)} {day : Int} (ed : day = (p.length : Int) + 1) (rl : Rel st n S B day) (v : Val st n B day) (hd : day + (m + 1 : Nat) = n + 1) {o : List Int} (u : Upt (usb st B day) o) (ol : o.length ≤ 4) (hT : ∀ b : Nat, b ≤ o.length → ∀ r ∈ rowsP st n m (p ++ [(b : Int)]) (aft st n S day (o.take b)), r ∈ T) (x6 : Option D) :
    ∀ (j b : Nat) (tot : Int), b + j = o.length + 1 → gForL (gTo 9) (lb_law_followed_2 (FR_law_followed N 0)) (rngL (b : Int) j) [some (calD t st), some (.int n), some (tupI p), some (rowsD B), some (.ref 0), some (.int day), x6, some (ordI o), none, none, some (.int tot), none, none, none, none] [TM T]
      = .nx [some (calD t st), some (.int n), some (tupI p), some (rowsD B), some (.ref 0), some (.int day), x6, some (ordI o), none, none, some (.int (tot + ((List.range' b j).map fun i => bst st n m (aft st n S day (o.take i)) (day + 1)).sum)), none, none, none, none] [TM T]
  | 0, b, tot, _ => by simp [rngL]
  | j + 1, b, tot, hb => by
    have ub := u.take b
    have hr : ∀ s ∈ o.take b, ∃ i : Nat, i < st.length ∧ s = (i : Int) := fun s hs' => by obtain ⟨i, hi, e⟩ := ub.1 s hs'; rw [usb_len] at hi; exact ⟨i, hi, e⟩
    have e1 := hF (p ++ [(b : Int)]) (aft st n S day (o.take b)) (hitL day B (o.take b)) (day + 1) (by rw [ed]; simp) (fun hm => rl.next (by omega) hr) (v.next hs n4 (by omega) ub) (by omega) (hT b (by omega))
    have e2 := follow_loop hs n4 hF ed rl v hd u ol hT x6 j (b + 1) (tot + bst st n m (aft st n S day (o.take b)) (day + 1)) (by omega)
    have ei : ((b + 1 : Nat) : Int) = (b : Int) + 1 := by omega
    have er : List.range' b (j + 1) = b :: List.range' (b + 1) j := rfl
    rw [ei] at e2
    have et : tot + ((List.range' b (j + 1)).map fun i => bst st n m (aft st n S day (o.take i)) (day + 1)).sum = tot + bst st n m (aft st n S day (o.take b)) (day + 1) + ((List.range' (b + 1) j).map fun i => bst st n m (aft st n S day (o.take i)) (day + 1)).sum := by
      rw [er, List.map_cons, List.sum_cons]
      omega
    rw [et, rngL]
    refine (forL_cons (Γ1 := [some (calD t st), some (.int n), some (tupI p), some (rowsD B), some (.ref 0), some (.int day), x6, some (ordI o), none, some (.int (b : Nat)), some (.int tot), none, none, none, none]) (by simp) ?_).trans e2
    have ch := fun M => c_hit (day := day) (o := o.take b) (B := B) (fun s hs' => by obtain ⟨i, hi, e⟩ := hr s hs'; exact ⟨i, by rw [v.l]; exact hi, e⟩) (fun x hx => by have := (v.h (by omega) x hx).len; rw [List.length_take]; omega) M
    have wk : wkD (ordI o) = tupI o := rfl
    have cu : ∀ M, dCut M none (some (b : Nat)) (tupI o) = some (tupI (o.take b)) := fun M => by
      show dCut M none (some (b : Nat)) (.tup (o.map D.int)) = _
      simp only [dCut, listD, Option.map_some, cutD_upto]
      rw [← List.map_take]
    have d1 := v.d1
    have ad : ∀ M, dAdd M (tupI p) (.tup [.int (b : Nat)]) = some (tupI (p ++ [(b : Int)])) := fun M => by
      have sz : 20000 ≤ sizeLine := by rw [sizeLine_eq]; omega
      show dAdd M (.tup (p.map D.int)) (.tup [.int (b : Nat)]) = _
      rw [e_addT, if_pos (by rw [List.length_map]; simp only [List.length_cons, List.length_nil]; omega)]
      simp [tupI]
    have cm : callF (FR_law_followed N 0) [calD t st, .int n, tupI (p ++ [(b : Int)]), rowsD (hitL day B (o.take b)), .ref 0] [TM T] = .ok (.int (bst st n m (aft st n S day (o.take b)) (day + 1))) [TM T] :=
      c_lendZ (as := [calD t st, .int n, tupI (p ++ [(b : Int)]), rowsD (hitL day B (o.take b))]) (k := 0) (M := [TM T]) e1 (by have := belows_ints 0 (p ++ [(b : Int)]); simp only [belows, cal_b0, rowsD_bl, below, tupI, this, Bool.and_true]) rfl rfl (TM_bl 0 T) (TM_bl 0 T)
    clear e2 hF hT
    generalize bst st n m (aft st n S day (o.take b)) (day + 1) = x at *
    generalize rowsD (hitL day B (o.take b)) = RH at *
    generalize tupI (p ++ [(b : Int)]) = TP at *
    generalize tupI (o.take b) = TB at *
    generalize tupI o = TO at *
    generalize ordI o = OO at *
    generalize tupI p = PP at *
    generalize rowsD B = RB at *
    generalize TM T = D0 at *
    generalize calD t st = CD at *
    generalize ((b : Nat) : Int) = bb at *
    have ni : ∀ M, dIsi "tuple" M (.int x) = some (.bl false) := fun M => rfl
    simp [lb_law_followed_2, ni, wk, cu, ch, ad, cm]
theorem follow_zero {st : Stk} {n : Int} {t : Bool} {T : List RwP} {N : Nat} : Flw st n t T (N + 1) 0 := fun p S B day ed _ v hd _ => by
  have gt : ∀ M, dGt M (.int ((p.length : Int) + 1)) (.int n) = some (.bl true) := fun M => by rw [e_gt, decide_eq_true (by omega)]
  have ln : ∀ M, dLen M (tupI p) = some (.int p.length) := fun M => by
    show dLen M (.tup (p.map D.int)) = _
    simp
  have b1 := TM_bl 1 T
  rw [bst]
  generalize TM T = D0 at *
  generalize tupI p = TP at *
  generalize rowsD B = SD at *
  generalize calD t st = CD at *
  generalize (p.length : Int) = pl at *
  simp [-e_gt, FR_law_followed, b_law_followed, runF, ln, gt, retR, below, cutOk, b1]
theorem follow_of {st : Stk} (hs : StkOk st) {n : Int} (n4 : n ≤ 4) {t : Bool} {T : List RwP} (nd : (T.map (·.1)).Nodup) (tl : T.length ≤ 2000) {N m : Nat} (hF : Flw st n t T N m) : Flw st n t T (N + 1) (m + 1) := fun p S B day ed rl v hd hT => by
  have sz : 20000 ≤ sizeLine := by rw [sizeLine_eq]; omega
  have rl := rl (by omega)
  have vp : VP st n S day := ⟨B, rl, v⟩
  obtain ⟨u, ol⟩ := bord_upt (m := m) hs (by omega) vp
  have bw := bord_worth (m := m) hs (by omega) vp
  obtain ⟨a, b, eT, ha, hb⟩ := place_one nd (hT _ ((rowsP_mem st n m p S _).mpr (.inl rfl)))
  rw [← ed] at eT ha hb
  have hT2 : ∀ b : Nat, b ≤ (bord st n m S day).length → ∀ r ∈ rowsP st n m (p ++ [(b : Int)]) (aft st n S day ((bord st n m S day).take b)), r ∈ T := fun b hb r hr => hT r ((rowsP_mem st n m p S r).mpr (.inr ⟨b, by rw [← ed]; exact hb, by rw [← ed]; exact hr⟩))
  rw [rl.rdy] at u
  generalize bord st n m S day = o at *
  have al : a.length < T.length := by rw [eT]; simp
  have lp := follow_loop hs n4 hF ed rl v hd u ol hT2 (some (.lst [.int (a.length : Nat)])) (o.length + 1) 0 0 (by omega)
  have ev : (0 : Int) + ((List.range' 0 (o.length + 1)).map fun i => bst st n m (aft st n S day (o.take i)) (day + 1)).sum = bst st n (m + 1) S day := by
    rw [← bw, Int.zero_add]
    unfold Vg gB
    rw [← List.range_eq_range']
  rw [ev] at lp
  have lp : gForL (gTo 9) _ (rngL 0 (o.length + 1)) _ _ = _ := lp
  have gt : ∀ M, dGt M (.int ((p.length : Int) + 1)) (.int n) = some (.bl false) := fun M => by rw [e_gt, decide_eq_false (by omega)]
  have ln : ∀ M, dLen M (tupI p) = some (.int p.length) := fun M => by
    show dLen M (.tup (p.map D.int)) = _
    simp
  have lno : ∀ M, dLen M (tupI o) = some (.int o.length) := fun M => by
    show dLen M (.tup (o.map D.int)) = _
    simp
  have r1 : rng1 [.int ((o.length : Int) + 1)] = some (rngL 0 (o.length + 1)) := by
    have i1 : Bk.inR ((o.length : Int) + 1) = true := inR_iZ (by omega) (by omega)
    have e : ((o.length : Int) + 1).toNat = o.length + 1 := by omega
    rw [u_rng1, i1, e]
    rfl
  have sw : srcW [TM T] (.ref 0) = some (T.map rwD, [(0, T.map rwD)]) := srcW_ref rfl
  have pc : plcs p T 0 = [a.length] := by rw [eT, plcs_one rfl hb a 0 ha, Nat.zero_add]
  have lc := plcs_lc (p := p) (x0 := some (calD t st)) (x1 := some (.int n)) (x3 := some (rowsD B)) (x4 := some (.ref 0)) (x5 := some (.int ((p.length : Int) + 1))) (x6 := none) (x7 := none) (x8 := none) (x9 := none) (x10 := none) (x11 := none) (x12 := none) (M := [TM T]) T 0 [] (by rw [List.length_nil]; omega)
  rw [pc, List.nil_append, List.map_cons, List.map_nil] at lc
  have lc : gLcL _ _ _ _ (enumL 0 (T.map rwD)) _ _ = _ := lc
  have ne : ∀ M, dEqA M (.lst [.int (a.length : Nat)]) (.lst []) = some (.bl false) := fun M => by
    refine dEqA_p (x := .lst [.int (a.length : Nat)]) ?_ (fun _ h => by cases h)
    have h1 : Dt 1 (.lst [.int (a.length : Nat)]) (.list [.int (a.length : Nat)]) := ((Dts.nil 0).cons (Dt.int 0 _)).lst
    have h2 : Dt 1 (.lst []) (.list []) := (Dts.nil 0).lst
    rw [eqP_of h1 h2 h1.deref h2.deref (by decide) (by decide)]
    exact congrArg some (by simp [PyData.eqv, PyData.eqvAll])
  have ix0 : ∀ M, dIx M (.lst [.int (a.length : Nat)]) (.int 0) = some (.int (a.length : Nat)) := fun M => by simp
  have ixa : dIx [TM T] (.ref 0) (.int (a.length : Nat)) = some (rwD (p, o)) := by
    have li : itemsD [TM T] (.ref 0) = some (T.map rwD) := rfl
    rw [e_ix, li, Option.bind_some]
    refine (Bk.atI_nat _ _).trans ?_
    rw [eT]
    simp
  have ix1 : ∀ M, dIx M (rwD (p, o)) (.int 1) = some (ordI o) := fun M => by simp [rwD]
  have wk : wkD (ordI o) = tupI o := rfl
  have cu := fun M => c_usable (st := st) t (B := B) (day := day) hs.l3 v.l (fun x hx => by have := (v.h (by omega) x hx).len; omega) M
  have cl := cnt_loop (F := FR_law_followed N 0) (o := o) (x0 := some (calD t st)) (x1 := some (.int n)) (x2 := some (tupI p)) (x3 := some (rowsD B)) (x4 := some (.ref 0)) (x5 := some (.int day)) (x6 := some (.lst [.int (a.length : Nat)])) (x10 := none) (x11 := none) (x12 := none) (x13 := none) (x14 := none) (M := [TM T]) (usb st B day) 0 fun j hj => by
    rw [Nat.zero_add]
    exact u.2 j hj
  have cl : gForL _ _ (enumL 0 ((usb st B day).map D.int)) _ _ = _ := cl
  rw [← ed] at gt lc
  have b1 := TM_bl 1 T
  have sq : seqD (.lst ((usb st B day).map D.int)) = some ((usb st B day).map D.int) := rfl
  clear hF hT hT2 ev bw pc eT ha hb nd
  generalize bst st n (m + 1) S day = V at *
  generalize rngL 0 (o.length + 1) = RG at *
  generalize tupI o = TO at *
  generalize ordI o = OO at *
  generalize rwD (p, o) = RO at *
  generalize (usb st B day).map D.int = UB at *
  generalize T.map rwD = TR at *
  generalize tupI p = TP at *
  generalize rowsD B = RB at *
  generalize calD t st = CD at *
  generalize ((a.length : Nat) : Int) = aa at *
  generalize (o.length : Int) = oo at *
  generalize (p.length : Int) = pl at *
  subst ed
  simp [-e_gt, -e_ix, -u_rng1, FR_law_followed, b_law_followed, runF, ln, gt, sw, lc, ne, ix0, ixa, ix1, wk, cu, cl, lno, r1, lp, retR, below, cutOk, b1]
theorem follow_all {st : Stk} (hs : StkOk st) {n : Int} (n4 : n ≤ 4) {t : Bool} {T : List RwP} (nd : (T.map (·.1)).Nodup) (tl : T.length ≤ 2000) : ∀ (m N : Nat), m + 1 ≤ N → Flw st n t T N m
  | m, 0, h => absurd h (by omega)
  | 0, N + 1, _ => follow_zero
  | m + 1, N + 1, h => follow_of hs n4 nd tl (follow_all hs n4 nd tl m N (by omega))
end My

set_option Elab.async false
set_option linter.all false
set_option maxRecDepth 100000
set_option maxHeartbeats 8000000
namespace My
open PySem PySem.Spec PyProof.Rows L2 Bk
/-! ### what the law says of a table -/
theorem c_lendG {F : List D → List MO → Bk.R D} {as : List D} {k : Nat} {M : List MO} {o o' : MO} {d : D} (h : F (as ++ [.ref 0]) [o] = .ok d [o']) (ha : belows 0 as = true) (hk : M[k]? = some o) (ho : isDead o = false) (b : belowO 0 o = true) (b' : belowO 0 o' = true) (hd : below 0 d = true) : callF F (as ++ [.ref k]) M = .ok d (M.set k o') := by
  obtain ⟨l1, l2, l3⟩ := lend_last k 0 as ha
  simp [callF, l1, l2, l3, getAll, hk, lentOk, ho, b, h, b', backD_anyY hd, setAll]
theorem tI_in (M : List MO) (q : List Int) (a : List (List Int)) : dInA M (tupI q) (.lst (a.map tupI)) = some (.bl (decide (q ∈ a))) := by
  have d : Dt 2 (.lst (a.map tupI)) (.list (a.map fun a => .tuple (a.map .int))) := (Dts.map a fun x _ => tI_dt 0 x).lst
  have e : Dt 1 (tupI q) (.tuple (q.map .int)) := tI_dt 0 q
  have h1 : inP M (tupI q) (.lst (a.map tupI)) = none := rfl
  have s : (SeqAt.shaped (.tuple (q.map .int)) && SeqAt.shaped (.list (a.map fun a => .tuple (a.map .int)))) = true := by rw [e.shaped (by decide), d.shaped (by decide)]; rfl
  unfold dInA inAP
  rw [h1]
  unfold inDP
  rw [e.deref, d.deref, e.e, d.e]
  simp only [s, if_true, Option.map_some]
  congr 2
  rw [List.any_map]
  rw [Bool.eq_iff_iff]
  have ev : ∀ a b : List Int, PyData.eqv (.tuple (a.map .int)) (.tuple (b.map .int)) = decide (a = b) := fun a b => by rw [PyData.eqv]; exact tI_eqv a b
  simp only [List.any_eq_true, Function.comp, ev, decide_eq_true_eq]
  exact ⟨fun ⟨x, h, e⟩ => e ▸ h, fun h => ⟨q, h, rfl⟩⟩
theorem mul_B0 (M : List MO) (st : Stk) (h3 : st.length ≤ 3) : dMulT M (.tup [.tup []]) (.int st.length) = some (rowsD (B0 st)) := by
  rw [e_mulT M _ _ _ (by omega) (by omega) (by simp), Int.toNat_natCast]
  unfold rowsD B0
  rw [List.map_replicate]
  congr 2
  generalize st.length = L
  induction L with
  | zero => rfl
  | succ L ih => rw [List.replicate_succ, List.flatten_cons, ih, List.replicate_succ]; rfl
theorem due_loop (t : Bool) {st : Stk} {n : Int} {T : List RwP} (l1 : 1 ≤ st.length) (n4 : n ≤ 4) (tl : T.length ≤ 2000) (nd : (T.map (·.1)).Nodup) (fm : ∀ r ∈ T, (r.1.length : Int) < n ∧ (∀ x ∈ r.1, 0 ≤ x) ∧ (∀ x ∈ r.2, 0 ≤ x ∧ x < st.length) ∧ r.2.length ≤ 4) (x2 : Option D) :
    ∀ (suf pre : List RwP), T = pre ++ suf → gForW (gToT (gToCons (gTo 4) (gToCons (gTo 5) (gToNil)))) lb_law_table_due_1 [(0, T.map rwD)] (enumL (pre.length : Nat) (suf.map rwD)) [some (calD t st), some (.int n), x2, some (.ref 0), none, none, none, none] [TM T]
      = .nx [some (calD t st), some (.int n), x2, some (.ref 0), none, none, none, none] [TM T]
  | [], pre, h => by
    rw [List.map_nil, enumL]
    exact forW_end (wOk_one.mpr rfl)
  | r :: suf, pre, h => by
    have sz : 20000 ≤ sizeLine := by rw [sizeLine_eq]; omega
    have ih := due_loop t l1 n4 tl nd fm x2 suf (pre ++ [r]) (by rw [h]; simp)
    have ek : (((pre ++ [r]).length : Nat) : Int) = ((pre.length : Nat) : Int) + 1 := by simp
    rw [ek] at ih
    rw [List.map_cons, enumL]
    refine (forW_cons (Γ1 := [some (calD t st), some (.int n), x2, some (.ref 0), some (.int (pre.length : Nat)), some (rwD r), none, none]) (wOk_one.mpr rfl) (by simp) ?_).trans ih
    obtain ⟨f1, f2, f3, f4⟩ := fm r (by rw [h]; simp)
    have ci := fun M => c_isrow t st l1 f1 n4 f2 f3 f4 M
    have i0 : ∀ M, dIx M (rwD r) (.int 0) = some (tupI r.1) := fun M => by simp [rwD]
    have cu : dCut [TM T] none (some (pre.length : Nat)) (.ref 0) = some (.lst (pre.map rwD)) := by
      have ld : listD [TM T] (.ref 0) = some (T.map rwD) := rfl
      simp only [dCut, ld, Option.map_some]
      rw [cutD_upto, h, List.map_append, List.take_left' (by rw [List.length_map])]
    have pl : pre.length ≤ 2000 := by rw [h, List.length_append] at tl; omega
    have lc := lcL_sel (gg := gTo 7) (gt := gYes) (ge := le_law_table_due_1) (Γ := [some (calD t st), some (.int n), x2, some (.ref 0), some (.int (pre.length : Nat)), some (rwD r), none, none]) (M := [TM T]) rwD (fun r => tupI r.1) (fun _ => true) pre [] (by simp; omega) fun x hx => by
      have i0 : ∀ M, dIx M (rwD x) (.int 0) = some (tupI x.1) := fun M => by simp [rwD]
      refine ⟨[some (calD t st), some (.int n), x2, some (.ref 0), some (.int (pre.length : Nat)), some (rwD r), none, some (rwD x)], by simp, by simp, fun _ => ?_⟩
      generalize tupI x.1 = T1 at *
      generalize rwD x = X1 at *
      simp [-e_ix, le_law_table_due_1, i0]
    have ef : (pre.filter fun _ => true) = pre := List.filter_eq_self.mpr fun _ _ => rfl
    rw [ef, List.nil_append] at lc
    have ni : ∀ M, dInA M (tupI r.1) (.lst (pre.map fun r => tupI r.1)) = some (.bl false) := fun M => by
      have := tI_in M r.1 (pre.map (·.1))
      rw [List.map_map] at this
      refine this.trans ?_
      rw [decide_eq_false]
      intro hm
      rw [h, List.map_append, List.map_cons, List.nodup_append] at nd
      exact nd.2.2 _ hm _ (by simp) rfl
    have sq : seqD (.lst (pre.map rwD)) = some (pre.map rwD) := rfl
    clear ih h nd fm
    generalize (pre.map fun r => tupI r.1) = P1 at *
    generalize pre.map rwD = P2 at *
    generalize tupI r.1 = R1 at *
    generalize rwD r = RD at *
    generalize TM T = D0 at *
    generalize calD t st = CD at *
    generalize ((pre.length : Nat) : Int) = pl at *
    simp [-e_ix, lb_law_table_due_1, ci, i0, cu, sq, lc, ni]
/-- the law's word on a table: None, or that there are fewer sequences -/
def dueD (c v : Int) : D := if v < c then .tup [.str (Str.ofString "many"), .int v] else .non
theorem dueD_bl (m : Nat) (c v : Int) : below m (dueD c v) = true := by
  unfold dueD
  by_cases q : v < c
  · rw [if_pos q]; rfl
  · rw [if_neg q]; rfl
theorem c_due (t : Bool) {st : Stk} (hs : StkOk st) {n : Int} (n0 : 0 ≤ n) (n4 : n ≤ 4) (c : Int) {M : List MO} {k : Nat} (hk : M[k]? = some (TM (rowsP st n n.toNat [] []))) :
    callF F_law_table_due [calD t st, .int n, .int c, .ref k] M = .ok (dueD c (bst st n n.toNat [] 1)) M := by
  have vp : VP st n [] 1 := VP.start hs n
  have nd := rowsP_nd st n n.toNat [] []
  have tl := rowsP_len hs n4 n.toNat [] [] (by simp; omega) (fun _ => vp)
  have fm := rowsP_form hs n4 n.toNat [] [] (by simp; omega) (by simp) (fun _ => vp)
  have e6 : (6 : Nat) ^ n.toNat ≤ 6 ^ 4 := Nat.pow_le_pow_right (by decide) (by omega)
  have e64 : (6 : Nat) ^ 4 = 1296 := rfl
  have fl := follow_all hs n4 (t := t) nd (by omega) n.toNat 8 (by omega) [] [] (B0 st) 1 (by simp) (fun _ => (start_val hs n).1) (start_val hs n).2 (by omega) (fun r h => h)
  have fl : F_law_followed [calD t st, .int n, .tup [], rowsD (B0 st), .ref 0] [TM _] = _ := fl
  have dl := due_loop t hs.l1 n4 (by omega) nd fm (some (.int c)) (rowsP st n n.toNat [] []) [] rfl
  have dl : gForW _ _ [(0, (rowsP st n n.toNat [] []).map rwD)] (enumL 0 ((rowsP st n n.toNat [] []).map rwD)) _ _ = _ := dl
  have mu := fun M => mul_B0 M st hs.l3
  have ln : ∀ M, dLen M (calD t st) = some (.int st.length) := fun M => calD_len M t st
  have cf : callF F_law_followed [calD t st, .int n, .tup [], rowsD (B0 st), .ref 0] [TM (rowsP st n n.toNat [] [])] = .ok (.int (bst st n n.toNat [] 1)) [TM (rowsP st n n.toNat [] [])] :=
    c_lendG (as := [calD t st, .int n, .tup [], rowsD (B0 st)]) (k := 0) (M := [TM _]) fl (by simp only [belows, cal_b0, rowsD_bl, below, Bool.and_true]) rfl rfl (TM_bl 0 _) (TM_bl 0 _) rfl
  have sw : srcW [TM (rowsP st n n.toNat [] [])] (.ref 0) = some ((rowsP st n n.toNat [] []).map rwD, [(0, (rowsP st n n.toNat [] []).map rwD)]) := srcW_ref rfl
  have il : dIsi "list" [TM (rowsP st n n.toNat [] [])] (.ref 0) = some (.bl true) := e_isi_lr rfl
  have b1 := TM_bl 1 (rowsP st n n.toNat [] [])
  have b0 := TM_bl 0 (rowsP st n n.toNat [] [])
  have main : F_law_table_due [calD t st, .int n, .int c, .ref 0] [TM (rowsP st n n.toNat [] [])] = .ok (dueD c (bst st n n.toNat [] 1)) [TM (rowsP st n n.toNat [] [])] := by
    clear fl nd tl fm
    generalize bst st n n.toNat [] 1 = V at *
    generalize TM (rowsP st n n.toNat [] []) = D0 at *
    generalize (rowsP st n n.toNat [] []).map rwD = RM at *
    generalize rowsD (B0 st) = RB at *
    generalize calD t st = CD at *
    have ni : ∀ M, dIsi "tuple" M (.int V) = some (.bl false) := fun M => rfl
    by_cases q : V < c
    · have gt : ∀ M, dGtA M (.int c) (.int V) = some (.bl true) := fun M => by
        show some (D.bl (decide (V < c))) = _
        rw [decide_eq_true q]
      rw [dueD, if_pos q]
      simp [F_law_table_due, b_law_table_due, runF, il, ni, sw, dl, ln, mu, cf, gt, retR, below, belows, cutOk, b1]
    · have gt : ∀ M, dGtA M (.int c) (.int V) = some (.bl false) := fun M => by
        show some (D.bl (decide (V < c))) = _
        rw [decide_eq_false q]
      rw [dueD, if_neg q]
      simp [F_law_table_due, b_law_table_due, runF, il, ni, sw, dl, ln, mu, cf, gt, retR, below, belows, cutOk, b1]
  have := c_lendG (as := [calD t st, .int n, .int c]) (k := k) main (by simp only [belows, cal_b0, below, Bool.and_true]) hk rfl b0 b0 (dueD_bl 0 _ _)
  rw [set_sameW hk] at this
  exact this
end My

set_option Elab.async false
set_option linter.all false
set_option maxRecDepth 100000
set_option maxHeartbeats 8000000
namespace My
open PySem PySem.Spec PyProof.Rows L2 Bk
/-! ### data of orders and rows; the law's best orders -/
theorem Dts.ptuZ {n : Nat} {ds : List D} {ps : List PyData} (h : Dts n ds ps) : Dt (n + 1) (.ptu ds) (.tuple ps) := ⟨by simp [toP, h.e], by simpa [PyData.canLay0] using h.l, by have := h.h; simp only [PyData.depth]; omega⟩
theorem oI_dt (n : Nat) (is : List Int) : Dt (n + 1) (ordI is) (.tuple (is.map .int)) := Dts.ptuZ (Dts.ints n is)
theorem bD_dt (st : Stk) (m : Nat) : Dts 1 (bordsD st (m : Int) m) ((bords st (m : Int) m).map fun a => .tuple (a.map .int)) := by
  cases m with
  | zero => exact (Dts.nil 1).cons (tI_dt 0 [])
  | succ m => exact Dts.map _ fun x _ => oI_dt 0 x
theorem rw_dt (l : List RwP) : Dts 2 (l.map rwD) (l.map fun r => .tuple [.tuple (r.1.map .int), .tuple (r.2.map .int)]) := Dts.map l fun r _ => (((Dts.nil 1).cons (oI_dt 0 r.2)).cons (tI_dt 0 r.1)).tup
theorem bD_bl (m : Nat) (st : Stk) (n : Nat) : belows m (bordsD st (n : Int) n) = true := Dts.belows (bD_dt st n)
theorem toPM_toP (M : List MO) : ∀ (n : Nat) (d : D) (p : PyData), toP d = some p → toPM M n d = some p
  | 0, d, p, h => by rw [toPM]; exact h
  | n + 1, d, p, h => by
    have ls : ∀ (ds : List D) (ps : List PyData), toPs ds = some ps → toPMs M n ds = some ps := fun ds => by
      induction ds with
      | nil => intro ps h; rw [toPMs_nil]; exact h
      | cons d ds ih =>
        intro ps h
        rw [toPs] at h
        rw [toPMs_cons]
        cases e1 : toP d with
        | none => rw [e1] at h; cases h
        | some q =>
          cases e2 : toPs ds with
          | none => rw [e1, e2] at h; cases h
          | some qs =>
            rw [e1, e2] at h
            rw [toPM_toP M n d q e1, ih qs e2]
            exact h
    cases d with
    | non => rw [toPM_non]; exact h
    | bl b => rw [toPM_bl]; exact h
    | int b => rw [toPM_int]; exact h
    | str b => rw [toPM_str]; exact h
    | dct a b => cases h
    | ref k => cases h
    | lst ds =>
      obtain ⟨ps, e1, rfl⟩ := Option.map_eq_some_iff.mp (show (toPs ds).map PyData.list = some p from h)
      rw [toPM_lst, ls ds ps e1]; rfl
    | tup ds =>
      obtain ⟨ps, e1, rfl⟩ := Option.map_eq_some_iff.mp (show (toPs ds).map PyData.tuple = some p from h)
      rw [toPM_tup, ls ds ps e1]; rfl
    | ptu ds =>
      obtain ⟨ps, e1, rfl⟩ := Option.map_eq_some_iff.mp (show (toPs ds).map PyData.tuple = some p from h)
      rw [toPM_ptu, ls ds ps e1]; rfl
theorem toPMs_of0 (M : List MO) (n : Nat) : ∀ (ds : List D) (ps : List PyData), toPs ds = some ps → toPMs M n ds = some ps
  | [], ps, h => by rw [toPMs_nil]; exact h
  | d :: ds, ps, h => by
    rw [toPs] at h
    rw [toPMs_cons]
    cases e1 : toP d with
    | none => rw [e1] at h; cases h
    | some q =>
      cases e2 : toPs ds with
      | none => rw [e1, e2] at h; cases h
      | some qs =>
        rw [e1, e2] at h
        rw [toPM_toP M n d q e1, toPMs_of0 M n ds qs e2]
        exact h
theorem eqF_int (M : List MO) (a b : Int) : dEqF M (.int a) (.int b) = some (.bl (decide (a = b))) := by
  unfold dEqF
  rw [eqPF_of (toPM_int 6 a) (toPM_int 6 b) rfl rfl]
  simp [PyData.eqv]
  rfl
theorem neF_int (M : List MO) (a b : Int) : dNeF M (.int a) (.int b) = some (.bl !(decide (a = b))) := by
  unfold dNeF
  rw [eqPF_of (toPM_int 6 a) (toPM_int 6 b) rfl rfl]
  simp [PyData.eqv]
  rfl
theorem eqPF_sameZ {M : List MO} {x y d : D} {p : PyData} {n : Nat} (h : Dt n d p) (hn : n ≤ 64) (h1 : toPM M 6 x = some p) (h2 : toPM M 6 y = some p) : eqPF M x y = some true := by
  rw [eqPF_of h1 h2 (h.shaped hn) (h.shaped hn), eqv_same h.l]
/-- a list of ours against a frozen one of the same data -/
theorem refF {M : List MO} {k n : Nat} {ds es : List D} {ps : List PyData} (h1 : Dts n ds ps) (h2 : Dts n es ps) (hn : n ≤ 60) (hk : M[k]? = some (.lst ds)) : eqPF M (.ref k) (.lst es) = some true := by
  refine eqPF_sameZ h1.lst (by omega) ?_ (toPM_toP M 6 _ _ h2.lst.e)
  rw [toPM_ref, hk]
  show (toPMs M 5 ds).map PyData.list = _
  rw [toPMs_of0 M 5 ds ps h1.e]
  rfl
theorem tabF {M : List MO} {k : Nat} {V : Int} {l : List RwP} (hk : M[k]? = some (.lst (l.map rwD))) : eqPF M (.tup [.int V, .ref k]) (.tup [.int V, .lst (l.map rwD)]) = some true := by
  have h1 := rw_dt l
  have h2 : Dt 4 (.tup [.int V, .lst (l.map rwD)]) _ := (((Dts.nil 3).cons h1.lst).cons (Dt.int 3 V)).tup
  refine eqPF_sameZ h2 (by omega) ?_ (toPM_toP M 6 _ _ h2.e)
  rw [toPM_tup, toPMs_cons, toPM_int, toPMs_cons, toPM_ref, hk, toPMs_nil]
  show Option.map PyData.tuple (match some (PyData.int V), (match (toPMs M 4 (l.map rwD)).map PyData.list, some [] with
    | some p, some ps => some (p :: ps)
    | _, _ => none) with
    | some p, some ps => some (p :: ps)
    | _, _ => none) = _
  rw [toPMs_of0 M 4 _ _ h1.e]
  rfl
/-- the best orders can be sorted -/
theorem srt_bord {st : Stk} (hs : StkOk st) (m : Nat) : srtOk ((alrF 4 (usb st (B0 st) 1)).filter fun o => decide (Vg (fun o => mst st m (hitL 1 (B0 st) o) (1 + 1)) o = mst st (m + 1) (B0 st) 1)) = true := by
  have hf : Few4 st (B0 st) 1 := Few4.start hs
  have nn := usb_nn hf
  have ns := usb_sum hs (B0 st) 1
  have em : mst st (m + 1) (B0 st) 1 = maxI ((arrF 4 (usb st (B0 st) 1)).map (Vg fun o => mst st m (hitL 1 (B0 st) o) (1 + 1))) := by
    rw [mst]
    exact max_same (fun o => mst_pos st m _ _) nn ns
  have ful : ∀ o ∈ (alrF 4 (usb st (B0 st) 1)).filter (fun o => decide (Vg (fun o => mst st m (hitL 1 (B0 st) o) (1 + 1)) o = mst st (m + 1) (B0 st) 1)), Ful (usb st (B0 st) 1) o := fun o ho => by
    rw [List.mem_filter, decide_eq_true_eq, em] at ho
    exact (mem_arr 4 _ o nn ns).mp ((best_same (fun o => mst_pos st m _ _) nn ns o).mp ho).1
  have nd := (List.nodup_iff_pairwise_ne.mpr (alr_nodup 4 (usb st (B0 st) 1))).sublist (List.filter_sublist (p := fun o => decide (Vg (fun o => mst st m (hitL 1 (B0 st) o) (1 + 1)) o = mst st (m + 1) (B0 st) 1)))
  generalize (alrF 4 (usb st (B0 st) 1)).filter (fun o => decide (Vg (fun o => mst st m (hitL 1 (B0 st) o) (1 + 1)) o = mst st (m + 1) (B0 st) 1)) = L at *
  unfold srtOk
  rw [Bool.or_eq_true]
  by_cases c : [] ∈ L
  · left
    have z := (ful [] c).2
    have all : ∀ o ∈ L, o = [] := fun o ho => by
      obtain ⟨r, k⟩ := ful o ho
      cases o with
      | nil => rfl
      | cons x o =>
        obtain ⟨i, hi, e⟩ := r x (by simp)
        have a := z i hi
        have b := k i hi
        exfalso
        have p := List.count_pos_iff.mpr (show (i : Int) ∈ x :: o by rw [e]; simp)
        have z0 : ([] : List Int).count (i : Int) = 0 := rfl
        rw [z0] at a
        omega
    have : L.length ≤ 1 := by
      cases L with
      | nil => simp
      | cons a L =>
        cases L with
        | nil => simp
        | cons b L =>
          have e1 := all a (by simp)
          have e2 := all b (by simp)
          rw [e1, e2] at nd
          simp at nd
    exact decide_eq_true this
  · right
    rw [List.all_eq_true]
    intro x hx
    exact decide_eq_true fun e => c (e ▸ hx)
theorem e_srtG {rs : List (List Int)} (M : List MO) (ok : srtOk rs = true) : dSortB M (.lst (rs.map tupI)) = some (.lst ((srtR rs).map tupI)) := by
  cases rs with
  | nil =>
    have : srtR [] = [] := by simp [srtR]
    rw [this]
    rfl
  | cons r rs =>
    have n1 : dSort M (.lst ((r :: rs).map tupI)) = none := rfl
    unfold dSortB
    rw [n1]
    show ((listD M (.lst ((r :: rs).map tupI))).bind rowsL).bind _ = _
    have ld : listD M (.lst ((r :: rs).map tupI)) = some ((r :: rs).map tupI) := rfl
    rw [ld, Option.bind_some, rowsL_map, Option.bind_some, if_pos ok]
/-- the law's choice among all orders; d is where its dict stands -/
theorem pick_loop {st : Stk} (hs : StkOk st) {m : Nat} (m3 : m ≤ 3) (t : Bool) {d : Nat} (x5 x6 x7 x8 x9 x10 x11 : Option D) :
    ∀ (l acc : List (List Int)) (M : List MO) (ks : List BK), (∀ o ∈ l, Upt (usb st (B0 st) 1) o) → acc.length + l.length ≤ 2000 → M[d]? = some (DK st ((m + 1 : Nat) : Int) ks) → LK st.length ks → ∃ ks', LK st.length ks' ∧
      gLcL (gTo 12) (gVal (gOp2 dEqF (gCallF 6 F_law_worth (gCons (gV 0) (gCons (gV 1) (gCons (gV 3) (gCons (gC (.int 1)) (gCons (gV 12) (gCons (gV 2) (gNil)))))))) (gV 4))) (gV 12) [some (calD t st), some (.int ((m + 1 : Nat) : Int)), some (.ref d), some (rowsD (B0 st)), some (.int (mst st (m + 1) (B0 st) 1)), x5, x6, x7, x8, x9, x10, x11, none] (l.map tupI) (acc.map tupI) M
      = .ok ((acc ++ l.filter fun o => decide (Vg (fun o => mst st m (hitL 1 (B0 st) o) (1 + 1)) o = mst st (m + 1) (B0 st) 1)).map tupI) (M.set d (DK st ((m + 1 : Nat) : Int) ks'))
  | [], acc, M, ks, _, _, h, hk => ⟨ks, hk, by rw [set_sameW h]; simp [gLcL]⟩
  | o :: l, acc, M, ks, hu, hl, h, hk => by
    have sz : 20000 ≤ sizeLine := by rw [sizeLine_eq]; omega
    rw [List.length_cons] at hl
    have u := hu o (by simp)
    have sv := start_val hs ((m + 1 : Nat) : Int)
    obtain ⟨ks1, k1, e1⟩ := wrth_of hs (n := ((m + 1 : Nat) : Int)) (by omega) (t := t) (most_all hs (by omega) t m 11 (by omega)) ks (B0 st) 1 o sv.2 (by omega) u hk
    have e1 : F_law_worth [calD t st, .int ((m + 1 : Nat) : Int), rowsD (B0 st), .int 1, tupI o, .ref 0] [DK st ((m + 1 : Nat) : Int) ks] = _ := e1
    have bo := belows_ints 0 o
    have cm := c_lendZ (as := [calD t st, .int ((m + 1 : Nat) : Int), rowsD (B0 st), .int 1, tupI o]) (k := d) (M := M) e1 (by simp only [belows, cal_b0, rowsD_bl, below, tupI, bo, Bool.and_true]) h rfl (DK_bl st _ ks) (DK_bl st _ ks1)
    have cm : callF F_law_worth [calD t st, .int ((m + 1 : Nat) : Int), rowsD (B0 st), .int 1, tupI o, .ref d] M = _ := cm
    have dl := (List.getElem?_eq_some_iff.mp h).1
    have h1 : (M.set d (DK st ((m + 1 : Nat) : Int) ks1))[d]? = some (DK st ((m + 1 : Nat) : Int) ks1) := List.getElem?_set_self dl
    rw [List.map_cons]
    by_cases q : Vg (fun o => mst st m (hitL 1 (B0 st) o) (1 + 1)) o = mst st (m + 1) (B0 st) 1
    · obtain ⟨ks2, k2, e2⟩ := pick_loop hs m3 t x5 x6 x7 x8 x9 x10 x11 l (acc ++ [o]) _ ks1 (fun x hx => hu x (by simp [hx])) (by rw [List.length_append, List.length_singleton]; omega) h1 k1
      rw [List.set_set] at e2
      refine ⟨ks2, k2, ?_⟩
      have ea : acc ++ (o :: l).filter (fun o => decide (Vg (fun o => mst st m (hitL 1 (B0 st) o) (1 + 1)) o = mst st (m + 1) (B0 st) 1)) = acc ++ [o] ++ l.filter fun o => decide (Vg (fun o => mst st m (hitL 1 (B0 st) o) (1 + 1)) o = mst st (m + 1) (B0 st) 1) := by
        rw [List.filter_cons, if_pos (decide_eq_true q)]; simp
      have em : (acc ++ [o]).map tupI = acc.map tupI ++ [tupI o] := by simp
      rw [ea, ← e2, em]
      refine lcL_take (Γ1 := [some (calD t st), some (.int ((m + 1 : Nat) : Int)), some (.ref d), some (rowsD (B0 st)), some (.int (mst st (m + 1) (B0 st) 1)), x5, x6, x7, x8, x9, x10, x11, some (tupI o)]) (y := tupI o) (M1 := M.set d (DK st ((m + 1 : Nat) : Int) ks1)) (M2 := M.set d (DK st ((m + 1 : Nat) : Int) ks1)) (by simp) ?_ (by simp) (by rw [List.length_map]; omega)
      clear ea em e2 e1
      rw [q] at cm
      generalize M.set d (DK st ((m + 1 : Nat) : Int) ks1) = M1 at *
      generalize mst st (m + 1) (B0 st) 1 = V at *
      generalize tupI o = TO at *
      generalize rowsD (B0 st) = RB at *
      generalize calD t st = CD at *
      generalize ((m + 1 : Nat) : Int) = nn at *
      simp [cm, neF_int, eqF_int]
    · obtain ⟨ks2, k2, e2⟩ := pick_loop hs m3 t x5 x6 x7 x8 x9 x10 x11 l acc _ ks1 (fun x hx => hu x (by simp [hx])) (by omega) h1 k1
      rw [List.set_set] at e2
      refine ⟨ks2, k2, ?_⟩
      have ea : acc ++ (o :: l).filter (fun o => decide (Vg (fun o => mst st m (hitL 1 (B0 st) o) (1 + 1)) o = mst st (m + 1) (B0 st) 1)) = acc ++ l.filter fun o => decide (Vg (fun o => mst st m (hitL 1 (B0 st) o) (1 + 1)) o = mst st (m + 1) (B0 st) 1) := by
        rw [List.filter_cons, if_neg (by rw [decide_eq_true_eq]; exact q)]
      rw [ea, ← e2]
      refine lcL_skip (Γ1 := [some (calD t st), some (.int ((m + 1 : Nat) : Int)), some (.ref d), some (rowsD (B0 st)), some (.int (mst st (m + 1) (B0 st) 1)), x5, x6, x7, x8, x9, x10, x11, some (tupI o)]) (M1 := M.set d (DK st ((m + 1 : Nat) : Int) ks1)) (by simp) ?_
      clear ea e2 e1
      generalize M.set d (DK st ((m + 1 : Nat) : Int) ks1) = M1 at *
      generalize Vg (fun o => mst st m (hitL 1 (B0 st) o) (1 + 1)) o = W at *
      generalize mst st (m + 1) (B0 st) 1 = V at *
      generalize tupI o = TO at *
      generalize rowsD (B0 st) = RB at *
      generalize calD t st = CD at *
      generalize ((m + 1 : Nat) : Int) = nn at *
      simp [cm, eqF_int, q]
end My

set_option Elab.async false
set_option linter.all false
set_option maxRecDepth 100000
set_option maxHeartbeats 8000000
namespace My
open PySem PySem.Spec PyProof.Rows L2 Bk
/-! ### the law's look at some stocks, one turn -/
theorem take_old {A X : List MO} (hl : A.length ≤ X.length) (h : ∀ i, i < A.length → X[i]? = A[i]?) : X.take A.length = A := by
  apply List.ext_getElem?
  intro i
  by_cases c : i < A.length
  · rw [List.getElem?_take_of_lt c, h i c]
  · rw [List.getElem?_eq_none (by rw [List.length_take]; omega), List.getElem?_eq_none (by omega)]
theorem cut_old {A X : List MO} (hB : StB A) (h : X.take A.length = A) : cutOk A.length X = true := by
  unfold cutOk
  rw [h]
  have := hB.cut0
  unfold cutOk at this
  rwa [List.take_of_length_le (Nat.le_refl _)] at this
theorem StB.setZ {M : List MO} (h : StB M) (k : Nat) {o : MO} (ho : ∀ m, belowO m o = true) : StB (M.set k o) := h.set k fun m _ => ho m
theorem c_ordersZ (t : Bool) {st : Stk} (hs : StkOk st) {m : Nat} (m4 : m ≤ 4) (M : List MO) : callF F_best_orders [calD t st, .int (m : Int)] M = .ok (.ref M.length) (M ++ [.lst (bordsD st (m : Int) m)]) := by
  have a := m_orders t hs (n := (m : Int)) (by omega) (by omega)
  rw [Int.toNat_natCast] at a
  exact c_flatO a M (by simp only [belows, cal_b0, below, Bool.and_true]) (bD_bl 0 st m)
/-- where the law stands between its turns -/
abbrev E73 (t : Bool) (st : Stk) (m : Nat) (d : Nat) (OD : List D) (x6 x7 : Option D) : Bk.Env := [some (calD t st), some (.int (m : Int)), some (.ref d), some (rowsD (B0 st)), some (.int (bst st (m : Int) m [] 1)), some (.lst OD), x6, x7, none, none, none, none, none]
theorem many_dt (V : Int) : Dt 1 (.tup [.str (Str.ofString "many"), .int V]) (.tuple [.str (Str.ofString "many"), .int V]) := ((((Dts.nil 0).cons (Dt.int 0 V)).cons ⟨rfl, by decide +kernel, Nat.zero_le _⟩)).tup
theorem neF_of {M : List MO} {x y : D} (h : eqPF M x y = some true) : dNeF M x y = some (.bl false) := by
  unfold dNeF
  rw [h]
  rfl
theorem turn73 (t : Bool) {st : Stk} (hs : StkOk st) {m : Nat} (m4 : m ≤ 4) {d : Nat} {OD : List D} {ps : List PyData} (hO : Dts 1 OD ps) (hb : Dts 1 (bordsD st (m : Int) m) ps) {A : List MO} (hA : StB A) (hd : d < A.length) {AL : Option (List D)} (hAL : ∀ l, AL = some l → belows A.length l = true) (ob : OD.length < 5000) (bb : (bordsD st (m : Int) m).length < 5000) (i : Nat) :
    lb_law_right_1 (E73 t st m d OD (some (.int (i : Nat))) (AL.map D.lst)) A = .nx (E73 t st m d OD none (AL.map D.lst)) A := by
  have sz : 20000 ≤ sizeLine := by rw [sizeLine_eq]; omega
  have co := c_ordersZ t hs m4 A
  have n1 : dNeF (A ++ [.lst (bordsD st (m : Int) m)]) (.ref A.length) (.lst OD) = some (.bl false) := neF_of (refF hb hO (by decide) (by simp))
  have g1 : (A ++ [MO.lst (bordsD st (m : Int) m)])[A.length]? = some (.lst (bordsD st (m : Int) m)) := by simp
  have il : dIsi "list" (A ++ [.lst (bordsD st (m : Int) m)]) (.ref A.length) = some (.bl true) := e_isi_lr g1
  have mp : mutR (A ++ [.lst (bordsD st (m : Int) m)]) (.ref A.length) (fun l => mAppend (A ++ [.lst (bordsD st (m : Int) m)]) l .non) = .ok .non (A ++ [.lst (bordsD st (m : Int) m ++ [.non])]) := by
    simp [mutR, mAppend, show (bordsD st (m : Int) m).length < sizeLine by omega]
  have mp : mutR (A ++ [.lst (bordsD st (m : Int) m)]) (.ref A.length) (fun ds => if ds.length < sizeLine then some (ds ++ [D.non], D.non) else none) = .ok .non (A ++ [.lst (bordsD st (m : Int) m ++ [.non])]) := mp
  have li0 : listD (A ++ [.lst (bordsD st (m : Int) m)]) (.ref A.length) = some (bordsD st (m : Int) m) := by simp only [listD, g1]
  have B1 : StB (A ++ [.lst (bordsD st (m : Int) m ++ [.non])]) := hA.add fun j => by
    have h := bD_bl j st m
    rw [belows_all] at h
    show belows j (bordsD st (m : Int) m ++ [.non]) = true
    rw [belows_all, List.all_append, h]
    rfl
  obtain ⟨A1, hA1⟩ : ∃ A1, A1 = A ++ [MO.lst (bordsD st (m : Int) m ++ [.non])] := ⟨_, rfl⟩
  have l1 : A1.length = A.length + 1 := by rw [hA1]; simp
  have o1 : ∀ i, i < A.length → A1[i]? = A[i]? := fun i hi => by rw [hA1, List.getElem?_append_left hi]
  rw [← hA1] at mp B1
  obtain ⟨X, BX, lX, oX, gX, eX⟩ := m_table73 t hs (n := (m : Int)) (by omega) (by omega) B1
  rw [Int.toNat_natCast] at gX eX
  have d1 := c_due t hs (n := (m : Int)) (by omega) (by omega) (bst st (m : Int) m [] 1) (M := X) (k := A1.length + 2) (by rw [Int.toNat_natCast]; exact gX)
  have d2 := c_due t hs (n := (m : Int)) (by omega) (by omega) (bst st (m : Int) m [] 1 + 1) (M := X) (k := A1.length + 2) (by rw [Int.toNat_natCast]; exact gX)
  rw [Int.toNat_natCast] at d1 d2
  rw [dueD, if_neg (by omega)] at d1
  rw [dueD, if_pos (by omega)] at d2
  have n2 : ∀ (M : List MO) (V : Int), dNeF M (.int V) (.int V) = some (.bl false) := fun M V => by rw [neF_int, decide_eq_true rfl]; rfl
  have n3 : ∀ (M : List MO) (V : Int), dNeF M (.tup [.str (Str.ofString "many"), .int V]) (.tup [.str (Str.ofString "many"), .int V]) = some (.bl false) := fun M V => neF_of (eqPF_sameZ (many_dt V) (by decide) (toPM_toP M 6 _ _ (many_dt V).e) (toPM_toP M 6 _ _ (many_dt V).e))
  have ls : dList X (.ref (A1.length + 2)) = some (.lst ((rowsP st (m : Int) m [] []).map rwD)) := by
    have li : itemsD X (.ref (A1.length + 2)) = some ((rowsP st (m : Int) m [] []).map rwD) := by simp only [itemsD, listD, gX]
    simp only [dList, li, Option.map_some]
  have cl : mutR X (.ref (A1.length + 2)) mClear = .ok .non (X.set (A1.length + 2) (.lst [])) := by
    simp [mutR, gX]
  have B2 : StB (X.set (A1.length + 2) (.lst [])) := BX.setZ _ fun j => rfl
  obtain ⟨Y, BY, lY, oY, gY, eY⟩ := m_table73 true hs (n := (m : Int)) (by omega) (by omega) B2
  rw [Int.toNat_natCast] at gY eY
  have n4 : dNeF Y (.tup [.int (bst st (m : Int) m [] 1), .ref ((X.set (A1.length + 2) (.lst [])).length + 2)]) (.tup [.int (bst st (m : Int) m [] 1), .lst ((rowsP st (m : Int) m [] []).map rwD)]) = some (.bl false) := neF_of (tabF gY)
  have tu : ∀ M, dTuple M (calD t st) = some (calD true st) := fun M => by cases t <;> rfl
  have ly : A.length ≤ Y.length := by rw [lY, List.length_set]; omega
  have tk : Y.take A.length = A := take_old ly fun i hi => by
    rw [oY i (by rw [List.length_set]; omega), List.getElem?_set_ne (by omega), oX i (by omega), o1 i hi]
  have hc := cut_old hA tk
  have bO : belows A.length OD = true := hO.belows
  have bC : below A.length (calD t st) = true := calD_below _ t st
  have bR : below A.length (rowsD (B0 st)) = true := rowsD_bl _ _
  have cln : ∀ z : Option D, clean A.length [some (calD t st), some (.int (m : Int)), some (.ref d), some (rowsD (B0 st)), some (.int (bst st (m : Int) m [] 1)), some (.lst OD), none, AL.map D.lst, none, none, none, none, none] = E73 t st m d OD none (AL.map D.lst) := fun _ => by
    cases AL with
    | none => simp [clean, bC, bR, bO, below, hd]
    | some l => simp [clean, bC, bR, bO, below, hd, hAL l rfl]
  have cln := cln none
  clear hA1 g1 gX gY oX oY o1 BX BY B1 B2 hO hb hAL
  unfold E73 at *
  generalize AL.map D.lst = x7 at *
  generalize bordsD st (m : Int) m = BO at *
  generalize (rowsP st (m : Int) m [] []).map rwD = RM at *
  generalize bst st (m : Int) m [] 1 = V at *
  generalize rowsD (B0 st) = RB at *
  generalize X.set (A1.length + 2) (.lst []) = X2 at *
  generalize A1.length + 2 = k1 at *
  generalize X2.length + 2 = k2 at *
  generalize calD true st = CT at *
  generalize calD t st = CD at *
  generalize (m : Int) = mm at *
  generalize ((i : Nat) : Int) = ii at *
  simp [lb_law_right_1, co, n1, il, li0, mp, eX, n2, d1, d2, n3, ls, cl, tu, eY, n4, ly, hc, tk, cln]
end My

set_option Elab.async false
set_option linter.all false
set_option maxRecDepth 100000
set_option maxHeartbeats 8000000
namespace My
open PySem PySem.Spec PyProof.Rows L2 Bk
/-! ### the law's look at some stocks -/
theorem turns73 (t : Bool) {st : Stk} (hs : StkOk st) {m : Nat} (m4 : m ≤ 4) {d : Nat} {OD : List D} {ps : List PyData} (hO : Dts 1 OD ps) (hb : Dts 1 (bordsD st (m : Int) m) ps) {A : List MO} (hA : StB A) (hd : d < A.length) {AL : Option (List D)} (hAL : ∀ l, AL = some l → belows A.length l = true) (ob : OD.length < 5000) (bb : (bordsD st (m : Int) m).length < 5000) :
    gForL (gTo 6) lb_law_right_1 (rngL 0 2) (E73 t st m d OD none (AL.map D.lst)) A = .nx (E73 t st m d OD none (AL.map D.lst)) A := by
  have a := turn73 t hs m4 hO hb hA hd hAL ob bb
  have g : ∀ i : Int, gTo 6 (.int i) (E73 t st m d OD none (AL.map D.lst)) = some (E73 t st m d OD (some (.int i)) (AL.map D.lst)) := fun i => by simp [E73]
  have e : rngL 0 2 = [.int ((0 : Nat) : Int), .int ((1 : Nat) : Int)] := rfl
  rw [e]
  refine (forL_cons (g _) (a 0)).trans ((forL_cons (g _) (a 1)).trans ?_)
  simp
theorem bords_len {st : Stk} (hs : StkOk st) (m : Nat) : (bordsD st (m : Int) m).length < 5000 := by
  cases m with
  | zero => simp [bordsD]
  | succ m =>
    have a := arr_len 4 (rdyU st []) (by unfold rdyU; rw [List.length_map, List.length_range]; exact hs.l3)
    have e : (4 : Nat) ^ 4 = 256 := rfl
    have b : (bords st ((m + 1 : Nat) : Int) (m + 1)).length ≤ (arrF 4 (rdyU st [])).length := List.length_filter_le _ _
    show ((bords st ((m + 1 : Nat) : Int) (m + 1)).map ordI).length < 5000
    rw [List.length_map]
    omega
/-- the law's first steps -/
theorem first73 (t : Bool) {st : Stk} (hs : StkOk st) {m : Nat} (m4 : m ≤ 4) (M : List MO) : ∃ ks, LK st.length ks ∧ callF F_law_most [calD t st, .int (m : Int), rowsD (B0 st), .int 1, .ref M.length] (M ++ [.dct [] []]) = .ok (.int (bst st (m : Int) m [] 1)) (M ++ [DK st (m : Int) ks]) := by
  obtain ⟨ks, k1, e1⟩ := most_all hs (n := (m : Int)) (by omega) t m 12 (by omega) [] (B0 st) 1 (start_val hs m).2 (by omega) (LK.nil _)
  refine ⟨ks, k1, ?_⟩
  have e1 : F_law_most [calD t st, .int (m : Int), rowsD (B0 st), .int 1, .ref 0] [DK st (m : Int) []] = _ := e1
  have hM : (M ++ [DK st (m : Int) []])[M.length]? = some (DK st (m : Int) []) := by simp
  have cm := c_lendZ (as := [calD t st, .int (m : Int), rowsD (B0 st), .int 1]) (k := M.length) (M := M ++ [DK st (m : Int) []]) e1 (by simp only [belows, cal_b0, rowsD_bl, below, Bool.and_true]) hM rfl (DK_bl st _ []) (DK_bl st _ ks)
  have s2 : (M ++ [DK st (m : Int) []]).set M.length (DK st (m : Int) ks) = M ++ [DK st (m : Int) ks] := by rw [List.set_append_right _ _ (by omega)]; simp
  rw [s2, ← due_same hs m] at cm
  exact cm
theorem m_right73 (t : Bool) {st : Stk} (hs : StkOk st) {m : Nat} (m4 : m ≤ 4) {M : List MO} (hB : StB M) : ∃ M' : List MO, StB M' ∧ M.length ≤ M'.length ∧ M'.take M.length = M ∧ F_law_right [calD t st, .int (m : Int)] M = .ok (.bl true) M' := by
  have sz : 20000 ≤ sizeLine := by rw [sizeLine_eq]; omega
  obtain ⟨ks1, k1, e1⟩ := first73 t hs m4 M
  have mu := fun M => mul_B0 M st hs.l3
  have ln : ∀ M, dLen M (calD t st) = some (.int st.length) := fun M => calD_len M t st
  have lv : ∀ (t : Bool) M, callF F_unlike_levels [calD t st, .int (m : Int)] M = .ok (.int (bst st (m : Int) m [] 1)) M := fun t M => by
    have := c_levels t hs (n := (m : Int)) (by omega) (by omega) M
    rwa [Int.toNat_natCast] at this
  have l1 := lv t
  have l2 := lv true
  have tu : ∀ M, dTuple M (calD t st) = some (calD true st) := fun M => by cases t <;> rfl
  have n2 : ∀ (M : List MO) (V : Int), dNeF M (.int V) (.int V) = some (.bl false) := fun M V => by rw [neF_int, decide_eq_true rfl]; rfl
  have bl := bords_len hs m
  have co := fun M => c_ordersZ true hs m4 M
  have rg : rng1 [.int 2] = some (rngL 0 2) := rfl
  have fin : ∀ (A : List MO) (OD : List D) (ps : List PyData), Dts 1 OD ps → Dts 1 (bordsD st (m : Int) m) ps → dEqF (A ++ [.lst (bordsD st (m : Int) m)]) (.ref A.length) (.lst OD) = some (.bl true) := fun A OD ps h1 h2 => by
    unfold dEqF
    rw [refF h2 h1 (by decide) (by simp)]
    rfl
  cases m with
  | zero =>
    have hO : Dts 1 [D.tup []] [PyData.tuple []] := (Dts.nil 1).cons (tI_dt 0 [])
    have hb : Dts 1 (bordsD st ((0 : Nat) : Int) 0) [PyData.tuple []] := hO
    have hA : StB (M ++ [DK st ((0 : Nat) : Int) ks1]) := hB.add fun j => DK_blm j st _ ks1
    have lp := turns73 t hs m4 hO hb hA (d := M.length) (by simp) (AL := none) (fun l h => by cases h) (by simp) bl
    have fi := fin (M ++ [DK st ((0 : Nat) : Int) ks1]) [D.tup []] _ hO hb
    have gt : ∀ M, dGtA M (.int ((0 : Nat) : Int)) (.int 0) = some (.bl false) := fun M => rfl
    refine ⟨M ++ [DK st ((0 : Nat) : Int) ks1] ++ [.lst (bordsD st ((0 : Nat) : Int) 0)], hA.add (o := .lst (bordsD st ((0 : Nat) : Int) 0)) (fun j => bD_bl j st 0), by simp, by rw [List.append_assoc, List.take_left], ?_⟩
    unfold E73 at lp
    clear hA hb hO fin lv bl
    generalize M ++ [DK st ((0 : Nat) : Int) ks1] = A at *
    generalize bordsD st ((0 : Nat) : Int) 0 = BO at *
    generalize bst st ((0 : Nat) : Int) 0 [] 1 = V at *
    generalize rowsD (B0 st) = RB at *
    generalize calD true st = CT at *
    generalize calD t st = CD at *
    generalize ((0 : Nat) : Int) = mm at *
    simp only [Option.map_none] at lp
    simp [-u_rng1, F_law_right, b_law_right, runW, finW, gDct0O, ln, mu, e1, gt, l1, l2, tu, n2, rg, lp, co, fi]
  | succ m =>
    have dm := due_same hs (m + 1)
    have sv := start_val hs ((m + 1 : Nat) : Int)
    have hf : Few4 st (B0 st) 1 := Few4.start hs
    have nn := usb_nn hf
    have ns := usb_sum hs (B0 st) 1
    have us := fun M => c_usable (st := st) t (B := B0 st) (day := 1) hs.l3 sv.2.l (fun x hx => by have := (sv.2.h (by omega) x hx).len; omega) M
    have ca := fun M => c_alr (ns := usb st (B0 st) 1) (by rw [usb_len]; exact hs.l3) nn ns M
    have al := alr_len 4 (usb st (B0 st) 1) (by rw [usb_len]; exact hs.l3)
    have e44 : (4 : Nat) ^ 4 = 256 := rfl
    obtain ⟨ks2, k2, lc⟩ := pick_loop hs (m := m) (by omega) t (d := M.length) (some (.lst [.tup []])) none (some (.lst ((alrF 4 (usb st (B0 st) 1)).map tupI))) none none none none (alrF 4 (usb st (B0 st) 1)) [] (M ++ [DK st ((m + 1 : Nat) : Int) ks1]) ks1 (fun o ho => (mem_alr 4 _ o nn ns).mp ho) (by rw [List.length_nil]; omega) (by simp) k1
    have s2 : (M ++ [DK st ((m + 1 : Nat) : Int) ks1]).set M.length (DK st ((m + 1 : Nat) : Int) ks2) = M ++ [DK st ((m + 1 : Nat) : Int) ks2] := by rw [List.set_append_right _ _ (by omega)]; simp
    have so := orders_same hs m
    have ok := srt_bord hs m
    rw [List.nil_append, List.map_nil, s2] at lc
    generalize (alrF 4 (usb st (B0 st) 1)).filter (fun o => decide (Vg (fun o => mst st m (hitL 1 (B0 st) o) (1 + 1)) o = mst st (m + 1) (B0 st) 1)) = L0 at *
    rw [← dm] at lc
    have sr : ∀ M, dSortB M (.lst (L0.map tupI)) = some (.lst ((bords st ((m + 1 : Nat) : Int) (m + 1)).map tupI)) := fun M => by rw [e_srtG M ok, so]
    have hO : Dts 1 ((bords st ((m + 1 : Nat) : Int) (m + 1)).map tupI) _ := Dts.map (bords st ((m + 1 : Nat) : Int) (m + 1)) fun x _ => tI_dt 0 x
    have hb : Dts 1 (bordsD st ((m + 1 : Nat) : Int) (m + 1)) _ := bD_dt st (m + 1)
    have hA : StB (M ++ [DK st ((m + 1 : Nat) : Int) ks2]) := hB.add fun j => DK_blm j st _ ks2
    have lO : ((bords st ((m + 1 : Nat) : Int) (m + 1)).map tupI).length < 5000 := by
      have : (bordsD st ((m + 1 : Nat) : Int) (m + 1)).length = ((bords st ((m + 1 : Nat) : Int) (m + 1)).map tupI).length := by
        show ((bords st ((m + 1 : Nat) : Int) (m + 1)).map ordI).length = _
        rw [List.length_map, List.length_map]
      omega
    have lp := turns73 t hs m4 hO hb hA (d := M.length) (by simp) (AL := some ((alrF 4 (usb st (B0 st) 1)).map tupI)) (fun l h => by cases h; exact tups_below _ _) lO bl
    have fi := fin (M ++ [DK st ((m + 1 : Nat) : Int) ks2]) _ _ hO hb
    have gt : ∀ M, dGtA M (.int ((m + 1 : Nat) : Int)) (.int 0) = some (.bl true) := fun M => by
      show some (D.bl (decide ((0 : Int) < ((m + 1 : Nat) : Int)))) = _
      rw [decide_eq_true (by omega)]
    have sq : seqD (.lst ((alrF 4 (usb st (B0 st) 1)).map tupI)) = some ((alrF 4 (usb st (B0 st) 1)).map tupI) := rfl
    refine ⟨M ++ [DK st ((m + 1 : Nat) : Int) ks2] ++ [.lst (bordsD st ((m + 1 : Nat) : Int) (m + 1))], hA.add (o := .lst (bordsD st ((m + 1 : Nat) : Int) (m + 1))) (fun j => bD_bl j st (m + 1)), by simp, by rw [List.append_assoc, List.take_left], ?_⟩
    unfold E73 at lp
    simp only [Option.map_some] at lp
    clear hA hb hO fin lv bl so ok s2 al nn ns hf sv dm
    generalize M ++ [DK st ((m + 1 : Nat) : Int) ks1] = A1 at *
    generalize M ++ [DK st ((m + 1 : Nat) : Int) ks2] = A at *
    generalize bordsD st ((m + 1 : Nat) : Int) (m + 1) = BO at *
    generalize (bords st ((m + 1 : Nat) : Int) (m + 1)).map tupI = OD at *
    generalize bst st ((m + 1 : Nat) : Int) (m + 1) [] 1 = V at *
    generalize L0.map tupI = LL at *
    generalize (alrF 4 (usb st (B0 st) 1)).map tupI = AL at *
    generalize (usb st (B0 st) 1).map D.int = UB at *
    generalize rowsD (B0 st) = RB at *
    generalize calD true st = CT at *
    generalize calD t st = CD at *
    generalize ((m + 1 : Nat) : Int) = mm at *
    simp [-u_rng1, F_law_right, b_law_right, runW, finW, gDct0O, ln, mu, e1, gt, us, ca, sq, lc, sr, l1, l2, tu, n2, rg, lp, co, fi]
end My

set_option Elab.async false
set_option linter.all false
set_option maxRecDepth 100000
set_option maxHeartbeats 8000000
namespace My
open PySem PySem.Spec PyProof.Rows L2 Bk
/-! ### the law of unlike pieces -/
theorem StB.one73 (s : Src3) : StB [srcO s] := fun o ho m _ => by
  have : o = srcO s := by simpa using ho
  rw [this]
  rfl
abbrev EL73 (d : D) (x : Option D) : Bk.Env := [some d, x, none]
theorem law_turn73 (d : D) (hb : below 0 d = true) (i : Int) : lb_law_1 (EL73 d (some (.int i))) [] = .nx (EL73 d none) [] := by
  have c0 := c_source i []
  generalize ((i, i, (0 : Int)) : Src3) = s0 at *
  obtain ⟨st, s1, e1, hs⟩ := c_stocks s0 []
  have t1 := t_0Z s1 4 [] (by decide) (by decide)
  have a0 := tk_lo s1 (n := 4) (by decide)
  have a1 := tk_hi s1 (n := 4) (by decide)
  generalize tn s1 4 = s2 at *
  generalize tk s1 4 = x at *
  obtain ⟨m, rfl⟩ := Int.eq_ofNat_of_zero_le a0
  obtain ⟨M', B', l', t', er⟩ := m_right73 false hs (m := m) (by omega) (StB.one73 s2)
  have hc : cutOk 0 M' = true := by simp [cutOk]
  unfold EL73
  generalize calD false st = CD at *
  generalize ((m : Nat) : Int) = mm at *
  generalize srcO s0 = S0 at *
  generalize srcO s1 = S1 at *
  generalize srcO s2 = S2 at *
  simp [lb_law_1, c0, e1, t1, callW, er, hc, clean, hb]
theorem lawLoop73 (d : D) (hb : below 0 d = true) : ∀ is : List Int, gForL (gTo 1) lb_law_1 (is.map D.int) (EL73 d none) [] = .nx (EL73 d none) []
  | [] => by simp
  | i :: is => by
    rw [List.map_cons]
    exact (forL_cons (Γ1 := EL73 d (some (.int i))) (by simp) (law_turn73 d hb i)).trans (lawLoop73 d hb is)
/-! the fixed stocks -/
def stA : Stk := [(1, some 0), (1, none)]
def stB' : Stk := [(2, some 0), (1, some 1), (1, none)]
def stC : Stk := [(1, some 0), (1, some 1)]
def stD' : Stk := [(1, some 0), (1, some 1), (2, none)]
theorem okA : StkOk stA := ⟨by decide, by decide, by decide, by decide, by decide⟩
theorem okB : StkOk stB' := ⟨by decide, by decide, by decide, by decide, by decide⟩
theorem okC : StkOk stC := ⟨by decide, by decide, by decide, by decide, by decide⟩
theorem okD : StkOk stD' := ⟨by decide, by decide, by decide, by decide, by decide⟩
theorem bstA : bst stA ((2 : Nat) : Int) 2 [] 1 = 8 := by
  rw [due_same okA 2]
  decide +kernel
theorem bordA : bords stA ((2 : Nat) : Int) 2 = [[0, 1]] := by
  rw [← orders_same okA 1]
  have : (alrF 4 (usb stA (B0 stA) 1)).filter (fun o => decide (Vg (fun o => mst stA 1 (hitL 1 (B0 stA) o) (1 + 1)) o = mst stA (1 + 1) (B0 stA) 1)) = [[0, 1]] := by decide +kernel
  rw [this]
  simp [srtR]
theorem law_true (ns : List Int) (h : ns.length ≤ 63) : F_law [.lst (ns.map D.int)] [] = .ok (.bl true) [] := by
  have sz : 1000 ≤ sizeLine := by rw [sizeLine_eq]; omega
  have e4 : below 0 (D.lst (ns.map D.int)) = true := by simp
  have ad : dAdd [] (.lst (ns.map D.int)) (.lst [.int 0]) = some (.lst ((ns ++ [0]).map D.int)) := by
    rw [e_addL, if_pos (by simp; omega)]
    simp
  have cu : dCut [] none (some 4) (.lst ((ns ++ [0]).map D.int)) = some (.lst (((ns ++ [0]).take 4).map D.int)) := by
    have : (4 : Int) = ((4 : Nat) : Int) := rfl
    simp only [dCut, listD, Option.map_some]
    rw [this, cutD_upto, List.map_take]
  have k := lawLoop73 (.lst (ns.map D.int)) e4 ((ns ++ [0]).take 4)
  have la : callF F_unlike_levels [.lst [.tup [.int 1, .int 0], .tup [.int 1, .non]], .int 2] [] = .ok (.int 8) [] := by
    have := c_levels false okA (n := ((2 : Nat) : Int)) (by decide) (by decide) []
    rw [Int.toNat_natCast, bstA] at this
    exact this
  have bo : callF F_best_orders [.lst [.tup [.int 1, .int 0], .tup [.int 1, .non]], .int 2] [] = .ok (.ref 0) [.lst [ordI [0, 1]]] := by
    have := c_ordersZ false okA (m := 2) (by decide) []
    have e : bordsD stA ((2 : Nat) : Int) 2 = [ordI [0, 1]] := by
      show (bords stA ((2 : Nat) : Int) 2).map ordI = _
      rw [bordA]
      rfl
    rw [e] at this
    exact this
  have n1 : dNeA [.lst [ordI [0, 1]]] (.ref 0) (.lst [.tup [.int 0, .int 1]]) = some (.bl false) := by
    have h1 : Dts 1 [ordI [0, 1]] [.tuple [.int 0, .int 1]] := (Dts.nil 1).cons (oI_dt 0 [0, 1])
    have h2 : Dts 1 [tupI [0, 1]] [.tuple [.int 0, .int 1]] := (Dts.nil 1).cons (tI_dt 0 [0, 1])
    refine dNeA_p (b := true) ?_ (fun _ h => by cases h)
    have e := eqP_of (M := [.lst [ordI [0, 1]]]) (x := .ref 0) (y := .lst [tupI [0, 1]]) h1.lst h2.lst (h1.derefR rfl) h2.lst.deref (by decide) (by decide)
    rw [eqv_same h1.lst.l] at e
    exact e
  have B0' : StB [MO.lst [ordI [0, 1]]] := fun o ho m _ => by
    have : o = MO.lst [ordI [0, 1]] := by simpa using ho
    rw [this]
    rfl
  obtain ⟨M1, B1, l1, t1, r1⟩ := m_right73 false okB (m := 2) (by decide) B0'
  obtain ⟨M2, B2, l2, t2, r2⟩ := m_right73 false okC (m := 4) (by decide) B1
  obtain ⟨M3, B3, l3, t3, r3⟩ := m_right73 false okD (m := 3) (by decide) B2
  have r1 : F_law_right [.lst [.tup [.int 2, .int 0], .tup [.int 1, .int 1], .tup [.int 1, .non]], .int 2] [.lst [ordI [0, 1]]] = .ok (.bl true) M1 := r1
  have r2 : F_law_right [.lst [.tup [.int 1, .int 0], .tup [.int 1, .int 1]], .int 4] M1 = .ok (.bl true) M2 := r2
  have r3 : F_law_right [.lst [.tup [.int 1, .int 0], .tup [.int 1, .int 1], .tup [.int 2, .non]], .int 3] M2 = .ok (.bl true) M3 := r3
  have hc : cutOk 0 M3 = true := by simp [cutOk]
  unfold EL73 at k
  generalize ((ns ++ [0]).take 4).map D.int = L at *
  generalize (ns ++ [0]).map D.int = L1 at *
  generalize ordI [0, 1] = OI at *
  simp [-e_addL, F_law, b_law, runF, ad, cu, k, la, bo, n1, callW, r1, r2, r3, hc, show 2 ≤ sizeLine by omega, show 3 ≤ sizeLine by omega, show 1 ≤ sizeLine by omega]
end My

set_option Elab.async false
set_option linter.all false
set_option maxRecDepth 100000
set_option maxHeartbeats 8000000
namespace My
open PySem PySem.Spec PyProof.Rows L2 Bk
theorem all_mk {l : PySem.W.OpenLaw} {w : World} {K : PySem.W.Frag} {h : Heap} {mg : Str → Option Value} {fa : Addr} (X : K.In h) (G : h.Ns mainGlobals mg) (hfa : mg "law" = some (.ref fa))
    {C_Unlike : Addr} (aC_Unlike : PySem.W.nsIn K mainGlobals "Unlike" = some (some (.ref C_Unlike))) (pg_Unlike : PySem.W.plainGet K C_Unlike Str.empty = true) (hd_Unlike : PySem.W.hasDictIn K C_Unlike = true) (po_Unlike : PySem.W.plainOver K C_Unlike = true) (sa_Unlike : PySem.W.findIn K (.ref C_Unlike) "__setattr__" = some (some (.builtin "object.__setattr__"))) (mk_Unlike : PySem.W.makesIn K C_Unlike = true) (kc_Unlike : PySem.W.keepIn K (.ref C_Unlike) = true)
    (na_Unlike_days : PySem.W.findIn K (.ref C_Unlike) "days" = some none)
    (na_Unlike_known : PySem.W.findIn K (.ref C_Unlike) "known" = some none)
    (na_Unlike_stocks : PySem.W.findIn K (.ref C_Unlike) "stocks" = some none)
    {X_InvalidStocks : Addr} (aX_InvalidStocks : PySem.W.nsIn K mainGlobals "InvalidStocks" = some (some (.ref X_InvalidStocks)))
    {X_InvalidNumber : Addr} (aX_InvalidNumber : PySem.W.nsIn K mainGlobals "InvalidNumber" = some (some (.ref X_InvalidNumber)))
    {X_TooLarge : Addr} (aX_TooLarge : PySem.W.nsIn K mainGlobals "TooLarge" = some (some (.ref X_TooLarge)))
    {de_InvalidStocks : Option Addr} {ke_InvalidStocks : ClassData} {ae_InvalidStocks : Array (Option Value)} (lo_InvalidStocks : K.lookup X_InvalidStocks = some ⟨.type "type", de_InvalidStocks, .cls ke_InvalidStocks, ae_InvalidStocks⟩) (eo_InvalidStocks : Bk.errOk X_InvalidStocks ke_InvalidStocks ae_InvalidStocks = true) (hx_InvalidStocks : PySem.W.hasDictIn K X_InvalidStocks = true) (ga_InvalidStocks : PySem.W.findIn K (.ref X_InvalidStocks) "__getattribute__" = some (some (.builtin "BaseException.__getattribute__"))) (gt_InvalidStocks : PySem.W.findIn K (.ref X_InvalidStocks) "__getattr__" = some none) (sx_InvalidStocks : PySem.W.findIn K (.ref X_InvalidStocks) "__setattr__" = some (some (.builtin "object.__setattr__"))) (bx_InvalidStocks : PySem.W.subIn K (.ref X_InvalidStocks) (.type "BaseException") = some true) (ty_InvalidStocks : PySem.W.typeIn K (.ref X_InvalidStocks) = some (.type "type")) (kx_InvalidStocks : PySem.W.keepIn K (.ref X_InvalidStocks) = true) (nx_InvalidStocks : PySem.W.findIn K (.ref X_InvalidStocks) "index" = some none)
    {xf_InvalidStocks : Addr} {od_InvalidStocks an_InvalidStocks : Option Addr} {sl_InvalidStocks : Array (Option Value)} {oc_InvalidStocks kV_InvalidStocks dc_InvalidStocks pm_InvalidStocks cd_InvalidStocks ct_InvalidStocks : Value}
    (ix_InvalidStocks : PySem.W.findIn K (.ref X_InvalidStocks) "__init__" = some (some (.ref xf_InvalidStocks))) (tx_InvalidStocks : PySem.W.typeIn K (.ref xf_InvalidStocks) = some (.type "function")) (lx_InvalidStocks : K.lookup xf_InvalidStocks = some ⟨oc_InvalidStocks, od_InvalidStocks, .func (PySem.W.fnOf "__init__" "InvalidStocks.__init__" (defArgs s_InvalidStocks_init) (defBody s_InvalidStocks_init) (defScope s_InvalidStocks_init) .none kV_InvalidStocks dc_InvalidStocks pm_InvalidStocks an_InvalidStocks cd_InvalidStocks ct_InvalidStocks), sl_InvalidStocks⟩) (cx_InvalidStocks : PySem.W.codeIn K cd_InvalidStocks "InvalidStocks.__init__" = true) (ox_InvalidStocks : PySem.W.keepIn K (.ref xf_InvalidStocks) = true)
    {de_InvalidNumber : Option Addr} {ke_InvalidNumber : ClassData} {ae_InvalidNumber : Array (Option Value)} (lo_InvalidNumber : K.lookup X_InvalidNumber = some ⟨.type "type", de_InvalidNumber, .cls ke_InvalidNumber, ae_InvalidNumber⟩) (eo_InvalidNumber : Bk.errOk X_InvalidNumber ke_InvalidNumber ae_InvalidNumber = true) (hx_InvalidNumber : PySem.W.hasDictIn K X_InvalidNumber = true) (ga_InvalidNumber : PySem.W.findIn K (.ref X_InvalidNumber) "__getattribute__" = some (some (.builtin "BaseException.__getattribute__"))) (gt_InvalidNumber : PySem.W.findIn K (.ref X_InvalidNumber) "__getattr__" = some none) (sx_InvalidNumber : PySem.W.findIn K (.ref X_InvalidNumber) "__setattr__" = some (some (.builtin "object.__setattr__"))) (bx_InvalidNumber : PySem.W.subIn K (.ref X_InvalidNumber) (.type "BaseException") = some true) (ty_InvalidNumber : PySem.W.typeIn K (.ref X_InvalidNumber) = some (.type "type")) (kx_InvalidNumber : PySem.W.keepIn K (.ref X_InvalidNumber) = true) (nx_InvalidNumber : PySem.W.findIn K (.ref X_InvalidNumber) "name" = some none)
    {xf_InvalidNumber : Addr} {od_InvalidNumber an_InvalidNumber : Option Addr} {sl_InvalidNumber : Array (Option Value)} {oc_InvalidNumber kV_InvalidNumber dc_InvalidNumber pm_InvalidNumber cd_InvalidNumber ct_InvalidNumber : Value}
    (ix_InvalidNumber : PySem.W.findIn K (.ref X_InvalidNumber) "__init__" = some (some (.ref xf_InvalidNumber))) (tx_InvalidNumber : PySem.W.typeIn K (.ref xf_InvalidNumber) = some (.type "function")) (lx_InvalidNumber : K.lookup xf_InvalidNumber = some ⟨oc_InvalidNumber, od_InvalidNumber, .func (PySem.W.fnOf "__init__" "InvalidNumber.__init__" (defArgs s_InvalidNumber_init) (defBody s_InvalidNumber_init) (defScope s_InvalidNumber_init) .none kV_InvalidNumber dc_InvalidNumber pm_InvalidNumber an_InvalidNumber cd_InvalidNumber ct_InvalidNumber), sl_InvalidNumber⟩) (cx_InvalidNumber : PySem.W.codeIn K cd_InvalidNumber "InvalidNumber.__init__" = true) (ox_InvalidNumber : PySem.W.keepIn K (.ref xf_InvalidNumber) = true)
    {de_TooLarge : Option Addr} {ke_TooLarge : ClassData} {ae_TooLarge : Array (Option Value)} (lo_TooLarge : K.lookup X_TooLarge = some ⟨.type "type", de_TooLarge, .cls ke_TooLarge, ae_TooLarge⟩) (eo_TooLarge : Bk.errOk X_TooLarge ke_TooLarge ae_TooLarge = true) (hx_TooLarge : PySem.W.hasDictIn K X_TooLarge = true) (ga_TooLarge : PySem.W.findIn K (.ref X_TooLarge) "__getattribute__" = some (some (.builtin "BaseException.__getattribute__"))) (gt_TooLarge : PySem.W.findIn K (.ref X_TooLarge) "__getattr__" = some none) (sx_TooLarge : PySem.W.findIn K (.ref X_TooLarge) "__setattr__" = some (some (.builtin "object.__setattr__"))) (bx_TooLarge : PySem.W.subIn K (.ref X_TooLarge) (.type "BaseException") = some true) (ty_TooLarge : PySem.W.typeIn K (.ref X_TooLarge) = some (.type "type")) (kx_TooLarge : PySem.W.keepIn K (.ref X_TooLarge) = true) (nx_TooLarge : PySem.W.findIn K (.ref X_TooLarge) "limit" = some none)
    {xf_TooLarge : Addr} {od_TooLarge an_TooLarge : Option Addr} {sl_TooLarge : Array (Option Value)} {oc_TooLarge kV_TooLarge dc_TooLarge pm_TooLarge cd_TooLarge ct_TooLarge : Value}
    (ix_TooLarge : PySem.W.findIn K (.ref X_TooLarge) "__init__" = some (some (.ref xf_TooLarge))) (tx_TooLarge : PySem.W.typeIn K (.ref xf_TooLarge) = some (.type "function")) (lx_TooLarge : K.lookup xf_TooLarge = some ⟨oc_TooLarge, od_TooLarge, .func (PySem.W.fnOf "__init__" "TooLarge.__init__" (defArgs s_TooLarge_init) (defBody s_TooLarge_init) (defScope s_TooLarge_init) .none kV_TooLarge dc_TooLarge pm_TooLarge an_TooLarge cd_TooLarge ct_TooLarge), sl_TooLarge⟩) (cx_TooLarge : PySem.W.codeIn K cd_TooLarge "TooLarge.__init__" = true) (ox_TooLarge : PySem.W.keepIn K (.ref xf_TooLarge) = true)
    {f_is_integer : Addr} {od_is_integer an_is_integer : Option Addr} {sl_is_integer : Array (Option Value)} {oc_is_integer kV_is_integer dc_is_integer pm_is_integer cd_is_integer ct_is_integer : Value}
    (a_is_integer : PySem.W.nsIn K mainGlobals "is_integer" = some (some (.ref f_is_integer))) (l_is_integer : K.lookup f_is_integer = some ⟨oc_is_integer, od_is_integer, .func (PySem.W.fnOf "is_integer" "is_integer" (defArgs s_is_integer) (defBody s_is_integer) (defScope s_is_integer) .none kV_is_integer dc_is_integer pm_is_integer an_is_integer cd_is_integer ct_is_integer), sl_is_integer⟩) (c_is_integer : PySem.W.codeIn K cd_is_integer "is_integer" = true) (k_is_integer : PySem.W.keepIn K (.ref f_is_integer) = true)
    {f_is_at_least : Addr} {od_is_at_least an_is_at_least : Option Addr} {sl_is_at_least : Array (Option Value)} {oc_is_at_least kV_is_at_least dc_is_at_least pm_is_at_least cd_is_at_least ct_is_at_least : Value}
    (a_is_at_least : PySem.W.nsIn K mainGlobals "is_at_least" = some (some (.ref f_is_at_least))) (l_is_at_least : K.lookup f_is_at_least = some ⟨oc_is_at_least, od_is_at_least, .func (PySem.W.fnOf "is_at_least" "is_at_least" (defArgs s_is_at_least) (defBody s_is_at_least) (defScope s_is_at_least) .none kV_is_at_least dc_is_at_least pm_is_at_least an_is_at_least cd_is_at_least ct_is_at_least), sl_is_at_least⟩) (c_is_at_least : PySem.W.codeIn K cd_is_at_least "is_at_least" = true) (k_is_at_least : PySem.W.keepIn K (.ref f_is_at_least) = true)
    {f_is_stock : Addr} {od_is_stock an_is_stock : Option Addr} {sl_is_stock : Array (Option Value)} {oc_is_stock kV_is_stock dc_is_stock pm_is_stock cd_is_stock ct_is_stock : Value}
    (a_is_stock : PySem.W.nsIn K mainGlobals "is_stock" = some (some (.ref f_is_stock))) (l_is_stock : K.lookup f_is_stock = some ⟨oc_is_stock, od_is_stock, .func (PySem.W.fnOf "is_stock" "is_stock" (defArgs s_is_stock) (defBody s_is_stock) (defScope s_is_stock) .none kV_is_stock dc_is_stock pm_is_stock an_is_stock cd_is_stock ct_is_stock), sl_is_stock⟩) (c_is_stock : PySem.W.codeIn K cd_is_stock "is_stock" = true) (k_is_stock : PySem.W.keepIn K (.ref f_is_stock) = true)
    {f_require_stocks : Addr} {od_require_stocks an_require_stocks : Option Addr} {sl_require_stocks : Array (Option Value)} {oc_require_stocks kV_require_stocks dc_require_stocks pm_require_stocks cd_require_stocks ct_require_stocks : Value}
    (a_require_stocks : PySem.W.nsIn K mainGlobals "require_stocks" = some (some (.ref f_require_stocks))) (l_require_stocks : K.lookup f_require_stocks = some ⟨oc_require_stocks, od_require_stocks, .func (PySem.W.fnOf "require_stocks" "require_stocks" (defArgs s_require_stocks) (defBody s_require_stocks) (defScope s_require_stocks) .none kV_require_stocks dc_require_stocks pm_require_stocks an_require_stocks cd_require_stocks ct_require_stocks), sl_require_stocks⟩) (c_require_stocks : PySem.W.codeIn K cd_require_stocks "require_stocks" = true) (k_require_stocks : PySem.W.keepIn K (.ref f_require_stocks) = true)
    {f_require_few : Addr} {od_require_few an_require_few : Option Addr} {sl_require_few : Array (Option Value)} {oc_require_few kV_require_few dc_require_few pm_require_few cd_require_few ct_require_few : Value}
    (a_require_few : PySem.W.nsIn K mainGlobals "require_few" = some (some (.ref f_require_few))) (l_require_few : K.lookup f_require_few = some ⟨oc_require_few, od_require_few, .func (PySem.W.fnOf "require_few" "require_few" (defArgs s_require_few) (defBody s_require_few) (defScope s_require_few) .none kV_require_few dc_require_few pm_require_few an_require_few cd_require_few ct_require_few), sl_require_few⟩) (c_require_few : PySem.W.codeIn K cd_require_few "require_few" = true) (k_require_few : PySem.W.keepIn K (.ref f_require_few) = true)
    {f_arrangements : Addr} {od_arrangements an_arrangements : Option Addr} {sl_arrangements : Array (Option Value)} {oc_arrangements kV_arrangements dc_arrangements pm_arrangements cd_arrangements ct_arrangements : Value}
    (a_arrangements : PySem.W.nsIn K mainGlobals "arrangements" = some (some (.ref f_arrangements))) (l_arrangements : K.lookup f_arrangements = some ⟨oc_arrangements, od_arrangements, .func (PySem.W.fnOf "arrangements" "arrangements" (defArgs s_arrangements) (defBody s_arrangements) (defScope s_arrangements) .none kV_arrangements dc_arrangements pm_arrangements an_arrangements cd_arrangements ct_arrangements), sl_arrangements⟩) (c_arrangements : PySem.W.codeIn K cd_arrangements "arrangements" = true) (k_arrangements : PySem.W.keepIn K (.ref f_arrangements) = true)
    {f_Unlike_init : Addr} {od_Unlike_init an_Unlike_init : Option Addr} {sl_Unlike_init : Array (Option Value)} {oc_Unlike_init kV_Unlike_init dc_Unlike_init pm_Unlike_init cd_Unlike_init ct_Unlike_init : Value}
    (a_Unlike_init : PySem.W.findIn K (.ref C_Unlike) "__init__" = some (some (.ref f_Unlike_init))) (i_Unlike_init : PySem.W.isFn K (.ref f_Unlike_init) = true) (l_Unlike_init : K.lookup f_Unlike_init = some ⟨oc_Unlike_init, od_Unlike_init, .func (PySem.W.fnOf "__init__" "Unlike.__init__" (defArgs s_Unlike_init) (defBody s_Unlike_init) (defScope s_Unlike_init) .none kV_Unlike_init dc_Unlike_init pm_Unlike_init an_Unlike_init cd_Unlike_init ct_Unlike_init), sl_Unlike_init⟩) (c_Unlike_init : PySem.W.codeIn K cd_Unlike_init "Unlike.__init__" = true) (k_Unlike_init : PySem.W.keepIn K (.ref f_Unlike_init) = true)
    {f_Unlike_ready : Addr} {od_Unlike_ready an_Unlike_ready : Option Addr} {sl_Unlike_ready : Array (Option Value)} {oc_Unlike_ready kV_Unlike_ready dc_Unlike_ready pm_Unlike_ready cd_Unlike_ready ct_Unlike_ready : Value}
    (a_Unlike_ready : PySem.W.findIn K (.ref C_Unlike) "ready" = some (some (.ref f_Unlike_ready))) (i_Unlike_ready : PySem.W.isFn K (.ref f_Unlike_ready) = true) (l_Unlike_ready : K.lookup f_Unlike_ready = some ⟨oc_Unlike_ready, od_Unlike_ready, .func (PySem.W.fnOf "ready" "Unlike.ready" (defArgs s_Unlike_ready) (defBody s_Unlike_ready) (defScope s_Unlike_ready) .none kV_Unlike_ready dc_Unlike_ready pm_Unlike_ready an_Unlike_ready cd_Unlike_ready ct_Unlike_ready), sl_Unlike_ready⟩) (c_Unlike_ready : PySem.W.codeIn K cd_Unlike_ready "Unlike.ready" = true) (k_Unlike_ready : PySem.W.keepIn K (.ref f_Unlike_ready) = true)
    {f_Unlike_after : Addr} {od_Unlike_after an_Unlike_after : Option Addr} {sl_Unlike_after : Array (Option Value)} {oc_Unlike_after kV_Unlike_after dc_Unlike_after pm_Unlike_after cd_Unlike_after ct_Unlike_after : Value}
    (a_Unlike_after : PySem.W.findIn K (.ref C_Unlike) "after" = some (some (.ref f_Unlike_after))) (i_Unlike_after : PySem.W.isFn K (.ref f_Unlike_after) = true) (l_Unlike_after : K.lookup f_Unlike_after = some ⟨oc_Unlike_after, od_Unlike_after, .func (PySem.W.fnOf "after" "Unlike.after" (defArgs s_Unlike_after) (defBody s_Unlike_after) (defScope s_Unlike_after) .none kV_Unlike_after dc_Unlike_after pm_Unlike_after an_Unlike_after cd_Unlike_after ct_Unlike_after), sl_Unlike_after⟩) (c_Unlike_after : PySem.W.codeIn K cd_Unlike_after "Unlike.after" = true) (k_Unlike_after : PySem.W.keepIn K (.ref f_Unlike_after) = true)
    {f_Unlike_value : Addr} {od_Unlike_value an_Unlike_value : Option Addr} {sl_Unlike_value : Array (Option Value)} {oc_Unlike_value kV_Unlike_value dc_Unlike_value pm_Unlike_value cd_Unlike_value ct_Unlike_value : Value}
    (a_Unlike_value : PySem.W.findIn K (.ref C_Unlike) "value" = some (some (.ref f_Unlike_value))) (i_Unlike_value : PySem.W.isFn K (.ref f_Unlike_value) = true) (l_Unlike_value : K.lookup f_Unlike_value = some ⟨oc_Unlike_value, od_Unlike_value, .func (PySem.W.fnOf "value" "Unlike.value" (defArgs s_Unlike_value) (defBody s_Unlike_value) (defScope s_Unlike_value) .none kV_Unlike_value dc_Unlike_value pm_Unlike_value an_Unlike_value cd_Unlike_value ct_Unlike_value), sl_Unlike_value⟩) (c_Unlike_value : PySem.W.codeIn K cd_Unlike_value "Unlike.value" = true) (k_Unlike_value : PySem.W.keepIn K (.ref f_Unlike_value) = true)
    {f_Unlike_best : Addr} {od_Unlike_best an_Unlike_best : Option Addr} {sl_Unlike_best : Array (Option Value)} {oc_Unlike_best kV_Unlike_best dc_Unlike_best pm_Unlike_best cd_Unlike_best ct_Unlike_best : Value}
    (a_Unlike_best : PySem.W.findIn K (.ref C_Unlike) "best" = some (some (.ref f_Unlike_best))) (i_Unlike_best : PySem.W.isFn K (.ref f_Unlike_best) = true) (l_Unlike_best : K.lookup f_Unlike_best = some ⟨oc_Unlike_best, od_Unlike_best, .func (PySem.W.fnOf "best" "Unlike.best" (defArgs s_Unlike_best) (defBody s_Unlike_best) (defScope s_Unlike_best) .none kV_Unlike_best dc_Unlike_best pm_Unlike_best an_Unlike_best cd_Unlike_best ct_Unlike_best), sl_Unlike_best⟩) (c_Unlike_best : PySem.W.codeIn K cd_Unlike_best "Unlike.best" = true) (k_Unlike_best : PySem.W.keepIn K (.ref f_Unlike_best) = true)
    {f_Unlike_rows : Addr} {od_Unlike_rows an_Unlike_rows : Option Addr} {sl_Unlike_rows : Array (Option Value)} {oc_Unlike_rows kV_Unlike_rows dc_Unlike_rows pm_Unlike_rows cd_Unlike_rows ct_Unlike_rows : Value}
    (a_Unlike_rows : PySem.W.findIn K (.ref C_Unlike) "rows" = some (some (.ref f_Unlike_rows))) (i_Unlike_rows : PySem.W.isFn K (.ref f_Unlike_rows) = true) (l_Unlike_rows : K.lookup f_Unlike_rows = some ⟨oc_Unlike_rows, od_Unlike_rows, .func (PySem.W.fnOf "rows" "Unlike.rows" (defArgs s_Unlike_rows) (defBody s_Unlike_rows) (defScope s_Unlike_rows) .none kV_Unlike_rows dc_Unlike_rows pm_Unlike_rows an_Unlike_rows cd_Unlike_rows ct_Unlike_rows), sl_Unlike_rows⟩) (c_Unlike_rows : PySem.W.codeIn K cd_Unlike_rows "Unlike.rows" = true) (k_Unlike_rows : PySem.W.keepIn K (.ref f_Unlike_rows) = true)
    {f_unlike_levels : Addr} {od_unlike_levels an_unlike_levels : Option Addr} {sl_unlike_levels : Array (Option Value)} {oc_unlike_levels kV_unlike_levels dc_unlike_levels pm_unlike_levels cd_unlike_levels ct_unlike_levels : Value}
    (a_unlike_levels : PySem.W.nsIn K mainGlobals "unlike_levels" = some (some (.ref f_unlike_levels))) (l_unlike_levels : K.lookup f_unlike_levels = some ⟨oc_unlike_levels, od_unlike_levels, .func (PySem.W.fnOf "unlike_levels" "unlike_levels" (defArgs s_unlike_levels) (defBody s_unlike_levels) (defScope s_unlike_levels) .none kV_unlike_levels dc_unlike_levels pm_unlike_levels an_unlike_levels cd_unlike_levels ct_unlike_levels), sl_unlike_levels⟩) (c_unlike_levels : PySem.W.codeIn K cd_unlike_levels "unlike_levels" = true) (k_unlike_levels : PySem.W.keepIn K (.ref f_unlike_levels) = true)
    {f_best_orders : Addr} {od_best_orders an_best_orders : Option Addr} {sl_best_orders : Array (Option Value)} {oc_best_orders kV_best_orders dc_best_orders pm_best_orders cd_best_orders ct_best_orders : Value}
    (a_best_orders : PySem.W.nsIn K mainGlobals "best_orders" = some (some (.ref f_best_orders))) (l_best_orders : K.lookup f_best_orders = some ⟨oc_best_orders, od_best_orders, .func (PySem.W.fnOf "best_orders" "best_orders" (defArgs s_best_orders) (defBody s_best_orders) (defScope s_best_orders) .none kV_best_orders dc_best_orders pm_best_orders an_best_orders cd_best_orders ct_best_orders), sl_best_orders⟩) (c_best_orders : PySem.W.codeIn K cd_best_orders "best_orders" = true) (k_best_orders : PySem.W.keepIn K (.ref f_best_orders) = true)
    {f_unlike_table : Addr} {od_unlike_table an_unlike_table : Option Addr} {sl_unlike_table : Array (Option Value)} {oc_unlike_table kV_unlike_table dc_unlike_table pm_unlike_table cd_unlike_table ct_unlike_table : Value}
    (a_unlike_table : PySem.W.nsIn K mainGlobals "unlike_table" = some (some (.ref f_unlike_table))) (l_unlike_table : K.lookup f_unlike_table = some ⟨oc_unlike_table, od_unlike_table, .func (PySem.W.fnOf "unlike_table" "unlike_table" (defArgs s_unlike_table) (defBody s_unlike_table) (defScope s_unlike_table) .none kV_unlike_table dc_unlike_table pm_unlike_table an_unlike_table cd_unlike_table ct_unlike_table), sl_unlike_table⟩) (c_unlike_table : PySem.W.codeIn K cd_unlike_table "unlike_table" = true) (k_unlike_table : PySem.W.keepIn K (.ref f_unlike_table) = true)
    {f_law_mixed : Addr} {od_law_mixed an_law_mixed : Option Addr} {sl_law_mixed : Array (Option Value)} {oc_law_mixed kV_law_mixed dc_law_mixed pm_law_mixed cd_law_mixed ct_law_mixed : Value}
    (a_law_mixed : PySem.W.nsIn K mainGlobals "_law_mixed" = some (some (.ref f_law_mixed))) (l_law_mixed : K.lookup f_law_mixed = some ⟨oc_law_mixed, od_law_mixed, .func (PySem.W.fnOf "_law_mixed" "_law_mixed" (defArgs s_law_mixed) (defBody s_law_mixed) (defScope s_law_mixed) .none kV_law_mixed dc_law_mixed pm_law_mixed an_law_mixed cd_law_mixed ct_law_mixed), sl_law_mixed⟩) (c_law_mixed : PySem.W.codeIn K cd_law_mixed "_law_mixed" = true) (k_law_mixed : PySem.W.keepIn K (.ref f_law_mixed) = true)
    {f_law_source : Addr} {od_law_source an_law_source : Option Addr} {sl_law_source : Array (Option Value)} {oc_law_source kV_law_source dc_law_source pm_law_source cd_law_source ct_law_source : Value}
    (a_law_source : PySem.W.nsIn K mainGlobals "_law_source" = some (some (.ref f_law_source))) (l_law_source : K.lookup f_law_source = some ⟨oc_law_source, od_law_source, .func (PySem.W.fnOf "_law_source" "_law_source" (defArgs s_law_source) (defBody s_law_source) (defScope s_law_source) .none kV_law_source dc_law_source pm_law_source an_law_source cd_law_source ct_law_source), sl_law_source⟩) (c_law_source : PySem.W.codeIn K cd_law_source "_law_source" = true) (k_law_source : PySem.W.keepIn K (.ref f_law_source) = true)
    {f_law_take : Addr} {od_law_take an_law_take : Option Addr} {sl_law_take : Array (Option Value)} {oc_law_take kV_law_take dc_law_take pm_law_take cd_law_take ct_law_take : Value}
    (a_law_take : PySem.W.nsIn K mainGlobals "_law_take" = some (some (.ref f_law_take))) (l_law_take : K.lookup f_law_take = some ⟨oc_law_take, od_law_take, .func (PySem.W.fnOf "_law_take" "_law_take" (defArgs s_law_take) (defBody s_law_take) (defScope s_law_take) .none kV_law_take dc_law_take pm_law_take an_law_take cd_law_take ct_law_take), sl_law_take⟩) (c_law_take : PySem.W.codeIn K cd_law_take "_law_take" = true) (k_law_take : PySem.W.keepIn K (.ref f_law_take) = true)
    {f_law_one : Addr} {od_law_one an_law_one : Option Addr} {sl_law_one : Array (Option Value)} {oc_law_one kV_law_one dc_law_one pm_law_one cd_law_one ct_law_one : Value}
    (a_law_one : PySem.W.nsIn K mainGlobals "_law_one" = some (some (.ref f_law_one))) (l_law_one : K.lookup f_law_one = some ⟨oc_law_one, od_law_one, .func (PySem.W.fnOf "_law_one" "_law_one" (defArgs s_law_one) (defBody s_law_one) (defScope s_law_one) .none kV_law_one dc_law_one pm_law_one an_law_one cd_law_one ct_law_one), sl_law_one⟩) (c_law_one : PySem.W.codeIn K cd_law_one "_law_one" = true) (k_law_one : PySem.W.keepIn K (.ref f_law_one) = true)
    {f_law_stocks : Addr} {od_law_stocks an_law_stocks : Option Addr} {sl_law_stocks : Array (Option Value)} {oc_law_stocks kV_law_stocks dc_law_stocks pm_law_stocks cd_law_stocks ct_law_stocks : Value}
    (a_law_stocks : PySem.W.nsIn K mainGlobals "_law_stocks" = some (some (.ref f_law_stocks))) (l_law_stocks : K.lookup f_law_stocks = some ⟨oc_law_stocks, od_law_stocks, .func (PySem.W.fnOf "_law_stocks" "_law_stocks" (defArgs s_law_stocks) (defBody s_law_stocks) (defScope s_law_stocks) .none kV_law_stocks dc_law_stocks pm_law_stocks an_law_stocks cd_law_stocks ct_law_stocks), sl_law_stocks⟩) (c_law_stocks : PySem.W.codeIn K cd_law_stocks "_law_stocks" = true) (k_law_stocks : PySem.W.keepIn K (.ref f_law_stocks) = true)
    {f_law_usable : Addr} {od_law_usable an_law_usable : Option Addr} {sl_law_usable : Array (Option Value)} {oc_law_usable kV_law_usable dc_law_usable pm_law_usable cd_law_usable ct_law_usable : Value}
    (a_law_usable : PySem.W.nsIn K mainGlobals "_law_usable" = some (some (.ref f_law_usable))) (l_law_usable : K.lookup f_law_usable = some ⟨oc_law_usable, od_law_usable, .func (PySem.W.fnOf "_law_usable" "_law_usable" (defArgs s_law_usable) (defBody s_law_usable) (defScope s_law_usable) .none kV_law_usable dc_law_usable pm_law_usable an_law_usable cd_law_usable ct_law_usable), sl_law_usable⟩) (c_law_usable : PySem.W.codeIn K cd_law_usable "_law_usable" = true) (k_law_usable : PySem.W.keepIn K (.ref f_law_usable) = true)
    {f_law_arranged : Addr} {od_law_arranged an_law_arranged : Option Addr} {sl_law_arranged : Array (Option Value)} {oc_law_arranged kV_law_arranged dc_law_arranged pm_law_arranged cd_law_arranged ct_law_arranged : Value}
    (a_law_arranged : PySem.W.nsIn K mainGlobals "_law_arranged" = some (some (.ref f_law_arranged))) (l_law_arranged : K.lookup f_law_arranged = some ⟨oc_law_arranged, od_law_arranged, .func (PySem.W.fnOf "_law_arranged" "_law_arranged" (defArgs s_law_arranged) (defBody s_law_arranged) (defScope s_law_arranged) .none kV_law_arranged dc_law_arranged pm_law_arranged an_law_arranged cd_law_arranged ct_law_arranged), sl_law_arranged⟩) (c_law_arranged : PySem.W.codeIn K cd_law_arranged "_law_arranged" = true) (k_law_arranged : PySem.W.keepIn K (.ref f_law_arranged) = true)
    {f_law_hit : Addr} {od_law_hit an_law_hit : Option Addr} {sl_law_hit : Array (Option Value)} {oc_law_hit kV_law_hit dc_law_hit pm_law_hit cd_law_hit ct_law_hit : Value}
    (a_law_hit : PySem.W.nsIn K mainGlobals "_law_hit" = some (some (.ref f_law_hit))) (l_law_hit : K.lookup f_law_hit = some ⟨oc_law_hit, od_law_hit, .func (PySem.W.fnOf "_law_hit" "_law_hit" (defArgs s_law_hit) (defBody s_law_hit) (defScope s_law_hit) .none kV_law_hit dc_law_hit pm_law_hit an_law_hit cd_law_hit ct_law_hit), sl_law_hit⟩) (c_law_hit : PySem.W.codeIn K cd_law_hit "_law_hit" = true) (k_law_hit : PySem.W.keepIn K (.ref f_law_hit) = true)
    {f_law_worth : Addr} {od_law_worth an_law_worth : Option Addr} {sl_law_worth : Array (Option Value)} {oc_law_worth kV_law_worth dc_law_worth pm_law_worth cd_law_worth ct_law_worth : Value}
    (a_law_worth : PySem.W.nsIn K mainGlobals "_law_worth" = some (some (.ref f_law_worth))) (l_law_worth : K.lookup f_law_worth = some ⟨oc_law_worth, od_law_worth, .func (PySem.W.fnOf "_law_worth" "_law_worth" (defArgs s_law_worth) (defBody s_law_worth) (defScope s_law_worth) .none kV_law_worth dc_law_worth pm_law_worth an_law_worth cd_law_worth ct_law_worth), sl_law_worth⟩) (c_law_worth : PySem.W.codeIn K cd_law_worth "_law_worth" = true) (k_law_worth : PySem.W.keepIn K (.ref f_law_worth) = true)
    {f_law_most : Addr} {od_law_most an_law_most : Option Addr} {sl_law_most : Array (Option Value)} {oc_law_most kV_law_most dc_law_most pm_law_most cd_law_most ct_law_most : Value}
    (a_law_most : PySem.W.nsIn K mainGlobals "_law_most" = some (some (.ref f_law_most))) (l_law_most : K.lookup f_law_most = some ⟨oc_law_most, od_law_most, .func (PySem.W.fnOf "_law_most" "_law_most" (defArgs s_law_most) (defBody s_law_most) (defScope s_law_most) .none kV_law_most dc_law_most pm_law_most an_law_most cd_law_most ct_law_most), sl_law_most⟩) (c_law_most : PySem.W.codeIn K cd_law_most "_law_most" = true) (k_law_most : PySem.W.keepIn K (.ref f_law_most) = true)
    {f_law_followed : Addr} {od_law_followed an_law_followed : Option Addr} {sl_law_followed : Array (Option Value)} {oc_law_followed kV_law_followed dc_law_followed pm_law_followed cd_law_followed ct_law_followed : Value}
    (a_law_followed : PySem.W.nsIn K mainGlobals "_law_followed" = some (some (.ref f_law_followed))) (l_law_followed : K.lookup f_law_followed = some ⟨oc_law_followed, od_law_followed, .func (PySem.W.fnOf "_law_followed" "_law_followed" (defArgs s_law_followed) (defBody s_law_followed) (defScope s_law_followed) .none kV_law_followed dc_law_followed pm_law_followed an_law_followed cd_law_followed ct_law_followed), sl_law_followed⟩) (c_law_followed : PySem.W.codeIn K cd_law_followed "_law_followed" = true) (k_law_followed : PySem.W.keepIn K (.ref f_law_followed) = true)
    {f_law_is_row : Addr} {od_law_is_row an_law_is_row : Option Addr} {sl_law_is_row : Array (Option Value)} {oc_law_is_row kV_law_is_row dc_law_is_row pm_law_is_row cd_law_is_row ct_law_is_row : Value}
    (a_law_is_row : PySem.W.nsIn K mainGlobals "_law_is_row" = some (some (.ref f_law_is_row))) (l_law_is_row : K.lookup f_law_is_row = some ⟨oc_law_is_row, od_law_is_row, .func (PySem.W.fnOf "_law_is_row" "_law_is_row" (defArgs s_law_is_row) (defBody s_law_is_row) (defScope s_law_is_row) .none kV_law_is_row dc_law_is_row pm_law_is_row an_law_is_row cd_law_is_row ct_law_is_row), sl_law_is_row⟩) (c_law_is_row : PySem.W.codeIn K cd_law_is_row "_law_is_row" = true) (k_law_is_row : PySem.W.keepIn K (.ref f_law_is_row) = true)
    {f_law_table_due : Addr} {od_law_table_due an_law_table_due : Option Addr} {sl_law_table_due : Array (Option Value)} {oc_law_table_due kV_law_table_due dc_law_table_due pm_law_table_due cd_law_table_due ct_law_table_due : Value}
    (a_law_table_due : PySem.W.nsIn K mainGlobals "_law_table_due" = some (some (.ref f_law_table_due))) (l_law_table_due : K.lookup f_law_table_due = some ⟨oc_law_table_due, od_law_table_due, .func (PySem.W.fnOf "_law_table_due" "_law_table_due" (defArgs s_law_table_due) (defBody s_law_table_due) (defScope s_law_table_due) .none kV_law_table_due dc_law_table_due pm_law_table_due an_law_table_due cd_law_table_due ct_law_table_due), sl_law_table_due⟩) (c_law_table_due : PySem.W.codeIn K cd_law_table_due "_law_table_due" = true) (k_law_table_due : PySem.W.keepIn K (.ref f_law_table_due) = true)
    {f_law_right : Addr} {od_law_right an_law_right : Option Addr} {sl_law_right : Array (Option Value)} {oc_law_right kV_law_right dc_law_right pm_law_right cd_law_right ct_law_right : Value}
    (a_law_right : PySem.W.nsIn K mainGlobals "_law_right" = some (some (.ref f_law_right))) (l_law_right : K.lookup f_law_right = some ⟨oc_law_right, od_law_right, .func (PySem.W.fnOf "_law_right" "_law_right" (defArgs s_law_right) (defBody s_law_right) (defScope s_law_right) .none kV_law_right dc_law_right pm_law_right an_law_right cd_law_right ct_law_right), sl_law_right⟩) (c_law_right : PySem.W.codeIn K cd_law_right "_law_right" = true) (k_law_right : PySem.W.keepIn K (.ref f_law_right) = true)
    {f_law : Addr} {od_law an_law : Option Addr} {sl_law : Array (Option Value)} {oc_law kV_law dc_law pm_law cd_law ct_law : Value}
    (a_law : PySem.W.nsIn K mainGlobals "law" = some (some (.ref f_law))) (l_law : K.lookup f_law = some ⟨oc_law, od_law, .func (PySem.W.fnOf "law" "law" (defArgs s_law) (defBody s_law) (defScope s_law) .none kV_law dc_law pm_law an_law cd_law ct_law), sl_law⟩) (c_law : PySem.W.codeIn K cd_law "law" = true) (k_law : PySem.W.keepIn K (.ref f_law) = true)
    {t_MAX_PIECES : Tok} (v_MAX_PIECES : PySem.W.nsIn K mainGlobals "MAX_PIECES" = some (some (.int 4 t_MAX_PIECES)))
    {t_MAX_SORTS : Tok} (v_MAX_SORTS : PySem.W.nsIn K mainGlobals "MAX_SORTS" = some (some (.int 3 t_MAX_SORTS)))
    (z_bool : PySem.W.nsIn K mainGlobals "bool" = some none)
    (z_enumerate : PySem.W.nsIn K mainGlobals "enumerate" = some none)
    (z_int : PySem.W.nsIn K mainGlobals "int" = some none)
    (z_isinstance : PySem.W.nsIn K mainGlobals "isinstance" = some none)
    (z_len : PySem.W.nsIn K mainGlobals "len" = some none)
    (z_list : PySem.W.nsIn K mainGlobals "list" = some none)
    (z_max : PySem.W.nsIn K mainGlobals "max" = some none)
    (z_min : PySem.W.nsIn K mainGlobals "min" = some none)
    (z_range : PySem.W.nsIn K mainGlobals "range" = some none)
    (z_sorted : PySem.W.nsIn K mainGlobals "sorted" = some none)
    (z_sum : PySem.W.nsIn K mainGlobals "sum" = some none)
    (z_tuple : PySem.W.nsIn K mainGlobals "tuple" = some none)
    (z_zip : PySem.W.nsIn K mainGlobals "zip" = some none)
    : ∃ (fd : FuncData) (C : CT), (∀ (s : Shared) (v : Value), BindsTo s fd ⟨[v], []⟩ [("_law_script", v)]) ∧ ∀ base : Heap, K.In base → base.Ns mainGlobals mg → FnQ l.prog w K mg base C 36 fa fd ["_law_script"] F_law := by
  have e2 : fa = f_law := by
    have e := hfa.symm.trans (PySem.W.mg_of X G a_law)
    cases e
    rfl
  rw [e2]
  have F_is_integer := fun_mk (st := s_is_integer) l_is_integer c_is_integer k_is_integer
  have F_is_at_least := fun_mk (st := s_is_at_least) l_is_at_least c_is_at_least k_is_at_least
  have F_is_stock := fun_mk (st := s_is_stock) l_is_stock c_is_stock k_is_stock
  have F_require_stocks := fun_mk (st := s_require_stocks) l_require_stocks c_require_stocks k_require_stocks
  have F_require_few := fun_mk (st := s_require_few) l_require_few c_require_few k_require_few
  have F_arrangements := fun_mk (st := s_arrangements) l_arrangements c_arrangements k_arrangements
  have F_Unlike_init := fun_mk (st := s_Unlike_init) l_Unlike_init c_Unlike_init k_Unlike_init
  have F_Unlike_ready := fun_mk (st := s_Unlike_ready) l_Unlike_ready c_Unlike_ready k_Unlike_ready
  have F_Unlike_after := fun_mk (st := s_Unlike_after) l_Unlike_after c_Unlike_after k_Unlike_after
  have F_Unlike_value := fun_mk (st := s_Unlike_value) l_Unlike_value c_Unlike_value k_Unlike_value
  have F_Unlike_best := fun_mk (st := s_Unlike_best) l_Unlike_best c_Unlike_best k_Unlike_best
  have F_Unlike_rows := fun_mk (st := s_Unlike_rows) l_Unlike_rows c_Unlike_rows k_Unlike_rows
  have F_unlike_levels := fun_mk (st := s_unlike_levels) l_unlike_levels c_unlike_levels k_unlike_levels
  have F_best_orders := fun_mk (st := s_best_orders) l_best_orders c_best_orders k_best_orders
  have F_unlike_table := fun_mk (st := s_unlike_table) l_unlike_table c_unlike_table k_unlike_table
  have F_law_mixed := fun_mk (st := s_law_mixed) l_law_mixed c_law_mixed k_law_mixed
  have F_law_source := fun_mk (st := s_law_source) l_law_source c_law_source k_law_source
  have F_law_take := fun_mk (st := s_law_take) l_law_take c_law_take k_law_take
  have F_law_one := fun_mk (st := s_law_one) l_law_one c_law_one k_law_one
  have F_law_stocks := fun_mk (st := s_law_stocks) l_law_stocks c_law_stocks k_law_stocks
  have F_law_usable := fun_mk (st := s_law_usable) l_law_usable c_law_usable k_law_usable
  have F_law_arranged := fun_mk (st := s_law_arranged) l_law_arranged c_law_arranged k_law_arranged
  have F_law_hit := fun_mk (st := s_law_hit) l_law_hit c_law_hit k_law_hit
  have F_law_worth := fun_mk (st := s_law_worth) l_law_worth c_law_worth k_law_worth
  have F_law_most := fun_mk (st := s_law_most) l_law_most c_law_most k_law_most
  have F_law_followed := fun_mk (st := s_law_followed) l_law_followed c_law_followed k_law_followed
  have F_law_is_row := fun_mk (st := s_law_is_row) l_law_is_row c_law_is_row k_law_is_row
  have F_law_table_due := fun_mk (st := s_law_table_due) l_law_table_due c_law_table_due k_law_table_due
  have F_law_right := fun_mk (st := s_law_right) l_law_right c_law_right k_law_right
  have F_law := fun_mk (st := s_law) l_law c_law k_law
  have FX_InvalidStocks := fun_mk (st := s_InvalidStocks_init) lx_InvalidStocks cx_InvalidStocks ox_InvalidStocks
  have FX_InvalidNumber := fun_mk (st := s_InvalidNumber_init) lx_InvalidNumber cx_InvalidNumber ox_InvalidNumber
  have FX_TooLarge := fun_mk (st := s_TooLarge_init) lx_TooLarge cx_TooLarge ox_TooLarge
  have T : Tx K mg ⟨f_is_integer, _, f_is_at_least, _, f_is_stock, _, f_require_stocks, _, f_require_few, _, f_arrangements, _, f_Unlike_init, _, f_Unlike_ready, _, f_Unlike_after, _, f_Unlike_value, _, f_Unlike_best, _, f_Unlike_rows, _, f_unlike_levels, _, f_best_orders, _, f_unlike_table, _, f_law_mixed, _, f_law_source, _, f_law_take, _, f_law_one, _, f_law_stocks, _, f_law_usable, _, f_law_arranged, _, f_law_hit, _, f_law_worth, _, f_law_most, _, f_law_followed, _, f_law_is_row, _, f_law_table_due, _, f_law_right, _, f_law, _, C_Unlike, xf_InvalidStocks, _, xf_InvalidNumber, _, xf_TooLarge, _, X_InvalidStocks, X_InvalidNumber, X_TooLarge, t_MAX_PIECES, t_MAX_SORTS⟩ :=
    { g_is_integer := PySem.W.mg_of X G a_is_integer,
      F_is_integer := F_is_integer, b_is_integer := F_is_integer.binds fun _ _ _ _ _ _ us hl => match us, hl with | [_], _ => rfl,
      g_is_at_least := PySem.W.mg_of X G a_is_at_least,
      F_is_at_least := F_is_at_least, b_is_at_least := F_is_at_least.binds fun _ _ _ _ _ _ us hl => match us, hl with | [_, _], _ => rfl,
      g_is_stock := PySem.W.mg_of X G a_is_stock,
      F_is_stock := F_is_stock, b_is_stock := F_is_stock.binds fun _ _ _ _ _ _ us hl => match us, hl with | [_], _ => rfl,
      g_require_stocks := PySem.W.mg_of X G a_require_stocks,
      F_require_stocks := F_require_stocks, b_require_stocks := F_require_stocks.binds fun _ _ _ _ _ _ us hl => match us, hl with | [_, _], _ => rfl,
      g_require_few := PySem.W.mg_of X G a_require_few,
      F_require_few := F_require_few, b_require_few := F_require_few.binds fun _ _ _ _ _ _ us hl => match us, hl with | [_, _], _ => rfl,
      g_arrangements := PySem.W.mg_of X G a_arrangements,
      F_arrangements := F_arrangements, b_arrangements := F_arrangements.binds fun _ _ _ _ _ _ us hl => match us, hl with | [_], _ => rfl,
      F_Unlike_init := F_Unlike_init, b_Unlike_init := F_Unlike_init.binds fun _ _ _ _ _ _ us hl => match us, hl with | [_, _, _], _ => rfl,
      m_Unlike_ready := ⟨a_Unlike_ready, i_Unlike_ready, k_Unlike_ready⟩,
      F_Unlike_ready := F_Unlike_ready, b_Unlike_ready := F_Unlike_ready.binds fun _ _ _ _ _ _ us hl => match us, hl with | [_, _], _ => rfl,
      m_Unlike_after := ⟨a_Unlike_after, i_Unlike_after, k_Unlike_after⟩,
      F_Unlike_after := F_Unlike_after, b_Unlike_after := F_Unlike_after.binds fun _ _ _ _ _ _ us hl => match us, hl with | [_, _, _, _], _ => rfl,
      m_Unlike_value := ⟨a_Unlike_value, i_Unlike_value, k_Unlike_value⟩,
      F_Unlike_value := F_Unlike_value, b_Unlike_value := F_Unlike_value.binds fun _ _ _ _ _ _ us hl => match us, hl with | [_, _, _, _], _ => rfl,
      m_Unlike_best := ⟨a_Unlike_best, i_Unlike_best, k_Unlike_best⟩,
      F_Unlike_best := F_Unlike_best, b_Unlike_best := F_Unlike_best.binds fun _ _ _ _ _ _ us hl => match us, hl with | [_, _, _], _ => rfl,
      m_Unlike_rows := ⟨a_Unlike_rows, i_Unlike_rows, k_Unlike_rows⟩,
      F_Unlike_rows := F_Unlike_rows, b_Unlike_rows := F_Unlike_rows.binds fun _ _ _ _ _ _ us hl => match us, hl with | [_, _, _], _ => rfl,
      g_unlike_levels := PySem.W.mg_of X G a_unlike_levels,
      F_unlike_levels := F_unlike_levels, b_unlike_levels := F_unlike_levels.binds fun _ _ _ _ _ _ us hl => match us, hl with | [_, _], _ => rfl,
      g_best_orders := PySem.W.mg_of X G a_best_orders,
      F_best_orders := F_best_orders, b_best_orders := F_best_orders.binds fun _ _ _ _ _ _ us hl => match us, hl with | [_, _], _ => rfl,
      g_unlike_table := PySem.W.mg_of X G a_unlike_table,
      F_unlike_table := F_unlike_table, b_unlike_table := F_unlike_table.binds fun _ _ _ _ _ _ us hl => match us, hl with | [_, _], _ => rfl,
      g_law_mixed := PySem.W.mg_of X G a_law_mixed,
      F_law_mixed := F_law_mixed, b_law_mixed := F_law_mixed.binds fun _ _ _ _ _ _ us hl => match us, hl with | [_, _], _ => rfl,
      g_law_source := PySem.W.mg_of X G a_law_source,
      F_law_source := F_law_source, b_law_source := F_law_source.binds fun _ _ _ _ _ _ us hl => match us, hl with | [_], _ => rfl,
      g_law_take := PySem.W.mg_of X G a_law_take,
      F_law_take := F_law_take, b_law_take := F_law_take.binds fun _ _ _ _ _ _ us hl => match us, hl with | [_, _], _ => rfl,
      g_law_one := PySem.W.mg_of X G a_law_one,
      F_law_one := F_law_one, b_law_one := F_law_one.binds fun _ _ _ _ _ _ us hl => match us, hl with | [_, _], _ => rfl,
      g_law_stocks := PySem.W.mg_of X G a_law_stocks,
      F_law_stocks := F_law_stocks, b_law_stocks := F_law_stocks.binds fun _ _ _ _ _ _ us hl => match us, hl with | [_, _, _], _ => rfl,
      g_law_usable := PySem.W.mg_of X G a_law_usable,
      F_law_usable := F_law_usable, b_law_usable := F_law_usable.binds fun _ _ _ _ _ _ us hl => match us, hl with | [_, _, _], _ => rfl,
      g_law_arranged := PySem.W.mg_of X G a_law_arranged,
      F_law_arranged := F_law_arranged, b_law_arranged := F_law_arranged.binds fun _ _ _ _ _ _ us hl => match us, hl with | [_], _ => rfl,
      g_law_hit := PySem.W.mg_of X G a_law_hit,
      F_law_hit := F_law_hit, b_law_hit := F_law_hit.binds fun _ _ _ _ _ _ us hl => match us, hl with | [_, _, _], _ => rfl,
      g_law_worth := PySem.W.mg_of X G a_law_worth,
      F_law_worth := F_law_worth, b_law_worth := F_law_worth.binds fun _ _ _ _ _ _ us hl => match us, hl with | [_, _, _, _, _, _], _ => rfl,
      g_law_most := PySem.W.mg_of X G a_law_most,
      F_law_most := F_law_most, b_law_most := F_law_most.binds fun _ _ _ _ _ _ us hl => match us, hl with | [_, _, _, _, _], _ => rfl,
      g_law_followed := PySem.W.mg_of X G a_law_followed,
      F_law_followed := F_law_followed, b_law_followed := F_law_followed.binds fun _ _ _ _ _ _ us hl => match us, hl with | [_, _, _, _, _], _ => rfl,
      g_law_is_row := PySem.W.mg_of X G a_law_is_row,
      F_law_is_row := F_law_is_row, b_law_is_row := F_law_is_row.binds fun _ _ _ _ _ _ us hl => match us, hl with | [_, _, _], _ => rfl,
      g_law_table_due := PySem.W.mg_of X G a_law_table_due,
      F_law_table_due := F_law_table_due, b_law_table_due := F_law_table_due.binds fun _ _ _ _ _ _ us hl => match us, hl with | [_, _, _, _], _ => rfl,
      g_law_right := PySem.W.mg_of X G a_law_right,
      F_law_right := F_law_right, b_law_right := F_law_right.binds fun _ _ _ _ _ _ us hl => match us, hl with | [_, _], _ => rfl,
      g_law := PySem.W.mg_of X G a_law,
      F_law := F_law, b_law := F_law.binds fun _ _ _ _ _ _ us hl => match us, hl with | [_], _ => rfl,
      n_Unlike := aC_Unlike, cl_Unlike := ⟨pg_Unlike, hd_Unlike, po_Unlike, sa_Unlike⟩, g_Unlike := PySem.W.mg_of X G aC_Unlike,
      mk_Unlike := ⟨mk_Unlike, a_Unlike_init, i_Unlike_init, kc_Unlike⟩,
      na_Unlike_days := na_Unlike_days,
      na_Unlike_known := na_Unlike_known,
      na_Unlike_stocks := na_Unlike_stocks,
      x_InvalidStocks := ⟨⟨Bk.errOk_cls lo_InvalidStocks eo_InvalidStocks, sx_InvalidStocks, bx_InvalidStocks, ty_InvalidStocks, kx_InvalidStocks⟩, ⟨ga_InvalidStocks, gt_InvalidStocks, bx_InvalidStocks, hx_InvalidStocks⟩, nx_InvalidStocks, ix_InvalidStocks, tx_InvalidStocks, FX_InvalidStocks, FX_InvalidStocks.binds fun _ _ _ _ _ _ us hl => match us, hl with | [_, _], _ => rfl⟩,
      x_InvalidNumber := ⟨⟨Bk.errOk_cls lo_InvalidNumber eo_InvalidNumber, sx_InvalidNumber, bx_InvalidNumber, ty_InvalidNumber, kx_InvalidNumber⟩, ⟨ga_InvalidNumber, gt_InvalidNumber, bx_InvalidNumber, hx_InvalidNumber⟩, nx_InvalidNumber, ix_InvalidNumber, tx_InvalidNumber, FX_InvalidNumber, FX_InvalidNumber.binds fun _ _ _ _ _ _ us hl => match us, hl with | [_, _], _ => rfl⟩,
      x_TooLarge := ⟨⟨Bk.errOk_cls lo_TooLarge eo_TooLarge, sx_TooLarge, bx_TooLarge, ty_TooLarge, kx_TooLarge⟩, ⟨ga_TooLarge, gt_TooLarge, bx_TooLarge, hx_TooLarge⟩, nx_TooLarge, ix_TooLarge, tx_TooLarge, FX_TooLarge, FX_TooLarge.binds fun _ _ _ _ _ _ us hl => match us, hl with | [_, _], _ => rfl⟩,
      gx_InvalidStocks := PySem.W.mg_of X G aX_InvalidStocks,
      gx_InvalidNumber := PySem.W.mg_of X G aX_InvalidNumber,
      gx_TooLarge := PySem.W.mg_of X G aX_TooLarge,
      k_best_orders_days_stocks := fun s us ws _ h1 h2 => match us, ws, h1, h2 with | [], [_, _], _, _ => .of_eq rfl,
      k_unlike_levels_days_stocks := fun s us ws _ h1 h2 => match us, ws, h1, h2 with | [], [_, _], _, _ => .of_eq rfl,
      k_unlike_table_days_stocks := fun s us ws _ h1 h2 => match us, ws, h1, h2 with | [], [_, _], _, _ => .of_eq rfl,
      m_bool := PySem.W.mg_none_of X G z_bool,
      m_enumerate := PySem.W.mg_none_of X G z_enumerate,
      m_int := PySem.W.mg_none_of X G z_int,
      m_isinstance := PySem.W.mg_none_of X G z_isinstance,
      m_len := PySem.W.mg_none_of X G z_len,
      m_list := PySem.W.mg_none_of X G z_list,
      m_max := PySem.W.mg_none_of X G z_max,
      m_min := PySem.W.mg_none_of X G z_min,
      m_range := PySem.W.mg_none_of X G z_range,
      m_sorted := PySem.W.mg_none_of X G z_sorted,
      m_sum := PySem.W.mg_none_of X G z_sum,
      m_tuple := PySem.W.mg_none_of X G z_tuple,
      m_zip := PySem.W.mg_none_of X G z_zip,
      c_MAX_PIECES := PySem.W.mg_of X G v_MAX_PIECES,
      c_MAX_SORTS := PySem.W.mg_of X G v_MAX_SORTS }
  exact ⟨_, errC _, fun s v => .of_eq rfl, fun base _ _ => ok_law T⟩
end My
open PySem PySem.W PyProof.Rows
set_option maxRecDepth 100000 in
set_option maxHeartbeats 0 in
theorem PySem.Challenge.cw_breakrows_k73_unlike_pieces_holds : PySem.Challenge.rw_breakrows_k73_unlike_pieces.Holds := by
  w_on; o_law; k_head; (case hw => w_witness2)
  k_fill
  refine Bk.walk_q (l := PySem.Challenge.rw_breakrows_k73_unlike_pieces) (n := 63) (k := 36) (x := "_law_script") (F := My.F_law) rfl (by decide) rfl ⟨rfl, by decide, by decide⟩ (fun w h Y => PySem.W.kIn_of Y) ?F My.law_true
  case F =>
    intro w mg fa h KX G hmg
    refine' My.all_mk KX G hmg ?aC_Unlike ?pg_Unlike ?hd_Unlike ?po_Unlike ?sa_Unlike ?mk_Unlike ?kc_Unlike ?na_Unlike_days ?na_Unlike_known ?na_Unlike_stocks ?aX_InvalidStocks ?aX_InvalidNumber ?aX_TooLarge ?lo_InvalidStocks ?eo_InvalidStocks ?hx_InvalidStocks ?ga_InvalidStocks ?gt_InvalidStocks ?sx_InvalidStocks ?bx_InvalidStocks ?ty_InvalidStocks ?kx_InvalidStocks ?nx_InvalidStocks ?ix_InvalidStocks ?tx_InvalidStocks ?lx_InvalidStocks ?cx_InvalidStocks ?ox_InvalidStocks ?lo_InvalidNumber ?eo_InvalidNumber ?hx_InvalidNumber ?ga_InvalidNumber ?gt_InvalidNumber ?sx_InvalidNumber ?bx_InvalidNumber ?ty_InvalidNumber ?kx_InvalidNumber ?nx_InvalidNumber ?ix_InvalidNumber ?tx_InvalidNumber ?lx_InvalidNumber ?cx_InvalidNumber ?ox_InvalidNumber ?lo_TooLarge ?eo_TooLarge ?hx_TooLarge ?ga_TooLarge ?gt_TooLarge ?sx_TooLarge ?bx_TooLarge ?ty_TooLarge ?kx_TooLarge ?nx_TooLarge ?ix_TooLarge ?tx_TooLarge ?lx_TooLarge ?cx_TooLarge ?ox_TooLarge ?a_is_integer ?l_is_integer ?c_is_integer ?k_is_integer ?a_is_at_least ?l_is_at_least ?c_is_at_least ?k_is_at_least ?a_is_stock ?l_is_stock ?c_is_stock ?k_is_stock ?a_require_stocks ?l_require_stocks ?c_require_stocks ?k_require_stocks ?a_require_few ?l_require_few ?c_require_few ?k_require_few ?a_arrangements ?l_arrangements ?c_arrangements ?k_arrangements ?a_Unlike_init ?i_Unlike_init ?l_Unlike_init ?c_Unlike_init ?k_Unlike_init ?a_Unlike_ready ?i_Unlike_ready ?l_Unlike_ready ?c_Unlike_ready ?k_Unlike_ready ?a_Unlike_after ?i_Unlike_after ?l_Unlike_after ?c_Unlike_after ?k_Unlike_after ?a_Unlike_value ?i_Unlike_value ?l_Unlike_value ?c_Unlike_value ?k_Unlike_value ?a_Unlike_best ?i_Unlike_best ?l_Unlike_best ?c_Unlike_best ?k_Unlike_best ?a_Unlike_rows ?i_Unlike_rows ?l_Unlike_rows ?c_Unlike_rows ?k_Unlike_rows ?a_unlike_levels ?l_unlike_levels ?c_unlike_levels ?k_unlike_levels ?a_best_orders ?l_best_orders ?c_best_orders ?k_best_orders ?a_unlike_table ?l_unlike_table ?c_unlike_table ?k_unlike_table ?a_law_mixed ?l_law_mixed ?c_law_mixed ?k_law_mixed ?a_law_source ?l_law_source ?c_law_source ?k_law_source ?a_law_take ?l_law_take ?c_law_take ?k_law_take ?a_law_one ?l_law_one ?c_law_one ?k_law_one ?a_law_stocks ?l_law_stocks ?c_law_stocks ?k_law_stocks ?a_law_usable ?l_law_usable ?c_law_usable ?k_law_usable ?a_law_arranged ?l_law_arranged ?c_law_arranged ?k_law_arranged ?a_law_hit ?l_law_hit ?c_law_hit ?k_law_hit ?a_law_worth ?l_law_worth ?c_law_worth ?k_law_worth ?a_law_most ?l_law_most ?c_law_most ?k_law_most ?a_law_followed ?l_law_followed ?c_law_followed ?k_law_followed ?a_law_is_row ?l_law_is_row ?c_law_is_row ?k_law_is_row ?a_law_table_due ?l_law_table_due ?c_law_table_due ?k_law_table_due ?a_law_right ?l_law_right ?c_law_right ?k_law_right ?a_law ?l_law ?c_law ?k_law ?v_MAX_PIECES ?v_MAX_SORTS ?z_bool ?z_enumerate ?z_int ?z_isinstance ?z_len ?z_list ?z_max ?z_min ?z_range ?z_sorted ?z_sum ?z_tuple ?z_zip
    (case aC_Unlike => k_is); (case pg_Unlike => k_is); (case hd_Unlike => k_is); (case po_Unlike => k_is); (case sa_Unlike => k_is); (case mk_Unlike => k_is); (case kc_Unlike => k_is); (case na_Unlike_days => k_is); (case na_Unlike_known => k_is); (case na_Unlike_stocks => k_is); (case aX_InvalidStocks => k_is); (case aX_InvalidNumber => k_is); (case aX_TooLarge => k_is); (case lo_InvalidStocks => k_is); (case eo_InvalidStocks => decide +kernel); (case hx_InvalidStocks => k_is); (case ga_InvalidStocks => k_is); (case gt_InvalidStocks => k_is); (case sx_InvalidStocks => k_is); (case bx_InvalidStocks => k_is); (case ty_InvalidStocks => k_is); (case kx_InvalidStocks => k_is); (case nx_InvalidStocks => k_is); (case ix_InvalidStocks => k_is); (case tx_InvalidStocks => k_is); (case lx_InvalidStocks => k_is); (case cx_InvalidStocks => k_is); (case ox_InvalidStocks => k_is); (case lo_InvalidNumber => k_is); (case eo_InvalidNumber => decide +kernel); (case hx_InvalidNumber => k_is); (case ga_InvalidNumber => k_is); (case gt_InvalidNumber => k_is); (case sx_InvalidNumber => k_is); (case bx_InvalidNumber => k_is); (case ty_InvalidNumber => k_is); (case kx_InvalidNumber => k_is); (case nx_InvalidNumber => k_is); (case ix_InvalidNumber => k_is); (case tx_InvalidNumber => k_is); (case lx_InvalidNumber => k_is); (case cx_InvalidNumber => k_is); (case ox_InvalidNumber => k_is); (case lo_TooLarge => k_is); (case eo_TooLarge => decide +kernel); (case hx_TooLarge => k_is); (case ga_TooLarge => k_is); (case gt_TooLarge => k_is); (case sx_TooLarge => k_is); (case bx_TooLarge => k_is); (case ty_TooLarge => k_is); (case kx_TooLarge => k_is); (case nx_TooLarge => k_is); (case ix_TooLarge => k_is); (case tx_TooLarge => k_is); (case lx_TooLarge => k_is); (case cx_TooLarge => k_is); (case ox_TooLarge => k_is); (case a_is_integer => k_is); (case l_is_integer => k_is); (case c_is_integer => k_is); (case k_is_integer => k_is); (case a_is_at_least => k_is); (case l_is_at_least => k_is); (case c_is_at_least => k_is); (case k_is_at_least => k_is); (case a_is_stock => k_is); (case l_is_stock => k_is); (case c_is_stock => k_is); (case k_is_stock => k_is); (case a_require_stocks => k_is); (case l_require_stocks => k_is); (case c_require_stocks => k_is); (case k_require_stocks => k_is); (case a_require_few => k_is); (case l_require_few => k_is); (case c_require_few => k_is); (case k_require_few => k_is); (case a_arrangements => k_is); (case l_arrangements => k_is); (case c_arrangements => k_is); (case k_arrangements => k_is); (case a_Unlike_init => k_is); (case i_Unlike_init => k_is); (case l_Unlike_init => k_is); (case c_Unlike_init => k_is); (case k_Unlike_init => k_is); (case a_Unlike_ready => k_is); (case i_Unlike_ready => k_is); (case l_Unlike_ready => k_is); (case c_Unlike_ready => k_is); (case k_Unlike_ready => k_is); (case a_Unlike_after => k_is); (case i_Unlike_after => k_is); (case l_Unlike_after => k_is); (case c_Unlike_after => k_is); (case k_Unlike_after => k_is); (case a_Unlike_value => k_is); (case i_Unlike_value => k_is); (case l_Unlike_value => k_is); (case c_Unlike_value => k_is); (case k_Unlike_value => k_is); (case a_Unlike_best => k_is); (case i_Unlike_best => k_is); (case l_Unlike_best => k_is); (case c_Unlike_best => k_is); (case k_Unlike_best => k_is); (case a_Unlike_rows => k_is); (case i_Unlike_rows => k_is); (case l_Unlike_rows => k_is); (case c_Unlike_rows => k_is); (case k_Unlike_rows => k_is); (case a_unlike_levels => k_is); (case l_unlike_levels => k_is); (case c_unlike_levels => k_is); (case k_unlike_levels => k_is); (case a_best_orders => k_is); (case l_best_orders => k_is); (case c_best_orders => k_is); (case k_best_orders => k_is); (case a_unlike_table => k_is); (case l_unlike_table => k_is); (case c_unlike_table => k_is); (case k_unlike_table => k_is); (case a_law_mixed => k_is); (case l_law_mixed => k_is); (case c_law_mixed => k_is); (case k_law_mixed => k_is); (case a_law_source => k_is); (case l_law_source => k_is); (case c_law_source => k_is); (case k_law_source => k_is); (case a_law_take => k_is); (case l_law_take => k_is); (case c_law_take => k_is); (case k_law_take => k_is); (case a_law_one => k_is); (case l_law_one => k_is); (case c_law_one => k_is); (case k_law_one => k_is); (case a_law_stocks => k_is); (case l_law_stocks => k_is); (case c_law_stocks => k_is); (case k_law_stocks => k_is); (case a_law_usable => k_is); (case l_law_usable => k_is); (case c_law_usable => k_is); (case k_law_usable => k_is); (case a_law_arranged => k_is); (case l_law_arranged => k_is); (case c_law_arranged => k_is); (case k_law_arranged => k_is); (case a_law_hit => k_is); (case l_law_hit => k_is); (case c_law_hit => k_is); (case k_law_hit => k_is); (case a_law_worth => k_is); (case l_law_worth => k_is); (case c_law_worth => k_is); (case k_law_worth => k_is); (case a_law_most => k_is); (case l_law_most => k_is); (case c_law_most => k_is); (case k_law_most => k_is); (case a_law_followed => k_is); (case l_law_followed => k_is); (case c_law_followed => k_is); (case k_law_followed => k_is); (case a_law_is_row => k_is); (case l_law_is_row => k_is); (case c_law_is_row => k_is); (case k_law_is_row => k_is); (case a_law_table_due => k_is); (case l_law_table_due => k_is); (case c_law_table_due => k_is); (case k_law_table_due => k_is); (case a_law_right => k_is); (case l_law_right => k_is); (case c_law_right => k_is); (case k_law_right => k_is); (case a_law => k_is); (case l_law => k_is); (case c_law => k_is); (case k_law => k_is); (case v_MAX_PIECES => k_is); (case v_MAX_SORTS => k_is); (case z_bool => k_is); (case z_enumerate => k_is); (case z_int => k_is); (case z_isinstance => k_is); (case z_len => k_is); (case z_list => k_is); (case z_max => k_is); (case z_min => k_is); (case z_range => k_is); (case z_sorted => k_is); (case z_sum => k_is); (case z_tuple => k_is); (case z_zip => k_is)

