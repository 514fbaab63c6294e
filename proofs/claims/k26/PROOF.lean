import PyProof.Rows.All
import HandS.Conv
import HandS.Deep
import HandS.DictComp
import HandS.ExcOwn
import HandS.ForExc
import HandS.ForMost
import HandS.IsInst
import HandS.Iter
import HandS.Rev
import HandS.SetBool
import HandS.SetFor
import HandS.SortInts
import HandS.SortKw
import HandS.SortRule
import HandS.Style
import HandS.TupAny
import HandS.TupLe
import HandS.TupLen
import HandS.TupMul
import HandS.TupSets
import HandS.Wide
import KE.DataCmp
import KE.GoesEnum
import KE.GoesMore
import KE.GoesZip
import KE.KDictCopyH
import KE.KDictDisplayH
import KE.KDictKeyed
import KE.KDictPairs
import KE.KDictSum
import KE.KDictWalk
import KE.KDictZip
import KE.KTupSum
import KE.KeyNested
import KE.SortCalls
import KE.SortData
import OpenK.AllK
import PyProof.DictRoadsH
import PyProof.SetRoads
import PySem.Challenge.RW_breakrows_k26_groups_and_settled_days
import Wide.All
import Wide.FinOn
set_option Elab.async false
set_option linter.all false
set_option maxRecDepth 100000
set_option maxHeartbeats 1000000
/-! A layer of trees over the hand layer: values are trees D, what may be changed lies in a small store M of our own; each construct has a function that computes its result, and a theorem that the hand layer's reading follows from it. -/
namespace Bk
open PySem PySem.Spec PyProof.Rows L2

/-! ### data, the store, results -/
inductive D where
  | non | bl (b : Bool) | int (i : Int) | str (x : Str)
  | tup (xs : List D) | lst (xs : List D) | ref (k : Nat) | dct (ks vs : List D) | ptu (xs : List D)
inductive MO where
  | dead | lst (xs : List D) | obj (nm : Str) (fs : List (Str × D)) | dct (ks vs : List D) | dki (kvs : List (Int × D))
inductive R (α : Type) where
  | ok (a : α) (M : List MO) | exc (c : Nat) (d : D) (M : List MO) | bad
def R.bind {α β : Type} (r : R α) (f : α → List MO → R β) : R β := match r with
  | .ok a M => f a M
  | .exc c d M => .exc c d M
  | .bad => .bad
abbrev Env := List (Option D)
abbrev GE := Env → List MO → R D
abbrev GT := Env → List MO → R Bool
abbrev GA := Env → List MO → R (List D)
inductive RS where
  | nx (Γ : Env) (M : List MO) | rt (d : D) (M : List MO) | bk (Γ : Env) (M : List MO) | ct (Γ : Env) (M : List MO)
  | exc (c : Nat) (d : D) (Γ : Env) (M : List MO) | bad
abbrev GS := Env → List MO → RS

/-- a list, tracked or written, and no more than that -/
def ExL (K : PySem.W.Frag) (H : Hp) (a : Addr) (xs : List V) : Prop :=
  Rd H a (.lst xs) ∨ ∃ (its : Array Value) (m : Nat), K.lookup a = some { cls := .type "list", data := .seq its m } ∧ its.size ≤ sizeLine ∧ Vals xs its.toList
theorem ExL.sq {K : PySem.W.Frag} {H : Hp} {a : Addr} {xs : List V} : ExL K H a xs → SqL K H a xs
  | .inl h => .inl h
  | .inr ⟨its, m, h1, h2, h3⟩ => .inr ⟨_, its, m, h1, rfl, rfl, rfl, h2, h3⟩
theorem ExL.at_ {X : Cx} {pins : List (Addr × Obj)} {σ : L2.St} {H : Hp} {s : Shared} {a : Addr} {xs : List V} (I : Inv X pins σ H s) (h : ExL X.K H a xs) : ∃ (its : List Value) (m : Nat), Vals xs its ∧ s.heap.get? a = some { cls := .type "list", data := .seq its.toArray m } ∧ xs.length ≤ sizeLine := by
  rcases h with h | ⟨its, m, h1, h2, h3⟩
  · obtain ⟨z, its, m, r, e⟩ := h.ok I.hok
    exact ⟨its, m, r, e, z⟩
  · refine ⟨its.toList, m, h3, by simpa using I.kIn a _ h1, ?_⟩
    have e := h3.length
    rw [Array.length_toList] at e
    exact Nat.le_trans (Nat.le_of_eq e) h2
/-! dicts: their keys nested tuples of whole numbers and None -/
section
variable (K : PySem.W.Frag) (Z : Hp)
mutual
inductive KeyV : NestedKey → V → Prop
  | non : KeyV .none .non
  | int (i : Int) : KeyV (.num i) (.int i)
  | tup {ks : List NestedKey} {a : Addr} {xs : List V} : SqT K Z a xs → KeyVs ks xs → KeyV (.tup ks) (.ref a)
inductive KeyVs : List NestedKey → List V → Prop
  | nil : KeyVs [] []
  | cons {k : NestedKey} {v : V} {ks : List NestedKey} {vs : List V} : KeyV k v → KeyVs ks vs → KeyVs (k :: ks) (v :: vs)
end
/-- the entries of a dict: keys, where they stand, values -/
inductive Ents : List NestedKey → List V → List V → List DictEntry → Prop
  | nil : Ents [] [] [] []
  | cons {k : NestedKey} {y : V} {ku : Value} {v : V} {u : Value} {hs : Int} {ks : List NestedKey} {kv vs : List V} {es : List DictEntry} : KeyV K Z k y → RelV y ku → k.depth ≤ 8 → (∀ w : World, hs = k.hash w) → RelV v u → Ents ks kv vs es → Ents (k :: ks) (y :: kv) (v :: vs) (⟨hs, ku, u⟩ :: es)
end
/-- a tuple that is known to have no dict of its own -/
def PlT (Z : Hp) (a : Addr) (xs : List V) : Prop := ∃ o : Obj, Z a = some (.frz o (.tup xs)) ∧ o.dict = none
theorem PlT.sq {K : PySem.W.Frag} {Z : Hp} {a : Addr} {xs : List V} : PlT Z a xs → SqT K Z a xs
  | ⟨o, h, _⟩ => .inl (.inr ⟨o, h⟩)
def dnO (a : Addr) (es : Array DictEntry) (ep : Nat) : HO := .ext fun h => ∃ o, h.get? a = some o ∧ o.ExactDict ∧ o.data = .dict es ep
/-- all keys are objects -/
def AllRef (ks : List V) : Prop := ∀ x ∈ ks, ∃ b, x = V.ref b
/-- a dict that stands at a and may change: its keys lean on what is frozen -/
def DR (K : PySem.W.Frag) (H Z : Hp) (a : Addr) (nks : List NestedKey) (ks vs : List V) : Prop := ∃ (es : Array DictEntry) (ep : Nat), H a = some (dnO a es ep) ∧ (a == sysModules) = false ∧ ks.length ≤ sizeLine ∧ nks.Nodup ∧ Ents K Z nks ks vs es.toList
/-- a dict that stands at a -/
def ExD (K : PySem.W.Frag) (Z : Hp) (a : Addr) (nks : List NestedKey) (ks vs : List V) : Prop := ∃ (es : Array DictEntry) (ep : Nat), Z a = some (dnO a es ep) ∧ (a == sysModules) = false ∧ ks.length ≤ sizeLine ∧ nks.Nodup ∧ Ents K Z nks ks vs es.toList
section
variable (K : PySem.W.Frag) (Z : Hp) (ι : Nat → Addr) (n : Nat)
mutual
inductive Rp : D → V → Prop
  | non : Rp .non .non
  | bl (b : Bool) : Rp (.bl b) (.bl b)
  | int (i : Int) : Rp (.int i) (.int i)
  | str (x : Str) : Rp (.str x) (.str x)
  | tup {ds : List D} {a : Addr} {xs : List V} : SqT K Z a xs → Rps ds xs → Rp (.tup ds) (.ref a)
  | lst {ds : List D} {a : Addr} {xs : List V} : ExL K Z a xs → Rps ds xs → Rp (.lst ds) (.ref a)
  | ref {k : Nat} : k < n → Rp (.ref k) (.ref (ι k))
  | dct {ks vs : List D} {a : Addr} {nks : List NestedKey} {kx xs : List V} : ExD K Z a nks kx xs → Rps ks kx → Rps vs xs → Rp (.dct ks vs) (.ref a)
  | ptu {ds : List D} {a : Addr} {xs : List V} : PlT Z a xs → Rps ds xs → Rp (.ptu ds) (.ref a)
inductive Rps : List D → List V → Prop
  | nil : Rps [] []
  | cons {d : D} {v : V} {ds : List D} {vs : List V} : Rp d v → Rps ds vs → Rps (d :: ds) (v :: vs)
end
end

abbrev Sub (Z Z' : Hp) : Prop := ∀ a o, Z a = some o → Z' a = some o
theorem subL {K : PySem.W.Frag} {Z Z' : Hp} (h : Sub Z Z') {a : Addr} {xs : List V} : ExL K Z a xs → ExL K Z' a xs
  | .inl (.inl e) => .inl (.inl (h _ _ e))
  | .inl (.inr ⟨o, e⟩) => .inl (.inr ⟨o, h _ _ e⟩)
  | .inr q => .inr q
theorem subT {K : PySem.W.Frag} {Z Z' : Hp} (h : Sub Z Z') {a : Addr} {xs : List V} : SqT K Z a xs → SqT K Z' a xs
  | .inl (.inl e) => .inl (.inl (h _ _ e))
  | .inl (.inr ⟨o, e⟩) => .inl (.inr ⟨o, h _ _ e⟩)
  | .inr q => .inr q

section
variable {K : PySem.W.Frag} {Z Z' : Hp}
mutual
theorem KeyV.sub (hz : Sub Z Z') : ∀ (k : NestedKey) (v : V), KeyV K Z k v → KeyV K Z' k v
  | .none, _, h => by cases h; exact .non
  | .num i, _, h => by cases h; exact .int i
  | .text x, _, h => by cases h
  | .tup ks, _, h => by
    cases h with
    | tup s r => exact .tup (subT hz s) (KeyVs.sub hz ks _ r)
theorem KeyVs.sub (hz : Sub Z Z') : ∀ (ks : List NestedKey) (vs : List V), KeyVs K Z ks vs → KeyVs K Z' ks vs
  | [], _, h => by cases h; exact .nil
  | k :: ks, _, h => by
    cases h with
    | cons r s => exact .cons (KeyV.sub hz k _ r) (KeyVs.sub hz ks _ s)
end
theorem Ents.sub (hz : Sub Z Z') : ∀ {ks : List NestedKey} {kv vs : List V} {es : List DictEntry}, Ents K Z ks kv vs es → Ents K Z' ks kv vs es
  | _, _, _, _, .nil => .nil
  | _, _, _, _, .cons a y b c d e => .cons (KeyV.sub hz _ _ a) y b c d (Ents.sub hz e)
theorem subD (hz : Sub Z Z') {a : Addr} {nks : List NestedKey} {ks vs : List V} : ExD K Z a nks ks vs → ExD K Z' a nks ks vs
  | ⟨es, ep, h1, h2, h3, h4, h5⟩ => ⟨es, ep, hz _ _ h1, h2, h3, h4, h5.sub hz⟩
end

section
variable {K : PySem.W.Frag} {Z Z' : Hp} {ι ι' : Nat → Addr} {n n' : Nat}
mutual
theorem Rp.mono (hz : Sub Z Z') (hi : ∀ k, k < n → ι' k = ι k) (hn : n ≤ n') : ∀ (d : D) (v : V), Rp K Z ι n d v → Rp K Z' ι' n' d v
  | .non, _, h => by cases h; exact .non
  | .bl b, _, h => by cases h; exact .bl b
  | .int i, _, h => by cases h; exact .int i
  | .str x, _, h => by cases h; exact .str x
  | .tup ds, _, h => by
    cases h with
    | tup s r => exact .tup (subT hz s) (Rps.mono hz hi hn ds _ r)
  | .lst ds, _, h => by
    cases h with
    | lst s r => exact .lst (subL hz s) (Rps.mono hz hi hn ds _ r)
  | .ref k, _, h => by
    cases h with
    | ref q => rw [← hi k q]; exact .ref (Nat.lt_of_lt_of_le q hn)
  | .dct ks vs, _, h => by
    cases h with
    | dct s r t => exact .dct (subD hz s) (Rps.mono hz hi hn ks _ r) (Rps.mono hz hi hn vs _ t)
  | .ptu ds, _, h => by
    cases h with
    | ptu s r => exact .ptu (let ⟨o, a, b⟩ := s; ⟨o, hz _ _ a, b⟩) (Rps.mono hz hi hn ds _ r)
theorem Rps.mono (hz : Sub Z Z') (hi : ∀ k, k < n → ι' k = ι k) (hn : n ≤ n') : ∀ (ds : List D) (vs : List V), Rps K Z ι n ds vs → Rps K Z' ι' n' ds vs
  | [], _, h => by cases h; exact .nil
  | d :: ds, _, h => by
    cases h with
    | cons r s => exact .cons (Rp.mono hz hi hn d _ r) (Rps.mono hz hi hn ds _ s)
end
theorem Rps.length : ∀ {ds : List D} {vs : List V}, Rps K Z ι n ds vs → ds.length = vs.length
  | [], _, h => by cases h; rfl
  | _ :: _, _, h => by
    cases h with
    | cons _ s => rw [List.length_cons, List.length_cons, Rps.length s]
theorem Rps.get : ∀ {ds : List D} {vs : List V} {i : Nat} {d : D}, Rps K Z ι n ds vs → ds[i]? = some d → ∃ v, vs[i]? = some v ∧ Rp K Z ι n d v
  | [], _, _, _, _, e => by simp at e
  | _ :: _, _, 0, _, h, e => by
    cases h with
    | cons r _ =>
      simp at e
      subst e
      exact ⟨_, rfl, r⟩
  | _ :: _, _, i + 1, _, h, e => by
    cases h with
    | cons _ s =>
      obtain ⟨v, h1, h2⟩ := Rps.get s (i := i) (by simpa using e)
      exact ⟨v, by simpa using h1, h2⟩
theorem Rps.append : ∀ {ds es : List D} {vs us : List V}, Rps K Z ι n ds vs → Rps K Z ι n es us → Rps K Z ι n (ds ++ es) (vs ++ us)
  | [], _, _, _, h, q => by cases h; exact q
  | _ :: _, _, _, _, h, q => by
    cases h with
    | cons r s => exact .cons r (Rps.append s q)
theorem Rps.set : ∀ {ds : List D} {vs : List V} {d : D} {v : V} (i : Nat), Rps K Z ι n ds vs → Rp K Z ι n d v → Rps K Z ι n (ds.set i d) (vs.set i v)
  | [], _, _, _, _, h, _ => by cases h; exact .nil
  | _ :: _, _, _, _, 0, h, q => by
    cases h with
    | cons _ s => exact .cons q s
  | _ :: _, _, _, _, i + 1, h, q => by
    cases h with
    | cons r s => exact .cons r (Rps.set i s q)
theorem Rps.take : ∀ {ds : List D} {vs : List V} (i : Nat), Rps K Z ι n ds vs → Rps K Z ι n (ds.take i) (vs.take i)
  | _, _, 0, _ => by rw [List.take_zero, List.take_zero]; exact .nil
  | [], _, _ + 1, h => by cases h; exact .nil
  | _ :: _, _, i + 1, h => by
    cases h with
    | cons r s => exact .cons r (Rps.take i s)
theorem Rps.drop : ∀ {ds : List D} {vs : List V} (i : Nat), Rps K Z ι n ds vs → Rps K Z ι n (ds.drop i) (vs.drop i)
  | _, _, 0, h => h
  | [], _, _ + 1, h => by cases h; exact .nil
  | _ :: _, _, i + 1, h => by
    cases h with
    | cons r s => exact Rps.drop i s
theorem Rps.erase : ∀ {ds : List D} {vs : List V} (i : Nat), Rps K Z ι n ds vs → Rps K Z ι n (ds.eraseIdx i) (vs.eraseIdx i)
  | [], _, _, h => by cases h; exact .nil
  | _ :: _, _, 0, h => by
    cases h with
    | cons r s => exact s
  | _ :: _, _, i + 1, h => by
    cases h with
    | cons r s => exact .cons r (Rps.erase i s)
theorem Rps.rep {ds : List D} {vs : List V} (h : Rps K Z ι n ds vs) : ∀ k : Nat, Rps K Z ι n (List.replicate k ds).flatten (List.replicate k vs).flatten
  | 0 => .nil
  | k + 1 => by
    rw [List.replicate_succ, List.replicate_succ, List.flatten_cons, List.flatten_cons]
    exact h.append (Rps.rep h k)
theorem Rps.rev : ∀ {ds : List D} {vs : List V}, Rps K Z ι n ds vs → Rps K Z ι n ds.reverse vs.reverse
  | [], _, h => by cases h; exact .nil
  | _ :: _, _, h => by
    cases h with
    | cons r s =>
      rw [List.reverse_cons, List.reverse_cons]
      exact (Rps.rev s).append (.cons r .nil)
theorem Rps.ints : ∀ {is : List Int} {vs : List V}, Rps K Z ι n (is.map D.int) vs → vs = is.map V.int
  | [], _, h => by cases h; rfl
  | _ :: _, _, h => by
    cases h with
    | cons r s =>
      cases r
      rw [List.map_cons, Rps.ints s]
theorem Rps.of_ints : ∀ (is : List Int), Rps K Z ι n (is.map D.int) (is.map V.int)
  | [] => .nil
  | i :: is => .cons (.int i) (Rps.of_ints is)
end

/-! refs below a bound -/
mutual
def below (m : Nat) : D → Bool
  | .tup ds => belows m ds
  | .lst ds => belows m ds
  | .ref k => decide (k < m)
  | .dct ks vs => belows m ks && belows m vs
  | .ptu ds => belows m ds
  | _ => true
def belows (m : Nat) : List D → Bool
  | [] => true
  | d :: ds => below m d && belows m ds
end
section
variable {K : PySem.W.Frag} {Z : Hp} {ι : Nat → Addr} {n m : Nat}
mutual
theorem Rp.shrink : ∀ (d : D) (v : V), Rp K Z ι n d v → below m d = true → Rp K Z ι m d v
  | .non, _, h, _ => by cases h; exact .non
  | .bl b, _, h, _ => by cases h; exact .bl b
  | .int i, _, h, _ => by cases h; exact .int i
  | .str x, _, h, _ => by cases h; exact .str x
  | .tup ds, _, h, b => by
    cases h with
    | tup s r => exact .tup s (Rps.shrink ds _ r (by simpa [below] using b))
  | .lst ds, _, h, b => by
    cases h with
    | lst s r => exact .lst s (Rps.shrink ds _ r (by simpa [below] using b))
  | .ref k, _, h, b => by
    cases h with
    | ref q => exact .ref (by simpa [below] using b)
  | .dct ks vs, _, h, b => by
    cases h with
    | dct s r t =>
      have b' : (belows m ks && belows m vs) = true := b
      rw [Bool.and_eq_true] at b'
      exact .dct s (Rps.shrink ks _ r b'.1) (Rps.shrink vs _ t b'.2)
  | .ptu ds, _, h, b => by
    cases h with
    | ptu s r => exact .ptu s (Rps.shrink ds _ r (by simpa [below] using b))
theorem Rps.shrink : ∀ (ds : List D) (vs : List V), Rps K Z ι n ds vs → belows m ds = true → Rps K Z ι m ds vs
  | [], _, h, _ => by cases h; exact .nil
  | d :: ds, _, h, b => by
    cases h with
    | cons r s =>
      simp only [belows, Bool.and_eq_true] at b
      exact .cons (Rp.shrink d _ r b.1) (Rps.shrink ds _ s b.2)
end
end

/-! ### the heap holds the store -/
def belowO (m : Nat) : MO → Bool
  | .dead => true
  | .lst ds => belows m ds
  | .obj _ fs => belows m (fs.map (·.2))
  | .dct ks vs => belows m ks && belows m vs
  | .dki kvs => belows m (kvs.map (·.2))
def OR (K : PySem.W.Frag) (H Z : Hp) (ι : Nat → Addr) (n : Nat) : MO → Addr → Prop
  | .dead, _ => True
  | .lst ds, a => ∃ xs, H a = some (.lst xs) ∧ Rps K Z ι n ds xs
  | .obj nm fs, a => ∃ C dx gs, PySem.W.nsIn K mainGlobals nm = some (some (.ref C)) ∧ H a = some (.ins C dx gs) ∧ gs.map (·.1) = fs.map (·.1) ∧ Rps K Z ι n (fs.map (·.2)) (gs.map (·.2))
  | .dct ks vs, a => ∃ nks kx xs, DR K H Z a nks kx xs ∧ Rps K Z ι n ks kx ∧ Rps K Z ι n vs xs
  | .dki kvs, a => ∃ gs : List (L2.Key × V), H a = some (.dK gs) ∧ gs.map (·.1) = kvs.map (fun p => Sum.inl p.1) ∧ Rps K Z ι n (kvs.map (·.2)) (gs.map (·.2))
section
variable {K : PySem.W.Frag} {H Z : Hp} {ι : Nat → Addr} {n : Nat}
theorem OR.mono {Z' : Hp} {ι' : Nat → Addr} {n' : Nat} {H' : Hp} {u : MO} {a : Addr} (hz : Sub Z Z') (hi : ∀ k, k < n → ι' k = ι k) (hn : n ≤ n') (hh : ∀ o, H a = some o → H' a = some o) (h : OR K H Z ι n u a) : OR K H' Z' ι' n' u a := by
  cases u with
  | dead => trivial
  | lst ds =>
    obtain ⟨xs, e1, r⟩ := h
    exact ⟨xs, hh _ e1, Rps.mono hz hi hn _ _ r⟩
  | obj nm fs =>
    obtain ⟨C, dx, gs, e0, e1, e2, r⟩ := h
    exact ⟨C, dx, gs, e0, hh _ e1, e2, Rps.mono hz hi hn _ _ r⟩
  | dct ks vs =>
    obtain ⟨nks, kx, xs, ⟨es, ep, h1, h2, h3, h4, h5⟩, r, q⟩ := h
    exact ⟨nks, kx, xs, ⟨es, ep, hh _ h1, h2, h3, h4, h5.sub hz⟩, Rps.mono hz hi hn _ _ r, Rps.mono hz hi hn _ _ q⟩
  | dki kvs =>
    obtain ⟨gs, e1, e2, r⟩ := h
    exact ⟨gs, hh _ e1, e2, Rps.mono hz hi hn _ _ r⟩
theorem OR.shrink {u : MO} {a : Addr} {m : Nat} (h : OR K H Z ι n u a) (b : belowO m u = true) : OR K H Z ι m u a := by
  cases u with
  | dead => trivial
  | lst ds =>
    obtain ⟨xs, e1, r⟩ := h
    exact ⟨xs, e1, Rps.shrink _ _ r b⟩
  | obj nm fs =>
    obtain ⟨C, dx, gs, e0, e1, e2, r⟩ := h
    exact ⟨C, dx, gs, e0, e1, e2, Rps.shrink _ _ r b⟩
  | dct ks vs =>
    obtain ⟨nks, kx, xs, d, r, q⟩ := h
    have b' : (belows m ks && belows m vs) = true := b
    rw [Bool.and_eq_true] at b'
    exact ⟨nks, kx, xs, d, Rps.shrink _ _ r b'.1, Rps.shrink _ _ q b'.2⟩
  | dki kvs =>
    obtain ⟨gs, e1, e2, r⟩ := h
    exact ⟨gs, e1, e2, Rps.shrink _ _ r b⟩
/-- what leans on nothing of ours -/
theorem OR.low {ι' : Nat → Addr} {n' : Nat} {u : MO} {a : Addr} (h : OR K H Z ι n u a) (b : belowO 0 u = true) : OR K H Z ι' n' u a :=
  OR.mono (fun _ _ z => z) (fun _ z => absurd z (Nat.not_lt_zero _)) (Nat.zero_le _) (fun _ z => z) (h.shrink b)
end
structure HR (K : PySem.W.Frag) (H Z : Hp) (ι : Nat → Addr) (M : List MO) : Prop where
  sub : Sub Z H
  ali : ∀ k, k < M.length → ∃ o, H (ι k) = some o
  sep : ∀ (k : Nat) (o : MO), M[k]? = some o → o ≠ .dead → Z (ι k) = none
  inj : ∀ (j k : Nat) (o u : MO), M[j]? = some o → M[k]? = some u → o ≠ .dead → u ≠ .dead → ι j = ι k → j = k
  obj : ∀ (k : Nat) (o : MO), M[k]? = some o → OR K H Z ι M.length o (ι k)
  ded : ∀ (k : Nat), M[k]? = some .dead → ∃ o, Z (ι k) = some o
theorem HR.apart {K : PySem.W.Frag} {H Z : Hp} {ι : Nat → Addr} {M : List MO} (h : HR K H Z ι M) {j k : Nat} {o : MO} (hj : j < M.length) (hk : M[k]? = some o) (d : o ≠ .dead) (ne : j ≠ k) : ι j ≠ ι k := fun e => by
  have ej : M[j]? = some M[j] := List.getElem?_eq_getElem hj
  by_cases dj : M[j] = .dead
  · rw [dj] at ej
    obtain ⟨u, hu⟩ := h.ded j ej
    rw [e, h.sep k o hk d] at hu
    cases hu
  · exact ne (h.inj j k _ o ej hk dj d e)
structure Ext (H Z : Hp) (ι : Nat → Addr) (n : Nat) (H' Z' : Hp) (ι' : Nat → Addr) (n' : Nat) : Prop where
  zz : Sub Z Z'
  ii : ∀ k, k < n → ι' k = ι k
  fr : ∀ a o, H a = some o → (∀ k, k < n → a ≠ ι k) → H' a = some o
  nw : ∀ k, n ≤ k → k < n' → H (ι' k) = none
  ln : n ≤ n'
  zn : ∀ a o, Z' a = some o → Z a = some o ∨ H a = none ∨ ∃ k, k < n ∧ a = ι k
theorem Ext.refl {H Z : Hp} {ι : Nat → Addr} {n : Nat} : Ext H Z ι n H Z ι n :=
  ⟨fun _ _ h => h, fun _ _ => rfl, fun _ _ h _ => h, fun k h1 h2 => absurd h2 (Nat.not_lt.mpr h1), Nat.le_refl _, fun _ _ h => .inl h⟩
theorem Ext.trans {H Z H1 Z1 H2 Z2 : Hp} {ι ι1 ι2 : Nat → Addr} {n n1 n2 : Nat} (a : Ext H Z ι n H1 Z1 ι1 n1) (b : Ext H1 Z1 ι1 n1 H2 Z2 ι2 n2) (al : ∀ k, k < n1 → ∃ o, H1 (ι1 k) = some o) : Ext H Z ι n H2 Z2 ι2 n2 where
  zz := fun x o h => b.zz x o (a.zz x o h)
  ii := fun k h => (b.ii k (Nat.lt_of_lt_of_le h a.ln)).trans (a.ii k h)
  fr := fun x o h hk => by
    refine b.fr x o (a.fr x o h hk) fun k hk1 e => ?_
    by_cases hn : k < n
    · exact hk k hn (e.trans (a.ii k hn))
    · have q := a.nw k (Nat.le_of_not_lt hn) hk1
      rw [← e, h] at q
      cases q
  nw := fun k h1 h2 => by
    by_cases hn : k < n1
    · rw [b.ii k hn]
      exact a.nw k h1 hn
    · have q := b.nw k (Nat.le_of_not_lt hn) h2
      cases e : H (ι2 k) with
      | none => rfl
      | some o =>
        by_cases z : ∀ j, j < n → ι2 k ≠ ι j
        · rw [a.fr _ _ e z] at q
          cases q
        · exfalso
          apply z
          intro j hj ej
          obtain ⟨u, hu⟩ := al j (Nat.lt_of_lt_of_le hj a.ln)
          rw [a.ii j hj, ← ej, q] at hu
          cases hu
  ln := Nat.le_trans a.ln b.ln
  zn := fun x o h => by
    have low : ∀ u, H1 x = none → H x = some u → ∃ k, k < n ∧ x = ι k := fun u h1 hu => by
      refine Classical.byContradiction fun z => ?_
      rw [a.fr x u hu fun k hk e => z ⟨k, hk, e⟩] at h1
      cases h1
    have fin : H1 x = none → Z x = some o ∨ H x = none ∨ ∃ k, k < n ∧ x = ι k := fun h1 => by
      cases e : H x with
      | none => exact .inr (.inl rfl)
      | some u => exact .inr (.inr (low u h1 e))
    rcases b.zn x o h with h | h | ⟨k, hk, e⟩
    · exact a.zn x o h
    · exact fin h
    · by_cases hn : k < n
      · exact .inr (.inr ⟨k, hn, e.trans (a.ii k hn)⟩)
      · exact .inr (.inl (by rw [e]; exact a.nw k (Nat.le_of_not_lt hn) hk))
/-- the store is cut -/
theorem Ext.cut {H Z H1 Z1 : Hp} {ι ι1 : Nat → Addr} {n n1 m : Nat} (a : Ext H Z ι n H1 Z1 ι1 n1) (h1 : n ≤ m) (h2 : m ≤ n1) : Ext H Z ι n H1 Z1 ι1 m :=
  ⟨a.zz, a.ii, a.fr, fun k q1 q2 => a.nw k q1 (Nat.lt_of_lt_of_le q2 h2), h1, a.zn⟩
section
variable {K : PySem.W.Frag} {H Z H' Z' : Hp} {ι ι' : Nat → Addr} {M : List MO} {n' : Nat}
theorem Rp.ext {d : D} {v : V} {n : Nat} (r : Rp K Z ι n d v) (e : Ext H Z ι n H' Z' ι' n') : Rp K Z' ι' n' d v := Rp.mono e.zz e.ii e.ln d v r
theorem Rps.ext {ds : List D} {vs : List V} {n : Nat} (r : Rps K Z ι n ds vs) (e : Ext H Z ι n H' Z' ι' n') : Rps K Z' ι' n' ds vs := Rps.mono e.zz e.ii e.ln ds vs r
/-- a new thing that will not be changed -/
theorem HR.frozen (h : HR K H Z ι M) {p : Addr} {o : HO} (hp : H p = none) : HR K (upd H p o) (upd Z p o) ι M ∧ Ext H Z ι M.length (upd H p o) (upd Z p o) ι M.length := by
  have zp : Z p = none := by
    cases e : Z p with
    | none => rfl
    | some u =>
      rw [h.sub _ _ e] at hp
      cases hp
  have ne : ∀ k, k < M.length → ι k ≠ p := fun k hk e => by
    obtain ⟨u, hu⟩ := h.ali k hk
    rw [e, hp] at hu
    cases hu
  have lt : ∀ {k : Nat} {u : MO}, M[k]? = some u → k < M.length := fun e => (List.getElem?_eq_some_iff.mp e).1
  have s1 : Sub Z (upd Z p o) := fun a u e => by rw [upd_ne (ne_of_none e zp)]; exact e
  refine ⟨⟨fun a u e => ?_, fun k hk => ?_, fun k u e d => ?_, h.inj, fun k u e => ?_, fun k e => ?_⟩, s1, fun _ _ => rfl, fun a u e _ => ?_, fun k h1 h2 => absurd h2 (Nat.not_lt.mpr h1), Nat.le_refl _, fun a u e => ?_⟩
  · by_cases ha : a = p
    · subst ha
      rw [upd_same] at e ⊢
      exact e
    · rw [upd_ne ha] at e ⊢
      exact h.sub _ _ e
  · rw [upd_ne (ne k hk)]
    exact h.ali k hk
  · rw [upd_ne (ne k (lt e))]
    exact h.sep k u e d
  · exact OR.mono s1 (fun _ _ => rfl) (Nat.le_refl _) (fun o z => by rw [upd_ne (ne k (lt e))]; exact z) (h.obj k u e)
  · obtain ⟨u, hu⟩ := h.ded k e
    exact ⟨u, s1 _ _ hu⟩
  · rw [upd_ne (ne_of_none e hp)]
    exact e
  · by_cases ha : a = p
    · subst ha
      exact .inr (.inl hp)
    · rw [upd_ne ha] at e
      exact .inl e
def put (ι : Nat → Addr) (m : Nat) (p : Addr) : Nat → Addr := fun k => if k = m then p else ι k
theorem put_at {ι : Nat → Addr} {m : Nat} {p : Addr} : put ι m p m = p := if_pos rfl
theorem put_lt {ι : Nat → Addr} {m k : Nat} {p : Addr} (h : k < m) : put ι m p k = ι k := if_neg (Nat.ne_of_lt h)
/-- a new thing of ours -/
theorem HR.owned (h : HR K H Z ι M) {p : Addr} {ds : List D} {xs : List V} (hp : H p = none) (r : Rps K Z ι M.length ds xs) :
    HR K (upd H p (.lst xs)) Z (put ι M.length p) (M ++ [.lst ds]) ∧ Ext H Z ι M.length (upd H p (.lst xs)) Z (put ι M.length p) (M ++ [MO.lst ds]).length := by
  have zp : Z p = none := by
    cases e : Z p with
    | none => rfl
    | some u =>
      rw [h.sub _ _ e] at hp
      cases hp
  have ne : ∀ k, k < M.length → ι k ≠ p := fun k hk e => by
    obtain ⟨u, hu⟩ := h.ali k hk
    rw [e, hp] at hu
    cases hu
  have ii : ∀ k, k < M.length → (put ι M.length p) k = ι k := fun k hk => put_lt hk
  have il : (put ι M.length p) M.length = p := put_at
  have cs : ∀ {k : Nat} {u : MO}, (M ++ [MO.lst ds])[k]? = some u → (k < M.length ∧ M[k]? = some u) ∨ (k = M.length ∧ u = .lst ds) := fun {k u} e => by
    by_cases hk : k < M.length
    · rw [List.getElem?_append_left hk] at e
      exact .inl ⟨hk, e⟩
    · rw [List.getElem?_append_right (Nat.le_of_not_lt hk)] at e
      by_cases hz : k - M.length = 0
      · rw [hz] at e
        exact .inr ⟨by omega, (Option.some.inj e).symm⟩
      · rw [List.getElem?_eq_none (by simp; omega)] at e
        cases e
  have ln : (M ++ [MO.lst ds]).length = M.length + 1 := by simp
  refine ⟨⟨fun a u e => ?_, fun k hk => ?_, fun k u e d => ?_, fun j k o u e1 e2 d1 d2 e => ?_, fun k u e => ?_, fun k e => ?_⟩, fun _ _ e => e, ii, fun a u e _ => ?_, fun k h1 h2 => ?_, by rw [ln]; omega, fun _ _ e => .inl e⟩
  · rw [upd_ne (ne_of_none e zp)]
    exact h.sub _ _ e
  · rw [ln] at hk
    by_cases hk' : k < M.length
    · rw [ii k hk', upd_ne (ne k hk')]
      exact h.ali k hk'
    · have : k = M.length := by omega
      subst this
      exact ⟨_, by rw [il, upd_same]⟩
  · rcases cs e with ⟨hk, e⟩ | ⟨rfl, rfl⟩
    · rw [ii k hk]
      exact h.sep k u e d
    · rw [il]
      exact zp
  · rcases cs e1 with ⟨hj, e1⟩ | ⟨rfl, rfl⟩ <;> rcases cs e2 with ⟨hk, e2⟩ | ⟨rfl, rfl⟩
    · rw [ii j hj, ii k hk] at e
      exact h.inj j k o u e1 e2 d1 d2 e
    · rw [ii j hj, il] at e
      exact absurd e (ne j hj)
    · rw [ii k hk, il] at e
      exact absurd e.symm (ne k hk)
    · rfl
  · rcases cs e with ⟨hk, e⟩ | ⟨rfl, rfl⟩
    · rw [ii k hk]
      exact OR.mono (fun _ _ z => z) ii (by rw [ln]; omega) (fun o z => by rw [upd_ne (ne k hk)]; exact z) (h.obj k u e)
    · rw [il]
      exact ⟨xs, upd_same, Rps.mono (fun _ _ z => z) ii (by rw [ln]; omega) _ _ r⟩
  · rcases cs e with ⟨hk, e⟩ | ⟨_, e⟩
    · rw [ii k hk]
      exact h.ded k e
    · cases e
  · rw [upd_ne (ne_of_none e hp)]
    exact e
  · rw [ln] at h2
    have : k = M.length := by omega
    subst this
    rw [il]
    exact hp
/-- one of ours is changed -/
theorem HR.change (h : HR K H Z ι M) {j : Nat} {es ds : List D} {xs : List V} (hj : M[j]? = some (.lst es)) (r : Rps K Z ι M.length ds xs) :
    HR K (upd H (ι j) (.lst xs)) Z ι (M.set j (.lst ds)) ∧ Ext H Z ι M.length (upd H (ι j) (.lst xs)) Z ι (M.set j (.lst ds)).length := by
  have lt : j < M.length := (List.getElem?_eq_some_iff.mp hj).1
  have ln : (M.set j (MO.lst ds)).length = M.length := List.length_set
  have zj : Z (ι j) = none := h.sep j _ hj (by simp)
  have cs : ∀ {k : Nat} {u : MO}, (M.set j (.lst ds))[k]? = some u → (k ≠ j ∧ M[k]? = some u) ∨ (k = j ∧ u = .lst ds) := fun {k u} e => by
    by_cases hk : k = j
    · subst hk
      rw [List.getElem?_set_self lt] at e
      exact .inr ⟨rfl, (Option.some.inj e).symm⟩
    · rw [List.getElem?_set_ne (Ne.symm hk)] at e
      exact .inl ⟨hk, e⟩
  have apart : ∀ {k : Nat} {u : MO}, k ≠ j → M[k]? = some u → u ≠ .dead → ι k ≠ ι j := fun {k u} hk e d z => hk (h.inj k j u _ e hj d (by simp) z)
  refine ⟨⟨fun a u e => ?_, fun k hk => ?_, fun k u e d => ?_, fun a b o u e1 e2 d1 d2 e => ?_, fun k u e => ?_, fun k e => ?_⟩, fun _ _ e => e, fun _ _ => rfl, fun a u e z => ?_, fun k h1 h2 => absurd h2 (by rw [ln]; exact Nat.not_lt.mpr h1), by rw [ln]; exact Nat.le_refl _, fun _ _ e => .inl e⟩
  · rw [upd_ne (ne_of_none e zj)]
    exact h.sub _ _ e
  · rw [ln] at hk
    by_cases e : ι k = ι j
    · exact ⟨_, by rw [e, upd_same]⟩
    · rw [upd_ne e]
      exact h.ali k hk
  · rcases cs e with ⟨hk, e⟩ | ⟨rfl, rfl⟩
    · exact h.sep k u e d
    · exact zj
  · have live : ∀ {k : Nat} {u : MO}, (M.set j (.lst ds))[k]? = some u → u ≠ .dead → ∃ u', M[k]? = some u' ∧ u' ≠ .dead := fun {k u} e d => by
      rcases cs e with ⟨_, e⟩ | ⟨rfl, rfl⟩
      · exact ⟨u, e, d⟩
      · exact ⟨_, hj, by simp⟩
    obtain ⟨o', e1', d1'⟩ := live e1 d1
    obtain ⟨u', e2', d2'⟩ := live e2 d2
    exact h.inj a b o' u' e1' e2' d1' d2' e
  · rw [ln]
    rcases cs e with ⟨hk, e⟩ | ⟨rfl, rfl⟩
    · by_cases du : u = .dead
      · subst du
        trivial
      · exact OR.mono (fun _ _ z => z) (fun _ _ => rfl) (Nat.le_refl _) (fun o z => by rw [upd_ne (apart hk e du)]; exact z) (h.obj k u e)
    · exact ⟨xs, upd_same, r⟩
  · rcases cs e with ⟨_, e⟩ | ⟨_, e⟩
    · exact h.ded k e
    · cases e
  · rw [upd_ne (z j lt)]
    exact e
/-- one of ours will not be changed any more -/
theorem HR.freezeG (h : HR K H Z ι M) {j : Nat} {o : MO} {ho : HO} (hj : M[j]? = some o) (hd : o ≠ .dead) (e1 : H (ι j) = some ho) :
    HR K H (upd Z (ι j) ho) ι (M.set j .dead) ∧ Ext H Z ι M.length H (upd Z (ι j) ho) ι (M.set j MO.dead).length ∧ Sub Z (upd Z (ι j) ho) := by
  have lt : j < M.length := (List.getElem?_eq_some_iff.mp hj).1
  have ln : (M.set j MO.dead).length = M.length := List.length_set
  have zj : Z (ι j) = none := h.sep j _ hj hd
  have s1 : Sub Z (upd Z (ι j) ho) := fun a u e => by rw [upd_ne (ne_of_none e zj)]; exact e
  have cs : ∀ {k : Nat} {u : MO}, (M.set j .dead)[k]? = some u → u ≠ .dead → k ≠ j ∧ M[k]? = some u := fun {k u} e d => by
    by_cases hk : k = j
    · subst hk
      rw [List.getElem?_set_self lt] at e
      exact absurd (Option.some.inj e).symm d
    · rw [List.getElem?_set_ne (Ne.symm hk)] at e
      exact ⟨hk, e⟩
  refine ⟨⟨fun a u e => ?_, fun k hk => h.ali k (by rw [ln] at hk; exact hk), fun k u e d => ?_, fun a b o u q1 q2 d1 d2 e => ?_, fun k u e => ?_, fun k e => ?_⟩, ⟨s1, fun _ _ => rfl, fun a u e _ => e, fun k h1 h2 => absurd h2 (by rw [ln]; exact Nat.not_lt.mpr h1), by rw [ln]; exact Nat.le_refl _, fun a u e => ?_⟩, s1⟩
  · by_cases ha : a = ι j
    · subst ha
      rw [upd_same] at e
      cases e
      exact e1
    · rw [upd_ne ha] at e
      exact h.sub _ _ e
  · obtain ⟨hk, e⟩ := cs e d
    rw [upd_ne fun z => hk (h.inj k j u _ e hj d hd z)]
    exact h.sep k u e d
  · exact h.inj a b o u (cs q1 d1).2 (cs q2 d2).2 d1 d2 e
  · rw [ln]
    by_cases du : u = .dead
    · subst du
      trivial
    · exact OR.mono s1 (fun _ _ => rfl) (Nat.le_refl _) (fun _ z => z) (h.obj k u (cs e du).2)
  · by_cases hk : k = j
    · subst hk
      exact ⟨_, upd_same⟩
    · rw [List.getElem?_set_ne (Ne.symm hk)] at e
      obtain ⟨u, hu⟩ := h.ded k e
      exact ⟨u, s1 _ _ hu⟩
  · by_cases ha : a = ι j
    · exact .inr (.inr ⟨j, lt, ha⟩)
    · rw [upd_ne ha] at e
      exact .inl e
/-- a list of ours will not be changed any more -/
theorem HR.freeze (h : HR K H Z ι M) {j : Nat} {ds : List D} (hj : M[j]? = some (.lst ds)) :
    ∃ xs, Rps K Z ι M.length ds xs ∧ HR K H (upd Z (ι j) (.lst xs)) ι (M.set j .dead) ∧ Ext H Z ι M.length H (upd Z (ι j) (.lst xs)) ι (M.set j MO.dead).length ∧ Rp K (upd Z (ι j) (.lst xs)) ι (M.set j MO.dead).length (.lst ds) (.ref (ι j)) := by
  have ln : (M.set j MO.dead).length = M.length := List.length_set
  obtain ⟨xs, e1, r⟩ := h.obj j _ hj
  obtain ⟨a, b, s1⟩ := h.freezeG hj (by simp) e1
  refine ⟨xs, r, a, b, ?_⟩
  rw [ln]
  exact .lst (.inl (.inl upd_same)) (Rps.mono s1 (fun _ _ => rfl) (Nat.le_refl _) _ _ r)
/-- a dict of ours will not be changed any more -/
theorem HR.freezeD (h : HR K H Z ι M) {j : Nat} {ks vs : List D} (hj : M[j]? = some (.dct ks vs)) :
    ∃ ho, H (ι j) = some ho ∧ HR K H (upd Z (ι j) ho) ι (M.set j .dead) ∧ Ext H Z ι M.length H (upd Z (ι j) ho) ι (M.set j MO.dead).length ∧ Rp K (upd Z (ι j) ho) ι (M.set j MO.dead).length (.dct ks vs) (.ref (ι j)) := by
  have ln : (M.set j MO.dead).length = M.length := List.length_set
  obtain ⟨nks, kx, xs, ⟨es, ep, h1, h2, h3, h4, h5⟩, r, q⟩ := h.obj j _ hj
  obtain ⟨a, b, s1⟩ := h.freezeG hj (by simp) h1
  refine ⟨_, h1, a, b, ?_⟩
  rw [ln]
  exact .dct ⟨es, ep, upd_same, h2, h3, h4, h5.sub s1⟩ (Rps.mono s1 (fun _ _ => rfl) (Nat.le_refl _) _ _ r) (Rps.mono s1 (fun _ _ => rfl) (Nat.le_refl _) _ _ q)
end
/-- a cut: what is left leans on nothing that was cut off -/
def cutOk (m : Nat) (M : List MO) : Bool := (M.take m).all (belowO m)
theorem HR.cut {K : PySem.W.Frag} {H Z : Hp} {ι : Nat → Addr} {M : List MO} (h : HR K H Z ι M) {m : Nat} (hm : m ≤ M.length) (c : cutOk m M = true) : HR K H Z ι (M.take m) := by
  have ln : (M.take m).length = m := by rw [List.length_take]; omega
  have cs : ∀ {k : Nat} {u : MO}, (M.take m)[k]? = some u → M[k]? = some u ∧ belowO m u = true := fun {k u} e => by
    have lk : k < m := by
      have := (List.getElem?_eq_some_iff.mp e).1
      rw [ln] at this
      exact this
    have e' := e
    rw [List.getElem?_take_of_lt lk] at e'
    exact ⟨e', List.all_eq_true.mp c u (List.mem_of_getElem? e)⟩
  refine ⟨h.sub, fun k hk => h.ali k (by rw [ln] at hk; omega), fun k u e d => h.sep k u (cs e).1 d, fun a b o u e1 e2 d1 d2 e => h.inj a b o u (cs e1).1 (cs e2).1 d1 d2 e, fun k u e => ?_, fun k e => h.ded k (cs e).1⟩
  rw [ln]
  obtain ⟨e1, b⟩ := cs e
  exact (h.obj k u e1).shrink b
end Bk

set_option Elab.async false
set_option linter.all false
set_option maxRecDepth 100000
set_option maxHeartbeats 1000000
namespace Bk
open PySem PySem.Spec PyProof.Rows L2

/-! ### what is shown of a piece of syntax -/
abbrev St := L2.St
/-- the classes of errors: where each stands, and its one attribute -/
structure CT where
  at_ : Nat → Addr
  nm : Nat → Str
def ExcR (K : PySem.W.Frag) (C : CT) (H Z : Hp) (ι : Nat → Addr) (n c : Nat) (d : D) (cls : Value) (dd : Option Addr) : Prop :=
  cls = .ref (C.at_ c) ∧ ∃ a v, dd = some a ∧ H a = some (.xd [(C.nm c, v)]) ∧ Rp K Z ι n d v
def Slots (K : PySem.W.Frag) (Z : Hp) (ι : Nat → Addr) (n : Nat) (Γ : Env) (σ : St) : Prop :=
  Γ.length = σ.length ∧ ∀ (i : Nat) (d : D), Γ[i]? = some (some d) → ∃ v, σ[i]? = some (some v) ∧ Rp K Z ι n d v
theorem Slots.ext {K : PySem.W.Frag} {H Z H' Z' : Hp} {ι ι' : Nat → Addr} {n n' : Nat} {Γ : Env} {σ : St} (s : Slots K Z ι n Γ σ) (e : Ext H Z ι n H' Z' ι' n') : Slots K Z' ι' n' Γ σ :=
  ⟨s.1, fun i d h => let ⟨v, h1, h2⟩ := s.2 i d h; ⟨v, h1, h2.ext e⟩⟩
theorem Slots.set {K : PySem.W.Frag} {Z : Hp} {ι : Nat → Addr} {n : Nat} {Γ : Env} {σ : St} (s : Slots K Z ι n Γ σ) (i : Nat) {d : D} {v : V} (r : Rp K Z ι n d v) : Slots K Z ι n (Γ.set i (some d)) (σ.set i (some v)) := by
  refine ⟨by rw [List.length_set, List.length_set]; exact s.1, fun j e h => ?_⟩
  by_cases hj : i = j
  · subst hj
    have lt : i < Γ.length := by
      have := (List.getElem?_eq_some_iff.mp h).1
      rw [List.length_set] at this
      exact this
    rw [List.getElem?_set_self lt] at h
    have q := Option.some.inj (Option.some.inj h)
    subst q
    exact ⟨v, List.getElem?_set_self (by rw [← s.1]; exact lt), r⟩
  · rw [List.getElem?_set_ne hj] at h
    rw [List.getElem?_set_ne hj]
    exact s.2 j e h
/-- slots are forgotten -/
def forget (Γ : Env) : List Nat → Env
  | [] => Γ
  | i :: is => forget (Γ.set i none) is
theorem Slots.forget {K : PySem.W.Frag} {Z : Hp} {ι : Nat → Addr} {n : Nat} {σ : St} : ∀ (is : List Nat) {Γ : Env}, Slots K Z ι n Γ σ → Slots K Z ι n (forget Γ is) σ
  | [], _, s => s
  | i :: is, Γ, s => Slots.forget is ⟨by rw [List.length_set]; exact s.1, fun j e h => by
      by_cases hj : i = j
      · subst hj
        have lt : i < Γ.length := by
          have := (List.getElem?_eq_some_iff.mp h).1
          rw [List.length_set] at this
          exact this
        rw [List.getElem?_set_self lt] at h
        cases h
      · rw [List.getElem?_set_ne hj] at h
        exact s.2 j e h⟩
/-- what leans on nothing that is cut off stays -/
def clean (m : Nat) (Γ : Env) : Env := Γ.map fun o => match o with
  | some d => if below m d = true then some d else none
  | none => none
theorem Slots.cut {K : PySem.W.Frag} {Z : Hp} {ι : Nat → Addr} {n m : Nat} {Γ : Env} {σ : St} (s : Slots K Z ι n Γ σ) : Slots K Z ι m (clean m Γ) σ := by
  refine ⟨by unfold clean; rw [List.length_map]; exact s.1, fun i d h => ?_⟩
  unfold clean at h
  rw [List.getElem?_map] at h
  cases e : Γ[i]? with
  | none => rw [e] at h; cases h
  | some o =>
    cases o with
    | none => rw [e] at h; cases h
    | some d' =>
      rw [e] at h
      have h' : (if below m d' = true then some d' else none) = some d := Option.some.inj h
      by_cases hb : below m d' = true
      · rw [if_pos hb] at h'
        have q := Option.some.inj h'
        subst q
        obtain ⟨v, h1, h2⟩ := s.2 i d' e
        exact ⟨v, h1, h2.shrink _ _ hb⟩
      · rw [if_neg hb] at h'
        cases h'

abbrev RpK (α β : Type) := Hp → (Nat → Addr) → Nat → α → β → Prop
abbrev rpE (K : PySem.W.Frag) : RpK D V := fun Z ι n d v => Rp K Z ι n d v
abbrev rpA (K : PySem.W.Frag) : RpK (List D) (List V) := fun Z ι n d v => Rps K Z ι n d v
abbrev rpT : RpK Bool Bool := fun _ _ _ a b => a = b
def Post {α β : Type} (X : Cx) (C : CT) (W : WX) (rp : RpK α β) (σ : St) (H Z : Hp) (ι : Nat → Addr) (M : List MO) (r : R α) (Q : β → Hp → Prop) : Prop := match r with
  | .ok a M' => ∀ (b : β) (H' Z' : Hp) (ι' : Nat → Addr), Ext H Z ι M.length H' Z' ι' M'.length → HR X.K H' Z' ι' M' → rp Z' ι' M'.length a b → Q b H'
  | .exc c d M' => ∀ (cls : Value) (dd : Option Addr) (H' Z' : Hp) (ι' : Nat → Addr), Ext H Z ι M.length H' Z' ι' M'.length → HR X.K H' Z' ι' M' → ExcR X.K C H' Z' ι' M'.length c d cls dd → W cls dd σ H'
  | .bad => False
section
variable {X : Cx} {C : CT} {W : WX} {σ : St} {H Z H1 Z1 : Hp} {ι ι1 : Nat → Addr} {M M1 : List MO}
theorem Post.shift {α β : Type} {rp : RpK α β} {r : R α} {Q : β → Hp → Prop} (h : Post X C W rp σ H Z ι M r Q) (e : Ext H Z ι M.length H1 Z1 ι1 M1.length) (hr : HR X.K H1 Z1 ι1 M1) : Post X C W rp σ H1 Z1 ι1 M1 r Q := by
  cases r with
  | ok a M' => exact fun b H' Z' ι' e' hr' rb => h b H' Z' ι' (e.trans e' hr.ali) hr' rb
  | exc c d M' => exact fun cls dd H' Z' ι' e' hr' rb => h cls dd H' Z' ι' (e.trans e' hr.ali) hr' rb
  | bad => exact h
theorem Post.bind {α β γ δ : Type} {rp1 : RpK α β} {rp2 : RpK γ δ} {r : R α} {f : α → List MO → R γ} {Q : δ → Hp → Prop} {Q1 : β → Hp → Prop} (h : Post X C W rp2 σ H Z ι M (r.bind f) Q)
    (k : ∀ (a : α) (M1 : List MO) (b : β) (H1 Z1 : Hp) (ι1 : Nat → Addr), Ext H Z ι M.length H1 Z1 ι1 M1.length → HR X.K H1 Z1 ι1 M1 → rp1 Z1 ι1 M1.length a b → Post X C W rp2 σ H1 Z1 ι1 M1 (f a M1) Q → Q1 b H1) :
    Post X C W rp1 σ H Z ι M r Q1 := by
  cases r with
  | ok a M' => exact fun b H' Z' ι' e' hr' rb => k a M' b H' Z' ι' e' hr' rb (Post.shift (r := f a M') h e' hr')
  | exc c d M' => exact h
  | bad => exact h
end

/-- an expression is computed by g -/
def QE (X : Cx) (C : CT) (W : WX) (e : Expr) (g : GE) : Prop := ∃ te, PE X e te ∧ ∀ (σ : St) (H Z : Hp) (ι : Nat → Addr) (Γ : Env) (M : List MO) (Q : VK), Slots X.K Z ι M.length Γ σ → HR X.K H Z ι M → Post X C W (rpE X.K) σ H Z ι M (g Γ M) Q → te σ H Q
def QT (X : Cx) (C : CT) (W : WX) (e : Expr) (g : GT) : Prop := ∃ te, PT X e te ∧ ∀ (σ : St) (H Z : Hp) (ι : Nat → Addr) (Γ : Env) (M : List MO) (Q : Bool → Hp → Prop), Slots X.K Z ι M.length Γ σ → HR X.K H Z ι M → Post X C W rpT σ H Z ι M (g Γ M) Q → te σ H Q
def QW (X : Cx) (C : CT) (W : WX) (e : Expr) (g : GT) : Prop := ∃ te, PW X e te ∧ ∀ (σ : St) (H Z : Hp) (ι : Nat → Addr) (Γ : Env) (M : List MO) (Q : Bool → Hp → Prop), Slots X.K Z ι M.length Γ σ → HR X.K H Z ι M → Post X C W rpT σ H Z ι M (g Γ M) Q → te σ H Q
def QA (X : Cx) (C : CT) (W : WX) (es : List Expr) (g : GA) : Prop := ∃ te, PA X es te ∧ ∀ (σ : St) (H Z : Hp) (ι : Nat → Addr) (Γ : Env) (M : List MO) (Q : List V → Hp → Prop), Slots X.K Z ι M.length Γ σ → HR X.K H Z ι M → Post X C W (rpA X.K) σ H Z ι M (g Γ M) Q → te σ H Q

/-! ### the functions that compute -/
def opR {α : Type} (o : Option α) (M : List MO) : R α := match o with
  | some a => .ok a M
  | none => .bad
def gV (i : Nat) : GE := fun Γ M => match Γ[i]? with
  | some (some d) => .ok d M
  | _ => .bad
def gC (d : D) : GE := fun _ M => .ok d M
def gOp2 (f : List MO → D → D → Option D) (ga gb : GE) : GE := fun Γ M => (ga Γ M).bind fun x M1 => (gb Γ M1).bind fun y M2 => opR (f M2 x y) M2
def gOp1 (f : List MO → D → Option D) (ga : GE) : GE := fun Γ M => (ga Γ M).bind fun x M1 => opR (f M1 x) M1
def gNil : GA := fun _ M => .ok [] M
def gCons (ga : GE) (gr : GA) : GA := fun Γ M => (ga Γ M).bind fun x M1 => (gr Γ M1).bind fun xs M2 => .ok (x :: xs) M2
def gTup (ga : GA) : GE := fun Γ M => (ga Γ M).bind fun xs M1 => if xs.length ≤ sizeLine then .ok (.tup xs) M1 else .bad
def gLst (ga : GA) : GE := fun Γ M => (ga Γ M).bind fun xs M1 => if xs.length ≤ sizeLine then .ok (.lst xs) M1 else .bad
def gLstO (ga : GA) : GE := fun Γ M => (ga Γ M).bind fun xs M1 => if xs.length ≤ sizeLine then .ok (.ref M1.length) (M1 ++ [.lst xs]) else .bad
def gCall (f : List MO → List D → Option D) (ga : GA) : GE := fun Γ M => (ga Γ M).bind fun xs M1 => opR (f M1 xs) M1
def toBl : D → Option Bool
  | .bl b => some b
  | _ => none
def gVal (ga : GE) : GT := fun Γ M => (ga Γ M).bind fun x M1 => opR (toBl x) M1
def gAndT (a b : GT) : GT := fun Γ M => (a Γ M).bind fun c M1 => if c = true then b Γ M1 else .ok false M1
def gOrT (a b : GT) : GT := fun Γ M => (a Γ M).bind fun c M1 => if c = true then .ok true M1 else b Γ M1
def gNotT (a : GT) : GT := fun Γ M => (a Γ M).bind fun c M1 => .ok (!c) M1
def gIfE (c : GT) (a b : GE) : GE := fun Γ M => (c Γ M).bind fun k M1 => if k = true then a Γ M1 else b Γ M1
def gAndV (a b : GE) : GE := fun Γ M => (a Γ M).bind fun x M1 => match x with
  | .bl c => if c = true then b Γ M1 else .ok (.bl false) M1
  | _ => .bad
def gOrV (a b : GE) : GE := fun Γ M => (a Γ M).bind fun x M1 => match x with
  | .bl c => if c = true then .ok (.bl true) M1 else b Γ M1
  | _ => .bad
def gChain (f f' : List MO → D → D → Option D) (ga gb gc : GE) : GE := fun Γ M => (ga Γ M).bind fun x M1 => (gb Γ M1).bind fun y M2 => (opR (f M2 x y) M2).bind fun k M3 => match k with
  | .bl c => if c = true then (gc Γ M3).bind fun z M4 => opR (f' M4 y z) M4 else .ok (.bl false) M3
  | _ => .bad

section
variable {X : Cx} {C : CT} {W : WX}
/-- a result that is new and will not be changed, or an old one -/
def After (X : Cx) (H Z : Hp) (ι : Nat → Addr) (M : List MO) (d : D) (Q : VK) : Prop := ∀ (v : V) (H' Z' : Hp), Ext H Z ι M.length H' Z' ι M.length → HR X.K H' Z' ι M → Rp X.K Z' ι M.length d v → Q v H'
theorem After.now {H Z : Hp} {ι : Nat → Addr} {M : List MO} {d : D} {Q : VK} {v : V} (h : After X H Z ι M d Q) (hr : HR X.K H Z ι M) (r : Rp X.K Z ι M.length d v) : Q v H := h v H Z .refl hr r
theorem After.lst {H Z : Hp} {ι : Nat → Addr} {M : List MO} {ds : List D} {Q : VK} {xs : List V} (h : After X H Z ι M (.lst ds) Q) (hr : HR X.K H Z ι M) (r : Rps X.K Z ι M.length ds xs) : ∀ p, H p = none → Q (.ref p) (upd H p (.lst xs)) := fun p hp => by
  obtain ⟨h1, e1⟩ := hr.frozen (o := .lst xs) hp
  exact h _ _ _ e1 h1 (.lst (.inl (.inl upd_same)) (r.ext e1))
theorem After.tup {H Z : Hp} {ι : Nat → Addr} {M : List MO} {ds : List D} {Q : VK} {xs : List V} (h : After X H Z ι M (.tup ds) Q) (hr : HR X.K H Z ι M) (r : Rps X.K Z ι M.length ds xs) : ∀ p, H p = none → Q (.ref p) (upd H p (.tup xs)) := fun p hp => by
  obtain ⟨h1, e1⟩ := hr.frozen (o := .tup xs) hp
  exact h _ _ _ e1 h1 (.tup (.inl (.inl upd_same)) (r.ext e1))
theorem Post.after {σ : St} {H Z : Hp} {ι : Nat → Addr} {M : List MO} {d : D} {Q : VK} (h : Post X C W (rpE X.K) σ H Z ι M (.ok d M) Q) : After X H Z ι M d Q := fun v H' Z' e hr r => h v H' Z' ι e hr r
/-- an operation on values is computed by f -/
def Ok2 (X : Cx) (r : R2) (f : List MO → D → D → Option D) : Prop := ∀ (x y : V) (H Z : Hp) (ι : Nat → Addr) (M : List MO) (dx dy d : D) (Q : VK), HR X.K H Z ι M → Rp X.K Z ι M.length dx x → Rp X.K Z ι M.length dy y → f M dx dy = some d → After X H Z ι M d Q → r x y H Q
def Ok1 (X : Cx) (r : V → Hp → VK → Prop) (f : List MO → D → Option D) : Prop := ∀ (x : V) (H Z : Hp) (ι : Nat → Addr) (M : List MO) (dx d : D) (Q : VK), HR X.K H Z ι M → Rp X.K Z ι M.length dx x → f M dx = some d → After X H Z ι M d Q → r x H Q
def OkA (X : Cx) (r : List V → Hp → VK → Prop) (f : List MO → List D → Option D) : Prop := ∀ (xs : List V) (H Z : Hp) (ι : Nat → Addr) (M : List MO) (ds : List D) (d : D) (Q : VK), HR X.K H Z ι M → Rps X.K Z ι M.length ds xs → f M ds = some d → After X H Z ι M d Q → r xs H Q
theorem Post.of_opR {α β γ δ : Type} {rp1 : RpK α β} {σ : St} {H Z : Hp} {ι : Nat → Addr} {M : List MO} {o : Option α} {Q : β → Hp → Prop} (h : Post X C W rp1 σ H Z ι M (opR o M) Q) : ∃ a, o = some a ∧ Post X C W rp1 σ H Z ι M (.ok a M) Q := by
  cases o with
  | none => exact h.elim
  | some a => exact ⟨a, rfl, h⟩

/-! ### the rules -/
theorem qe_v (i : Nat) {x : Str} {pos : Pos} (hN : X.N[i]? = some x := by rfl) (hv : Vis X.env.scope x := by first | exact Or.inl rfl | exact Or.inr (Or.inl rfl) | exact Or.inr (Or.inr rfl)) (hd : (x == ("__debug__" : Str)) = false := by decide)
    (hcd : (x == ("__classdict__" : Str)) = false := by decide) : QE X C W (.Name x pos) (gV i) := by
  refine ⟨_, pe_var hN hv hd hcd, fun σ H Z ι Γ M Q sl hr h => ?_⟩
  unfold gV at h
  cases e : Γ[i]? with
  | none => rw [e] at h; exact h.elim
  | some o =>
    cases o with
    | none => rw [e] at h; exact h.elim
    | some d =>
      rw [e] at h
      obtain ⟨v, h1, h2⟩ := sl.2 i d e
      exact ⟨v, h1, h v H Z ι .refl hr h2⟩
theorem qe_int {i : Int} {j pos} : QE X C W (.Constant (.int i) j pos) (gC (.int i)) := ⟨_, pe_int, fun σ H Z ι Γ M Q sl hr h => h _ H Z ι .refl hr (.int i)⟩
theorem qe_bl {b : Bool} {j pos} : QE X C W (.Constant (.bool b) j pos) (gC (.bl b)) := ⟨_, pe_bl, fun σ H Z ι Γ M Q sl hr h => h _ H Z ι .refl hr (.bl b)⟩
theorem qe_non {j pos} : QE X C W (.Constant .none j pos) (gC .non) := ⟨_, pe_non, fun σ H Z ι Γ M Q sl hr h => h _ H Z ι .refl hr .non⟩
theorem qe_str {x : Str} {j pos} : QE X C W (.Constant (.str x) j pos) (gC (.str x)) := ⟨_, pe_str, fun σ H Z ι Γ M Q sl hr h => h _ H Z ι .refl hr (.str x)⟩
/-- a module's number -/
theorem qe_gint {x : Str} {i : Int} {t : Tok} {pos : Pos} (hg : Gl X x) (hm : X.mg x = some (.int i t)) (hd : (x == ("__debug__" : Str)) = false := by decide) : QE X C W (.Name x pos) (gC (.int i)) :=
  ⟨_, pe_glob (v := .int i) hg hm ⟨t, rfl⟩ hd, fun σ H Z ι Γ M Q sl hr h => h _ H Z ι .refl hr (.int i)⟩
variable {e a b c : Expr} {es : List Expr} {ga gb gc g : GE} {gt gu : GT} {gs : GA} {pos : Pos} {f f' : List MO → D → D → Option D}
abbrev Rd1 (X : Cx) (C : CT) (W : WX) (g : GE) (te : TE) : Prop := ∀ (σ : St) (H Z : Hp) (ι : Nat → Addr) (Γ : Env) (M : List MO) (Q : VK), Slots X.K Z ι M.length Γ σ → HR X.K H Z ι M → Post X C W (rpE X.K) σ H Z ι M (g Γ M) Q → te σ H Q
theorem op_read {r : R2} {ta tb : TE} (hf : Ok2 X r f) (qa : Rd1 X C W ga ta) (qb : Rd1 X C W gb tb) : Rd1 X C W (gOp2 f ga gb) (tOp r ta tb) := fun σ H Z ι Γ M Q sl hr h =>
  qa σ H Z ι Γ M _ sl hr (Post.bind h fun x M1 v H1 Z1 ι1 e1 hr1 r1 h1 => qb σ H1 Z1 ι1 Γ M1 _ (sl.ext e1) hr1 (h1.bind fun y M2 u H2 Z2 ι2 e2 hr2 r2 h2 => by
    obtain ⟨d, hd, h3⟩ := Post.of_opR (γ := D) (δ := V) h2
    exact hf v u H2 Z2 ι2 M2 x y d Q hr2 (r1.ext e2) r2 hd h3.after))
theorem qe_bin {op : Operator} {r : R2} (ho : OpR X (binaryOp op) r) (hf : Ok2 X r f) (ha : QE X C W a ga) (hb : QE X C W b gb) : QE X C W (.BinOp a op b pos) (gOp2 f ga gb) := by
  obtain ⟨ta, pa, qa⟩ := ha
  obtain ⟨tb, pb, qb⟩ := hb
  exact ⟨_, pe_op ho pa pb, op_read hf qa qb⟩
theorem qe_cmp {op : CmpOp} {r : R2} (ho : OpR X (compareOp op) r) (hf : Ok2 X r f) (ha : QE X C W a ga) (hb : QE X C W b gb) (hm : behindInMarks op b = false) : QE X C W (.Compare a [op] [b] pos) (gOp2 f ga gb) := by
  obtain ⟨ta, pa, qa⟩ := ha
  obtain ⟨tb, pb, qb⟩ := hb
  exact ⟨_, pe_cmpR ho pa pb hm, op_read hf qa qb⟩
theorem qe_ix {r : R2} (ho : IxR X r) (hf : Ok2 X r f) (ha : QE X C W a ga) (hb : QE X C W b gb) (hs : PlainIx b := by exact fun _ _ => rfl) : QE X C W (.Subscript a b pos) (gOp2 f ga gb) := by
  obtain ⟨ta, pa, qa⟩ := ha
  obtain ⟨tb, pb, qb⟩ := hb
  exact ⟨_, pe_ix ho pa pb hs, op_read hf qa qb⟩
theorem qe_un {op : UnaryOp} {r : V → Hp → VK → Prop} {f : List MO → D → Option D} (ho : UnR X (unaryOp op) r) (hf : Ok1 X r f) (ha : QE X C W a ga) : QE X C W (.UnaryOp op a pos) (gOp1 f ga) := by
  obtain ⟨ta, pa, qa⟩ := ha
  refine ⟨_, pe_un ho pa, fun σ H Z ι Γ M Q sl hr h => qa σ H Z ι Γ M _ sl hr (h.bind fun x M1 v H1 Z1 ι1 e1 hr1 r1 h1 => ?_)⟩
  obtain ⟨d, hd, h3⟩ := Post.of_opR (γ := D) (δ := V) h1
  exact hf v H1 Z1 ι1 M1 x d Q hr1 r1 hd h3.after
theorem chain_read {r r' : R2} {ta tb tc : TE} (hf : Ok2 X r f) (hf' : Ok2 X r' f') (qa : Rd1 X C W ga ta) (qb : Rd1 X C W gb tb) (qc : Rd1 X C W gc tc) : Rd1 X C W (gChain f f' ga gb gc) (tChain r r' ta tb tc) := by
  intro σ H Z ι Γ M Q sl hr h
  refine qa σ H Z ι Γ M _ sl hr (Post.bind h fun x M1 v H1 Z1 ι1 e1 hr1 r1 h1 => qb σ H1 Z1 ι1 Γ M1 _ (sl.ext e1) hr1 (h1.bind fun y M2 u H2 Z2 ι2 e2 hr2 r2 h2 => ?_))
  cases hd : f M2 x y with
  | none => rw [hd] at h2; exact h2.elim
  | some d =>
    rw [hd] at h2
    refine hf v u H2 Z2 ι2 M2 x y d _ hr2 (r1.ext e2) r2 hd fun w H3 Z3 e3 hr3 r3 => ?_
    have h3 := Post.shift h2 e3 hr3
    cases r3 with
    | bl k =>
      refine ⟨k, rfl, ?_⟩
      cases k with
      | false => exact h3 _ H3 Z3 ι2 .refl hr3 (.bl false)
      | true =>
        have h4 : Post X C W (rpE X.K) σ H3 Z3 ι2 M2 ((gc Γ M2).bind fun z M4 => opR (f' M4 y z) M4) Q := h3
        refine qc σ H3 Z3 ι2 Γ M2 _ ((sl.ext e1).ext e2 |>.ext e3) hr3 (h4.bind fun z M4 w' H4 Z4 ι4 e4 hr4 r4 h5 => ?_)
        obtain ⟨d', hd', h6⟩ := Post.of_opR (γ := D) (δ := V) h5
        exact hf' u w' H4 Z4 ι4 M4 y z d' Q hr4 ((r2.ext e3).ext e4) r4 hd' h6.after
    | _ => exact h3.elim
theorem qe_chain {op op' : CmpOp} {r r' : R2} (ho : OpR X (compareOp op) r) (hf : Ok2 X r f) (ho' : OpR X (compareOp op') r') (hf' : Ok2 X r' f') (ha : QE X C W a ga) (hb : QE X C W b gb) (hc : QE X C W c gc) (hm : lastMarks [op, op'] [b, c] = false := by with_unfolding_all rfl) :
    QE X C W (.Compare a [op, op'] [b, c] pos) (gChain f f' ga gb gc) := by
  obtain ⟨ta, pa, qa⟩ := ha
  obtain ⟨tb, pb, qb⟩ := hb
  obtain ⟨tc, pc, qc⟩ := hc
  exact ⟨_, pe_chain ho ho' pa pb pc (hm := hm), chain_read hf hf' qa qb qc⟩
theorem qa_nil : QA X C W [] gNil := ⟨_, pa_nil, fun σ H Z ι Γ M Q sl hr h => h [] H Z ι .refl hr .nil⟩
theorem qa_cons (ha : QE X C W e g) (hb : QA X C W es gs) (hs : starEach (e :: es) X.env = (false, eval e X.env) :: starEach es X.env := by rfl) : QA X C W (e :: es) (gCons g gs) := by
  obtain ⟨ta, pa, qa⟩ := ha
  obtain ⟨tb, pb, qb⟩ := hb
  exact ⟨_, pa_cons pa pb hs, fun σ H Z ι Γ M Q sl hr h => qa σ H Z ι Γ M _ sl hr (h.bind fun x M1 v H1 Z1 ι1 e1 hr1 r1 h1 => qb σ H1 Z1 ι1 Γ M1 _ (sl.ext e1) hr1 (h1.bind fun y M2 u H2 Z2 ι2 e2 hr2 r2 h2 => h2 _ H2 Z2 ι2 .refl hr2 (.cons (r1.ext e2) r2)))⟩
theorem qe_tup {x1} (ha : QA X C W es gs) : QE X C W (.Tuple es x1 pos) (gTup gs) := by
  obtain ⟨ta, pa, qa⟩ := ha
  refine ⟨_, pe_tup pa, fun σ H Z ι Γ M Q sl hr h => qa σ H Z ι Γ M _ sl hr (h.bind fun x M1 v H1 Z1 ι1 e1 hr1 r1 h1 => ?_)⟩
  by_cases hz : x.length ≤ sizeLine
  · rw [if_pos hz] at h1
    exact ⟨by rw [← r1.length]; exact hz, h1.after.tup hr1 r1⟩
  · rw [if_neg hz] at h1
    exact h1.elim
theorem qe_lst (ha : QA X C W es gs) : QE X C W (.List es pos) (gLst gs) := by
  obtain ⟨ta, pa, qa⟩ := ha
  refine ⟨_, pe_lst pa, fun σ H Z ι Γ M Q sl hr h => qa σ H Z ι Γ M _ sl hr (h.bind fun x M1 v H1 Z1 ι1 e1 hr1 r1 h1 => ?_)⟩
  by_cases hz : x.length ≤ sizeLine
  · rw [if_pos hz] at h1
    exact ⟨by rw [← r1.length]; exact hz, h1.after.lst hr1 r1⟩
  · rw [if_neg hz] at h1
    exact h1.elim
theorem qe_lstO (ha : QA X C W es gs) : QE X C W (.List es pos) (gLstO gs) := by
  obtain ⟨ta, pa, qa⟩ := ha
  refine ⟨_, pe_lst pa, fun σ H Z ι Γ M Q sl hr h => qa σ H Z ι Γ M _ sl hr (h.bind fun x M1 v H1 Z1 ι1 e1 hr1 r1 h1 => ?_)⟩
  by_cases hz : x.length ≤ sizeLine
  · rw [if_pos hz] at h1
    refine ⟨by rw [← r1.length]; exact hz, fun p hp => ?_⟩
    obtain ⟨hr2, e2⟩ := hr1.owned hp r1
    refine h1 _ _ _ _ e2 hr2 ?_
    have q : Rp X.K Z1 (put ι1 M1.length p) (M1 ++ [MO.lst x]).length (.ref M1.length) (.ref (put ι1 M1.length p M1.length)) := .ref (by simp)
    rw [put_at] at q
    exact q
  · rw [if_neg hz] at h1
    exact h1.elim
theorem qe_callB {x : Str} {p : Pos} {id : String} {r : List V → Hp → VK → Prop} {f : List MO → List D → Option D} (ho : CallR X (.builtin id) r) (hf : OkA X r f) (hg : Gl X x) (hm : X.mg x = none) (hv : bootBuiltins x = some (.builtin id)) (ha : QA X C W (e :: es) gs)
    (hn : x ≠ "__name__" := by decide) (hdb : (x == ("__debug__" : Str)) = false := by decide) (he : starEach (e :: es) X.env = (false, eval e X.env) :: starEach es X.env := by rfl) (hpl : (backTo pos (starEach es X.env)).any (·.1) = false := by rfl) :
    QE X C W (.Call (.Name x p) (e :: es) [] pos) (gCall f gs) := by
  obtain ⟨ta, pa, qa⟩ := ha
  refine ⟨_, pe_callB ho hg hm hv pa hn hdb he hpl, fun σ H Z ι Γ M Q sl hr h => qa σ H Z ι Γ M _ sl hr (h.bind fun x M1 v H1 Z1 ι1 e1 hr1 r1 h1 => ?_)⟩
  obtain ⟨d, hd, h3⟩ := Post.of_opR (γ := D) (δ := V) h1
  exact hf v H1 Z1 ι1 M1 x d Q hr1 r1 hd h3.after
theorem qe_callTy {x T : Str} {p : Pos} {id : String} {r : List V → Hp → VK → Prop} {f : List MO → List D → Option D} (ho : CallR X (.type id) r) (hf : OkA X r f) (hg : Gl X x) (hm : X.mg x = none) (hv : bootBuiltins x = some (.type id)) (ha : QA X C W (e :: es) gs)
    (hn : x ≠ "__name__" := by decide) (hdb : (x == ("__debug__" : Str)) = false := by decide) (he : starEach (e :: es) X.env = (false, eval e X.env) :: starEach es X.env := by rfl) (hpl : (backTo pos (starEach es X.env)).any (·.1) = false := by rfl) :
    QE X C W (.Call (.Name x p) (e :: es) [] pos) (gCall f gs) := by
  obtain ⟨ta, pa, qa⟩ := ha
  refine ⟨_, pe_callTy ho hg hm hv pa hn hdb he hpl, fun σ H Z ι Γ M Q sl hr h => qa σ H Z ι Γ M _ sl hr (h.bind fun x M1 v H1 Z1 ι1 e1 hr1 r1 h1 => ?_)⟩
  obtain ⟨d, hd, h3⟩ := Post.of_opR (γ := D) (δ := V) h1
  exact hf v H1 Z1 ι1 M1 x d Q hr1 r1 hd h3.after

/-! tests -/
theorem qt_val (ha : QE X C W a ga) (he : ∀ whole, isTrue a X.env whole = (do let v ← whole; standAt a.pos; holding [v] (truthy v)) := by intro _; rfl) : QT X C W a (gVal ga) := by
  obtain ⟨ta, pa, qa⟩ := ha
  refine ⟨_, pt_val pa he, fun σ H Z ι Γ M Q sl hr h => qa σ H Z ι Γ M _ sl hr (h.bind fun x M1 v H1 Z1 ι1 e1 hr1 r1 h1 => ?_)⟩
  cases r1 with
  | bl k => exact ⟨k, rfl, h1 k H1 Z1 ι1 .refl hr1 rfl⟩
  | _ => exact h1.elim
theorem val_read {te : TE} (q : Rd1 X C W ga te) (σ : St) (H Z : Hp) (ι : Nat → Addr) (Γ : Env) (M : List MO) (Q : Bool → Hp → Prop) (sl : Slots X.K Z ι M.length Γ σ) (hr : HR X.K H Z ι M) (h : Post X C W rpT σ H Z ι M (gVal ga Γ M) Q) : tTest te σ H Q :=
  q σ H Z ι Γ M _ sl hr (Post.bind h fun x M1 v H1 Z1 ι1 e1 hr1 r1 h1 => by
    cases r1 with
    | bl k => exact ⟨k, rfl, h1 k H1 Z1 ι1 .refl hr1 rfl⟩
    | _ => exact h1.elim)
theorem qt_cmp {op : CmpOp} {r : R2} (ho : OpR X (compareOp op) r) (hf : Ok2 X r f) (ha : QE X C W a ga) (hb : QE X C W b gb) (hm : behindInMarks op b = false) : QT X C W (.Compare a [op] [b] pos) (gVal (gOp2 f ga gb)) := by
  obtain ⟨ta, pa, qa⟩ := ha
  obtain ⟨tb, pb, qb⟩ := hb
  exact ⟨_, pt_cmpR ho pa pb hm, val_read (op_read hf qa qb)⟩
theorem qt_chain {op op' : CmpOp} {r r' : R2} (ho : OpR X (compareOp op) r) (hf : Ok2 X r f) (ho' : OpR X (compareOp op') r') (hf' : Ok2 X r' f') (ha : QE X C W a ga) (hb : QE X C W b gb) (hc : QE X C W c gc) (hm : lastMarks [op, op'] [b, c] = false := by with_unfolding_all rfl) :
    QT X C W (.Compare a [op, op'] [b, c] pos) (gVal (gChain f f' ga gb gc)) := by
  obtain ⟨ta, pa, qa⟩ := ha
  obtain ⟨tb, pb, qb⟩ := hb
  obtain ⟨tc, pc, qc⟩ := hc
  exact ⟨_, pt_chain ho ho' pa pb pc (hm := hm), val_read (chain_read hf hf' qa qb qc)⟩
theorem qt_of (h : QW X C W a gt) : QT X C W a gt := let ⟨t, p, q⟩ := h; ⟨t, p.pt, q⟩
theorem qw_and1 (h : QT X C W a gt) : QW X C W (.BoolOp .And [a] pos) gt := let ⟨t, p, q⟩ := h; ⟨t, pw_and1 p, q⟩
theorem qw_or1 (h : QT X C W a gt) : QW X C W (.BoolOp .Or [a] pos) gt := let ⟨t, p, q⟩ := h; ⟨t, pw_or1 p, q⟩
theorem qw_and {rest : List Expr} (ha : QT X C W a gt) (hb : QW X C W (.BoolOp .And (b :: rest) pos) gu) : QW X C W (.BoolOp .And (a :: b :: rest) pos) (gAndT gt gu) := by
  obtain ⟨ta, pa, qa⟩ := ha
  obtain ⟨tb, pb, qb⟩ := hb
  refine ⟨_, pw_and pa pb, fun σ H Z ι Γ M Q sl hr h => qa σ H Z ι Γ M _ sl hr (h.bind fun x M1 v H1 Z1 ι1 e1 hr1 r1 h1 => ?_)⟩
  have r1' : x = v := r1
  subst r1'
  cases x with
  | true => exact qb σ H1 Z1 ι1 Γ M1 _ (sl.ext e1) hr1 h1
  | false => exact h1 false H1 Z1 ι1 .refl hr1 rfl
theorem qw_or {rest : List Expr} (ha : QT X C W a gt) (hb : QW X C W (.BoolOp .Or (b :: rest) pos) gu) : QW X C W (.BoolOp .Or (a :: b :: rest) pos) (gOrT gt gu) := by
  obtain ⟨ta, pa, qa⟩ := ha
  obtain ⟨tb, pb, qb⟩ := hb
  refine ⟨_, pw_or pa pb, fun σ H Z ι Γ M Q sl hr h => qa σ H Z ι Γ M _ sl hr (h.bind fun x M1 v H1 Z1 ι1 e1 hr1 r1 h1 => ?_)⟩
  have r1' : x = v := r1
  subst r1'
  cases x with
  | true => exact h1 true H1 Z1 ι1 .refl hr1 rfl
  | false => exact qb σ H1 Z1 ι1 Γ M1 _ (sl.ext e1) hr1 h1
theorem qt_not (ha : QT X C W a gt) : QT X C W (.UnaryOp .Not a pos) (gNotT gt) := by
  obtain ⟨ta, pa, qa⟩ := ha
  refine ⟨_, pt_not pa, fun σ H Z ι Γ M Q sl hr h => qa σ H Z ι Γ M _ sl hr (h.bind fun x M1 v H1 Z1 ι1 e1 hr1 r1 h1 => ?_)⟩
  have r1' : x = v := r1
  subst r1'
  exact h1 _ H1 Z1 ι1 .refl hr1 rfl
theorem qe_if (hc : QT X C W c gt) (ha : QE X C W a ga) (hb : QE X C W b gb) : QE X C W (.IfExp c a b pos) (gIfE gt ga gb) := by
  obtain ⟨tc, pc, qc⟩ := hc
  obtain ⟨ta, pa, qa⟩ := ha
  obtain ⟨tb, pb, qb⟩ := hb
  refine ⟨_, pe_ifExp pc pa pb, fun σ H Z ι Γ M Q sl hr h => qc σ H Z ι Γ M _ sl hr (h.bind fun x M1 v H1 Z1 ι1 e1 hr1 r1 h1 => ?_)⟩
  have r1' : x = v := r1
  subst r1'
  cases x with
  | true => exact qa σ H1 Z1 ι1 Γ M1 _ (sl.ext e1) hr1 h1
  | false => exact qb σ H1 Z1 ι1 Γ M1 _ (sl.ext e1) hr1 h1
theorem qe_one {op} (h : QE X C W a ga) : QE X C W (.BoolOp op [a] pos) ga := let ⟨t, p, q⟩ := h; ⟨t, pe_one p, q⟩
theorem qe_and {rest : List Expr} (ha : QE X C W a ga) (hb : QE X C W (.BoolOp .And (b :: rest) pos) gb) : QE X C W (.BoolOp .And (a :: b :: rest) pos) (gAndV ga gb) := by
  obtain ⟨ta, pa, qa⟩ := ha
  obtain ⟨tb, pb, qb⟩ := hb
  refine ⟨_, pe_and pa pb, fun σ H Z ι Γ M Q sl hr h => qa σ H Z ι Γ M _ sl hr (h.bind fun x M1 v H1 Z1 ι1 e1 hr1 r1 h1 => ?_)⟩
  cases r1 with
  | bl k =>
    refine ⟨k, rfl, ?_⟩
    cases k with
    | true => exact qb σ H1 Z1 ι1 Γ M1 _ (sl.ext e1) hr1 h1
    | false => exact h1 _ H1 Z1 ι1 .refl hr1 (.bl false)
  | _ => exact h1.elim
theorem qe_or {rest : List Expr} (ha : QE X C W a ga) (hb : QE X C W (.BoolOp .Or (b :: rest) pos) gb) : QE X C W (.BoolOp .Or (a :: b :: rest) pos) (gOrV ga gb) := by
  obtain ⟨ta, pa, qa⟩ := ha
  obtain ⟨tb, pb, qb⟩ := hb
  refine ⟨_, pe_or pa pb, fun σ H Z ι Γ M Q sl hr h => qa σ H Z ι Γ M _ sl hr (h.bind fun x M1 v H1 Z1 ι1 e1 hr1 r1 h1 => ?_)⟩
  cases r1 with
  | bl k =>
    refine ⟨k, rfl, ?_⟩
    cases k with
    | true => exact h1 _ H1 Z1 ι1 .refl hr1 (.bl true)
    | false => exact qb σ H1 Z1 ι1 Γ M1 _ (sl.ext e1) hr1 h1
  | _ => exact h1.elim
def dNot (_ : List MO) : D → Option D
  | .bl b => some (.bl (!b))
  | _ => none
theorem qe_not (ha : QE X C W a ga) : QE X C W (.UnaryOp .Not a pos) (gOp1 dNot ga) := by
  obtain ⟨ta, pa, qa⟩ := ha
  refine ⟨_, pe_not pa, fun σ H Z ι Γ M Q sl hr h => qa σ H Z ι Γ M _ sl hr (h.bind fun x M1 v H1 Z1 ι1 e1 hr1 r1 h1 => ?_)⟩
  cases r1 with
  | bl k => exact ⟨k, rfl, h1 _ H1 Z1 ι1 .refl hr1 (.bl _)⟩
  | _ => exact h1.elim
end
end Bk

set_option Elab.async false
set_option linter.all false
set_option maxRecDepth 100000
set_option maxHeartbeats 1000000
namespace Bk
open PySem PySem.Spec PyProof.Rows L2

/-! ### what is walked -/
abbrev GI := GA
/-- cd: what must hold of the store at each turn -/
def ItC (cd : List MO → Prop) (K : PySem.W.Frag) (J : It) (items : List D) (Z : Hp) (ι : Nat → Addr) (n : Nat) : Prop :=
  ∀ (i : Nat) (H' Z' : Hp) (ι' : Nat → Addr) (M' : List MO), Sub Z Z' → (∀ k, k < n → ι' k = ι k) → n ≤ M'.length → HR K H' Z' ι' M' → cd M' →
    (items.length = i → J.stop i H') ∧ ∀ d, items[i]? = some d → J.go i H' ∧ ∀ x H2, J.yld i H' x H2 → ∃ Z2, Ext H' Z' ι' M'.length H2 Z2 ι' M'.length ∧ HR K H2 Z2 ι' M' ∧ Rp K Z2 ι' M'.length d x
abbrev anyM : List MO → Prop := fun _ => True
abbrev ItR := ItC anyM
abbrev rpI (K : PySem.W.Frag) : RpK (List D) It := fun Z ι n items J => ItR K J items Z ι n
def QI (X : Cx) (C : CT) (W : WX) (tg e : Expr) (g : GI) : Prop := ∃ wi, PI X tg e wi ∧ ∀ (σ : St) (H Z : Hp) (ι : Nat → Addr) (Γ : Env) (M : List MO) (Q : It → Hp → Prop), Slots X.K Z ι M.length Γ σ → HR X.K H Z ι M → Post X C W (rpI X.K) σ H Z ι M (g Γ M) Q → wi σ H Q
def rngL (lo : Int) : Nat → List D
  | 0 => []
  | n + 1 => .int lo :: rngL (lo + 1) n
theorem rngL_get : ∀ (n : Nat) (lo : Int) (i : Nat) (d : D), (rngL lo n)[i]? = some d → i < n ∧ d = .int (lo + i)
  | 0, _, _, _, h => by simp [rngL] at h
  | n + 1, lo, 0, d, h => by
    simp [rngL] at h
    exact ⟨Nat.succ_pos _, by rw [← h]; simp⟩
  | n + 1, lo, i + 1, d, h => by
    simp only [rngL, List.getElem?_cons_succ] at h
    obtain ⟨h1, h2⟩ := rngL_get n (lo + 1) i d h
    refine ⟨Nat.succ_lt_succ h1, ?_⟩
    rw [h2]
    congr 1
    push_cast
    omega
theorem rngL_length : ∀ (n : Nat) (lo : Int), (rngL lo n).length = n
  | 0, _ => rfl
  | n + 1, lo => by simp [rngL, rngL_length n]
def seqD : D → Option (List D)
  | .lst ds => some ds
  | .tup ds => some ds
  | .ptu ds => some ds
  | _ => none
def gSeqI (ge : GE) : GI := fun Γ M => (ge Γ M).bind fun d M1 => opR (seqD d) M1
def inR (i : Int) : Bool := decide (-(2 ^ 62) ≤ i) && decide (i < 2 ^ 62)
def rng1 : List D → Option (List D)
  | [.int j] => if inR j then some (rngL 0 j.toNat) else none
  | _ => none
def rng2 : List D → Option (List D)
  | [.int i, .int j] => if inR i && inR j then some (rngL i (j - i).toNat) else none
  | _ => none
def gRng1 (ga : GA) : GI := fun Γ M => (ga Γ M).bind fun ds M1 => opR (rng1 ds) M1
def gRng2 (ga : GA) : GI := fun Γ M => (ga Γ M).bind fun ds M1 => opR (rng2 ds) M1
section
variable {X : Cx} {C : CT} {W : WX} {tg e a b : Expr} {g ga gb : GE} {gs : GA} {pos : Pos}
theorem itr_l {K : PySem.W.Frag} {Z : Hp} {ι : Nat → Addr} {n : Nat} {a : Addr} {xs : List V} {ds : List D} (s : ExL K Z a xs) (r : Rps K Z ι n ds xs) : ItR K (Itl K a) ds Z ι n := by
  intro i H' Z' ι' M' hz hi hn hr _
  have sH : SqL K H' a xs := (subL (fun a o h => hr.sub _ _ (hz _ _ h)) s).sq
  refine ⟨fun hl => ⟨xs, sH, by rw [← r.length]; exact Nat.le_of_eq hl⟩, fun d hd => ?_⟩
  obtain ⟨v, hv, rv⟩ := r.get hd
  refine ⟨⟨xs, v, sH, hv⟩, fun x H2 hy => ?_⟩
  obtain ⟨rfl, hx⟩ := hy
  have ex : xs[i]? = some x := hx _ sH
  rw [hv] at ex
  cases ex
  exact ⟨Z', .refl, hr, Rp.mono hz hi hn _ _ rv⟩
theorem itr_t {K : PySem.W.Frag} {Z : Hp} {ι : Nat → Addr} {n : Nat} {a : Addr} {xs : List V} {ds : List D} (s : SqT K Z a xs) (r : Rps K Z ι n ds xs) : ItR K (Itt K a) ds Z ι n := by
  intro i H' Z' ι' M' hz hi hn hr _
  have sH : SqT K H' a xs := subT (fun a o h => hr.sub _ _ (hz _ _ h)) s
  refine ⟨fun hl => ⟨xs, sH, by rw [← r.length]; exact Nat.le_of_eq hl⟩, fun d hd => ?_⟩
  obtain ⟨v, hv, rv⟩ := r.get hd
  refine ⟨⟨xs, v, sH, hv⟩, fun x H2 hy => ?_⟩
  obtain ⟨rfl, hx⟩ := hy
  have ex : xs[i]? = some x := hx _ sH
  rw [hv] at ex
  cases ex
  exact ⟨Z', .refl, hr, Rp.mono hz hi hn _ _ rv⟩
theorem itr_r {K : PySem.W.Frag} {Z : Hp} {ι : Nat → Addr} {n : Nat} {lo : Int} {m : Nat} : ItR K (Itr lo m) (rngL lo m) Z ι n := by
  intro i H' Z' ι' M' hz hi hn hr _
  refine ⟨fun hl => by rw [rngL_length] at hl; exact Nat.le_of_eq hl, fun d hd => ?_⟩
  obtain ⟨h1, rfl⟩ := rngL_get _ _ _ _ hd
  refine ⟨h1, fun x H2 hy => ?_⟩
  obtain ⟨rfl, rfl⟩ := hy
  exact ⟨Z', .refl, hr, .int _⟩
/-- a list or a tuple -/
def iSeq (K : PySem.W.Frag) (tl : TE) : TI := fun σ H R => tl σ H fun x H1 => ∃ a, x = .ref a ∧ (((∃ xs, SqL K H1 a xs) ∧ R (Itl K a) H1) ∨ ((∃ xs, SqT K H1 a xs) ∧ R (Itt K a) H1))
theorem pi_seq {tl : TE} (hl : PE X e tl) : PI X tg e (iSeq X.K tl) := by
  refine ⟨fun pins s σ H R I h => thn (hl.run pins s σ H _ I h) fun v s1 ⟨x, H1, J1, r1, a, ex, q1⟩ => ?_⟩
  subst ex
  cases r1
  have fp : ∀ b ∈ [s1.heap.objs.size], H1 b = none ∧ FpOk X pins H1 b := fun b hb => by
    obtain rfl : b = s1.heap.objs.size := by simpa using hb
    have z := J1.hok.fresh (Nat.le_refl _)
    exact ⟨z, J1.fpOk (Nat.le_refl _) z⟩
  rcases q1 with ⟨⟨xs, hq⟩, q⟩ | ⟨⟨xs, hq⟩, q⟩
  · obtain ⟨its, rv, p, hz⟩ := J1.list hq
    refine wpAny_pyIter_list p.isList ⟨_, _, _, _, H1, rfl, J1.kept (t' := s1.toks) fun b o e => Heap.get?_push_of_some _ e, turn_list a s1.heap.objs.size, ⟨_, Heap.get?_push_size _ rfl, rfl, rfl⟩, fun b hb => (fp b hb).2, q⟩
  · obtain ⟨its, rv, p, hz⟩ := J1.tuple hq
    refine wpAny_pyIter_tuple (show s1.heap.IsTuple a its.toArray from p) ⟨_, _, _, _, H1, rfl, J1.kept (t' := s1.toks) fun b o e => Heap.get?_push_of_some _ e, turn_tuple a s1.heap.objs.size, ⟨_, Heap.get?_push_size _ rfl, rfl, rfl⟩, fun b hb => (fp b hb).2, q⟩
theorem qi_seq (ha : QE X C W e g) : QI X C W tg e (gSeqI g) := by
  obtain ⟨ta, pa, qa⟩ := ha
  refine ⟨_, pi_seq pa, fun σ H Z ι Γ M Q sl hr h => qa σ H Z ι Γ M _ sl hr (h.bind fun x M1 v H1 Z1 ι1 e1 hr1 r1 h1 => ?_)⟩
  obtain ⟨ds, hd, h2⟩ := Post.of_opR (γ := D) (δ := V) h1
  cases r1 with
  | lst s r =>
    cases hd
    exact ⟨_, rfl, .inl ⟨⟨_, (subL hr1.sub s).sq⟩, h2 _ H1 Z1 ι1 .refl hr1 (itr_l s r)⟩⟩
  | tup s r =>
    cases hd
    exact ⟨_, rfl, .inr ⟨⟨_, subT hr1.sub s⟩, h2 _ H1 Z1 ι1 .refl hr1 (itr_t s r)⟩⟩
  | ptu s r =>
    cases hd
    exact ⟨_, rfl, .inr ⟨⟨_, subT hr1.sub s.sq⟩, h2 _ H1 Z1 ι1 .refl hr1 (itr_t s.sq r)⟩⟩
  | _ => cases hd
theorem qi_rng1 {p : Pos} (hg : Gl X "range") (hm : X.mg "range" = none) (ha : QA X C W [a] gs) (hs : starEach [a] X.env = [(false, eval a X.env)] := by rfl) : QI X C W tg (.Call (.Name "range" p) [a] [] pos) (gRng1 gs) := by
  obtain ⟨ta, pa, qa⟩ := ha
  refine ⟨_, pi_range1 hg hm pa hs, fun σ H Z ι Γ M Q sl hr h => qa σ H Z ι Γ M _ sl hr (h.bind fun x M1 v H1 Z1 ι1 e1 hr1 r1 h1 => ?_)⟩
  obtain ⟨ds, hd, h2⟩ := Post.of_opR (γ := D) (δ := V) h1
  unfold rng1 at hd
  split at hd
  · rename_i j
    cases r1 with
    | cons r rr =>
      cases r
      cases rr
      by_cases hj : inR j = true
      · rw [if_pos hj] at hd
        cases hd
        simp only [inR, Bool.and_eq_true, decide_eq_true_eq] at hj
        exact ⟨j, rfl, hj.1, hj.2, h2 _ H1 Z1 ι1 .refl hr1 itr_r⟩
      · rw [if_neg hj] at hd
        cases hd
  · cases hd
theorem qi_rng2 {p : Pos} (hg : Gl X "range") (hm : X.mg "range" = none) (ha : QA X C W [a, b] gs) (hs : starEach [a, b] X.env = [(false, eval a X.env), (false, eval b X.env)] := by rfl) (hs2 : starEach [b] X.env = [(false, eval b X.env)] := by rfl) : QI X C W tg (.Call (.Name "range" p) [a, b] [] pos) (gRng2 gs) := by
  obtain ⟨ta, pa, qa⟩ := ha
  refine ⟨_, pi_range2 hg hm pa hs (hs2 := hs2), fun σ H Z ι Γ M Q sl hr h => qa σ H Z ι Γ M _ sl hr (h.bind fun x M1 v H1 Z1 ι1 e1 hr1 r1 h1 => ?_)⟩
  obtain ⟨ds, hd, h2⟩ := Post.of_opR (γ := D) (δ := V) h1
  unfold rng2 at hd
  split at hd
  · rename_i i j
    cases r1 with
    | cons r rr =>
      cases r
      cases rr with
      | cons r2 rr =>
        cases r2
        cases rr
        by_cases hj : (inR i && inR j) = true
        · rw [if_pos hj] at hd
          cases hd
          simp only [inR, Bool.and_eq_true, decide_eq_true_eq] at hj
          exact ⟨i, j, rfl, ⟨hj.1.1, hj.1.2, hj.2.1, hj.2.2⟩, h2 _ H1 Z1 ι1 .refl hr1 itr_r⟩
        · rw [if_neg hj] at hd
          cases hd
  · cases hd
end

/-! ### targets -/
abbrev GG := D → Env → Option Env
abbrev GGs := List D → Env → Option Env
def gTo (i : Nat) : GG := fun d Γ => some (Γ.set i (some d))
def gToT (gs : GGs) : GG := fun d Γ => match d with
  | .tup ds => gs ds Γ
  | _ => none
def gToNil : GGs := fun ds Γ => match ds with
  | [] => some Γ
  | _ :: _ => none
def gToCons (g : GG) (gs : GGs) : GGs := fun ds Γ => match ds with
  | [] => none
  | d :: r => (g d Γ).bind fun Γ1 => gs r Γ1
def Wip (is : List Nat) (σ σ' : St) : Prop := ∀ vs : List Nat, (∀ i ∈ is, i ∈ vs) → wipe σ' vs = wipe σ vs
theorem wipe_set {σ : St} {i : Nat} {v : V} : ∀ {vs : List Nat}, i ∈ vs → wipe (σ.set i (some v)) vs = wipe σ vs
  | [], h => nomatch h
  | j :: vs, h => by
    show (wipe (σ.set i (some v)) vs).set j none = (wipe σ vs).set j none
    by_cases hm : i ∈ vs
    · rw [wipe_set hm]
    · have e : i = j := by
        rcases List.mem_cons.mp h with e | e
        · exact e
        · exact absurd e hm
      subst e
      have z : ∀ vs : List Nat, i ∉ vs → wipe (σ.set i (some v)) vs = (wipe σ vs).set i (some v) := by
        intro vs
        induction vs with
        | nil => intro _; rfl
        | cons k vs ih =>
          intro hk
          show (wipe (σ.set i (some v)) vs).set k none = ((wipe σ vs).set k none).set i (some v)
          rw [ih fun q => hk (List.mem_cons_of_mem _ q), List.set_comm _ _ (fun q => hk (by rw [q]; exact List.mem_cons_self))]
      rw [z vs hm, List.set_set]
def QG (X : Cx) (tg : Expr) (g : GG) (is : List Nat) : Prop := ∃ t, PG X tg t ∧ ∀ (v : V) (σ : St) (H Z : Hp) (ι : Nat → Addr) (n : Nat) (d : D) (Γ Γ' : Env) (Q : L2.St → Hp → Prop), Sub Z H → Slots X.K Z ι n Γ σ → Rp X.K Z ι n d v → g d Γ = some Γ' →
  (∀ σ', Slots X.K Z ι n Γ' σ' → Wip is σ σ' → Q σ' H) → t v σ H Q
def QGs (X : Cx) (tgs : List Expr) (g : GGs) (is : List Nat) : Prop := ∃ t, PGs X tgs t ∧ ∀ (vs : List V) (σ : St) (H Z : Hp) (ι : Nat → Addr) (n : Nat) (ds : List D) (Γ Γ' : Env) (Q : L2.St → Hp → Prop), Sub Z H → Slots X.K Z ι n Γ σ → Rps X.K Z ι n ds vs → g ds Γ = some Γ' →
  (∀ σ', Slots X.K Z ι n Γ' σ' → Wip is σ σ' → Q σ' H) → t vs σ H Q
section
variable {X : Cx} {e : Expr} {es : List Expr} {g : GG} {gs : GGs} {is js : List Nat} {pos : Pos}
theorem qg_name (i : Nat) {x : Str} (hN : X.N.Nodup) (hi : X.N[i]? = some x := by rfl) (hx : Loc X.env.scope x := by first | exact Or.inl rfl | exact Or.inr rfl)
    (hf : X.fn x = true ∨ X.env.scope.names.lookup x = some .local := by first | exact Or.inl rfl | exact Or.inr rfl) : QG X (.Name x pos) (gTo i) [i] := by
  refine ⟨_, pg_name hN hi hx hf, fun v σ H Z ι n d Γ Γ' Q hs sl r e h => ?_⟩
  cases e
  exact h _ (sl.set i r) fun vs hv => wipe_set (hv i (by simp))
theorem qgs_nil : QGs X [] gToNil [] := by
  refine ⟨_, pgs_nil, fun vs σ H Z ι n ds Γ Γ' Q hs sl r e h => ?_⟩
  cases r with
  | nil =>
    cases e
    exact ⟨rfl, h _ sl fun _ _ => rfl⟩
  | cons _ _ => cases e
theorem qgs_cons (h1 : QG X e g is) (h2 : QGs X es gs js) (hs : (assignEach (e :: es) X.env).map (·.2) = assign e X.env :: (assignEach es X.env).map (·.2) := by rfl) : QGs X (e :: es) (gToCons g gs) (is ++ js) := by
  obtain ⟨t1, p1, q1⟩ := h1
  obtain ⟨t2, p2, q2⟩ := h2
  refine ⟨_, pgs_cons p1 p2 hs, fun vs σ H Z ι n ds Γ Γ' Q hs sl r e h => ?_⟩
  cases r with
  | nil => cases e
  | cons r1 r2 =>
    rename_i d v ds vs
    have e' : (g d Γ).bind (fun Γ1 => gs ds Γ1) = some Γ' := e
    cases eg : g d Γ with
    | none => rw [eg] at e'; cases e'
    | some Γ1 =>
      rw [eg] at e'
      refine ⟨v, vs, rfl, q1 v σ H Z ι n d Γ Γ1 _ hs sl r1 eg fun σ1 s1 w1 => q2 vs σ1 H Z ι n ds Γ1 Γ' _ hs s1 r2 e' fun σ2 s2 w2 => h σ2 s2 fun us hu => ?_⟩
      rw [w2 us fun i hi => hu i (List.mem_append_right _ hi), w1 us fun i hi => hu i (List.mem_append_left _ hi)]
theorem qg_tup {k : Nat} {n : Nat} (hc : X.calm = true) (h : QGs X es gs is) (hn : (assignEach es X.env).length = n := by rfl) (hst : (assignEach es X.env).findIdx? (·.1) = none := by rfl) (hlen : ∀ ds Γ Γ', gs ds Γ = some Γ' → ds.length = n) : QG X (.Tuple es k pos) (gToT gs) is := by
  obtain ⟨t, p, q⟩ := h
  refine ⟨_, pg_tup hc p hn (hst := hst), fun v σ H Z ι m d Γ Γ' Q hs sl r e h => ?_⟩
  cases r with
  | tup s r =>
    have e' : gs _ Γ = some Γ' := e
    exact ⟨_, _, rfl, subT hs s, by rw [← r.length]; exact hlen _ _ _ e', q _ σ H Z ι m _ Γ Γ' Q hs sl r e' h⟩
  | _ => cases e
theorem len_nil : ∀ (ds : List D) (Γ Γ' : Env), gToNil ds Γ = some Γ' → ds.length = 0 := fun ds Γ Γ' e => by
  cases ds with
  | nil => rfl
  | cons _ _ => cases e
theorem len_cons {g : GG} {gs : GGs} {n : Nat} (h : ∀ (ds : List D) (Γ Γ' : Env), gs ds Γ = some Γ' → ds.length = n) : ∀ (ds : List D) (Γ Γ' : Env), gToCons g gs ds Γ = some Γ' → ds.length = n + 1 := fun ds Γ Γ' e => by
  cases ds with
  | nil => cases e
  | cons d ds =>
    have e' : (g d Γ).bind (fun Γ1 => gs ds Γ1) = some Γ' := e
    cases eg : g d Γ with
    | none => rw [eg] at e'; cases e'
    | some Γ1 =>
      rw [eg] at e'
      rw [List.length_cons, h _ _ _ e']
end

/-! ### statements -/
def PostS (X : Cx) (C : CT) (W : WX) (H Z : Hp) (ι : Nat → Addr) (M : List MO) (r : RS) (Dd : Ends) : Prop := match r with
  | .nx Γ M' => ∀ (σ' : L2.St) (H' Z' : Hp) (ι' : Nat → Addr), Ext H Z ι M.length H' Z' ι' M'.length → HR X.K H' Z' ι' M' → Slots X.K Z' ι' M'.length Γ σ' → Dd.nx σ' H'
  | .bk Γ M' => ∀ (σ' : L2.St) (H' Z' : Hp) (ι' : Nat → Addr), Ext H Z ι M.length H' Z' ι' M'.length → HR X.K H' Z' ι' M' → Slots X.K Z' ι' M'.length Γ σ' → Dd.bk σ' H'
  | .ct Γ M' => ∀ (σ' : L2.St) (H' Z' : Hp) (ι' : Nat → Addr), Ext H Z ι M.length H' Z' ι' M'.length → HR X.K H' Z' ι' M' → Slots X.K Z' ι' M'.length Γ σ' → Dd.ct σ' H'
  | .rt d M' => ∀ (v : V) (H' Z' : Hp) (ι' : Nat → Addr), Ext H Z ι M.length H' Z' ι' M'.length → HR X.K H' Z' ι' M' → Rp X.K Z' ι' M'.length d v → Dd.rt v H'
  | .exc c d Γ M' => ∀ (cls : Value) (dd : Option Addr) (σ' : L2.St) (H' Z' : Hp) (ι' : Nat → Addr), Ext H Z ι M.length H' Z' ι' M'.length → HR X.K H' Z' ι' M' → Slots X.K Z' ι' M'.length Γ σ' → ExcR X.K C H' Z' ι' M'.length c d cls dd → W cls dd σ' H'
  | .bad => False
def QS (X : Cx) (C : CT) (W : WX) (st : Stmt) (g : GS) : Prop := ∃ ts, PS X st ts ∧ ∀ (Dd : Ends) (σ : L2.St) (H Z : Hp) (ι : Nat → Addr) (Γ : Env) (M : List MO), Slots X.K Z ι M.length Γ σ → HR X.K H Z ι M → PostS X C W H Z ι M (g Γ M) Dd → ts Dd σ H
def QSs (X : Cx) (C : CT) (W : WX) (st : List Stmt) (g : GS) : Prop := ∃ ts, PSs X st ts ∧ ∀ (Dd : Ends) (σ : L2.St) (H Z : Hp) (ι : Nat → Addr) (Γ : Env) (M : List MO), Slots X.K Z ι M.length Γ σ → HR X.K H Z ι M → PostS X C W H Z ι M (g Γ M) Dd → ts Dd σ H
def R.thenS {α : Type} (Γ : Env) (r : R α) (f : α → List MO → RS) : RS := match r with
  | .ok a M => f a M
  | .exc c d M => .exc c d Γ M
  | .bad => .bad
def RS.next (r : RS) (f : Env → List MO → RS) : RS := match r with
  | .nx Γ M => f Γ M
  | r => r
def gPass : GS := fun Γ M => .nx Γ M
def gSeq (a b : GS) : GS := fun Γ M => (a Γ M).next b
def gExpr (ge : GE) : GS := fun Γ M => (ge Γ M).thenS Γ fun _ M1 => .nx Γ M1
def gRet (ge : GE) : GS := fun Γ M => (ge Γ M).thenS Γ fun d M1 => .rt d M1
def gRetN : GS := fun _ M => .rt .non M
def gIf (c : GT) (a b : GS) : GS := fun Γ M => (c Γ M).thenS Γ fun k M1 => if k = true then a Γ M1 else b Γ M1
def gAsg (ge : GE) (gg : GG) : GS := fun Γ M => (ge Γ M).thenS Γ fun d M1 => match gg d Γ with
  | some Γ' => .nx Γ' M1
  | none => .bad
def gBad : GS := fun _ _ => .bad
def gForget (is : List Nat) : GS := fun Γ M => .nx (forget Γ is) M
/-- a list of ours that stands in a slot is left as it is from now on -/
def gFz (i : Nat) : GS := fun Γ M => match Γ[i]? with
  | some (some (.ref k)) => match M[k]? with
    | some (.lst ds) => .nx (Γ.set i (some (.lst ds))) (M.set k .dead)
    | some (.dct ks vs) => .nx (Γ.set i (some (.dct ks vs))) (M.set k .dead)
    | _ => .bad
  | _ => .bad
/-- what the turn has made is dropped -/
def gCut (m : Nat) (r : RS) : RS := match r with
  | .nx Γ M => if m ≤ M.length ∧ cutOk m M = true then .nx (clean m Γ) (M.take m) else .bad
  | .ct Γ M => if m ≤ M.length ∧ cutOk m M = true then .ct (clean m Γ) (M.take m) else .bad
  | r => r
def gScope (a : GS) : GS := fun Γ M => gCut M.length (a Γ M)
/-- behind a loop's turn -/
def RS.turn (r : RS) (f : Env → List MO → RS) : RS := match r with
  | .nx Γ M => f Γ M
  | .ct Γ M => f Γ M
  | .bk Γ M => .nx Γ M
  | r => r
def optS (o : Option Env) (f : Env → RS) : RS := match o with
  | some Γ => f Γ
  | none => .bad
def gForL (gg : GG) (body : GS) : List D → GS
  | [] => gPass
  | d :: ds => fun Γ M => optS (gg d Γ) fun Γ1 => (body Γ1 M).turn (gForL gg body ds)
def gFor (gi : GI) (gg : GG) (body : GS) : GS := fun Γ M => (gi Γ M).thenS Γ fun ds M1 => gForL gg body ds Γ M1
def gWhile (gt : GT) (body : GS) : Nat → GS
  | 0 => gBad
  | n + 1 => fun Γ M => (gt Γ M).thenS Γ fun k M1 => if k = true then (body Γ M1).turn (gWhile gt body n) else .nx Γ M1
section
variable {X : Cx} {C : CT} {W : WX} {H Z H1 Z1 : Hp} {ι ι1 : Nat → Addr} {M M1 : List MO} {Dd : Ends}
theorem PostS.shift {r : RS} (h : PostS X C W H Z ι M r Dd) (e : Ext H Z ι M.length H1 Z1 ι1 M1.length) (hr : HR X.K H1 Z1 ι1 M1) : PostS X C W H1 Z1 ι1 M1 r Dd := by
  cases r with
  | nx Γ M' => exact fun σ' H' Z' ι' e' => h σ' H' Z' ι' (e.trans e' hr.ali)
  | bk Γ M' => exact fun σ' H' Z' ι' e' => h σ' H' Z' ι' (e.trans e' hr.ali)
  | ct Γ M' => exact fun σ' H' Z' ι' e' => h σ' H' Z' ι' (e.trans e' hr.ali)
  | rt d M' => exact fun σ' H' Z' ι' e' => h σ' H' Z' ι' (e.trans e' hr.ali)
  | exc c d Γ M' => exact fun cls dd σ' H' Z' ι' e' => h cls dd σ' H' Z' ι' (e.trans e' hr.ali)
  | bad => exact h
theorem PostS.bind {α β : Type} {rp1 : RpK α β} {r : R α} {f : α → List MO → RS} {Γ : Env} {σ : St} {Q1 : β → Hp → Prop} (h : PostS X C W H Z ι M (r.thenS Γ f) Dd) (sl : Slots X.K Z ι M.length Γ σ)
    (k : ∀ (a : α) (M1 : List MO) (b : β) (H1 Z1 : Hp) (ι1 : Nat → Addr), Ext H Z ι M.length H1 Z1 ι1 M1.length → HR X.K H1 Z1 ι1 M1 → rp1 Z1 ι1 M1.length a b → PostS X C W H1 Z1 ι1 M1 (f a M1) Dd → Q1 b H1) :
    Post X C W rp1 σ H Z ι M r Q1 := by
  cases r with
  | ok a M' => exact fun b H' Z' ι' e' hr' rb => k a M' b H' Z' ι' e' hr' rb (PostS.shift (r := f a M') h e' hr')
  | exc c d M' => exact fun cls dd H' Z' ι' e' hr' rb => h cls dd σ H' Z' ι' e' hr' (sl.ext e') rb
  | bad => exact h
theorem PostS.next {r : RS} {f : Env → List MO → RS} {nx : L2.St → Hp → Prop} (h : PostS X C W H Z ι M (r.next f) Dd)
    (k : ∀ (Γ1 : Env) (M1 : List MO) (σ1 : L2.St) (H1 Z1 : Hp) (ι1 : Nat → Addr), Ext H Z ι M.length H1 Z1 ι1 M1.length → HR X.K H1 Z1 ι1 M1 → Slots X.K Z1 ι1 M1.length Γ1 σ1 → PostS X C W H1 Z1 ι1 M1 (f Γ1 M1) Dd → nx σ1 H1) :
    PostS X C W H Z ι M r { Dd with nx := nx } := by
  cases r with
  | nx Γ M' => exact fun σ' H' Z' ι' e' hr' sl => k Γ M' σ' H' Z' ι' e' hr' sl (PostS.shift (r := f Γ M') h e' hr')
  | bk Γ M' => exact h
  | ct Γ M' => exact h
  | rt d M' => exact h
  | exc c d Γ M' => exact h
  | bad => exact h
variable {st : Stmt} {rest : List Stmt} {e tg : Expr} {ge : GE} {gt : GT} {gg : GG} {g g2 : GS} {pos : Pos}
theorem qss_nil : QSs X C W [] gPass := ⟨_, pss_nil, fun Dd σ H Z ι Γ M sl hr h => h σ H Z ι .refl hr sl⟩
theorem qss_cons (h1 : QS X C W st g) (h2 : QSs X C W rest g2) : QSs X C W (st :: rest) (gSeq g g2) := by
  obtain ⟨t1, p1, q1⟩ := h1
  obtain ⟨t2, p2, q2⟩ := h2
  exact ⟨_, pss_cons p1 p2, fun Dd σ H Z ι Γ M sl hr h => q1 _ σ H Z ι Γ M sl hr (PostS.next h fun Γ1 M1 σ1 H1 Z1 ι1 e1 hr1 sl1 h1 => q2 Dd σ1 H1 Z1 ι1 Γ1 M1 sl1 hr1 h1)⟩
theorem qss_one (h1 : QS X C W st g) : QSs X C W [st] g := let ⟨t, p, q⟩ := h1; ⟨t, pss_one p, q⟩
theorem qss_never {sts : List Stmt} : QSs X C W sts gBad := ⟨_, pss_never, fun Dd σ H Z ι Γ M sl hr h => h⟩
theorem qs_never : QS X C W st gBad := ⟨_, ps_never, fun Dd σ H Z ι Γ M sl hr h => h⟩
theorem qs_pass : QS X C W (.Pass pos) gPass := ⟨_, ps_pass, fun Dd σ H Z ι Γ M sl hr h => h σ H Z ι .refl hr sl⟩
/-- a step of our own behind a statement -/
theorem qs_ghost {g3 : GS} (h1 : QS X C W st g) (h : ∀ (Dd : Ends) (σ : L2.St) (H Z : Hp) (ι : Nat → Addr) (Γ : Env) (M : List MO), Slots X.K Z ι M.length Γ σ → HR X.K H Z ι M → PostS X C W H Z ι M (g3 Γ M) Dd → Dd.nx σ H) : QS X C W st (gSeq g g3) := by
  obtain ⟨t1, p1, q1⟩ := h1
  exact ⟨_, p1, fun Dd σ H Z ι Γ M sl hr hp => q1 Dd σ H Z ι Γ M sl hr (PostS.next (nx := Dd.nx) hp fun Γ1 M1 σ1 H1 Z1 ι1 e1 hr1 sl1 h1 => h Dd σ1 H1 Z1 ι1 Γ1 M1 sl1 hr1 h1)⟩
theorem qs_forget (is : List Nat) (h1 : QS X C W st g) : QS X C W st (gSeq g (gForget is)) := qs_ghost h1 fun Dd σ H Z ι Γ M sl hr h => h σ H Z ι .refl hr (sl.forget is)
theorem qs_fz (i : Nat) (h1 : QS X C W st g) : QS X C W st (gSeq g (gFz i)) := qs_ghost h1 fun Dd σ H Z ι Γ M sl hr h => by
  unfold gFz at h
  cases e : Γ[i]? with
  | none => rw [e] at h; exact h.elim
  | some o =>
    rw [e] at h
    cases o with
    | none => exact h.elim
    | some d =>
      cases d with
      | ref k =>
        simp only at h
        cases e2 : M[k]? with
        | none => rw [e2] at h; exact h.elim
        | some u =>
          rw [e2] at h
          cases u with
          | dead => exact h.elim
          | dki kvs0 => exact h.elim
          | obj nm fs => exact h.elim
          | lst ds =>
            obtain ⟨xs, r, hr1, x1, rp⟩ := hr.freeze e2
            obtain ⟨v, hv, rv⟩ := sl.2 i _ e
            cases rv
            have q := (sl.ext x1).set i rp
            have es : σ.set i (some (V.ref (ι k))) = σ := by
              have lt : i < σ.length := (List.getElem?_eq_some_iff.mp hv).1
              have ev : σ[i] = some (V.ref (ι k)) := (List.getElem?_eq_some_iff.mp hv).2
              rw [← ev, List.set_getElem_self]
            rw [es] at q
            exact h σ H _ ι x1 hr1 q
          | dct ks vs =>
            obtain ⟨ho, r, hr1, x1, rp⟩ := hr.freezeD e2
            obtain ⟨v, hv, rv⟩ := sl.2 i _ e
            cases rv
            have q := (sl.ext x1).set i rp
            have es : σ.set i (some (V.ref (ι k))) = σ := by
              have lt : i < σ.length := (List.getElem?_eq_some_iff.mp hv).1
              have ev : σ[i] = some (V.ref (ι k)) := (List.getElem?_eq_some_iff.mp hv).2
              rw [← ev, List.set_getElem_self]
            rw [es] at q
            exact h σ H _ ι x1 hr1 q
      | _ => exact h.elim
theorem qs_expr (ha : QE X C W e ge) (hs : swapsWith e none pos.line X.env = pure false := by rfl) : QS X C W (.Expr e pos) (gExpr ge) := by
  obtain ⟨ta, pa, qa⟩ := ha
  exact ⟨_, ps_expr pa hs, fun Dd σ H Z ι Γ M sl hr h => qa σ H Z ι Γ M _ sl hr (PostS.bind h sl fun x M1 v H1 Z1 ι1 e1 hr1 r1 h1 => h1 σ H1 Z1 ι1 .refl hr1 (sl.ext e1))⟩
theorem qs_ret (ha : QE X C W e ge) : QS X C W (.Return (some e) pos) (gRet ge) := by
  obtain ⟨ta, pa, qa⟩ := ha
  exact ⟨_, ps_ret pa, fun Dd σ H Z ι Γ M sl hr h => qa σ H Z ι Γ M _ sl hr (PostS.bind h sl fun x M1 v H1 Z1 ι1 e1 hr1 r1 h1 => h1 v H1 Z1 ι1 .refl hr1 r1)⟩
theorem qs_retN : QS X C W (.Return none pos) gRetN := ⟨_, ps_retN, fun Dd σ H Z ι Γ M sl hr h => h _ H Z ι .refl hr .non⟩
theorem qs_if {c : Expr} {a b : List Stmt} (hc : QT X C W c gt) (ha : QSs X C W a g) (hb : QSs X C W b g2) : QS X C W (.If c a b pos) (gIf gt g g2) := by
  obtain ⟨tc, pc, qc⟩ := hc
  obtain ⟨ta, pa, qa⟩ := ha
  obtain ⟨tb, pb, qb⟩ := hb
  refine ⟨_, ps_if pc pa pb, fun Dd σ H Z ι Γ M sl hr h => qc σ H Z ι Γ M _ sl hr (PostS.bind h sl fun x M1 v H1 Z1 ι1 e1 hr1 r1 h1 => ?_)⟩
  have r1' : x = v := r1
  subst r1'
  cases x with
  | true => exact qa Dd σ H1 Z1 ι1 Γ M1 (sl.ext e1) hr1 h1
  | false => exact qb Dd σ H1 Z1 ι1 Γ M1 (sl.ext e1) hr1 h1
theorem qs_asg {is : List Nat} (ha : QE X C W e ge) (hg : QG X tg gg is) (hs : swapsWithSole [tg] e pos.line X.env = pure false := by rfl) (hp : swappedStores [tg] e X.env = pure none := by rfl) (h1 : (assignEach [tg] X.env).map (·.2) = [assign tg X.env] := by rfl) : QS X C W (.Assign [tg] e pos) (gAsg ge gg) := by
  obtain ⟨ta, pa, qa⟩ := ha
  obtain ⟨t2, p2, q2⟩ := hg
  refine ⟨_, ps_asg pa p2 hs (hw := hp) (h1 := h1), fun Dd σ H Z ι Γ M sl hr h => qa σ H Z ι Γ M _ sl hr (PostS.bind h sl fun x M1 v H1 Z1 ι1 e1 hr1 r1 h1 => ?_)⟩
  cases eg : gg x Γ with
  | none => rw [eg] at h1; exact h1.elim
  | some Γ' =>
    rw [eg] at h1
    exact q2 v σ H1 Z1 ι1 M1.length x Γ Γ' _ hr1.sub (sl.ext e1) r1 eg fun σ' s' _ => h1 σ' H1 Z1 ι1 .refl hr1 s'

theorem qss_scope (h1 : QSs X C W rest g) : QSs X C W rest (gScope g) := by
  obtain ⟨t1, p1, q1⟩ := h1
  refine ⟨_, p1, fun Dd σ H Z ι Γ M sl hr h => q1 Dd σ H Z ι Γ M sl hr ?_⟩
  have h' : PostS X C W H Z ι M (gCut M.length (g Γ M)) Dd := h
  cases er : g Γ M with
  | nx Γ' M' =>
    rw [er] at h'
    by_cases hc : M.length ≤ M'.length ∧ cutOk M.length M' = true
    · have h2 : PostS X C W H Z ι M (if M.length ≤ M'.length ∧ cutOk M.length M' = true then .nx (clean M.length Γ') (M'.take M.length) else .bad) Dd := h'
      rw [if_pos hc] at h2
      have ln : (M'.take M.length).length = M.length := by rw [List.length_take]; omega
      intro σ' H' Z' ι' e1 hr1 sl1
      refine h2 σ' H' Z' ι' (by rw [ln]; exact e1.cut (Nat.le_refl _) hc.1) (hr1.cut hc.1 hc.2) (by rw [ln]; exact sl1.cut)
    · have h2 : PostS X C W H Z ι M (if M.length ≤ M'.length ∧ cutOk M.length M' = true then .nx (clean M.length Γ') (M'.take M.length) else .bad) Dd := h'
      rw [if_neg hc] at h2
      exact h2.elim
  | ct Γ' M' =>
    rw [er] at h'
    by_cases hc : M.length ≤ M'.length ∧ cutOk M.length M' = true
    · have h2 : PostS X C W H Z ι M (if M.length ≤ M'.length ∧ cutOk M.length M' = true then .ct (clean M.length Γ') (M'.take M.length) else .bad) Dd := h'
      rw [if_pos hc] at h2
      have ln : (M'.take M.length).length = M.length := by rw [List.length_take]; omega
      intro σ' H' Z' ι' e1 hr1 sl1
      refine h2 σ' H' Z' ι' (by rw [ln]; exact e1.cut (Nat.le_refl _) hc.1) (hr1.cut hc.1 hc.2) (by rw [ln]; exact sl1.cut)
    · have h2 : PostS X C W H Z ι M (if M.length ≤ M'.length ∧ cutOk M.length M' = true then .ct (clean M.length Γ') (M'.take M.length) else .bad) Dd := h'
      rw [if_neg hc] at h2
      exact h2.elim
  | bk Γ' M' => rw [er] at h'; exact h'
  | rt d M' => rw [er] at h'; exact h'
  | exc c d Γ' M' => rw [er] at h'; exact h'
  | bad => rw [er] at h'; exact h'
/-- a loop's turn: what is wanted behind it -/
theorem PostS.turn {r : RS} {f : Env → List MO → RS} {N : L2.St → Hp → Prop} (h : PostS X C W H Z ι M (r.turn f) Dd)
    (k : ∀ (Γ1 : Env) (M1 : List MO) (σ1 : L2.St) (H1 Z1 : Hp) (ι1 : Nat → Addr), Ext H Z ι M.length H1 Z1 ι1 M1.length → HR X.K H1 Z1 ι1 M1 → Slots X.K Z1 ι1 M1.length Γ1 σ1 → PostS X C W H1 Z1 ι1 M1 (f Γ1 M1) Dd → N σ1 H1) :
    PostS X C W H Z ι M r { Dd with nx := N, ct := N, bk := Dd.nx } := by
  cases r with
  | nx Γ M' => exact fun σ' H' Z' ι' e' hr' sl => k Γ M' σ' H' Z' ι' e' hr' sl (PostS.shift (r := f Γ M') h e' hr')
  | ct Γ M' => exact fun σ' H' Z' ι' e' hr' sl => k Γ M' σ' H' Z' ι' e' hr' sl (PostS.shift (r := f Γ M') h e' hr')
  | bk Γ M' => exact h
  | rt d M' => exact h
  | exc c d Γ M' => exact h
  | bad => exact h
theorem qs_for {iter : Expr} {body : List Stmt} {gi : GI} {is : List Nat} (hp : PassesOwn (model X.prog X.w) X.A X.env X.xe) (hc : X.calm = true) (hi : QI X C W tg iter gi) (hg : QG X tg gg is) (hb : QSs X C W body g)
    (hs : ∀ x, foldedSetIterable iter X.env x = pure x := by intro _; rfl) : QS X C W (.For tg iter body [] pos) (gFor gi gg g) := by
  obtain ⟨wi, pi, qi⟩ := hi
  obtain ⟨tg', pg, qg⟩ := hg
  obtain ⟨tb, pb, qb⟩ := hb
  refine ⟨_, ps_for hp hc pi pg pb hs, fun Dd σ H Z ι Γ M sl hr h => qi σ H Z ι Γ M _ sl hr (PostS.bind h sl fun ds M1 J H1 Z1 ι1 e1 hr1 rJ h1 => ?_)⟩
  refine ⟨fun i m σ' H' => ∃ (Z' : Hp) (ι' : Nat → Addr) (Γ' : Env) (M' : List MO), m = ds.length - i ∧ i ≤ ds.length ∧ Sub Z1 Z' ∧ (∀ k, k < M1.length → ι' k = ι1 k) ∧ M1.length ≤ M'.length ∧ HR X.K H' Z' ι' M' ∧ Slots X.K Z' ι' M'.length Γ' σ' ∧
    PostS X C W H' Z' ι' M' (gForL gg g (ds.drop i) Γ' M') Dd, ⟨ds.length, Z1, ι1, Γ, M1, rfl, Nat.zero_le _, fun _ _ z => z, fun _ _ => rfl, Nat.le_refl _, hr1, sl.ext e1, h1⟩, ?_⟩
  rintro i m σ' H' ⟨Z', ι', Γ', M', em, hle, hz, hii, hn, hr', sl', hp'⟩
  obtain ⟨hstop, hgo⟩ := rJ i H' Z' ι' M' hz hii hn hr' trivial
  by_cases hi : i < ds.length
  · refine .inr ?_
    have ed : ds.drop i = ds[i] :: ds.drop (i + 1) := List.drop_eq_getElem_cons hi
    obtain ⟨go, yl⟩ := hgo ds[i] (List.getElem?_eq_getElem hi)
    refine ⟨go, fun σ2 H2 => ∃ (Z2 : Hp) (ι2 : Nat → Addr) (Γ2 : Env) (M2 : List MO), Sub Z1 Z2 ∧ (∀ k, k < M1.length → ι2 k = ι1 k) ∧ M1.length ≤ M2.length ∧ HR X.K H2 Z2 ι2 M2 ∧ Slots X.K Z2 ι2 M2.length Γ2 σ2 ∧
      PostS X C W H2 Z2 ι2 M2 (gForL gg g (ds.drop (i + 1)) Γ2 M2) Dd, fun σ2 H2 hN => ?_, fun x H2 hy => ?_⟩
    · obtain ⟨Z2, ι2, Γ2, M2, a1, a2, a3, a4, a5, a6⟩ := hN
      exact ⟨ds.length - (i + 1), by omega, Z2, ι2, Γ2, M2, rfl, by omega, a1, a2, a3, a4, a5, a6⟩
    · obtain ⟨Z2, e2, hr2, rx⟩ := yl x H2 hy
      rw [ed] at hp'
      have hp2 := PostS.shift hp' e2 hr2
      have hb : PostS X C W H2 Z2 ι' M' (optS (gg ds[i] Γ') fun Γ1 => (g Γ1 M').turn (gForL gg g (ds.drop (i + 1)))) Dd := hp2
      cases eg : gg ds[i] Γ' with
      | none =>
        rw [eg] at hb
        exact hb.elim
      | some Γ1 =>
        rw [eg] at hb
        exact qg x σ' H2 Z2 ι' M'.length ds[i] Γ' Γ1 _ hr2.sub (sl'.ext e2) rx eg fun σ3 s3 _ => qb _ σ3 H2 Z2 ι' Γ1 M' s3 hr2 (PostS.turn hb fun Γ4 M4 σ4 H4 Z4 ι4 e4 hr4 s4 h4 =>
          ⟨Z4, ι4, Γ4, M4, fun a o z => e4.zz _ _ (e2.zz _ _ (hz _ _ z)), fun k hk => (e4.ii k (Nat.lt_of_lt_of_le hk hn)).trans (hii k hk), Nat.le_trans hn e4.ln, hr4, s4, h4⟩)
  · refine .inl ⟨hstop (by omega), ?_⟩
    rw [List.drop_eq_nil_of_le (Nat.le_of_not_lt hi)] at hp'
    exact hp' σ' H' Z' ι' .refl hr' sl'
theorem qs_while {c : Expr} {body : List Stmt} (n : Nat) (hp : PassesOwn (model X.prog X.w) X.A X.env X.xe) (hc : QT X C W c gt) (hb : QSs X C W body g) : QS X C W (.While c body [] pos) (gWhile gt g n) := by
  obtain ⟨tc, pc, qc⟩ := hc
  obtain ⟨tb, pb, qb⟩ := hb
  refine ⟨_, ps_while hp pc pb, fun Dd σ H Z ι Γ M sl hr h => ?_⟩
  refine ⟨fun m σ' H' => ∃ (Z' : Hp) (ι' : Nat → Addr) (Γ' : Env) (M' : List MO), HR X.K H' Z' ι' M' ∧ Slots X.K Z' ι' M'.length Γ' σ' ∧ PostS X C W H' Z' ι' M' (gWhile gt g m Γ' M') Dd, ⟨n, Z, ι, Γ, M, hr, sl, h⟩, ?_⟩
  rintro m σ' H' ⟨Z', ι', Γ', M', hr', sl', hp'⟩
  cases m with
  | zero => exact hp'.elim
  | succ m =>
    refine qc σ' H' Z' ι' Γ' M' _ sl' hr' (PostS.bind hp' sl' fun x M1 v H1 Z1 ι1 e1 hr1 r1 h1 => ?_)
    have r1' : x = v := r1
    subst r1'
    cases x with
    | false => exact h1 σ' H1 Z1 ι1 .refl hr1 (sl'.ext e1)
    | true =>
      refine ⟨fun σ2 H2 => ∃ (Z2 : Hp) (ι2 : Nat → Addr) (Γ2 : Env) (M2 : List MO), HR X.K H2 Z2 ι2 M2 ∧ Slots X.K Z2 ι2 M2.length Γ2 σ2 ∧ PostS X C W H2 Z2 ι2 M2 (gWhile gt g m Γ2 M2) Dd, fun σ2 H2 hN => ⟨m, Nat.lt_succ_self _, hN⟩, ?_⟩
      exact qb _ σ' H1 Z1 ι1 Γ' M1 (sl'.ext e1) hr1 (PostS.turn h1 fun Γ4 M4 σ4 H4 Z4 ι4 e4 hr4 s4 h4 => ⟨Z4, ι4, Γ4, M4, hr4, s4, h4⟩)
end
end Bk

set_option Elab.async false
set_option linter.all false
set_option maxRecDepth 100000
set_option maxHeartbeats 2000000
namespace Bk
open PySem PySem.Spec PyProof.Rows L2

/-! ### a list made by a comprehension -/
/-- nothing may be raised -/
abbrev noW : WX := fun _ _ _ _ => False
theorem takes_no {X : Cx} : Takes X noW := fun u s' h => by
  unfold XE at h
  obtain ⟨_, _, _, _, _, _, _, h⟩ := h
  simp_all
/-- no exception goes on -/
def R.only {α β : Type} (r : R α) (f : α → List MO → R β) : R β := match r with
  | .ok a M => f a M
  | _ => .bad
def gLcL (gg : GG) (gt : GT) (ge : GE) (Γ : Env) : List D → List D → List MO → R (List D)
  | [], acc, M => .ok acc M
  | d :: ds, acc, M => match gg d Γ with
    | none => .bad
    | some Γ1 => (gt Γ1 M).only fun k M1 => if k = true then (ge Γ1 M1).only fun y M2 => if acc.length < sizeLine then gLcL gg gt ge Γ ds (acc ++ [y]) M2 else .bad else gLcL gg gt ge Γ ds acc M1
def gYes : GT := fun _ M => .ok true M
/-- the new list will not be changed -/
def gLc (gi : GI) (gg : GG) (gt : GT) (ge : GE) (own : List Nat) : GE := fun Γ M => (gi Γ M).bind fun ds M1 => (gLcL gg gt ge (forget Γ own) ds [] M1).bind fun acc M2 => .ok (.lst acc) M2
/-- the new list is ours -/
def gLcO (gi : GI) (gg : GG) (gt : GT) (ge : GE) (own : List Nat) : GE := fun Γ M => (gi Γ M).bind fun ds M1 => (gLcL gg gt ge (forget Γ own) ds [] M1).bind fun acc M2 => .ok (.ref M2.length) (M2 ++ [.lst acc])

section
variable {K : PySem.W.Frag} {H Z H0 Z0 : Hp} {ι ι0 : Nat → Addr} {M : List MO} {n0 : Nat} {p : Addr} {xs : List V} {ds : List D} {o : HO}
/-- a thing that is neither frozen nor ours -/
structure Odd (Z : Hp) (ι : Nat → Addr) (n : Nat) (p : Addr) : Prop where
  z : Z p = none
  i : ∀ k, k < n → ι k ≠ p
theorem HR.odd (h : HR K H Z ι M) (q : Odd Z ι M.length p) : HR K (upd H p o) Z ι M := by
  have lt : ∀ {k : Nat} {u : MO}, M[k]? = some u → k < M.length := fun e => (List.getElem?_eq_some_iff.mp e).1
  refine ⟨fun a u e => by rw [upd_ne (ne_of_none e q.z)]; exact h.sub _ _ e, fun k hk => by rw [upd_ne (q.i k hk)]; exact h.ali k hk, h.sep, h.inj, fun k u e => ?_, h.ded⟩
  exact OR.mono (fun _ _ z => z) (fun _ _ => rfl) (Nat.le_refl _) (fun o z => by rw [upd_ne (q.i k (lt e))]; exact z) (h.obj k u e)
theorem Odd.new (h : HR K H Z ι M) (hp : H p = none) : Odd Z ι M.length p := by
  refine ⟨?_, fun k hk e => ?_⟩
  · cases e : Z p with
    | none => rfl
    | some u =>
      rw [h.sub _ _ e] at hp
      cases hp
  · obtain ⟨u, hu⟩ := h.ali k hk
    rw [e, hp] at hu
    cases hu
theorem Odd.ext {H1 Z1 : Hp} {ι1 : Nat → Addr} {n n1 : Nat} {u : HO} (q : Odd Z ι n p) (hp : H p = some u) (e : Ext H Z ι n H1 Z1 ι1 n1) : Odd Z1 ι1 n1 p ∧ H1 p = some u := by
  refine ⟨⟨?_, fun k hk z => ?_⟩, e.fr p u hp fun k hk z => q.i k hk z.symm⟩
  · cases z : Z1 p with
    | none => rfl
    | some w =>
      rcases e.zn p w z with a | a | ⟨k, hk, a⟩
      · rw [q.z] at a; cases a
      · rw [hp] at a; cases a
      · exact absurd a.symm (q.i k hk)
  · by_cases hn : k < n
    · exact q.i k hn ((e.ii k hn).symm.trans z)
    · have w := e.nw k (Nat.le_of_not_lt hn) hk
      rw [z, hp] at w
      cases w
theorem Ext.touch {n : Nat} (e : Ext H0 Z0 ι0 n0 H Z ι n) (hp : H0 p = none) : Ext H0 Z0 ι0 n0 (upd H p o) Z ι n :=
  ⟨e.zz, e.ii, fun a u h1 h2 => by rw [upd_ne (ne_of_none h1 hp)]; exact e.fr a u h1 h2, e.nw, e.ln, e.zn⟩
theorem HR.adoptZ (h : HR K H Z ι M) (q : Odd Z ι M.length p) (hp : H p = some o) : HR K H (upd Z p o) ι M := by
  have s1 : Sub Z (upd Z p o) := fun a u e => by rw [upd_ne (ne_of_none e q.z)]; exact e
  refine ⟨fun a u e => ?_, h.ali, fun k u e d => by rw [upd_ne (q.i k (List.getElem?_eq_some_iff.mp e).1)]; exact h.sep k u e d, h.inj, fun k u e => ?_, fun k e => let ⟨u, hu⟩ := h.ded k e; ⟨u, s1 _ _ hu⟩⟩
  · by_cases ha : a = p
    · subst ha
      rw [upd_same] at e
      rw [← e]
      exact hp
    · rw [upd_ne ha] at e
      exact h.sub _ _ e
  · exact OR.mono s1 (fun _ _ => rfl) (Nat.le_refl _) (fun _ z => z) (h.obj k u e)
theorem Ext.adoptZ {n : Nat} (e : Ext H0 Z0 ι0 n0 H Z ι n) (hz : Z p = none) (hp : H0 p = none) : Ext H0 Z0 ι0 n0 H (upd Z p o) ι n :=
  ⟨fun a u h => by rw [upd_ne (ne_of_none (e.zz _ _ h) hz)]; exact e.zz _ _ h, e.ii, e.fr, e.nw, e.ln, fun a u h => by
    by_cases ha : a = p
    · subst ha
      exact .inr (.inl hp)
    · rw [upd_ne ha] at h
      exact e.zn a u h⟩
theorem HR.adoptM (h : HR K H Z ι M) (q : Odd Z ι M.length p) (hp : H p = some (.lst xs)) (r : Rps K Z ι M.length ds xs) : HR K H Z (put ι M.length p) (M ++ [.lst ds]) := by
  have ln : (M ++ [MO.lst ds]).length = M.length + 1 := by simp
  have cs : ∀ {k : Nat} {u : MO}, (M ++ [MO.lst ds])[k]? = some u → (k < M.length ∧ M[k]? = some u) ∨ (k = M.length ∧ u = .lst ds) := fun {k u} e => by
    by_cases hk : k < M.length
    · rw [List.getElem?_append_left hk] at e
      exact .inl ⟨hk, e⟩
    · rw [List.getElem?_append_right (Nat.le_of_not_lt hk)] at e
      by_cases hz : k - M.length = 0
      · rw [hz] at e
        exact .inr ⟨by omega, (Option.some.inj e).symm⟩
      · rw [List.getElem?_eq_none (by simp; omega)] at e
        cases e
  refine ⟨h.sub, fun k hk => ?_, fun k u e d => ?_, fun j k o u e1 e2 d1 d2 e => ?_, fun k u e => ?_, fun k e => ?_⟩
  · rw [ln] at hk
    by_cases hk' : k < M.length
    · rw [put_lt hk']
      exact h.ali k hk'
    · have : k = M.length := by omega
      subst this
      exact ⟨_, by rw [put_at]; exact hp⟩
  · rcases cs e with ⟨hk, e⟩ | ⟨rfl, rfl⟩
    · rw [put_lt hk]
      exact h.sep k u e d
    · rw [put_at]
      exact q.z
  · rcases cs e1 with ⟨hj, e1⟩ | ⟨rfl, rfl⟩ <;> rcases cs e2 with ⟨hk, e2⟩ | ⟨rfl, rfl⟩
    · rw [put_lt hj, put_lt hk] at e
      exact h.inj j k o u e1 e2 d1 d2 e
    · rw [put_lt hj, put_at] at e
      exact absurd e (q.i j hj)
    · rw [put_lt hk, put_at] at e
      exact absurd e.symm (q.i k hk)
    · rfl
  · rcases cs e with ⟨hk, e⟩ | ⟨rfl, rfl⟩
    · rw [put_lt hk]
      exact OR.mono (fun _ _ z => z) (fun _ z => put_lt z) (by rw [ln]; omega) (fun _ z => z) (h.obj k u e)
    · rw [put_at]
      exact ⟨xs, hp, Rps.mono (fun _ _ z => z) (fun _ z => put_lt z) (by rw [ln]; omega) _ _ r⟩
  · rcases cs e with ⟨hk, e⟩ | ⟨_, e⟩
    · rw [put_lt hk]
      exact h.ded k e
    · cases e
theorem Ext.adoptM (e : Ext H0 Z0 ι0 n0 H Z ι M.length) (hp : H0 p = none) : Ext H0 Z0 ι0 n0 H Z (put ι M.length p) (M ++ [MO.lst ds]).length := by
  have ln : (M ++ [MO.lst ds]).length = M.length + 1 := by simp
  refine ⟨e.zz, fun k hk => (put_lt (Nat.lt_of_lt_of_le hk e.ln)).trans (e.ii k hk), e.fr, fun k h1 h2 => ?_, by rw [ln]; have := e.ln; omega, e.zn⟩
  rw [ln] at h2
  by_cases hk : k < M.length
  · rw [put_lt hk]
    exact e.nw k h1 hk
  · have : k = M.length := by omega
    subst this
    rw [put_at]
    exact hp
end
theorem wipe_at {σ : St} : ∀ (vs : List Nat) (i : Nat), (wipe σ vs)[i]? = if i ∈ vs ∧ i < σ.length then some none else σ[i]?
  | [], i => by simp [wipe]
  | v :: vs, i => by
    have ih := wipe_at (σ := σ) vs i
    have ln := wipe_length σ vs
    show ((wipe σ vs).set v none)[i]? = _
    by_cases hv : v = i
    · subst hv
      by_cases hl : v < σ.length
      · rw [List.getElem?_set_self (by rw [ln]; exact hl), if_pos ⟨List.mem_cons_self, hl⟩]
      · rw [if_neg (fun z => hl z.2), List.getElem?_eq_none (by rw [List.length_set, ln]; omega), List.getElem?_eq_none (by omega)]
    · rw [List.getElem?_set_ne hv, ih]
      have : (i ∈ v :: vs) ↔ i ∈ vs := by simp only [List.mem_cons]; exact ⟨fun z => z.elim (fun e => absurd e.symm hv) id, .inr⟩
      simp only [this]
theorem wipe_wipe {σ : St} (vs : List Nat) : wipe (wipe σ vs) vs = wipe σ vs := by
  refine List.ext_getElem? fun i => ?_
  rw [wipe_at, wipe_length, wipe_at]
  split <;> rfl
theorem slots_wipe {K : PySem.W.Frag} {Z : Hp} {ι : Nat → Addr} {n : Nat} {σ : St} : ∀ (vs : List Nat) {Γ : Env}, Slots K Z ι n Γ σ → Slots K Z ι n (forget Γ vs) (wipe σ vs) := by
  have one : ∀ (vs : List Nat) (Γ : Env) (i : Nat) (d : D), (forget Γ vs)[i]? = some (some d) → Γ[i]? = some (some d) ∧ i ∉ vs := by
    intro vs
    induction vs with
    | nil => intro Γ i d h; exact ⟨h, by simp⟩
    | cons v vs ih =>
      intro Γ i d h
      obtain ⟨h1, h2⟩ := ih (Γ.set v none) i d h
      by_cases hv : v = i
      · subst hv
        have lt : v < Γ.length := by
          have := (List.getElem?_eq_some_iff.mp h1).1
          rw [List.length_set] at this
          exact this
        rw [List.getElem?_set_self lt] at h1
        cases h1
      · rw [List.getElem?_set_ne hv] at h1
        exact ⟨h1, by simp only [List.mem_cons, not_or]; exact ⟨fun e => hv e.symm, h2⟩⟩
  have keep : ∀ (vs : List Nat) (i : Nat), i ∉ vs → (wipe σ vs)[i]? = σ[i]? := by
    intro vs
    induction vs with
    | nil => intro i _; rfl
    | cons v vs ih =>
      intro i h
      show ((wipe σ vs).set v none)[i]? = _
      rw [List.getElem?_set_ne (fun e => h (by rw [e]; exact List.mem_cons_self))]
      exact ih i fun z => h (List.mem_cons_of_mem _ z)
  have len : ∀ (vs : List Nat) (Γ : Env), (forget Γ vs).length = Γ.length := by
    intro vs
    induction vs with
    | nil => intro Γ; rfl
    | cons v vs ih => intro Γ; exact (ih _).trans List.length_set
  intro vs Γ sl
  refine ⟨by rw [len, wipe_length]; exact sl.1, fun i d h => ?_⟩
  obtain ⟨h1, h2⟩ := one vs Γ i d h
  obtain ⟨v, e, r⟩ := sl.2 i d h1
  exact ⟨v, by rw [keep vs i h2]; exact e, r⟩
section
variable {X : Cx} {C : CT} {W : WX}
abbrev Blk (X : Cx) (scope : Scope) (F : Cx → Prop) : Prop := ∀ (s : Shared) (H : Hp) (c : Addr) (cl : List (Str × Addr)) (fp : List Addr), F (X.blk s H scope (compEnvC scope cl c X.env) fp)
/-- the readings that the functions are: the same in every block -/
def liftE (K : PySem.W.Frag) (X : Cx) (C : CT) (W : WX) (g : GE) : TE := fun σ H Q => ∃ (Z : Hp) (ι : Nat → Addr) (Γ : Env) (M : List MO), Slots K Z ι M.length Γ σ ∧ HR K H Z ι M ∧ Post X C W (rpE K) σ H Z ι M (g Γ M) Q
def liftT (K : PySem.W.Frag) (X : Cx) (C : CT) (W : WX) (g : GT) : TT := fun σ H Q => ∃ (Z : Hp) (ι : Nat → Addr) (Γ : Env) (M : List MO), Slots K Z ι M.length Γ σ ∧ HR K H Z ι M ∧ Post X C W rpT σ H Z ι M (g Γ M) Q
def liftG (K : PySem.W.Frag) (g : GG) (is : List Nat) : TG := fun v σ H Q => ∃ (Z : Hp) (ι : Nat → Addr) (n : Nat) (d : D) (Γ Γ' : Env), Sub Z H ∧ Slots K Z ι n Γ σ ∧ Rp K Z ι n d v ∧ g d Γ = some Γ' ∧ ∀ σ', Slots K Z ι n Γ' σ' → Wip is σ σ' → Q σ' H
def QTs (X : Cx) (C : CT) (W : WX) (es : List Expr) (g : GT) : Prop := ∃ te, PTs X es te ∧ ∀ (σ : St) (H Z : Hp) (ι : Nat → Addr) (Γ : Env) (M : List MO) (Q : Bool → Hp → Prop), Slots X.K Z ι M.length Γ σ → HR X.K H Z ι M → Post X C W rpT σ H Z ι M (g Γ M) Q → te σ H Q
theorem qts_nil : QTs X C W [] gYes := ⟨_, pts_nil, fun σ H Z ι Γ M Q sl hr h => h true H Z ι .refl hr rfl⟩
theorem qts_one {c : Expr} {g : GT} (h : QT X C W c g) : QTs X C W [c] g := let ⟨t, p, q⟩ := h; ⟨t, pts_one p, q⟩
theorem Post.blk {α β : Type} {X Y : Cx} {rp : RpK α β} {σ : St} {H Z : Hp} {ι : Nat → Addr} {M : List MO} {r : R α} {Q : β → Hp → Prop} (e : X.K = Y.K) (h : Post X C W rp σ H Z ι M r Q) : Post Y C W rp σ H Z ι M r Q := by
  cases r with
  | ok a M' =>
    intro b H' Z' ι' e' hr rb
    exact h b H' Z' ι' e' (by rw [e]; exact hr) rb
  | exc c d M' =>
    intro cls dd H' Z' ι' e' hr rb
    exact h cls dd H' Z' ι' e' (by rw [e]; exact hr) (by rw [e]; exact rb)
  | bad => exact h
theorem gLcL_run {cd : List MO → Prop} {gg : GG} {gt : GT} {ge : GE} {is own : List Nat} {σ : St} {Γ0 : Env} {fin : List D → List MO → R D} {Q : VK} {J : It} {p : Addr}
    {ds : List D} {H0 Z0 : Hp} {ι0 : Nat → Addr} {M0 : List MO} (hsub : ∀ i ∈ is, i ∈ own) (sl : Slots X.K Z0 ι0 M0.length Γ0 (wipe σ own)) (rJ : ItC cd X.K J ds Z0 ι0 M0.length) (cd0 : cd M0) (cdt : ∀ Γ M d M', gt Γ M = .ok d M' → cd M → cd M') (cde : ∀ Γ M d M', ge Γ M = .ok d M' → cd M → cd M') (hp0 : H0 p = none) (hr0 : HR X.K H0 Z0 ι0 M0)
    (h : Post X C W (rpE X.K) σ H0 Z0 ι0 M0 ((gLcL gg gt ge Γ0 ds [] M0).bind fin) Q)
    (hfin : ∀ (acc : List D) (accV : List V) (M : List MO) (H Z : Hp) (ι : Nat → Addr), Ext H0 Z0 ι0 M0.length H Z ι M.length → HR X.K H Z ι M → Odd Z ι M.length p → H p = some (.lst accV) → Rps X.K Z ι M.length acc accV → Post X C W (rpE X.K) σ H0 Z0 ι0 M0 (fin acc M) Q → Q (.ref p) H) :
    ∃ Wv : Nat → Nat → Hp → Prop, (∃ m, Wv 0 m (upd H0 p (.lst []))) ∧ ∀ i m H, Wv i m H →
      (J.stop i H ∧ Q (.ref p) H) ∨ (J.go i H ∧ ∃ Nx : Hp → Prop, (∀ H', Nx H' → ∃ m', m' < m ∧ Wv (i + 1) m' H') ∧ ∀ x H', J.yld i H x H' → liftG X.K gg is x (wipe σ own) H' fun σ2 H2 => wipe σ2 own = wipe σ own ∧ liftT X.K X C noW gt σ2 H2 fun b H3 =>
        if b = true then liftE X.K X C noW ge σ2 H3 fun y H4 => ∃ acc, H4 p = some (.lst acc) ∧ acc.length < sizeLine ∧ Nx (upd H4 p (.lst (acc ++ [y]))) else Nx H3) := by
  let Inv' : Nat → Hp → Prop := fun i H => ∃ (Z : Hp) (ι : Nat → Addr) (M : List MO) (acc : List D) (accV : List V), Ext H0 Z0 ι0 M0.length H Z ι M.length ∧ HR X.K H Z ι M ∧ Odd Z ι M.length p ∧ H p = some (.lst accV) ∧ Rps X.K Z ι M.length acc accV ∧ cd M ∧
    Post X C W (rpE X.K) σ H0 Z0 ι0 M0 ((gLcL gg gt ge Γ0 (ds.drop i) acc M).bind fin) Q
  have q0 : Odd Z0 ι0 M0.length p := .new hr0 hp0
  refine ⟨fun i m H => m = ds.length - i ∧ i ≤ ds.length ∧ Inv' i H, ⟨ds.length, rfl, Nat.zero_le _, Z0, ι0, M0, [], [], (Ext.refl).touch hp0, hr0.odd q0, q0, upd_same, .nil, cd0, h⟩, ?_⟩
  rintro i m H ⟨em, hle, Z, ι, M, acc, accV, e1, hr1, od, hp, ra, cdM, hpost⟩
  obtain ⟨hstop, hgo⟩ := rJ i H Z ι M e1.zz e1.ii e1.ln hr1 cdM
  by_cases hi : i < ds.length
  · refine .inr ?_
    have ed : ds.drop i = ds[i] :: ds.drop (i + 1) := List.drop_eq_getElem_cons hi
    obtain ⟨go, yl⟩ := hgo ds[i] (List.getElem?_eq_getElem hi)
    refine ⟨go, Inv' (i + 1), fun H' hN => ⟨ds.length - (i + 1), by omega, rfl, by omega, hN⟩, fun x H2 hy => ?_⟩
    obtain ⟨Z2, e2, hr2, rx⟩ := yl x H2 hy
    obtain ⟨od2, hp2⟩ := od.ext hp e2
    have e12 := e1.trans e2 hr1.ali
    rw [ed] at hpost
    cases eg : gg ds[i] Γ0 with
    | none =>
      have z : gLcL gg gt ge Γ0 (ds[i] :: ds.drop (i + 1)) acc M = .bad := by
        unfold gLcL
        rw [eg]
      rw [z] at hpost
      exact hpost.elim
    | some Γ1 =>
      have z : gLcL gg gt ge Γ0 (ds[i] :: ds.drop (i + 1)) acc M = ((gt Γ1 M).only fun k M1 => if k = true then (ge Γ1 M1).only fun y M2 => if acc.length < sizeLine then gLcL gg gt ge Γ0 (ds.drop (i + 1)) (acc ++ [y]) M2 else .bad
          else gLcL gg gt ge Γ0 (ds.drop (i + 1)) acc M1) := by
        conv => lhs; unfold gLcL
        rw [eg]
      rw [z] at hpost
      refine ⟨Z2, ι, M.length, ds[i], Γ0, Γ1, hr2.sub, sl.ext e12, rx, eg, fun σ2 s2 w2 => ⟨(w2 own hsub).trans (wipe_wipe own), Z2, ι, Γ1, M, s2, hr2, ?_⟩⟩
      cases et : gt Γ1 M with
      | bad => rw [et] at hpost; exact hpost.elim
      | exc c d M' => rw [et] at hpost; exact hpost.elim
      | ok k M3 =>
        rw [et] at hpost
        intro b H3 Z3 ι3 e3 hr3 hb
        have hb' : k = b := hb
        subst hb'
        obtain ⟨od3, hp3⟩ := od2.ext hp2 e3
        have e13 := e12.trans e3 hr2.ali
        have ra3 := (ra.ext e2).ext e3
        cases k with
        | false => exact ⟨Z3, ι3, M3, acc, accV, e13, hr3, od3, hp3, ra3, cdt _ _ _ _ et cdM, hpost⟩
        | true =>
          rw [if_pos rfl]
          refine ⟨Z3, ι3, Γ1, M3, s2.ext e3, hr3, ?_⟩
          have hpost2 : Post X C W (rpE X.K) σ H0 Z0 ι0 M0 (((ge Γ1 M3).only fun y M2 => if acc.length < sizeLine then gLcL gg gt ge Γ0 (ds.drop (i + 1)) (acc ++ [y]) M2 else .bad).bind fin) Q := hpost
          cases ee : ge Γ1 M3 with
          | bad => rw [ee] at hpost2; exact hpost2.elim
          | exc c d M' => rw [ee] at hpost2; exact hpost2.elim
          | ok y M4 =>
            rw [ee] at hpost2
            have hpost3 : Post X C W (rpE X.K) σ H0 Z0 ι0 M0 ((if acc.length < sizeLine then gLcL gg gt ge Γ0 (ds.drop (i + 1)) (acc ++ [y]) M4 else .bad).bind fin) Q := hpost2
            by_cases hz : acc.length < sizeLine
            · rw [if_pos hz] at hpost3
              intro v H4 Z4 ι4 e4 hr4 rv
              obtain ⟨od4, hp4⟩ := od3.ext hp3 e4
              have ra4 := ra3.ext e4
              exact ⟨accV, hp4, by rw [← ra4.length]; exact hz, Z4, ι4, M4, acc ++ [y], accV ++ [v], (e13.trans e4 hr3.ali).touch hp0, hr4.odd od4, od4, upd_same, ra4.append (.cons rv .nil), cde _ _ _ _ ee (cdt _ _ _ _ et cdM), hpost3⟩
            · rw [if_neg hz] at hpost3
              exact hpost3.elim
  · refine .inl ⟨hstop (by omega), ?_⟩
    rw [List.drop_eq_nil_of_le (Nat.le_of_not_lt hi)] at hpost
    exact hfin acc accV M H Z ι e1 hr1 od hp ra hpost

theorem lc_read {own : List Nat} {gi : GI} {gg : GG} {gt : GT} {ge : GE} {is : List Nat} {wi : TI} {fin : List D → List MO → R D}
    (qi : ∀ (σ : St) (H Z : Hp) (ι : Nat → Addr) (Γ : Env) (M : List MO) (Q : It → Hp → Prop), Slots X.K Z ι M.length Γ σ → HR X.K H Z ι M → Post X C W (rpI X.K) σ H Z ι M (gi Γ M) Q → wi σ H Q) (hsub : ∀ i ∈ is, i ∈ own)
    (hfin : ∀ (σ : St) (H0 Z0 : Hp) (ι0 : Nat → Addr) (M0 : List MO) (p : Addr) (Q : VK) (acc : List D) (accV : List V) (M : List MO) (H Z : Hp) (ι : Nat → Addr), H0 p = none → Ext H0 Z0 ι0 M0.length H Z ι M.length → HR X.K H Z ι M → Odd Z ι M.length p → H p = some (.lst accV) →
      Rps X.K Z ι M.length acc accV → Post X C W (rpE X.K) σ H0 Z0 ι0 M0 (fin acc M) Q → Q (.ref p) H)
    (σ : St) (H Z : Hp) (ι : Nat → Addr) (Γ : Env) (M : List MO) (Q : VK) (sl : Slots X.K Z ι M.length Γ σ) (hr : HR X.K H Z ι M)
    (h : Post X C W (rpE X.K) σ H Z ι M ((gi Γ M).bind fun ds M1 => (gLcL gg gt ge (forget Γ own) ds [] M1).bind fin) Q) :
    tLc wi (liftG X.K gg is) (liftT X.K X C noW gt) (liftE X.K X C noW ge) own σ H Q :=
  qi σ H Z ι Γ M _ sl hr (h.bind fun ds M1 J H1 Z1 ι1 e1 hr1 rJ h1 => fun p hp =>
    gLcL_run hsub (slots_wipe _ (sl.ext e1)) rJ trivial (fun _ _ _ _ _ _ => trivial) (fun _ _ _ _ _ _ => trivial) hp hr1 h1 fun acc accV M' H' Z' ι' a1 a2 a3 a4 a5 a6 => hfin σ H1 Z1 ι1 M1 p Q acc accV M' H' Z' ι' hp a1 a2 a3 a4 a5 a6)
theorem blk_g {tg : Expr} {scope : Scope} {gg : GG} {is : List Nat} (hg : Blk X scope fun Y => QG Y tg gg is) : Blk X scope fun Y => PG Y tg (liftG X.K gg is) := fun s H c cl fp => by
  obtain ⟨t, p, q⟩ := hg s H c cl fp
  exact ⟨fun pins s σ H v u Q I r h => p.run pins s σ H v u Q I r (let ⟨Z, ι, n, d, Γ, Γ', h1, h2, h3, h4, h5⟩ := h; q v σ H Z ι n d Γ Γ' Q h1 h2 h3 h4 h5)⟩
theorem blk_t {ifs : List Expr} {scope : Scope} {gt : GT} (ht : Blk X scope fun Y => QTs Y C noW ifs gt) : Blk X scope fun Y => PTs Y ifs (liftT X.K X C noW gt) := fun s H c cl fp => by
  obtain ⟨t, p, q⟩ := ht s H c cl fp
  exact ⟨fun pins s σ H Q I h => p.run pins s σ H Q I (let ⟨Z, ι, Γ, M, h1, h2, h3⟩ := h; q σ H Z ι Γ M Q h1 h2 (h3.blk rfl))⟩
theorem blk_e {elt : Expr} {scope : Scope} {ge : GE} (he : Blk X scope fun Y => QE Y C noW elt ge) : Blk X scope fun Y => PE Y elt (liftE X.K X C noW ge) := fun s H c cl fp => by
  obtain ⟨t, p, q⟩ := he s H c cl fp
  exact ⟨fun pins s σ H Q I h => p.run pins s σ H Q I (let ⟨Z, ι, Γ, M, h1, h2, h3⟩ := h; q σ H Z ι Γ M Q h1 h2 (h3.blk rfl))⟩
theorem fin_z {σ : St} {H0 Z0 : Hp} {ι0 : Nat → Addr} {M0 : List MO} {p : Addr} {Q : VK} {acc : List D} {accV : List V} {M : List MO} {H Z : Hp} {ι : Nat → Addr} (h0 : H0 p = none) (e : Ext H0 Z0 ι0 M0.length H Z ι M.length) (hr : HR X.K H Z ι M) (od : Odd Z ι M.length p) (hp : H p = some (.lst accV))
    (ra : Rps X.K Z ι M.length acc accV) (h : Post X C W (rpE X.K) σ H0 Z0 ι0 M0 (.ok (.lst acc) M) Q) : Q (.ref p) H :=
  h _ H _ ι (e.adoptZ od.z h0) (hr.adoptZ od hp) (.lst (.inl (.inl upd_same)) (Rps.mono (fun a u q => by rw [upd_ne (ne_of_none q od.z)]; exact q) (fun _ _ => rfl) (Nat.le_refl _) _ _ ra))
theorem fin_m {σ : St} {H0 Z0 : Hp} {ι0 : Nat → Addr} {M0 : List MO} {p : Addr} {Q : VK} {acc : List D} {accV : List V} {M : List MO} {H Z : Hp} {ι : Nat → Addr} (h0 : H0 p = none) (e : Ext H0 Z0 ι0 M0.length H Z ι M.length) (hr : HR X.K H Z ι M) (od : Odd Z ι M.length p) (hp : H p = some (.lst accV))
    (ra : Rps X.K Z ι M.length acc accV) (h : Post X C W (rpE X.K) σ H0 Z0 ι0 M0 (.ok (.ref M.length) (M ++ [.lst acc])) Q) : Q (.ref p) H := by
  have q : Rp X.K Z (put ι M.length p) (M ++ [MO.lst acc]).length (.ref M.length) (.ref (put ι M.length p M.length)) := .ref (by simp)
  rw [put_at] at q
  exact h _ H Z _ (e.adoptM h0) (hr.adoptM od hp ra) q
section
variable {elt tg iter : Expr} {ifs : List Expr} {scope : Scope} {own : List (Str × Nat)} {pos spos py : Pos} {gi : GI} {gg : GG} {gt : GT} {ge : GE} {is ixs : List Nat}
theorem qe_lc (hc : X.calm = true) (hN : X.N.Nodup) (hi : QI X C W tg iter gi) (ok : BlkOk X.N X.env.scope scope own)
    (hg : Blk X scope fun Y => QG Y tg gg is) (ht : Blk X scope fun Y => QTs Y C noW ifs gt) (he : Blk X scope fun Y => QE Y C noW elt ge) (hix : ixs = own.map (·.2) := by rfl) (hsub : ∀ i ∈ is, i ∈ own.map (·.2) := by decide) (hs : ∀ x, foldedSetIterable iter X.env x = pure x := by intro _; rfl) :
    QE X C W (.ListComp elt [⟨tg, iter, ifs, 0⟩] scope pos) (gLc gi gg gt ge ixs) := by
  subst hix
  obtain ⟨wi, pi, qi⟩ := hi
  exact ⟨_, pe_lc hc hN pi ok (blk_g hg) (blk_t ht) (blk_e he) hs, lc_read qi hsub fun σ H0 Z0 ι0 M0 p Q acc accV M H Z ι h0 e hr od hp ra h => fin_z h0 e hr od hp ra h⟩
theorem qe_lcO (hc : X.calm = true) (hN : X.N.Nodup) (hi : QI X C W tg iter gi) (ok : BlkOk X.N X.env.scope scope own)
    (hg : Blk X scope fun Y => QG Y tg gg is) (ht : Blk X scope fun Y => QTs Y C noW ifs gt) (he : Blk X scope fun Y => QE Y C noW elt ge) (hix : ixs = own.map (·.2) := by rfl) (hsub : ∀ i ∈ is, i ∈ own.map (·.2) := by decide) (hs : ∀ x, foldedSetIterable iter X.env x = pure x := by intro _; rfl) :
    QE X C W (.ListComp elt [⟨tg, iter, ifs, 0⟩] scope pos) (gLcO gi gg gt ge ixs) := by
  subst hix
  obtain ⟨wi, pi, qi⟩ := hi
  exact ⟨_, pe_lc hc hN pi ok (blk_g hg) (blk_t ht) (blk_e he) hs, lc_read qi hsub fun σ H0 Z0 ι0 M0 p Q acc accV M H Z ι h0 e hr od hp ra h => fin_m h0 e hr od hp ra h⟩
/-- y = [..]: the model stores the list within the comprehension -/
theorem qs_lc {i : Nat} {y : Str} (hc : X.calm = true) (hN : X.N.Nodup) (hy : X.N[i]? = some y) (hyl : X.env.scope.names.lookup y = some .local) (hsw : swapsWith (.ListComp elt [⟨tg, iter, ifs, 0⟩] scope pos) (some (.Name y py)) spos.line X.env = pure true)
    (hi : QI X C W tg iter gi) (ok : BlkOk X.N X.env.scope scope own) (hg : Blk X scope fun Y => QG Y tg gg is) (ht : Blk X scope fun Y => QTs Y C noW ifs gt) (he : Blk X scope fun Y => QE Y C noW elt ge)
    (hix : ixs = own.map (·.2) := by rfl) (hsub : ∀ i ∈ is, i ∈ own.map (·.2) := by decide) (hs : ∀ x, foldedSetIterable iter X.env x = pure x := by intro _; rfl) : QS X C W (.Assign [.Name y py] (.ListComp elt [⟨tg, iter, ifs, 0⟩] scope pos) spos) (gAsg (gLc gi gg gt ge ixs) (gTo i)) := by
  subst hix
  obtain ⟨wi, pi, qi⟩ := hi
  refine ⟨_, ps_setLc hc hN hy hyl hsw pi ok (blk_g hg) (blk_t ht) (blk_e he) hs, fun Dd σ H Z ι Γ M sl hr h => ?_⟩
  refine lc_read qi hsub (fin := fun acc M2 => .ok (.lst acc) M2) (fun σ H0 Z0 ι0 M0 p Q acc accV M H Z ι h0 e hr od hp ra h => fin_z h0 e hr od hp ra h) σ H Z ι Γ M _ sl hr (PostS.bind (Γ := Γ) h sl fun x M1 v H1 Z1 ι1 e1 hr1 r1 h1 => ?_)
  exact h1 _ H1 Z1 ι1 .refl hr1 ((sl.ext e1).set i r1)
theorem qs_lcO {i : Nat} {y : Str} (hc : X.calm = true) (hN : X.N.Nodup) (hy : X.N[i]? = some y) (hyl : X.env.scope.names.lookup y = some .local) (hsw : swapsWith (.ListComp elt [⟨tg, iter, ifs, 0⟩] scope pos) (some (.Name y py)) spos.line X.env = pure true)
    (hi : QI X C W tg iter gi) (ok : BlkOk X.N X.env.scope scope own) (hg : Blk X scope fun Y => QG Y tg gg is) (ht : Blk X scope fun Y => QTs Y C noW ifs gt) (he : Blk X scope fun Y => QE Y C noW elt ge)
    (hix : ixs = own.map (·.2) := by rfl) (hsub : ∀ i ∈ is, i ∈ own.map (·.2) := by decide) (hs : ∀ x, foldedSetIterable iter X.env x = pure x := by intro _; rfl) : QS X C W (.Assign [.Name y py] (.ListComp elt [⟨tg, iter, ifs, 0⟩] scope pos) spos) (gAsg (gLcO gi gg gt ge ixs) (gTo i)) := by
  subst hix
  obtain ⟨wi, pi, qi⟩ := hi
  refine ⟨_, ps_setLc hc hN hy hyl hsw pi ok (blk_g hg) (blk_t ht) (blk_e he) hs, fun Dd σ H Z ι Γ M sl hr h => ?_⟩
  refine lc_read qi hsub (fin := fun acc M2 => .ok (.ref M2.length) (M2 ++ [MO.lst acc])) (fun σ H0 Z0 ι0 M0 p Q acc accV M H Z ι h0 e hr od hp ra h => fin_m h0 e hr od hp ra h) σ H Z ι Γ M _ sl hr (PostS.bind (Γ := Γ) h sl fun x M1 v H1 Z1 ι1 e1 hr1 r1 h1 => ?_)
  exact h1 _ H1 Z1 ι1 .refl hr1 ((sl.ext e1).set i r1)
end
end
end Bk

set_option Elab.async false
set_option linter.all false
set_option maxRecDepth 100000
set_option maxHeartbeats 2000000
namespace Bk
open PySem PySem.Spec PyProof.Rows L2

/-! ### calls: what of ours is handed over is lent, and comes back changed -/
/-- the arguments as the callee sees them, and which things of ours are lent -/
def lendA : Nat → List D → List D
  | _, [] => []
  | m, .ref _ :: r => .ref m :: lendA (m + 1) r
  | m, d :: r => d :: lendA m r
def lendK : List D → List Nat
  | [] => []
  | .ref k :: r => k :: lendK r
  | _ :: r => lendK r
def getAll (M : List MO) : List Nat → Option (List MO)
  | [] => some []
  | k :: ks => match M[k]?, getAll M ks with
    | some o, some os => some (o :: os)
    | _, _ => none
def setAll (M : List MO) : List Nat → List MO → List MO
  | k :: ks, o :: os => setAll (M.set k o) ks os
  | _, _ => M
def isDead : MO → Bool
  | .dead => true
  | _ => false
/-- no refs but at the top -/
def flatArgs : List D → Bool
  | [] => true
  | .ref _ :: r => flatArgs r
  | d :: r => below 0 d && flatArgs r
def lentOk (os : List MO) : Bool := os.all fun o => !isDead o && belowO 0 o
def backD (ks : List Nat) (n : Nat) : D → Option D
  | .ref j => if j < ks.length then (ks[j]?).map D.ref else some (.ref (n + (j - ks.length)))
  | d => if below 0 d = true then some d else none
/-- nothing is lent: nothing comes back -/
def callF (F : List D → List MO → R D) (ds : List D) (M : List MO) : R D := match getAll M (lendK ds) with
  | none => .bad
  | some os => if (lendK ds).Nodup ∧ flatArgs ds = true ∧ lentOk os = true then
      match F (lendA 0 ds) os with
      | .ok d os' => if (lendK ds).length ≤ os'.length ∧ os'.all (belowO 0) = true then
          match backD (lendK ds) M.length d with
          | some d' => .ok d' (setAll M (lendK ds) os' ++ os'.drop (lendK ds).length)
          | none => .bad
        else .bad
      | .exc c d os' => if (lendK ds).length ≤ os'.length ∧ os'.all (belowO 0) = true ∧ below 0 d = true then .exc c d (setAll M (lendK ds) os' ++ os'.drop (lendK ds).length) else .bad
      | .bad => .bad
    else .bad
def gCallF (n : Nat) (F : List D → List MO → R D) (ga : GA) : GE := fun Γ M => (ga Γ M).bind fun ds M1 => if ds.length = n then callF F ds M1 else .bad
/-- positional values, then the keywords' values, in the parameters' order -/
def pick {α : Type} (l : List α) : List Nat → List α
  | [] => []
  | i :: is => match l[i]? with
    | some a => a :: pick l is
    | none => pick l is
def gCallK (n : Nat) (F : List D → List MO → R D) (is : List Nat) (ga gk : GA) : GE := fun Γ M => (ga Γ M).bind fun ds M1 => (gk Γ M1).bind fun es M2 => if (pick (ds ++ es) is).length = n then callF F (pick (ds ++ es) is) M2 else .bad

section
variable {K : PySem.W.Frag} {Z : Hp} {ι : Nat → Addr} {n : Nat}
/-- which address stands for which lent thing -/
def lentι (ι : Nat → Addr) (ks : List Nat) : Nat → Addr := fun j => ι (ks.getD j 0)
theorem lend_rps : ∀ (ds : List D) (vs : List V) (pre : List Nat), flatArgs ds = true → Rps K Z ι n ds vs → Rps K Z (lentι ι (pre ++ lendK ds)) (pre ++ lendK ds).length (lendA pre.length ds) vs
  | [], _, _, _, h => by cases h; exact .nil
  | .ref k :: r, _, pre, hf, h => by
    cases h with
    | cons r1 rs =>
      cases r1 with
      | ref hk =>
        have ih := lend_rps r _ (pre ++ [k]) (by simpa [flatArgs] using hf) rs
        have e : pre ++ [k] ++ lendK r = pre ++ lendK (.ref k :: r) := by simp [lendK]
        rw [e] at ih
        have el : (pre ++ [k]).length = pre.length + 1 := by simp
        rw [el] at ih
        refine .cons ?_ ih
        have q : Rp K Z (lentι ι (pre ++ lendK (.ref k :: r))) (pre ++ lendK (.ref k :: r)).length (.ref pre.length) (.ref (lentι ι (pre ++ lendK (.ref k :: r)) pre.length)) := .ref (by simp [lendK])
        have ek : lentι ι (pre ++ lendK (.ref k :: r)) pre.length = ι k := by
          unfold lentι
          congr 1
          simp [lendK]
        rw [ek] at q
        exact q
  | .non :: r, _, pre, hf, h => by
    cases h with
    | cons r1 rs =>
      cases r1
      exact .cons .non (lend_rps r _ pre (by simpa [flatArgs, below] using hf) rs)
  | .bl b :: r, _, pre, hf, h => by
    cases h with
    | cons r1 rs =>
      cases r1
      exact .cons (.bl b) (lend_rps r _ pre (by simpa [flatArgs, below] using hf) rs)
  | .int i :: r, _, pre, hf, h => by
    cases h with
    | cons r1 rs =>
      cases r1
      exact .cons (.int i) (lend_rps r _ pre (by simpa [flatArgs, below] using hf) rs)
  | .str x :: r, _, pre, hf, h => by
    cases h with
    | cons r1 rs =>
      cases r1
      exact .cons (.str x) (lend_rps r _ pre (by simpa [flatArgs, below] using hf) rs)
  | .tup ds :: r, _, pre, hf, h => by
    cases h with
    | cons r1 rs =>
      have hf' : below 0 (.tup ds) = true ∧ flatArgs r = true := by simpa [flatArgs] using hf
      exact .cons (Rp.mono (fun _ _ z => z) (fun k hk => absurd hk (Nat.not_lt_zero _)) (Nat.zero_le _) _ _ (r1.shrink _ _ hf'.1)) (lend_rps r _ pre hf'.2 rs)
  | .lst ds :: r, _, pre, hf, h => by
    cases h with
    | cons r1 rs =>
      have hf' : below 0 (.lst ds) = true ∧ flatArgs r = true := by simpa [flatArgs] using hf
      exact .cons (Rp.mono (fun _ _ z => z) (fun k hk => absurd hk (Nat.not_lt_zero _)) (Nat.zero_le _) _ _ (r1.shrink _ _ hf'.1)) (lend_rps r _ pre hf'.2 rs)
  | .dct ks ws :: r, _, pre, hf, h => by
    cases h with
    | cons r1 rs =>
      have hf' : below 0 (.dct ks ws) = true ∧ flatArgs r = true := by simpa [flatArgs] using hf
      exact .cons (Rp.mono (fun _ _ z => z) (fun k hk => absurd hk (Nat.not_lt_zero _)) (Nat.zero_le _) _ _ (r1.shrink _ _ hf'.1)) (lend_rps r _ pre hf'.2 rs)
  | .ptu ds :: r, _, pre, hf, h => by
    cases h with
    | cons r1 rs =>
      have hf' : below 0 (.ptu ds) = true ∧ flatArgs r = true := by simpa [flatArgs] using hf
      exact .cons (Rp.mono (fun _ _ z => z) (fun k hk => absurd hk (Nat.not_lt_zero _)) (Nat.zero_le _) _ _ (r1.shrink _ _ hf'.1)) (lend_rps r _ pre hf'.2 rs)
theorem getAll_at {M : List MO} : ∀ {ks : List Nat} {os : List MO}, getAll M ks = some os → os.length = ks.length ∧ ∀ (j : Nat) (o : MO), os[j]? = some o → ∃ k, ks[j]? = some k ∧ M[k]? = some o
  | [], os, h => by
    cases h
    exact ⟨rfl, fun j o e => by simp at e⟩
  | k :: ks, os, h => by
    unfold getAll at h
    cases e1 : M[k]? with
    | none => rw [e1] at h; simp at h
    | some o =>
      cases e2 : getAll M ks with
      | none => rw [e1, e2] at h; simp at h
      | some os' =>
        rw [e1, e2] at h
        cases h
        obtain ⟨l, f⟩ := getAll_at e2
        refine ⟨by simp [l], fun j o' e => ?_⟩
        cases j with
        | zero =>
          simp at e
          subst e
          exact ⟨k, rfl, e1⟩
        | succ j =>
          obtain ⟨k', h1, h2⟩ := f j o' (by simpa using e)
          exact ⟨k', by simpa using h1, h2⟩
theorem setAll_length : ∀ (ks : List Nat) (os : List MO) (M : List MO), (setAll M ks os).length = M.length
  | [], _, _ => by simp [setAll]
  | _ :: _, [], _ => by simp [setAll]
  | k :: ks, o :: os, M => by
    show (setAll (M.set k o) ks os).length = _
    rw [setAll_length ks os, List.length_set]
/-- what stands where, behind -/
theorem setAll_at : ∀ (ks : List Nat) (os : List MO) (M : List MO) (k : Nat) (o : MO), ks.Nodup → ks.length ≤ os.length → (setAll M ks os)[k]? = some o → (k ∉ ks ∧ M[k]? = some o) ∨ ∃ j : Nat, j < ks.length ∧ ks[j]? = some k ∧ os[j]? = some o
  | [], _, M, k, o, _, _, h => .inl ⟨by simp, by simpa [setAll] using h⟩
  | _ :: _, [], _, _, _, _, hl, _ => by simp at hl
  | k0 :: ks, o0 :: os, M, k, o, nd, hl, h => by
    have nd' := List.nodup_cons.mp nd
    rcases setAll_at ks os (M.set k0 o0) k o nd'.2 (by simpa using hl) h with ⟨h1, h2⟩ | ⟨j, h1, h2, h3⟩
    · by_cases e : k0 = k
      · subst e
        have lt : k0 < M.length := by
          have := (List.getElem?_eq_some_iff.mp h2).1
          rw [List.length_set] at this
          exact this
        rw [List.getElem?_set_self lt] at h2
        exact .inr ⟨0, by simp, rfl, by simpa using h2⟩
      · rw [List.getElem?_set_ne e] at h2
        exact .inl ⟨by simp only [List.mem_cons, not_or]; exact ⟨fun z => e z.symm, h1⟩, h2⟩
    · exact .inr ⟨j + 1, by simp; omega, by simpa using h2, by simpa using h3⟩
end
/-- the things that are lent, as the callee has them -/
theorem HR.lend {K : PySem.W.Frag} {H Z : Hp} {ι : Nat → Addr} {M os : List MO} {ks : List Nat} (h : HR K H Z ι M) (nd : ks.Nodup) (g : getAll M ks = some os) (lo : lentOk os = true) : HR K H Z (lentι ι ks) os := by
  obtain ⟨l, f⟩ := getAll_at g
  have at_ : ∀ {j k : Nat}, ks[j]? = some k → lentι ι ks j = ι k := fun {j k} e => by
    unfold lentι
    rw [List.getD_eq_getElem?_getD, e]
    rfl
  have ok : ∀ {j : Nat} {o : MO}, os[j]? = some o → belowO 0 o = true ∧ o ≠ .dead := fun {j o} e => by
    have q := List.all_eq_true.mp lo o (List.mem_of_getElem? e)
    simp only [Bool.and_eq_true, Bool.not_eq_true'] at q
    exact ⟨q.2, fun z => by rw [z] at q; exact absurd q.1 (by simp [isDead])⟩
  refine ⟨h.sub, fun j hj => ?_, fun j o e d => ?_, fun i j o u e1 e2 d1 d2 e => ?_, fun j o e => ?_, fun j e => absurd rfl (ok e).2⟩
  · obtain ⟨k, h1, h2⟩ := f j os[j] (List.getElem?_eq_getElem hj)
    rw [at_ h1]
    exact h.ali k (List.getElem?_eq_some_iff.mp h2).1
  · obtain ⟨k, h1, h2⟩ := f j o e
    rw [at_ h1]
    exact h.sep k o h2 d
  · obtain ⟨k1, a1, b1⟩ := f i o e1
    obtain ⟨k2, a2, b2⟩ := f j u e2
    rw [at_ a1, at_ a2] at e
    have ek := h.inj k1 k2 o u b1 b2 d1 d2 e
    subst ek
    obtain ⟨i1, i2⟩ := List.getElem?_eq_some_iff.mp a1
    obtain ⟨j1, j2⟩ := List.getElem?_eq_some_iff.mp a2
    exact (List.getElem_inj nd).mp (i2.trans j2.symm)
  · obtain ⟨k, h1, h2⟩ := f j o e
    rw [at_ h1]
    exact (h.obj k o h2).low (ok e).1
/-- where everything stands behind a call -/
def backι (ι ι' : Nat → Addr) (n m : Nat) : Nat → Addr := fun k => if k < n then ι k else ι' (m + (k - n))
theorem HR.back {K : PySem.W.Frag} {H Z H' Z' : Hp} {ι ι' : Nat → Addr} {M os os' : List MO} {ks : List Nat} (h : HR K H Z ι M) (nd : ks.Nodup) (g : getAll M ks = some os) (lo : lentOk os = true) (e : Ext H Z (lentι ι ks) os.length H' Z' ι' os'.length) (h' : HR K H' Z' ι' os')
    (hl : ks.length ≤ os'.length) (hb : os'.all (belowO 0) = true) :
    HR K H' Z' (backι ι ι' M.length ks.length) (setAll M ks os' ++ os'.drop ks.length) ∧ Ext H Z ι M.length H' Z' (backι ι ι' M.length ks.length) (setAll M ks os' ++ os'.drop ks.length).length := by
  obtain ⟨l, f⟩ := getAll_at g
  have ln : (setAll M ks os' ++ os'.drop ks.length).length = M.length + (os'.length - ks.length) := by rw [List.length_append, setAll_length, List.length_drop]
  have bl : ∀ {k : Nat}, k < M.length → backι ι ι' M.length ks.length k = ι k := fun hk => if_pos hk
  have bn : ∀ {k : Nat}, ¬ k < M.length → backι ι ι' M.length ks.length k = ι' (ks.length + (k - M.length)) := fun hk => if_neg hk
  have at_ : ∀ {j k : Nat}, ks[j]? = some k → lentι ι ks j = ι k := fun {j k} e => by
    unfold lentι
    rw [List.getD_eq_getElem?_getD, e]
    rfl
  have at' : ∀ {j k : Nat}, ks[j]? = some k → ι' j = ι k := fun {j k} z => (e.ii j (by rw [l]; exact (List.getElem?_eq_some_iff.mp z).1)).trans (at_ z)
  have cs : ∀ {k : Nat} {o : MO}, (setAll M ks os' ++ os'.drop ks.length)[k]? = some o → (k < M.length ∧ k ∉ ks ∧ M[k]? = some o) ∨ (k < M.length ∧ ∃ j : Nat, ks[j]? = some k ∧ os'[j]? = some o) ∨ (¬ k < M.length ∧ os'[ks.length + (k - M.length)]? = some o) := fun {k o} z => by
    by_cases hk : k < M.length
    · rw [List.getElem?_append_left (by rw [setAll_length]; exact hk)] at z
      rcases setAll_at ks os' M k o nd hl z with ⟨h1, h2⟩ | ⟨j, _, h2, h3⟩
      · exact .inl ⟨hk, h1, h2⟩
      · exact .inr (.inl ⟨hk, j, h2, h3⟩)
    · rw [List.getElem?_append_right (by rw [setAll_length]; exact Nat.le_of_not_lt hk), setAll_length, List.getElem?_drop] at z
      exact .inr (.inr ⟨hk, z⟩)
  have dd : ∀ {j : Nat} {o : MO}, os[j]? = some o → o ≠ .dead := fun {j o} e => by
    have q := List.all_eq_true.mp lo o (List.mem_of_getElem? e)
    simp only [Bool.and_eq_true, Bool.not_eq_true'] at q
    exact fun z => by rw [z] at q; exact absurd q.1 (by simp [isDead])
  -- a live thing that was not lent stands apart from all that were
  have apart : ∀ {k j : Nat} {o : MO}, k ∉ ks → M[k]? = some o → o ≠ .dead → j < os.length → ι k ≠ lentι ι ks j := fun {k j o} hk ho hd hj z => by
    obtain ⟨k', h1, h2⟩ := f j os[j] (List.getElem?_eq_getElem hj)
    rw [at_ h1] at z
    have ek := h.inj k k' o os[j] ho h2 hd (dd (List.getElem?_eq_getElem hj)) z
    subst ek
    exact hk (List.mem_of_getElem? h1)
  have old : ∀ {k : Nat}, k < M.length → ∃ u, H (ι k) = some u := fun hk => h.ali _ hk
  have nw : ∀ {k j : Nat}, k < M.length → os.length ≤ j → j < os'.length → ι k ≠ ι' j := fun {k j} hk h1 h2 z => by
    obtain ⟨u, hu⟩ := old hk
    have w := e.nw j h1 h2
    rw [← z, hu] at w
    cases w
  refine ⟨⟨h'.sub, fun k hk => ?_, fun k o z d => ?_, fun a b o u z1 z2 d1 d2 z => ?_, fun k o z => ?_, fun k z => ?_⟩, e.zz, fun k hk => bl hk, fun a o h1 h2 => e.fr a o h1 fun j hj z => ?_, fun k h1 h2 => ?_, by rw [ln]; omega, fun a o z => ?_⟩
  · by_cases hk' : k < M.length
    · rw [bl hk']
      obtain ⟨u, hu⟩ := old hk'
      by_cases z : ∃ j, j < os.length ∧ ι k = lentι ι ks j
      · obtain ⟨j, hj, z⟩ := z
        rw [z, ← e.ii j hj]
        exact h'.ali j (Nat.lt_of_lt_of_le hj e.ln)
      · exact ⟨u, e.fr _ _ hu fun j hj q => z ⟨j, hj, q⟩⟩
    · rw [bn hk']
      rw [ln] at hk
      exact h'.ali _ (by omega)
  · rcases cs z with ⟨hk, hn, ho⟩ | ⟨hk, j, hj, ho⟩ | ⟨hk, ho⟩
    · rw [bl hk]
      cases q : Z' (ι k) with
      | none => rfl
      | some w =>
        rcases e.zn _ _ q with a | a | ⟨j, hj, a⟩
        · rw [h.sep k o ho d] at a; cases a
        · obtain ⟨u, hu⟩ := old hk
          rw [hu] at a; cases a
        · exact absurd a (apart hn ho d hj)
    · rw [bl hk, ← at' hj]
      exact h'.sep j o ho d
    · rw [bn hk]
      exact h'.sep _ o ho d
  · rcases cs z1 with ⟨ha, hn, ho⟩ | ⟨ha, i, hi, ho⟩ | ⟨ha, ho⟩ <;> rcases cs z2 with ⟨hb', hn', hu⟩ | ⟨hb', j, hj, hu⟩ | ⟨hb', hu⟩
    · rw [bl ha, bl hb'] at z
      exact h.inj a b o u ho hu d1 d2 z
    · rw [bl ha, bl hb'] at z
      exact absurd (z.trans (at_ hj).symm) (apart hn ho d1 (by rw [l]; exact (List.getElem?_eq_some_iff.mp hj).1))
    · rw [bl ha, bn hb'] at z
      exact absurd z (nw ha (by rw [l]; omega) (List.getElem?_eq_some_iff.mp hu).1)
    · rw [bl ha, bl hb'] at z
      exact absurd (z.symm.trans (at_ hi).symm) (apart hn' hu d2 (by rw [l]; exact (List.getElem?_eq_some_iff.mp hi).1))
    · rw [bl ha, bl hb', ← at' hi, ← at' hj] at z
      have ij := h'.inj i j o u ho hu d1 d2 z
      subst ij
      rw [hi] at hj
      exact Option.some.inj hj
    · rw [bl ha, bn hb', ← at' hi] at z
      have ij := h'.inj i _ o u ho hu d1 d2 z
      have := (List.getElem?_eq_some_iff.mp hi).1
      omega
    · rw [bn ha, bl hb'] at z
      exact absurd z.symm (nw hb' (by rw [l]; omega) (List.getElem?_eq_some_iff.mp ho).1)
    · rw [bn ha, bl hb', ← at' hj] at z
      have ij := h'.inj _ j o u ho hu d1 d2 z
      have := (List.getElem?_eq_some_iff.mp hj).1
      omega
    · rw [bn ha, bn hb'] at z
      have ij := h'.inj _ _ o u ho hu d1 d2 z
      omega
  · have low : ∀ {j : Nat} {o : MO}, os'[j]? = some o → belowO 0 o = true := fun q => List.all_eq_true.mp hb _ (List.mem_of_getElem? q)
    rcases cs z with ⟨hk, hn, ho⟩ | ⟨hk, j, hj, ho⟩ | ⟨hk, ho⟩
    · rw [bl hk]
      by_cases du : o = .dead
      · subst du
        trivial
      · exact OR.mono e.zz (fun k hk => bl hk) (by rw [ln]; omega) (fun u z => e.fr _ _ z fun j hj => apart hn ho du hj) (h.obj k o ho)
    · rw [bl hk, ← at' hj]
      exact (h'.obj j o ho).low (low ho)
    · rw [bn hk]
      exact (h'.obj _ o ho).low (low ho)
  · rcases cs z with ⟨hk, _, ho⟩ | ⟨hk, j, hj, ho⟩ | ⟨hk, ho⟩
    · rw [bl hk]
      obtain ⟨u, hu⟩ := h.ded k ho
      exact ⟨u, e.zz _ _ hu⟩
    · rw [bl hk, ← at' hj]
      exact h'.ded j ho
    · rw [bn hk]
      exact h'.ded _ ho
  · obtain ⟨k, q1, q2⟩ := f j os[j] (List.getElem?_eq_getElem hj)
    rw [at_ q1] at z
    exact h2 k (List.getElem?_eq_some_iff.mp q2).1 z
  · rw [bn (Nat.not_lt.mpr h1)]
    rw [ln] at h2
    exact e.nw _ (by rw [l]; omega) (by omega)
  · rcases e.zn a o z with q | q | ⟨j, hj, q⟩
    · exact .inl q
    · exact .inr (.inl q)
    · obtain ⟨k, q1, q2⟩ := f j os[j] (List.getElem?_eq_getElem hj)
      rw [at_ q1] at q
      exact .inr (.inr ⟨k, (List.getElem?_eq_some_iff.mp q2).1, q⟩)
theorem backD_rp {K : PySem.W.Frag} {Z' : Hp} {ι ι' : Nat → Addr} {ks : List Nat} {n m N : Nat} {d d' : D} {v : V} (hk : ∀ k ∈ ks, k < n) (hi : ∀ (j k : Nat), ks[j]? = some k → ι' j = ι k) (hN : n + (m - ks.length) ≤ N) (r : Rp K Z' ι' m d v) (h : backD ks n d = some d') :
    Rp K Z' (backι ι ι' n ks.length) N d' v := by
  have flat : ∀ {d : D}, below 0 d = true → Rp K Z' ι' m d v → Rp K Z' (backι ι ι' n ks.length) N d v := fun b r => Rp.mono (fun _ _ z => z) (fun _ z => absurd z (Nat.not_lt_zero _)) (Nat.zero_le _) _ _ (r.shrink _ _ b)
  cases r with
  | ref hj =>
    rename_i j
    have h' : (if j < ks.length then (ks[j]?).map D.ref else some (.ref (n + (j - ks.length)))) = some d' := h
    by_cases hl : j < ks.length
    · rw [if_pos hl, List.getElem?_eq_getElem hl] at h'
      cases h'
      have hk' := hk _ (List.getElem_mem hl)
      have q : Rp K Z' (backι ι ι' n ks.length) N (.ref ks[j]) (.ref (backι ι ι' n ks.length ks[j])) := .ref (by omega)
      rw [show backι ι ι' n ks.length ks[j] = ι' j by unfold backι; rw [if_pos hk']; exact (hi j _ (List.getElem?_eq_getElem hl)).symm] at q
      exact q
    · rw [if_neg hl] at h'
      cases h'
      have q : Rp K Z' (backι ι ι' n ks.length) N (.ref (n + (j - ks.length))) (.ref (backι ι ι' n ks.length (n + (j - ks.length)))) := .ref (by omega)
      rw [show backι ι ι' n ks.length (n + (j - ks.length)) = ι' j by unfold backι; rw [if_neg (by omega)]; congr 1; omega] at q
      exact q
  | non => cases h; exact .non
  | bl b => cases h; exact .bl b
  | int i => cases h; exact .int i
  | str x => cases h; exact .str x
  | tup s r =>
    rename_i ds a xs
    have h' : (if below 0 (.tup ds) = true then some (D.tup ds) else none) = some d' := h
    by_cases b : below 0 (.tup ds) = true
    · rw [if_pos b] at h'
      cases h'
      exact flat b (.tup s r)
    · rw [if_neg b] at h'
      cases h'
  | lst s r =>
    rename_i ds a xs
    have h' : (if below 0 (.lst ds) = true then some (D.lst ds) else none) = some d' := h
    by_cases b : below 0 (.lst ds) = true
    · rw [if_pos b] at h'
      cases h'
      exact flat b (.lst s r)
    · rw [if_neg b] at h'
      cases h'
  | dct s r t =>
    rename_i ks ws a nks kx xs
    have h' : (if below 0 (.dct ks ws) = true then some (D.dct ks ws) else none) = some d' := h
    by_cases b : below 0 (.dct ks ws) = true
    · rw [if_pos b] at h'
      cases h'
      exact flat b (.dct s r t)
    · rw [if_neg b] at h'
      cases h'
  | ptu s r =>
    rename_i ds a xs
    have h' : (if below 0 (.ptu ds) = true then some (D.ptu ds) else none) = some d' := h
    by_cases b : below 0 (.ptu ds) = true
    · rw [if_pos b] at h'
      cases h'
      exact flat b (.ptu s r)
    · rw [if_neg b] at h'
      cases h'
end Bk

set_option Elab.async false
set_option linter.all false
set_option maxRecDepth 100000
set_option maxHeartbeats 2000000
namespace Bk
open PySem PySem.Spec PyProof.Rows L2

/-! ### defs -/
def PostF (K : PySem.W.Frag) (C : CT) (E : XK) (H Z : Hp) (ι : Nat → Addr) (M : List MO) (r : R D) (Q : VK) : Prop := match r with
  | .ok d M' => ∀ (v : V) (H' Z' : Hp) (ι' : Nat → Addr), Ext H Z ι M.length H' Z' ι' M'.length → HR K H' Z' ι' M' → Rp K Z' ι' M'.length d v → Q v H'
  | .exc c d M' => ∀ (cls : Value) (dd : Option Addr) (H' Z' : Hp) (ι' : Nat → Addr), Ext H Z ι M.length H' Z' ι' M'.length → HR K H' Z' ι' M' → ExcR K C H' Z' ι' M'.length c d cls dd → E cls dd H'
  | .bad => False
/-- the def at f computes F, by at most k calls one in another -/
structure FnQ (P : Program) (w : World) (K : PySem.W.Frag) (mg : Str → Option Value) (base : Heap) (C : CT) (k : Nat) (f : Addr) (fd : FuncData) (ps : List Str) (F : List D → List MO → R D) : Prop where
  run : ∀ (A : Around) (outer : List PySem.Env) (s : Shared) (H : Hp) (args : Args) (us : List Value) (vs : List V) (Q : VK) (E : XK) (ds : List D) (Z : Hp) (ι : Nat → Addr) (M : List MO), Room k A → A.guards = some [] → Env0 P w K mg base A outer s H →
    BindsTo s fd args (ps.zip us) → Vals vs us → vs.length = ps.length → Rps K Z ι M.length ds vs → HR K H Z ι M → PostF K C E H Z ι M (F ds M) Q → codeAny (model P w) A (.call (.ref f) args) (CR (L2.CX P w) outer P w H s Q E) s
theorem FnQ.mono {P : Program} {w : World} {K : PySem.W.Frag} {mg : Str → Option Value} {base : Heap} {C : CT} {j k : Nat} {f : Addr} {fd : FuncData} {ps : List Str} {F : List D → List MO → R D} (x : FnQ P w K mg base C j f fd ps F) (h : j ≤ k) : FnQ P w K mg base C k f fd ps F :=
  ⟨fun A outer s H args us vs Q E ds Z ι M hr => x.run A outer s H args us vs Q E ds Z ι M (hr.mono h)⟩
/-- what a body's end gives the caller: what it made besides is dropped -/
def retR (m : Nat) (M' : List MO) : D → R D
  | .ref k => if k < m then .ok (.ref k) (M'.take m) else match M'[k]? with
    | some (.lst ds) => if belows m ds = true then .ok (.ref m) (M'.take m ++ [.lst ds]) else .bad
    | _ => .bad
  | d => if below m d = true then .ok d (M'.take m) else .bad
def fin (m : Nat) : RS → R D
  | .rt d M' => if m ≤ M'.length ∧ cutOk m M' = true then retR m M' d else .bad
  | .nx _ M' => if m ≤ M'.length ∧ cutOk m M' = true then .ok .non (M'.take m) else .bad
  | .exc c d _ M' => if m ≤ M'.length ∧ cutOk m M' = true ∧ below m d = true then .exc c d (M'.take m) else .bad
  | _ => .bad
/-- a def of n names with the body g -/
def runF (n : Nat) (g : GS) (ds : List D) (M : List MO) : R D := fin M.length (g (ds.map some ++ List.replicate (n - ds.length) none) M)

section
variable {K : PySem.W.Frag} {C : CT} {H Z H' Z' : Hp} {ι ι' : Nat → Addr} {M M' : List MO} {E : XK} {Q : VK}
theorem take_len {α : Type} {l : List α} {m : Nat} (h : m ≤ l.length) : (l.take m).length = m := by rw [List.length_take]; omega
theorem retR_run {d : D} {v : V} (e : Ext H Z ι M.length H' Z' ι' M'.length) (hr : HR K H' Z' ι' M') (r : Rp K Z' ι' M'.length d v) (c1 : M.length ≤ M'.length) (c2 : cutOk M.length M' = true) (h : PostF K C E H Z ι M (retR M.length M' d) Q) : Q v H' := by
  have ln := take_len c1
  have flat : ∀ {d : D}, Rp K Z' ι' M'.length d v → PostF K C E H Z ι M (if below M.length d = true then .ok d (M'.take M.length) else .bad) Q → Q v H' := fun {d} r h => by
    by_cases b : below M.length d = true
    · rw [if_pos b] at h
      exact h v H' Z' ι' (by rw [ln]; exact e.cut (Nat.le_refl _) c1) (hr.cut c1 c2) (by rw [ln]; exact r.shrink _ _ b)
    · rw [if_neg b] at h
      exact h.elim
  cases r with
  | ref hk =>
    rename_i k
    have h2 : PostF K C E H Z ι M (if k < M.length then .ok (.ref k) (M'.take M.length) else match M'[k]? with
      | some (.lst ds) => if belows M.length ds = true then .ok (.ref M.length) (M'.take M.length ++ [.lst ds]) else .bad
      | _ => .bad) Q := h
    by_cases hm : k < M.length
    · rw [if_pos hm] at h2
      exact h2 _ H' Z' ι' (by rw [ln]; exact e.cut (Nat.le_refl _) c1) (hr.cut c1 c2) (by rw [ln]; exact .ref hm)
    · rw [if_neg hm] at h2
      cases e1 : M'[k]? with
      | none => rw [e1] at h2; exact h2.elim
      | some o =>
        rw [e1] at h2
        cases o with
        | dead => exact h2.elim
        | dct ks0 vs0 => exact h2.elim
        | dki kvs0 => exact h2.elim
        | obj nm fs => exact h2.elim
        | lst ds =>
          have h3 : PostF K C E H Z ι M (if belows M.length ds = true then .ok (.ref M.length) (M'.take M.length ++ [.lst ds]) else .bad) Q := h2
          by_cases b : belows M.length ds = true
          · rw [if_pos b] at h3
            obtain ⟨xs, e2, r2⟩ := hr.obj k _ e1
            have hc := hr.cut c1 c2
            have lk : k < M'.length := (List.getElem?_eq_some_iff.mp e1).1
            have od : Odd Z' ι' (M'.take M.length).length (ι' k) := ⟨hr.sep k _ e1 (by simp), fun j hj => by
              rw [ln] at hj
              exact hr.apart (by omega) e1 (by simp) (by omega)⟩
            have q : Rp K Z' (put ι' (M'.take M.length).length (ι' k)) (M'.take M.length ++ [MO.lst ds]).length (.ref (M'.take M.length).length) (.ref (put ι' (M'.take M.length).length (ι' k) (M'.take M.length).length)) := .ref (by simp)
            rw [put_at] at q
            have n0 : H (ι' k) = none := e.nw k (by omega) lk
            have x := Ext.adoptM (M := M'.take M.length) (ds := ds) (p := ι' k) (by rw [ln]; exact e.cut (Nat.le_refl _) c1) n0
            have z := hc.adoptM od e2 (by rw [ln]; exact Rps.shrink _ _ r2 b)
            have h4 : PostF K C E H Z ι M (.ok (.ref (M'.take M.length).length) (M'.take M.length ++ [.lst ds])) Q := by rw [ln]; exact h3
            exact h4 _ H' Z' _ x z q
          · rw [if_neg b] at h3
            exact h3.elim
  | non => exact flat .non h
  | bl b => exact flat (.bl b) h
  | int i => exact flat (.int i) h
  | str x => exact flat (.str x) h
  | tup s r => exact flat (.tup s r) h
  | lst s r => exact flat (.lst s r) h
  | dct s r t => exact flat (.dct s r t) h
  | ptu s r => exact flat (.ptu s r) h

theorem fin_run {X : Cx} {W : WX} {r : RS} (hW : ∀ c d σ H, E c d H → W c d σ H) (eK : X.K = K) (h : PostF K C E H Z ι M (fin M.length r) Q) : PostS X C W H Z ι M r { nx := fun _ H' => Q .non H', rt := Q } := by
  subst eK
  cases r with
  | bad => exact h
  | bk Γ M' => exact h.elim
  | ct Γ M' => exact h.elim
  | nx Γ M' =>
    have h2 : PostF X.K C E H Z ι M (if M.length ≤ M'.length ∧ cutOk M.length M' = true then .ok .non (M'.take M.length) else .bad) Q := h
    by_cases c : M.length ≤ M'.length ∧ cutOk M.length M' = true
    · rw [if_pos c] at h2
      intro σ' H' Z' ι' e hr sl
      have ln := take_len c.1
      exact h2 .non H' Z' ι' (by rw [ln]; exact e.cut (Nat.le_refl _) c.1) (hr.cut c.1 c.2) .non
    · rw [if_neg c] at h2
      exact h2.elim
  | rt d M' =>
    have h2 : PostF X.K C E H Z ι M (if M.length ≤ M'.length ∧ cutOk M.length M' = true then retR M.length M' d else .bad) Q := h
    by_cases c : M.length ≤ M'.length ∧ cutOk M.length M' = true
    · rw [if_pos c] at h2
      intro v H' Z' ι' e hr r
      exact retR_run e hr r c.1 c.2 h2
    · rw [if_neg c] at h2
      exact h2.elim
  | exc n d Γ M' =>
    have h2 : PostF X.K C E H Z ι M (if M.length ≤ M'.length ∧ cutOk M.length M' = true ∧ below M.length d = true then .exc n d (M'.take M.length) else .bad) Q := h
    by_cases c : M.length ≤ M'.length ∧ cutOk M.length M' = true ∧ below M.length d = true
    · rw [if_pos c] at h2
      intro cls dd σ' H' Z' ι' e hr sl x
      have ln := take_len c.1
      obtain ⟨x1, a, v, x2, x3, x4⟩ := x
      exact hW _ _ _ _ (h2 cls dd H' Z' ι' (by rw [ln]; exact e.cut (Nat.le_refl _) c.1) (hr.cut c.1 c.2.1) ⟨x1, a, v, x2, x3, by rw [ln]; exact x4.shrink _ _ c.2.2⟩)
    · rw [if_neg c] at h2
      exact h2.elim
theorem slots_start {ds : List D} {vs : List V} {N : List Str} {n : Nat} (r : Rps K Z ι n ds vs) (hl : vs.length ≤ N.length) : Slots K Z ι n (ds.map some ++ List.replicate (N.length - ds.length) none) (L2.start N vs) := by
  have l := r.length
  refine ⟨by unfold L2.start; simp [l], fun i d h => ?_⟩
  by_cases hi : i < ds.length
  · rw [List.getElem?_append_left (by simpa using hi), List.getElem?_map] at h
    cases e : ds[i]? with
    | none => rw [e] at h; cases h
    | some d' =>
      rw [e] at h
      cases h
      obtain ⟨v, e2, r2⟩ := r.get e
      refine ⟨v, ?_, r2⟩
      unfold L2.start
      rw [List.getElem?_append_left (by rw [List.length_map, ← l]; exact hi), List.getElem?_map, e2]
      rfl
  · rw [List.getElem?_append_right (by simpa using Nat.le_of_not_lt hi), List.getElem?_replicate] at h
    split at h <;> cases h
end
section
variable {P : Program} {w : World} {K : PySem.W.Frag} {mg : Str → Option Value} {base : Heap} {C : CT}
/-- THE RULE for a def: its body computes g -/
theorem fq_of {x qual : Str} {st : Stmt} {f : Addr} {fd : FuncData} {N ps : List Str} {k : Nat} {g : GS} (F : Fun K x qual st f fd) (S : FnScope N ps (defScope st))
    (hbody : ∀ (cdv : Value) (A : Around) (outer : List PySem.Env) (s : Shared) (H : Hp) (E : XK), Room k (A.deeper (envOfC qual (defScope st) s.heap.objs.size f cdv)) → A.guards = some [] →
      QSs (cxOf (L2.CX P w) P w K mg base N qual (defScope st) f cdv A outer s H E) C (fun cls d _ H => E cls d H) (defBody st) g) : FnQ P w K mg base C (k + 1) f fd ps (runF N.length g) := by
  obtain ⟨oc, od, kV, doc, pm, an, cdv, ct, osl, rfl, lk, hcd⟩ := F.ex
  refine ⟨fun A outer s H args us vs Q E ds Z ι M room hgu env0 hbind rvs hlen rds hr hpost => ?_⟩
  have hK : K.In s.heap := env0.mod.kin.keeps fun b o z => (env0.bs b o z).1
  have hlim : s.heap.NoLimit := env0.mod.nolimit.keeps fun b o z => (env0.bs b o z).1
  have kinds : ∀ y ∈ ps.zip us, (defScope st).names.lookup y.1 = some .local ∨ ((defScope st).names.lookup y.1 = some .cell ∧ ((cellsFrom (s.heap.objs.size + 1) (defScope st).names []).lookup y.1).isSome = true) := fun y hy => by
    rcases S.par y.1 (List.of_mem_zip (a := y.1) (b := y.2) hy).1 with z | z
    · exact .inl z
    · exact .inr ⟨z, PySem.W.cellsFrom_some _ _ _ (.inl z)⟩
  refine codeAny_call_function room.depth (hK _ _ lk) rfl S.co S.gen rfl (PySem.W.codeRec_of hK hcd) (hbind _ _ _ _ (wpAny_newFunctionEnv_cells S.kind kinds fun env he s1 ic => ?_))
  subst he
  refine ⟨hlim.keeps ic.toInCall.keep, codeAny_func ?_⟩
  obtain ⟨ts, pts, qts⟩ := hbody cdv A outer s H E (room.deeper _) hgu
  have J : Inv (cxOf (L2.CX P w) P w K mg base N qual (defScope st) f cdv A outer s H E) [] (L2.start N vs) H s1 := inv_start S room.hd env0 hlen rvs ic
  have lN : vs.length ≤ N.length := by
    have z := congrArg List.length S.pre
    rw [List.length_take] at z
    omega
  have hq := qts _ (L2.start N vs) H Z ι _ M (slots_start rds lN) hr (fin_run (E := E) (fun _ _ _ _ z => z) rfl hpost)
  refine wpAny_mono (pts.run [] s1 _ H _ J hq) (fun fl s' hs => ?_) fun _ _ hs => hs
  have ends : ∀ {σ' : L2.St} {H' : Hp} {v : V} {u : Value}, Inv (cxOf (L2.CX P w) P w K mg base N qual (defScope st) f cdv A outer s H E) [] σ' H' s' → RelV v u → Q v H' → CE outer P w H s Q u s' :=
    fun {σ' H' v u} J2 rv q => ⟨v, H', J2.os, J2.bare, J2.base, J2.hok, rv, q⟩
  cases fl with
  | ret u => exact let ⟨v, σ', H', J2, rv, q⟩ := hs; ends J2 rv q
  | next => exact let ⟨σ', H', J2, q⟩ := hs; ends (v := V.non) (u := Value.none) J2 rfl q
  | brk => exact let ⟨_, _, _, q⟩ := hs; q.elim
  | cont => exact let ⟨_, _, _, q⟩ := hs; q.elim
end

/-! ### calls of defs -/
section
variable {X : Cx} {C : CT} {W : WX} {k : Nat} {f : Addr} {fd : FuncData} {ps : List Str} {F : List D → List MO → R D} {x : Str} {p pos : Pos} {e : Expr} {es : List Expr} {gs : GA}
/-- what a call asks -/
def rCallQ (K : PySem.W.Frag) (C : CT) (ps : List Str) (F : List D → List MO → R D) (E : XK) (vs : List V) (H : Hp) (Q : VK) : Prop :=
  vs.length = ps.length ∧ ∃ (ds : List D) (Z : Hp) (ι : Nat → Addr) (M : List MO), Rps K Z ι M.length ds vs ∧ HR K H Z ι M ∧ PostF K C E H Z ι M (F ds M) Q
theorem run_q {pins : List (Addr × Obj)} {σ : St} {H : Hp} {s : Shared} {Q : VK} {vs : List V} {us : List Value} {args : Args} (F0 : FnQ X.prog X.w X.K X.mg X.base C k f fd ps F) (hr : Room k X.A) (hgu : X.A.guards = some []) (tk : Takes X W) (I : Inv X pins σ H s)
    (hb : BindsTo s fd args (ps.zip us)) (r : Vals vs us) (h : rCallQ X.K C ps F (WE W σ) vs H Q) : codeAny (model X.prog X.w) X.A (.call (.ref f) args) (fun r s' => match r with
      | .ok (.ret u) => EP X pins σ Q u s'
      | .ok _ => False
      | .error e => X.xe e s') s := by
  obtain ⟨hl, ds, Z, ι, M, rd, hr', hp⟩ := h
  refine codeAny_mono (F0.run X.A X.stack s H args us vs Q (WE W σ) ds Z ι M hr hgu I.env0 hb r hl rd hr' hp) fun r s' hq => ?_
  cases r with
  | error e => exact passAt tk σ pins H s e s' I hq
  | ok fl =>
    cases fl with
    | ret u => exact I.after hq
    | next => exact hq.elim
    | brk => exact hq.elim
    | cont => exact hq.elim
theorem lent_post {σ : St} {H Z : Hp} {ι : Nat → Addr} {ds : List D} {vs : List V} {M : List MO} {Q : VK} (hr : HR X.K H Z ι M) (r : Rps X.K Z ι M.length ds vs) (hl : vs.length = ps.length) (h : Post X C W (rpE X.K) σ H Z ι M (callF F ds M) Q) : rCallQ X.K C ps F (WE W σ) vs H Q := by
  unfold callF at h
  cases eg : getAll M (lendK ds) with
  | none => rw [eg] at h; exact h.elim
  | some os =>
    rw [eg] at h
    simp only at h
    by_cases c : (lendK ds).Nodup ∧ flatArgs ds = true ∧ lentOk os = true
    · rw [if_pos c] at h
      obtain ⟨l, fa⟩ := getAll_at eg
      have r2 := lend_rps ds vs [] c.2.1 r
      simp only [List.nil_append, List.length_nil] at r2
      rw [← l] at r2
      have hr2 := hr.lend c.1 eg c.2.2
      refine ⟨hl, lendA 0 ds, Z, lentι ι (lendK ds), os, r2, hr2, ?_⟩
      have kl : ∀ k ∈ lendK ds, k < M.length := fun k hk => by
        obtain ⟨j, hj, ej⟩ := List.mem_iff_getElem.mp hk
        obtain ⟨k', q1, q2⟩ := fa j os[j] (List.getElem?_eq_getElem (by rw [l]; exact hj))
        rw [List.getElem?_eq_getElem hj] at q1
        cases q1
        rw [← ej]
        exact (List.getElem?_eq_some_iff.mp q2).1
      cases eF : F (lendA 0 ds) os with
      | bad => rw [eF] at h; exact h.elim
      | exc n d os' =>
        rw [eF] at h
        simp only at h
        by_cases c2 : (lendK ds).length ≤ os'.length ∧ os'.all (belowO 0) = true ∧ below 0 d = true
        · rw [if_pos c2] at h
          intro cls dd H' Z' ι' e' hr' x
          obtain ⟨b1, b2⟩ := hr.back c.1 eg c.2.2 e' hr' c2.1 c2.2.1
          obtain ⟨x1, a, v, x2, x3, x4⟩ := x
          exact h cls dd H' Z' _ b2 b1 ⟨x1, a, v, x2, x3, Rp.mono (fun _ _ z => z) (fun _ z => absurd z (Nat.not_lt_zero _)) (Nat.zero_le _) _ _ (x4.shrink _ _ c2.2.2)⟩
        · rw [if_neg c2] at h
          exact h.elim
      | ok d os' =>
        rw [eF] at h
        simp only at h
        by_cases c2 : (lendK ds).length ≤ os'.length ∧ os'.all (belowO 0) = true
        · rw [if_pos c2] at h
          intro v H' Z' ι' e' hr' x
          obtain ⟨b1, b2⟩ := hr.back c.1 eg c.2.2 e' hr' c2.1 c2.2
          cases eb : backD (lendK ds) M.length d with
          | none => rw [eb] at h; exact h.elim
          | some d' =>
            rw [eb] at h
            have ln : (setAll M (lendK ds) os' ++ os'.drop (lendK ds).length).length = M.length + (os'.length - (lendK ds).length) := by rw [List.length_append, setAll_length, List.length_drop]
            refine h v H' Z' _ b2 b1 (backD_rp kl (fun j k q => ?_) (by rw [ln]; exact Nat.le_refl _) x eb)
            rw [e'.ii j (by rw [l]; exact (List.getElem?_eq_some_iff.mp q).1)]
            unfold lentι
            rw [List.getD_eq_getElem?_getD, q]
            rfl
        · rw [if_neg c2] at h
          exact h.elim
    · rw [if_neg c] at h
      exact h.elim
/-- the callee runs, its arguments bound -/
theorem run_call {pins : List (Addr × Obj)} {σ : St} {H : Hp} {s : Shared} {Q : VK} {vs : List V} {us ts : List Value} {kw : List (Str × Value)} (F0 : FnQ X.prog X.w X.K X.mg X.base C k f fd ps F) (hr : Room k X.A) (hgu : X.A.guards = some []) (tk : Takes X W) (I : Inv X pins σ H s)
    (hb : BindsTo s fd ⟨us, kw⟩ (ps.zip ts)) (r : Vals vs ts) (h : rCallQ X.K C ps F (WE W σ) vs H Q) : wpAny (model X.prog X.w) X.A (call (.ref f) us kw) (EP X pins σ Q) X.xe s :=
  wpAny_call (codeAny_mono (run_q F0 hr hgu tk I hb r h) fun r s' hq => by
    cases r with
    | error e => exact hq
    | ok fl =>
      cases fl with
      | ret u => exact hq
      | next => exact hq.elim
      | brk => exact hq.elim
      | cont => exact hq.elim)
/-- f(e, ..) -/
theorem qe_call {n : Nat} (F0 : FnQ X.prog X.w X.K X.mg X.base C k f fd ps F) (hr : Room k X.A) (hgu : X.A.guards = some []) (tk : Takes X W) (hg : Gl X x) (hm : X.mg x = some (.ref f)) (hk : PySem.W.keepIn X.K (.ref f) = true) (hb : Binds X.K fd ps []) (ha : QA X C W (e :: es) gs) (hn : n = ps.length := by rfl)
    (hdb : (x == ("__debug__" : Str)) = false := by decide) (he : starEach (e :: es) X.env = (false, eval e X.env) :: starEach es X.env := by rfl) (hpl : (backTo pos (starEach es X.env)).any (·.1) = false := by rfl) :
    QE X C W (.Call (.Name x p) (e :: es) [] pos) (gCallF n F gs) := by
  subst hn
  obtain ⟨ta, pa, qa⟩ := ha
  refine ⟨fun σ H Q => ta σ H fun vs H1 => rCallQ X.K C ps F (WE W σ) vs H1 Q, ⟨fun pins s σ H Q I h => wpAny_Call_Name_kw (ld_glob I hg hm ?_ hdb)⟩, fun σ H Z ι Γ M Q sl hr h => qa σ H Z ι Γ M _ sl hr (h.bind fun ds M1 vs H1 Z1 ι1 e1 hr1 r1 h1 => ?_)⟩
  · refine PySem.W.callWith_K (h₀ := X.base) I.ok.mod.kin hk (thn (pa.run pos pins s σ H _ I h) fun us s1 hh => ?_) he hpl
    obtain ⟨vs, H1, J, r, q⟩ := hh
    have hl : us.length = ps.length := r.length.symm.trans q.1
    have hbb := hb s1 us J.kIn (by rw [List.append_nil]; exact hl)
    rw [List.append_nil] at hbb
    exact ⟨J.kIn, run_call F0 hr hgu tk J hbb r q⟩
  · by_cases c : ds.length = ps.length
    · rw [if_pos c] at h1
      exact lent_post hr1 r1 (by rw [← r1.length]; exact c) h1
    · rw [if_neg c] at h1
      exact h1.elim
theorem qe_call0 {n : Nat} (F0 : FnQ X.prog X.w X.K X.mg X.base C k f fd ps F) (hr : Room k X.A) (hgu : X.A.guards = some []) (tk : Takes X W) (hg : Gl X x) (hm : X.mg x = some (.ref f)) (hk : PySem.W.keepIn X.K (.ref f) = true) (hb : Binds X.K fd ps []) (hn : n = ps.length := by rfl)
    (hdb : (x == ("__debug__" : Str)) = false := by decide) : QE X C W (.Call (.Name x p) [] [] pos) (gCallF n F gNil) := by
  subst hn
  refine ⟨fun σ H Q => rCallQ X.K C ps F (WE W σ) [] H Q, ⟨fun pins s σ H Q I h => wpAny_Call_Name_kw (ld_glob I hg hm (PySem.W.callWith_K0 I.kIn hk ?_) hdb)⟩, fun σ H Z ι Γ M Q sl hr h => ?_⟩
  · have hbb := hb s [] I.kIn (by simpa using h.1)
    exact run_call (us := []) (ts := []) F0 hr hgu tk I (by simpa using hbb) .nil h
  · have h1 : Post X C W (rpE X.K) σ H Z ι M (if ([] : List D).length = ps.length then callF F [] M else .bad) Q := h
    by_cases c : ([] : List D).length = ps.length
    · rw [if_pos c] at h1
      exact lent_post hr .nil c h1
    · rw [if_neg c] at h1
      exact h1.elim
theorem vals_pick {vs : List V} {us : List Value} (r : Vals vs us) : ∀ is : List Nat, Vals (pick vs is) (pick us is)
  | [] => .nil
  | i :: is => by
    unfold pick
    cases e : vs[i]? with
    | none =>
      rw [r.none_of e]
      exact vals_pick r is
    | some v =>
      obtain ⟨u, e2, r2⟩ := r.get e
      rw [e2]
      exact .cons r2 (vals_pick r is)
theorem rps_pick {K : PySem.W.Frag} {Z : Hp} {ι : Nat → Addr} {n : Nat} {ds : List D} {vs : List V} (r : Rps K Z ι n ds vs) : ∀ is : List Nat, Rps K Z ι n (pick ds is) (pick vs is)
  | [] => .nil
  | i :: is => by
    unfold pick
    cases e : ds[i]? with
    | none =>
      have l := r.length
      have : vs[i]? = none := by
        rw [List.getElem?_eq_none_iff] at e ⊢
        omega
      rw [this]
      exact rps_pick r is
    | some d =>
      obtain ⟨v, e2, r2⟩ := r.get e
      rw [e2]
      exact .cons r2 (rps_pick r is)
/-- how a call with keywords binds -/
def KwBinds (K : PySem.W.Frag) (fd : FuncData) (ps ks : List Str) (np : Nat) (is : List Nat) : Prop := ∀ (s : Shared) (us ws : List Value), K.In s.heap → us.length = np → ws.length = ks.length → BindsTo s fd ⟨us, ks.zip ws⟩ (ps.zip (pick (us ++ ws) is))
def QK (X : Cx) (C : CT) (W : WX) (es : List Keyword) (g : GA) : Prop := ∃ te, PK X es te ∧ ∀ (σ : St) (H Z : Hp) (ι : Nat → Addr) (Γ : Env) (M : List MO) (Q : List V → Hp → Prop), Slots X.K Z ι M.length Γ σ → HR X.K H Z ι M → Post X C W (rpA X.K) σ H Z ι M (g Γ M) Q → te σ H Q
theorem qk_nil : QK X C W [] gNil := ⟨_, pk_nil, fun σ H Z ι Γ M Q sl hr h => h [] H Z ι .refl hr .nil⟩
theorem qk_cons {nm : Option Str} {kpos : Pos} {kws : List Keyword} {g : GE} (ha : QE X C W e g) (hb : QK X C W kws gs) : QK X C W (⟨nm, e, kpos⟩ :: kws) (gCons g gs) := by
  obtain ⟨ta, pa, qa⟩ := ha
  obtain ⟨tb, pb, qb⟩ := hb
  exact ⟨_, pk_cons pa pb, fun σ H Z ι Γ M Q sl hr h => qa σ H Z ι Γ M _ sl hr (h.bind fun x M1 v H1 Z1 ι1 e1 hr1 r1 h1 => qb σ H1 Z1 ι1 Γ M1 _ (sl.ext e1) hr1 (h1.bind fun y M2 u H2 Z2 ι2 e2 hr2 r2 h2 => h2 _ H2 Z2 ι2 .refl hr2 (.cons (r1.ext e2) r2)))⟩
variable {kws : List Keyword} {gk : GA} {ks : List Str} {is : List Nat} {np : Nat}
/-- f(k = v, ..) -/
theorem qe_callK0 {n : Nat} (F0 : FnQ X.prog X.w X.K X.mg X.base C k f fd ps F) (hr : Room k X.A) (hgu : X.A.guards = some []) (tk : Takes X W) (hg : Gl X x) (hm : X.mg x = some (.ref f)) (hk : PySem.W.keepIn X.K (.ref f) = true) (hb : KwBinds X.K fd ps ks 0 is) (hkw : QK X C W kws gk)
    (hlen : ∀ (Γ : Env) (M M' : List MO) (ds : List D), gk Γ M = .ok ds M' → ds.length = ks.length) (hn : n = ps.length := by rfl)
    (hall : (backToKw pos (keywordEach kws X.env)).all (·.1.isSome) = true := by rfl) (hks : (backToKw pos (keywordEach kws X.env)).filterMap (·.1) = ks := by rfl) (hdb : (x == ("__debug__" : Str)) = false := by decide)
    (hpl : ((backTo pos (starEach [] X.env)).any (·.1) || (backToKw pos (keywordEach kws X.env)).any (·.1.isNone)) = false := by rfl) :
    QE X C W (.Call (.Name x p) [] kws pos) (gCallK n F is gNil gk) := by
  subst hn
  obtain ⟨tk', pk, qk⟩ := hkw
  refine ⟨fun σ H Q => tk' σ H fun zs H2 => zs.length = ks.length ∧ rCallQ X.K C ps F (WE W σ) (pick zs is) H2 Q, ⟨fun pins s σ H Q I h => wpAny_Call_Name_kw (ld_glob I hg hm ?_ hdb)⟩, fun σ H Z ι Γ M Q sl hr h => ?_⟩
  · refine PySem.W.callWith_KW0 (h₀ := X.base) I.ok.mod.kin hk hall (thn (pk.run pos pins s σ H _ I h) fun ws s2 hh => ?_) hpl
    obtain ⟨zs, H2, J, r, hz, q⟩ := hh
    have hl : ws.length = ks.length := r.length.symm.trans hz
    refine ⟨J.kIn, ?_⟩
    rw [hks]
    exact run_call (us := []) F0 hr hgu tk J (by simpa using hb s2 [] ws J.kIn rfl hl) (vals_pick r is) q
  · have h1 : Post X C W (rpE X.K) σ H Z ι M ((gk Γ M).bind fun es M2 => if (pick ([] ++ es) is).length = ps.length then callF F (pick ([] ++ es) is) M2 else .bad) Q := h
    cases eg : gk Γ M with
    | bad => rw [eg] at h1; exact h1.elim
    | exc c d M' =>
      refine qk σ H Z ι Γ M _ sl hr ?_
      rw [eg] at h1 ⊢
      exact h1
    | ok es M' =>
      refine qk σ H Z ι Γ M _ sl hr ?_
      have hle := hlen _ _ _ _ eg
      rw [eg] at h1 ⊢
      intro vs H1 Z1 ι1 e1 hr1 r1
      have h2 : Post X C W (rpE X.K) σ H Z ι M (if (pick es is).length = ps.length then callF F (pick es is) M' else .bad) Q := h1
      have r2 := rps_pick r1 is
      refine ⟨by rw [← r1.length]; exact hle, ?_⟩
      by_cases c : (pick es is).length = ps.length
      · rw [if_pos c] at h2
        exact lent_post hr1 r2 (by rw [← r2.length]; exact c) (Post.shift h2 e1 hr1)
      · rw [if_neg c] at h2
        exact h2.elim
/-- f(e, .., k = v, ..) -/
theorem qe_callK {n : Nat} (F0 : FnQ X.prog X.w X.K X.mg X.base C k f fd ps F) (hr : Room k X.A) (hgu : X.A.guards = some []) (tk : Takes X W) (hg : Gl X x) (hm : X.mg x = some (.ref f)) (hk : PySem.W.keepIn X.K (.ref f) = true) (hb : KwBinds X.K fd ps ks np is) (ha : QA X C W (e :: es) gs) (hkw : QK X C W kws gk)
    (hlen : ∀ (Γ : Env) (M M' : List MO) (ds : List D), gk Γ M = .ok ds M' → ds.length = ks.length) (hlen1 : ∀ (Γ : Env) (M M' : List MO) (ds : List D), gs Γ M = .ok ds M' → ds.length = np) (hn : n = ps.length := by rfl)
    (hall : (backToKw pos (keywordEach kws X.env)).all (·.1.isSome) = true := by rfl) (hks : (backToKw pos (keywordEach kws X.env)).filterMap (·.1) = ks := by rfl) (hdb : (x == ("__debug__" : Str)) = false := by decide)
    (he : starEach (e :: es) X.env = (false, eval e X.env) :: starEach es X.env := by rfl) (hpl : ((backTo pos (starEach (e :: es) X.env)).any (·.1) || (backToKw pos (keywordEach kws X.env)).any (·.1.isNone)) = false := by rfl) :
    QE X C W (.Call (.Name x p) (e :: es) kws pos) (gCallK n F is gs gk) := by
  subst hn
  obtain ⟨ta, pa, qa⟩ := ha
  obtain ⟨tk', pk, qk⟩ := hkw
  refine ⟨fun σ H Q => ta σ H fun vs H1 => tk' σ H1 fun zs H2 => vs.length = np ∧ zs.length = ks.length ∧ rCallQ X.K C ps F (WE W σ) (pick (vs ++ zs) is) H2 Q, ⟨fun pins s σ H Q I h => wpAny_Call_Name_kw (ld_glob I hg hm ?_ hdb)⟩, fun σ H Z ι Γ M Q sl hr h => ?_⟩
  · refine PySem.W.callWith_KW (h₀ := X.base) I.ok.mod.kin hk hall (thn (pa.run pos pins s σ H _ I h) fun us s1 hh => ?_) hpl he
    obtain ⟨vs, H1, J1, r1, q1⟩ := hh
    refine thn (pk.run pos pins s1 σ H1 _ J1 q1) fun ws s2 hh => ?_
    obtain ⟨zs, H2, J, r, hv, hz, q⟩ := hh
    refine ⟨J.kIn, ?_⟩
    rw [hks]
    exact run_call (us := us) F0 hr hgu tk J (hb s2 us ws J.kIn (r1.length.symm.trans hv) (r.length.symm.trans hz)) (vals_pick (r1.append r) is) q
  · have h1 : Post X C W (rpE X.K) σ H Z ι M ((gs Γ M).bind fun ds M1 => (gk Γ M1).bind fun es M2 => if (pick (ds ++ es) is).length = ps.length then callF F (pick (ds ++ es) is) M2 else .bad) Q := h
    cases eg : gs Γ M with
    | bad => rw [eg] at h1; exact h1.elim
    | exc c d M' =>
      refine qa σ H Z ι Γ M _ sl hr ?_
      rw [eg] at h1 ⊢
      exact h1
    | ok ds M' =>
      refine qa σ H Z ι Γ M _ sl hr ?_
      have hld := hlen1 _ _ _ _ eg
      rw [eg] at h1 ⊢
      intro vs H1 Z1 ι1 e1 hr1 r1
      have h2 : Post X C W (rpE X.K) σ H Z ι M ((gk Γ M').bind fun es M2 => if (pick (ds ++ es) is).length = ps.length then callF F (pick (ds ++ es) is) M2 else .bad) Q := h1
      have h3 := Post.shift h2 e1 hr1
      cases eg2 : gk Γ M' with
      | bad => rw [eg2] at h3; exact h3.elim
      | exc c d M2 =>
        refine qk σ H1 Z1 ι1 Γ M' _ (sl.ext e1) hr1 ?_
        rw [eg2] at h3 ⊢
        exact h3
      | ok es M2 =>
        refine qk σ H1 Z1 ι1 Γ M' _ (sl.ext e1) hr1 ?_
        have hle := hlen _ _ _ _ eg2
        rw [eg2] at h3 ⊢
        intro zs H2 Z2 ι2 e2 hr2 r2
        have h4 : Post X C W (rpE X.K) σ H1 Z1 ι1 M' (if (pick (ds ++ es) is).length = ps.length then callF F (pick (ds ++ es) is) M2 else .bad) Q := h3
        have r3 := rps_pick ((r1.ext e2).append r2) is
        refine ⟨by rw [← r1.length]; exact hld, by rw [← r2.length]; exact hle, ?_⟩
        by_cases c : (pick (ds ++ es) is).length = ps.length
        · rw [if_pos c] at h4
          exact lent_post hr2 r3 (by rw [← r3.length]; exact c) (Post.shift h4 e2 hr2)
        · rw [if_neg c] at h4
          exact h4.elim
end
/-- an argument list's length -/
theorem gNil_len {Γ : Env} {M M' : List MO} {ds : List D} (h : gNil Γ M = .ok ds M') : ds.length = 0 := by cases h; rfl
theorem gCons_len {g : GE} {gs : GA} {n : Nat} (hs : ∀ (Γ : Env) (M M' : List MO) (ds : List D), gs Γ M = .ok ds M' → ds.length = n) (Γ : Env) (M M' : List MO) (ds : List D) (h : gCons g gs Γ M = .ok ds M') : ds.length = n + 1 := by
  unfold gCons at h
  cases e : g Γ M with
  | bad => rw [e] at h; cases h
  | exc c d M1 => rw [e] at h; cases h
  | ok d M1 =>
    rw [e] at h
    have h2 : ((gs Γ M1).bind fun xs M2 => (.ok (d :: xs) M2 : R (List D))) = .ok ds M' := h
    cases e2 : gs Γ M1 with
    | bad => rw [e2] at h2; cases h2
    | exc c d M1 => rw [e2] at h2; cases h2
    | ok xs M2 =>
      rw [e2] at h2
      cases h2
      rw [List.length_cons, hs _ _ _ _ e2]
end Bk

set_option Elab.async false
set_option linter.all false
set_option maxRecDepth 100000
set_option maxHeartbeats 2000000
namespace Bk
open PySem PySem.Spec PyProof.Rows L2

/-! ### the law's own call -/
theorem no_cx {P : Program} {w : World} {outer : List PySem.Env} {H : Hp} {s s' : Shared} {u : Value} : ¬ L2.CX P w outer H s (fun _ _ _ => False) u s' := by
  intro h
  unfold L2.CX at h
  simp_all
theorem rps_ints {K : PySem.W.Frag} {Z : Hp} {ι : Nat → Addr} {n : Nat} (is : List Int) : Rps K Z ι n (is.map D.int) (is.map V.int) := Rps.of_ints is
theorem law_q {P : Program} {w : World} {K : PySem.W.Frag} {mg mb : Str → Option Value} {C : CT} {k : Nat} {fa a : Addr} {fd : FuncData} {x : Str} {F : List D → List MO → R D} {s₁ : Shared} {vs : List Value} {ns : List Int}
    (KX : K.In s₁.heap) (hns : s₁.heap.Ns mainGlobals mg) (hb : s₁.heap.Ns builtinsNs mb) (hbb : ∀ x : Str, x ≠ "__name__" → mb x = bootBuiltins x) (hlim : s₁.heap.NoLimit) (hg : s₁.gens = #[])
    (ha : s₁.heap.get? a = some { cls := .type "list", data := .seq vs.toArray }) (hi : IntsAre vs ns) (hl : ns.length ≤ sizeLine) (hr : Room k callerA)
    (hF : ∀ base : Heap, K.In base → base.Ns mainGlobals mg → FnQ P w K mg base C k fa fd [x] F) (hbind : ∀ (s : Shared) (u : Value), BindsTo s fd ⟨[u], []⟩ [(x, u)]) (hlaw : F [.lst (ns.map D.int)] [] = .ok (.bl true) []) :
    codeAny (model P w) callerA (.call (.ref fa) ⟨[.ref a], []⟩) (fun r s' => r = .ok (.ret (.bool true)) ∧ OldK s₁.heap s'.heap ∧ s'.os = s₁.os ∧ AllBare s'.gens) s₁ := by
  have hvals := vals_ints hi
  have hlen := hi.length
  have main : ∀ H : Hp, Only H → ExL K H a (ns.map V.int) → HOk P w H s₁.heap → (∀ b, H b ≠ none → b = a) → (H a ≠ none → K.lookup a = none) →
      codeAny (model P w) callerA (.call (.ref fa) ⟨[.ref a], []⟩) (fun r s' => r = .ok (.ret (.bool true)) ∧ OldK s₁.heap s'.heap ∧ s'.os = s₁.os ∧ AllBare s'.gens) s₁ := by
    intro H only seq hok alone apart
    have free : ∀ {b : Addr} {o : Obj} {es : Array DictEntry} {ep : Nat}, s₁.heap.get? b = some o → o.data = .dict es ep → H b = none := fun {b o es ep} e d => by
      refine Classical.byContradiction fun z => ?_
      have eb : b = a := alone b z
      rw [eb, ha] at e
      cases e
      cases (show Data.seq vs.toArray _ = Data.dict es ep from d)
    have stays : ∀ {b : Addr} {m : Str → Option Value}, s₁.heap.Ns b m → (hidT s₁.heap H).Ns b m := fun {b m} z =>
      let ⟨o, es, ep, e, d, r⟩ := z
      ⟨o, es, ep, hidT_get e (free e d), d, r⟩
    have kin : K.In (hidT s₁.heap H) := fun b o e => hidT_get (KX b o e) (by
      refine Classical.byContradiction fun z => ?_
      have eb : b = a := alone b z
      subst eb
      rw [apart z] at e
      cases e)
    have hmod : Mod K mg (hidT s₁.heap H) := ⟨kin, stays hns, ⟨mb, stays hb, hbb⟩, let ⟨m, h1, h2⟩ := hlim; ⟨m, stays h1, h2⟩⟩
    have env0 : Env0 P w K mg (hidT s₁.heap H) callerA [] s₁ H :=
      ⟨rfl, hmod, fun b o e => of_hidT e, Nat.le_of_eq (hidT_size _ _), trivial, fun b z => absurd (show b ∈ ([] : List Addr) from z) (by simp), hok, AllBare.of_eq hg⟩
    have hr0 : HR K H H (fun _ => 0) [] := ⟨fun _ _ h => h, fun k h => absurd h (Nat.not_lt_zero _), fun k o h => by simp at h, fun j k o u h => by simp at h, fun k o h => by simp at h, fun k h => by simp at h⟩
    refine codeAny_mono ((hF _ kin (stays hns)).run callerA [] s₁ H ⟨[.ref a], []⟩ [.ref a] [.ref a] (fun v _ => v = .bl true) (fun _ _ _ => False) [.lst (ns.map D.int)] H (fun _ => 0) [] hr rfl env0 (hbind s₁ (.ref a)) (.cons rfl .nil) rfl
      (.cons (.lst seq (rps_ints ns)) .nil) hr0 ?_) fun r s' h => ?_
    · rw [hlaw]
      intro v H' Z' ι' _ _ rv
      cases rv
      rfl
    · cases r with
      | error e => exact absurd h no_cx
      | ok fl =>
        cases fl with
        | next => exact h.elim
        | brk => exact h.elim
        | cont => exact h.elim
        | ret u =>
          obtain ⟨v, H', os, bare, un, hok', rv, q⟩ := h
          obtain rfl : v = .bl true := q
          obtain rfl : u = Value.bool true := rv
          refine ⟨rfl, .of_keep fun b o e => ?_, os, bare⟩
          cases hb2 : H b with
          | none => exact un.keep b o e hb2 (fun z => absurd (show b ∈ ([] : List Addr) from z) (by simp)) (by simp)
          | some u =>
            rcases only b with z | ⟨ob, xs, z⟩
            · rw [hb2] at z
              cases z
            · have e1 := (hok b _ z).1
              have e2 := (hok' b _ (un.frzs b ob _ z)).1
              rw [e] at e1
              cases e1
              exact e2
  cases hk : K.lookup a with
  | some o =>
    have e := KX a o hk
    rw [ha] at e
    cases e
    exact main (fun _ => none) (fun _ => .inl rfl) (.inr ⟨vs.toArray, _, hk, by rw [List.size_toArray, hlen]; exact hl, by simpa using hvals⟩) (fun b u z => absurd z (by simp)) (fun b z => absurd rfl z) fun z => absurd rfl z
  | none =>
    have at_ : ∀ b u, (if b = a then some (HO.frz { cls := .type "list", data := .seq vs.toArray } (.lst (ns.map V.int))) else none) = some u → b = a ∧ u = HO.frz { cls := .type "list", data := .seq vs.toArray } (.lst (ns.map V.int)) := fun b u z => by
      by_cases hb : b = a
      · rw [if_pos hb] at z
        exact ⟨hb, (Option.some.inj z).symm⟩
      · rw [if_neg hb] at z
        cases z
    refine main (fun b => if b = a then some (.frz { cls := .type "list", data := .seq vs.toArray } (.lst (ns.map V.int))) else none) (fun b => ?_) (.inl (.inr ⟨_, if_pos rfl⟩)) (fun b u z => ?_) (fun b z => ?_) fun _ => hk
    · by_cases hb : b = a
      · exact .inr ⟨_, _, if_pos hb⟩
      · exact .inl (if_neg hb)
    · obtain ⟨rfl, rfl⟩ := at_ b u z
      exact ⟨ha, by rw [List.length_map]; exact hl, vs, _, hvals, ha⟩
    · exact Classical.byContradiction fun hb => z (if_neg hb)
/-- what k_head leaves -/
theorem walk_q {l : PySem.W.OpenLaw} {n k : Nat} {q : Program} {loose : List Str} {XP : (Str → Option Value) → Heap → Prop} {YP : World → Heap → Prop} {d : DefRec} {K : Params → PySem.W.Frag} {x : Str} {F : List D → List MO → R D}
    (hn : l.most = some n) (hn2 : n ≤ sizeLine) (hdf : d.params.defaults = []) (hr : Room k callerA) (hY : ∀ (w : World) (h : Heap), YP w h → (K w.params).In h)
    (hF : ∀ (w : World) (mg : Str → Option Value) (fa : Addr) (h : Heap), (K w.params).In h → h.Ns mainGlobals mg → mg d.name = some (.ref fa) →
      ∃ (fd : FuncData) (C : CT), (∀ (s : Shared) (u : Value), BindsTo s fd ⟨[u], []⟩ [(x, u)]) ∧ ∀ base : Heap, (K w.params).In base → base.Ns mainGlobals mg → FnQ l.prog w (K w.params) mg base C k fa fd [x] F)
    (hlaw : ∀ ns : List Int, ns.length ≤ n → F [.lst (ns.map D.int)] [] = .ok (.bl true) []) :
    PySem.W.WalkO q loose XP YP l.row.toRowW d [] (fun f vs => PySem.call f vs) := by
  refine Att.attach_call hn hdf fun w s₀ s₁ mg mb fa o pm cd doc a vs ns G Y ho hd hcd hmg hobj hints hlen hg => ?_
  have kx := hY w _ Y
  obtain ⟨fd, C, hb, hF'⟩ := hF w mg fa _ kx G.T.g hmg
  exact law_q kx G.T.g G.T.b G.T.builtins G.T.nolimit hg hobj hints (Nat.le_trans hlen hn2) hr hF' hb (hlaw ns hlen)
end Bk

set_option Elab.async false
set_option linter.all false
set_option maxRecDepth 100000
set_option maxHeartbeats 2000000
namespace Bk
open PySem PySem.Spec PyProof.Rows L2

/-! ### what operations compute -/
def listD (M : List MO) : D → Option (List D)
  | .lst ds => some ds
  | .ref k => match M[k]? with
    | some (.lst ds) => some ds
    | _ => none
  | _ => none
def tupD : D → Option (List D)
  | .tup ds => some ds
  | _ => none
def itemsD (M : List MO) : D → Option (List D)
  | .tup ds => some ds
  | .ptu ds => some ds
  | d => listD M d
section
variable {K : PySem.W.Frag} {H Z : Hp} {ι : Nat → Addr} {M : List MO} {d : D} {ds : List D} {v : V}
theorem listD_run (hr : HR K H Z ι M) (r : Rp K Z ι M.length d v) (h : listD M d = some ds) : ∃ a xs, v = .ref a ∧ ExL K H a xs ∧ Rps K Z ι M.length ds xs := by
  cases r with
  | lst s r =>
    cases h
    exact ⟨_, _, rfl, subL hr.sub s, r⟩
  | ref hk =>
    rename_i k
    have h' : (match M[k]? with
      | some (.lst ds) => some ds
      | _ => none) = some ds := h
    cases e : M[k]? with
    | none => rw [e] at h'; cases h'
    | some o =>
      rw [e] at h'
      cases o with
      | dead => cases h'
      | dct ks0 vs0 => cases h'
      | dki kvs0 => cases h'
      | obj nm fs => cases h'
      | lst es =>
        cases h'
        obtain ⟨xs, e1, r1⟩ := hr.obj k _ e
        exact ⟨_, xs, rfl, .inl (.of e1), r1⟩
  | _ => cases h
theorem tupD_run (hr : HR K H Z ι M) (r : Rp K Z ι M.length d v) (h : tupD d = some ds) : ∃ a xs, v = .ref a ∧ SqT K H a xs ∧ Rps K Z ι M.length ds xs := by
  cases r with
  | tup s r =>
    cases h
    exact ⟨_, _, rfl, subT hr.sub s, r⟩
  | _ => cases h
theorem itemsD_run (hr : HR K H Z ι M) (r : Rp K Z ι M.length d v) (h : itemsD M d = some ds) : ∃ a xs, v = .ref a ∧ (ExL K H a xs ∨ SqT K H a xs) ∧ Rps K Z ι M.length ds xs := by
  cases r with
  | tup s r =>
    cases h
    exact ⟨_, _, rfl, .inr (subT hr.sub s), r⟩
  | ptu s r =>
    cases h
    exact ⟨_, _, rfl, .inr (subT hr.sub s.sq), r⟩
  | lst s r =>
    obtain ⟨a, xs, h1, h2, h3⟩ := listD_run hr (.lst s r) h
    exact ⟨a, xs, h1, .inl h2, h3⟩
  | ref hk =>
    obtain ⟨a, xs, h1, h2, h3⟩ := listD_run hr (.ref hk) h
    exact ⟨a, xs, h1, .inl h2, h3⟩
  | _ => cases h
end
/-- an owned thing is that thing -/
theorem listD_owned {K : PySem.W.Frag} {H Z : Hp} {ι : Nat → Addr} {M : List MO} {k : Nat} {ds : List D} {v : V} (hr : HR K H Z ι M) (r : Rp K Z ι M.length (.ref k) v) (h : M[k]? = some (.lst ds)) : ∃ xs, v = .ref (ι k) ∧ H (ι k) = some (.lst xs) ∧ Rps K Z ι M.length ds xs := by
  cases r with
  | ref hk =>
    obtain ⟨xs, e1, r1⟩ := hr.obj k _ h
    exact ⟨xs, rfl, e1, r1⟩

def iop (c : Int → Int → Bool) (g : Int → Int → D) (_ : List MO) : D → D → Option D
  | .int i, .int j => if c i j = true then some (g i j) else none
  | _, _ => none
section
variable {X : Cx}
theorem OpR.or {f : Value → Value → Sem Value} {r r' : R2} (h : OpR X f r) (h' : OpR X f r') : OpR X f (fun x y H Q => r x y H Q ∨ r' x y H Q) := fun pins s σ H x y v u Q I rx ry q =>
  q.elim (h pins s σ H x y v u Q I rx ry) (h' pins s σ H x y v u Q I rx ry)
theorem UnR.or {f : Value → Sem Value} {r r' : V → Hp → VK → Prop} (h : UnR X f r) (h' : UnR X f r') : UnR X f (fun x H Q => r x H Q ∨ r' x H Q) := fun pins s σ H x v Q I rx q => q.elim (h pins s σ H x v Q I rx) (h' pins s σ H x v Q I rx)
/-- either of two functions, as the second finds none -/
def orD (f f' : List MO → D → D → Option D) (M : List MO) (x y : D) : Option D := (f M x y).or (f' M x y)
theorem Ok2.or {r r' : R2} {f f' : List MO → D → D → Option D} (h : Ok2 X r f) (h' : Ok2 X r' f') : Ok2 X (fun x y H Q => r x y H Q ∨ r' x y H Q) (orD f f') := fun x y H Z ι M dx dy d Q hr rx ry e q => by
  unfold orD at e
  cases e1 : f M dx dy with
  | some d' =>
    rw [e1] at e
    cases e
    exact .inl (h x y H Z ι M dx dy _ Q hr rx ry e1 q)
  | none =>
    rw [e1] at e
    exact .inr (h' x y H Z ι M dx dy _ Q hr rx ry e q)
/-- how a value without parts is handed on -/
def flatVD : V → Option D
  | .non => some .non
  | .bl b => some (.bl b)
  | .int i => some (.int i)
  | .str x => some (.str x)
  | _ => none
theorem flat_rp {K : PySem.W.Frag} {Z : Hp} {ι : Nat → Addr} {n : Nat} {v : V} {d : D} (h : flatVD v = some d) : Rp K Z ι n d v := by
  cases v with
  | non => cases h; exact .non
  | bl b => cases h; exact .bl b
  | int i => cases h; exact .int i
  | str x => cases h; exact .str x
  | _ => cases h
theorem ok_rI {P : Int → Int → Prop} {gV : Int → Int → V} {c : Int → Int → Bool} {g : Int → Int → D} (hc : ∀ i j, c i j = true → P i j) (hg : ∀ i j, flatVD (gV i j) = some (g i j)) : Ok2 X (rI P gV) (iop c g) := fun x y H Z ι M dx dy d Q hr rx ry e q => by
  cases rx with
  | int i =>
    cases ry with
    | int j =>
      have e' : (if c i j = true then some (g i j) else none) = some d := e
      by_cases hh : c i j = true
      · rw [if_pos hh] at e'
        cases e'
        exact ⟨i, j, rfl, rfl, hc i j hh, q.now hr (flat_rp (hg i j))⟩
      · rw [if_neg hh] at e'
        cases e'
    | _ => cases e
  | _ => cases ry <;> cases e
def yes2 (_ _ : Int) : Bool := true
theorem ok_rI0 {gV : Int → Int → V} {g : Int → Int → D} (hg : ∀ i j, flatVD (gV i j) = some (g i j)) : Ok2 X (rI0 gV) (iop yes2 g) := fun x y H Z ι M dx dy d Q hr rx ry e q => by
  cases rx with
  | int i =>
    cases ry with
    | int j =>
      cases e
      exact ⟨i, j, rfl, rfl, q.now hr (flat_rp (hg i j))⟩
    | _ => cases e
  | _ => cases ry <;> cases e
/-! numbers -/
def dSub := iop yes2 fun i j => .int (i - j)
def mulOk (i j : Int) : Bool := (decide (-(2 ^ 64) < i) && decide (i < 2 ^ 64)) || (decide (-(2 ^ 64) < j) && decide (j < 2 ^ 64)) || decide (i.natAbs.log2 + j.natAbs.log2 < 1000000)
def fdivOk (_ j : Int) : Bool := decide (0 < j) && decide (j.natAbs.log2 < 9000)
def dFdiv := iop fdivOk fun i j => .int (i / j)
def modOk (_ j : Int) : Bool := decide (0 < j)
def dMod := iop modOk fun i j => .int (i % j)
def dMul := iop mulOk fun i j => .int (i * j)
def powOk (i j : Int) : Bool := decide (0 ≤ j) && decide (j ≤ 1000000) && decide (i.natAbs < 2 ^ 64)
def dPow := iop powOk fun i j => .int (i ^ j.toNat)
theorem ok_sub : Ok2 X (rI0 fun i j => .int (i - j)) dSub := ok_rI0 fun _ _ => rfl
theorem ok_fdiv : Ok2 X (rI CDivW fun i j => .int (i / j)) dFdiv := ok_rI (fun i j h => by
  simp only [fdivOk, Bool.and_eq_true, decide_eq_true_eq] at h
  exact h) fun _ _ => rfl
theorem op_modP : OpR X (binaryOp .Mod) (rI (fun _ j => 0 < j) fun i j => .int (i % j)) := fun pins s σ H x y v u Q I rx ry ⟨i, j, h1, h2, h3, q⟩ =>
  op_modN pins s σ H x y v u Q I rx ry ⟨i, j, h1, h2, by omega, by
    have h4 : (0 : Int) < j := h3
    show Q (V.int (i.fmod j)) H
    rw [Int.fmod_eq_emod_of_nonneg i (by omega)]
    exact q⟩
theorem ok_mod : Ok2 X (rI (fun _ j => 0 < j) fun i j => .int (i % j)) dMod := ok_rI (fun i j h => of_decide_eq_true h) fun _ _ => rfl
theorem op_mulA : OpR X (binaryOp .Mult) (rI (fun i j => mulOk i j = true) fun i j => .int (i * j)) := fun pins s σ H x y v u Q I rx ry ⟨i, j, h1, h2, h3, q⟩ => by
  simp only [mulOk, Bool.or_eq_true, Bool.and_eq_true, decide_eq_true_eq] at h3
  rcases h3 with h3 | h3
  · exact op_mul pins s σ H x y v u Q I rx ry ⟨i, j, h1, h2, h3, q⟩
  · exact op_mulW pins s σ H x y v u Q I rx ry ⟨i, j, h1, h2, h3, q⟩
theorem ok_mul : Ok2 X (rI (fun i j => mulOk i j = true) fun i j => .int (i * j)) dMul := ok_rI (fun i j h => h) fun _ _ => rfl
theorem ok_pow : Ok2 X (rI CPow fun i j => .int (i ^ j.toNat)) dPow := ok_rI (fun i j h => by
  simp only [powOk, Bool.and_eq_true, decide_eq_true_eq] at h
  exact ⟨h.1.1, h.1.2, h.2⟩) fun _ _ => rfl
def dLt := iop yes2 fun i j => .bl (decide (i < j))
def dLe := iop yes2 fun i j => .bl (decide (i ≤ j))
def dGt := iop yes2 fun i j => .bl (decide (j < i))
def dGe := iop yes2 fun i j => .bl (decide (j ≤ i))
theorem ok_lt : Ok2 X (rI0 fun i j => .bl (decide (i < j))) dLt := ok_rI0 fun _ _ => rfl
theorem ok_le : Ok2 X (rI0 fun i j => .bl (decide (i ≤ j))) dLe := ok_rI0 fun _ _ => rfl
theorem ok_gt : Ok2 X (rI0 fun i j => .bl (decide (j < i))) dGt := ok_rI0 fun _ _ => rfl
theorem ok_ge : Ok2 X (rI0 fun i j => .bl (decide (j ≤ i))) dGe := ok_rI0 fun _ _ => rfl

/-! adding -/
def catT (_ : List MO) : D → D → Option D
  | .tup a, .tup b => if a.length + b.length ≤ sizeLine then some (.tup (a ++ b)) else none
  | _, _ => none
def catL (M : List MO) (x y : D) : Option D := match listD M x, listD M y with
  | some a, some b => if a.length + b.length ≤ sizeLine then some (.lst (a ++ b)) else none
  | _, _ => none
def addI (M : List MO) : D → D → Option D
  | .int i, .int j => some (.int (i + j))
  | .str x, .str y => if x.length + y.length ≤ sizeLine then some (.str (x ++ y)) else none
  | .tup a, y => catT M (.tup a) y
  | x, y => catL M x y
def dAdd := addI
def rCatS (K : PySem.W.Frag) : R2 := fun x y H Q => ∃ l b xs zs, x = .ref l ∧ y = .ref b ∧ ExL K H l xs ∧ ExL K H b zs ∧ xs.length + zs.length ≤ sizeLine ∧ ∀ p, H p = none → Q (.ref p) (upd H p (.lst (xs ++ zs)))
theorem op_catS : OpR X (binaryOp .Add) (rCatS X.K) := by
  intro pins s σ H x y v u Q I rx ry h
  obtain ⟨l, b, xs, zs, rfl, rfl, hx, hz, hs, q⟩ := h
  cases rx
  cases ry
  obtain ⟨its, m1, r1, e1, _⟩ := hx.at_ I
  obtain ⟨its2, m2, r2, e2, _⟩ := hz.at_ I
  refine PySem.P.add_list e1 e2 ?_ (by rw [List.size_toArray, List.size_toArray, ← r1.length, ← r2.length]; exact hs)
  have ea : its.toArray ++ its2.toArray = (its ++ its2).toArray := by simp
  rw [ea]
  exact ⟨.ref _, _, I.lnew (t' := s.toks) (r1.append r2) (by rw [List.length_append]; exact hs), rfl, q _ I.fresh⟩
abbrev rAdd (K : PySem.W.Frag) : R2 := fun x y H Q => (rI0 (fun i j => .int (i + j)) x y H Q ∨ (∃ i j, x = .str i ∧ y = .str j ∧ i.length + j.length ≤ sizeLine ∧ Q (.str (i ++ j)) H)) ∨ (rCatA K x y H Q ∨ rCatS K x y H Q)
theorem op_addA : OpR X (binaryOp .Add) (rAdd X.K) := (op_add.or op_add_str).or (op_catA.or op_catS)
theorem ok_add : Ok2 X (rAdd X.K) dAdd := fun x y H Z ι M dx dy d Q hr rx ry e q => by
  have lists : ∀ {dx : D}, Rp X.K Z ι M.length dx x → catL M dx dy = some d → rAdd X.K x y H Q := fun {dx} rx e => by
    unfold catL at e
    cases e1 : listD M dx with
    | none => rw [e1] at e; cases e
    | some a =>
      cases e2 : listD M dy with
      | none => rw [e1, e2] at e; cases e
      | some b =>
        rw [e1, e2] at e
        simp only at e
        by_cases c : a.length + b.length ≤ sizeLine
        · rw [if_pos c] at e
          cases e
          obtain ⟨p1, xs, rfl, s1, r1⟩ := listD_run hr rx e1
          obtain ⟨p2, ys, rfl, s2, r2⟩ := listD_run hr ry e2
          exact .inr (.inr ⟨p1, p2, xs, ys, rfl, rfl, s1, s2, by rw [← r1.length, ← r2.length]; exact c, q.lst hr (r1.append r2)⟩)
        · rw [if_neg c] at e
          cases e
  cases rx with
  | int i =>
    cases ry with
    | int j =>
      cases e
      exact .inl (.inl ⟨i, j, rfl, rfl, q.now hr (.int _)⟩)
    | _ => cases e
  | dct s r t => cases e
  | ptu s r => cases e
  | str a =>
    cases ry with
    | str b =>
      have e' : (if a.length + b.length ≤ sizeLine then some (D.str (a ++ b)) else none) = some d := e
      by_cases c : a.length + b.length ≤ sizeLine
      · rw [if_pos c] at e'
        cases e'
        exact .inl (.inr ⟨a, b, rfl, rfl, c, q.now hr (.str _)⟩)
      · rw [if_neg c] at e'
        cases e'
    | _ => cases e
  | tup s1 r1 =>
    rename_i a p1 xs
    cases ry with
    | tup s2 r2 =>
      rename_i b p2 ys
      have e' : (if a.length + b.length ≤ sizeLine then some (D.tup (a ++ b)) else none) = some d := e
      by_cases c : a.length + b.length ≤ sizeLine
      · rw [if_pos c] at e'
        cases e'
        refine .inr (.inl ⟨p1, p2, xs, ys, rfl, rfl, subT hr.sub s1, subT hr.sub s2, by rw [← r1.length, ← r2.length]; exact c, fun z => ?_, fun _ z => ?_, fun _ _ => q.tup hr (r1.append r2)⟩)
        · have : a = [] := List.length_eq_zero_iff.mp (by rw [r1.length, z]; rfl)
          subst this
          exact q.now hr (.tup s2 r2)
        · have : b = [] := List.length_eq_zero_iff.mp (by rw [r2.length, z]; rfl)
          subst this
          rw [List.append_nil] at q
          exact q.now hr (.tup s1 r1)
      · rw [if_neg c] at e'
        cases e'
    | _ => cases e
  | lst s1 r1 => exact lists (.lst s1 r1) e
  | ref hk => exact lists (.ref hk) e
  | non => cases ry <;> cases e
  | bl b => cases ry <;> cases e

/-! is None -/
def dIsN (_ : List MO) : D → D → Option D
  | .non, .non => some (.bl true)
  | _, .non => some (.bl false)
  | _, _ => none
def dNotN (_ : List MO) : D → D → Option D
  | .non, .non => some (.bl false)
  | _, .non => some (.bl true)
  | _, _ => none
theorem ok_isN : Ok2 X (fun x y H Q => y = .non ∧ Q (.bl (decide (x = .non))) H) dIsN := fun x y H Z ι M dx dy d Q hr rx ry e q => by
  cases ry with
  | non =>
    refine ⟨rfl, ?_⟩
    cases rx with
    | non =>
      cases e
      exact q.now hr (.bl true)
    | _ =>
      cases e
      exact q.now hr (.bl false)
  | _ => cases rx <;> cases e
theorem ok_notN : Ok2 X (fun x y H Q => y = .non ∧ Q (.bl (!decide (x = .non))) H) dNotN := fun x y H Z ι M dx dy d Q hr rx ry e q => by
  cases ry with
  | non =>
    refine ⟨rfl, ?_⟩
    cases rx with
    | non =>
      cases e
      exact q.now hr (.bl false)
    | _ =>
      cases e
      exact q.now hr (.bl true)
  | _ => cases rx <;> cases e

/-! equal data -/
mutual
/-- data without refs -/
def toP : D → Option PyData
  | .non => some .none
  | .bl b => some (.bool b)
  | .int i => some (.int i)
  | .str x => some (.str x)
  | .tup ds => (toPs ds).map .tuple
  | .lst ds => (toPs ds).map .list
  | .ref _ => none
  | .dct _ _ => none
  | .ptu ds => (toPs ds).map .tuple
def toPs : List D → Option (List PyData)
  | [] => some []
  | d :: ds => match toP d, toPs ds with
    | some p, some ps => some (p :: ps)
    | _, _ => none
end
/-- a list of ours, and those in it, as they stand -/
def deref1 (M : List MO) : D → D
  | .ref k => match M[k]? with
    | some (.lst ds) => .lst ds
    | _ => .ref k
  | d => d
def deref (M : List MO) (d : D) : D := match deref1 M d with
  | .lst ds => .lst (ds.map (deref1 M))
  | d => d
section
variable {K : PySem.W.Frag} {H Z : Hp} {ι : Nat → Addr} {n : Nat} {M : List MO}
mutual
theorem toP_dp (hs : Sub Z H) : ∀ (d : D) (v : V) (p : PyData), Rp K Z ι n d v → toP d = some p → Dp K H v p
  | .non, _, p, h, e => by cases h; cases e; exact .non
  | .bl b, _, p, h, e => by cases h; cases e; exact .bl b
  | .int i, _, p, h, e => by cases h; cases e; exact .int i
  | .str x, _, p, h, e => by cases h; cases e; exact .str x
  | .tup ds, _, p, h, e => by
    cases h with
    | tup s r =>
      have e' : (toPs ds).map PyData.tuple = some p := e
      cases e2 : toPs ds with
      | none => rw [e2] at e'; cases e'
      | some ps =>
        rw [e2] at e'
        cases e'
        exact .tup (subT hs s) (toPs_dp hs ds _ ps r e2)
  | .lst ds, _, p, h, e => by
    cases h with
    | lst s r =>
      have e' : (toPs ds).map PyData.list = some p := e
      cases e2 : toPs ds with
      | none => rw [e2] at e'; cases e'
      | some ps =>
        rw [e2] at e'
        cases e'
        exact .lst (subL hs s).sq (toPs_dp hs ds _ ps r e2)
  | .ref k, _, p, h, e => by cases e
  | .dct _ _, _, p, h, e => by cases e
  | .ptu ds, _, p, h, e => by
    cases h with
    | ptu s r =>
      have e' : (toPs ds).map PyData.tuple = some p := e
      cases e2 : toPs ds with
      | none => rw [e2] at e'; cases e'
      | some ps =>
        rw [e2] at e'
        cases e'
        exact .tup (subT hs s.sq) (toPs_dp hs ds _ ps r e2)
theorem toPs_dp (hs : Sub Z H) : ∀ (ds : List D) (vs : List V) (ps : List PyData), Rps K Z ι n ds vs → toPs ds = some ps → DpAll K H vs ps
  | [], _, ps, h, e => by cases h; cases e; exact .nil
  | d :: ds, _, ps, h, e => by
    cases h with
    | cons r rs =>
      have e' : (match toP d, toPs ds with
        | some p, some ps => some (p :: ps)
        | _, _ => none) = some ps := e
      cases e1 : toP d with
      | none => rw [e1] at e'; cases e'
      | some p =>
        cases e2 : toPs ds with
        | none => rw [e1, e2] at e'; cases e'
        | some qs =>
          rw [e1, e2] at e'
          cases e'
          exact .cons (toP_dp hs d _ p r e1) (toPs_dp hs ds _ qs rs e2)
end
theorem deref1_dp (hr : HR K H Z ι M) {d : D} {v : V} {p : PyData} (r : Rp K Z ι M.length d v) (e : toP (deref1 M d) = some p) : Dp K H v p := by
  cases r with
  | ref hk =>
    rename_i k
    have e' : toP (match M[k]? with
      | some (.lst ds) => .lst ds
      | _ => .ref k) = some p := e
    cases e1 : M[k]? with
    | none => rw [e1] at e'; cases e'
    | some o =>
      rw [e1] at e'
      cases o with
      | dead => cases e'
      | dct ks0 vs0 => cases e'
      | dki kvs0 => cases e'
      | obj nm fs => cases e'
      | lst ds =>
        have e2 : (toPs ds).map PyData.list = some p := e'
        obtain ⟨xs, h1, r1⟩ := hr.obj k _ e1
        cases e3 : toPs ds with
        | none => rw [e3] at e2; cases e2
        | some ps =>
          rw [e3] at e2
          cases e2
          exact .lst (.of h1) (toPs_dp hr.sub ds _ ps r1 e3)
  | non => exact toP_dp (ι := ι) (n := M.length) hr.sub _ _ _ .non e
  | bl b => exact toP_dp (ι := ι) (n := M.length) hr.sub _ _ _ (.bl b) e
  | int i => exact toP_dp (ι := ι) (n := M.length) hr.sub _ _ _ (.int i) e
  | str x => exact toP_dp (ι := ι) (n := M.length) hr.sub _ _ _ (.str x) e
  | tup s r => exact toP_dp hr.sub _ _ _ (.tup s r) e
  | dct s r t => cases e
  | ptu s r => exact toP_dp hr.sub _ _ _ (.ptu s r) e
  | lst s r => exact toP_dp hr.sub _ _ _ (.lst s r) e
theorem deref1s_dp (hr : HR K H Z ι M) : ∀ {ds : List D} {vs : List V} {ps : List PyData}, Rps K Z ι M.length ds vs → toPs (ds.map (deref1 M)) = some ps → DpAll K H vs ps
  | [], _, ps, h, e => by cases h; cases e; exact .nil
  | d :: ds, _, ps, h, e => by
    cases h with
    | cons r rs =>
      have e' : (match toP (deref1 M d), toPs (ds.map (deref1 M)) with
        | some p, some ps => some (p :: ps)
        | _, _ => none) = some ps := e
      cases e1 : toP (deref1 M d) with
      | none => rw [e1] at e'; cases e'
      | some p =>
        cases e2 : toPs (ds.map (deref1 M)) with
        | none => rw [e1, e2] at e'; cases e'
        | some qs =>
          rw [e1, e2] at e'
          cases e'
          exact .cons (deref1_dp hr r e1) (deref1s_dp hr rs e2)
theorem deref_dp (hr : HR K H Z ι M) {d : D} {v : V} {p : PyData} (r : Rp K Z ι M.length d v) (e : toP (deref M d) = some p) : Dp K H v p := by
  have two : ∀ {ds : List D} {a : Addr} {xs : List V}, SqL K H a xs → Rps K Z ι M.length ds xs → toP (.lst (ds.map (deref1 M))) = some p → Dp K H (.ref a) p := fun {ds a xs} s r e => by
    have e' : (toPs (ds.map (deref1 M))).map PyData.list = some p := e
    cases e2 : toPs (ds.map (deref1 M)) with
    | none => rw [e2] at e'; cases e'
    | some ps =>
      rw [e2] at e'
      cases e'
      exact .lst s (deref1s_dp hr r e2)
  cases r with
  | lst s r => exact two (subL hr.sub s).sq r e
  | ref hk =>
    rename_i k
    cases e1 : M[k]? with
    | none =>
      have : deref M (.ref k) = .ref k := by simp [deref, deref1, e1]
      rw [this] at e
      cases e
    | some o =>
      cases o with
      | dead =>
        have : deref M (.ref k) = .ref k := by simp [deref, deref1, e1]
        rw [this] at e
        cases e
      | dct ks0 vs0 =>
        have : deref M (.ref k) = .ref k := by simp [deref, deref1, e1]
        rw [this] at e
        cases e
      | dki kvs0 =>
        have : deref M (.ref k) = .ref k := by simp [deref, deref1, e1]
        rw [this] at e
        cases e
      | obj nm fs =>
        have : deref M (.ref k) = .ref k := by simp [deref, deref1, e1]
        rw [this] at e
        cases e
      | lst ds =>
        have : deref M (.ref k) = .lst (ds.map (deref1 M)) := by simp [deref, deref1, e1]
        rw [this] at e
        obtain ⟨xs, h1, r1⟩ := hr.obj k _ e1
        exact two (.of h1) r1 e
  | non => exact toP_dp (ι := ι) (n := M.length) hr.sub _ _ _ .non e
  | bl b => exact toP_dp (ι := ι) (n := M.length) hr.sub _ _ _ (.bl b) e
  | int i => exact toP_dp (ι := ι) (n := M.length) hr.sub _ _ _ (.int i) e
  | str x => exact toP_dp (ι := ι) (n := M.length) hr.sub _ _ _ (.str x) e
  | tup s r => exact toP_dp hr.sub _ _ _ (.tup s r) e
  | dct s r t => cases e
  | ptu s r => exact toP_dp hr.sub _ _ _ (.ptu s r) e
end
def eqP (M : List MO) (x y : D) : Option Bool := match toP (deref M x), toP (deref M y) with
  | some p, some q => if (SeqAt.shaped p && SeqAt.shaped q) = true then some (PyData.eqv p q) else none
  | _, _ => none
def dEq (M : List MO) (x y : D) : Option D := (eqP M x y).map D.bl
def dNe (M : List MO) (x y : D) : Option D := (eqP M x y).map fun b => D.bl (!b)
theorem eqP_run {K : PySem.W.Frag} {H Z : Hp} {ι : Nat → Addr} {M : List MO} {dx dy : D} {x y : V} {b : Bool} (hr : HR K H Z ι M) (rx : Rp K Z ι M.length dx x) (ry : Rp K Z ι M.length dy y) (e : eqP M dx dy = some b) :
    ∃ p q, Dp K H x p ∧ Dp K H y q ∧ SeqAt.shaped p = true ∧ SeqAt.shaped q = true ∧ PyData.eqv p q = b := by
  unfold eqP at e
  cases e1 : toP (deref M dx) with
  | none => rw [e1] at e; cases e
  | some p =>
    cases e2 : toP (deref M dy) with
    | none => rw [e1, e2] at e; cases e
    | some q =>
      rw [e1, e2] at e
      simp only at e
      by_cases c : (SeqAt.shaped p && SeqAt.shaped q) = true
      · rw [if_pos c] at e
        rw [Bool.and_eq_true] at c
        exact ⟨p, q, deref_dp hr rx e1, deref_dp hr ry e2, c.1, c.2, Option.some.inj e⟩
      · rw [if_neg c] at e
        cases e
theorem ok_eq : Ok2 X (rEqD X.K) dEq := fun x y H Z ι M dx dy d Q hr rx ry e q => by
  unfold dEq at e
  cases e1 : eqP M dx dy with
  | none => rw [e1] at e; cases e
  | some b =>
    rw [e1] at e
    cases e
    obtain ⟨p, p', h1, h2, h3, h4, h5⟩ := eqP_run hr rx ry e1
    exact ⟨p, p', h1, h2, h3, h4, by rw [h5]; exact q.now hr (.bl b)⟩
theorem ok_ne : Ok2 X (rNeD X.K) dNe := fun x y H Z ι M dx dy d Q hr rx ry e q => by
  unfold dNe at e
  cases e1 : eqP M dx dy with
  | none => rw [e1] at e; cases e
  | some b =>
    rw [e1] at e
    cases e
    obtain ⟨p, p', h1, h2, h3, h4, h5⟩ := eqP_run hr rx ry e1
    exact ⟨p, p', h1, h2, h3, h4, by rw [h5]; exact q.now hr (.bl _)⟩
end
end Bk

set_option Elab.async false
set_option linter.all false
set_option maxRecDepth 100000
set_option maxHeartbeats 2000000
namespace Bk
open PySem PySem.Spec PyProof.Rows L2
section
variable {X : Cx}
/-! a list times a number -/
def rRepS (K : PySem.W.Frag) : R2 := fun x y H Q => ∃ l k xs, x = .ref l ∧ y = .int k ∧ ExL K H l xs ∧ -(2 ^ 63) ≤ k ∧ k < 2 ^ 63 ∧ xs.length * k.toNat ≤ sizeLine ∧ ∀ p, H p = none → Q (.ref p) (upd H p (.lst (List.replicate k.toNat xs).flatten))
theorem op_repS : OpR X (binaryOp .Mult) (rRepS X.K) := by
  intro pins s σ H x y v u Q I rx ry h
  obtain ⟨l, k, xs, rfl, rfl, hx, k1, k2, hz, q⟩ := h
  cases rx
  obtain ⟨tk, rfl⟩ := ry
  obtain ⟨its, m, rv, eo, _⟩ := hx.at_ I
  have hl := rv.length
  have size : its.toArray.size * k.toNat ≤ sizeLine := by rw [List.size_toArray, ← hl]; exact hz
  have cap : ¬ its.toArray.size * k.toNat > (2 ^ 63 - 1) / 8 := Nat.not_lt.mpr (Nat.le_trans size (by decide))
  have fit : ¬ (!Builtin.List.listFitsIndex k) = true := by
    rw [fitsIndex_both k1 k2]
    exact Bool.false_ne_true
  have long : ¬ Builtin.List.listTooLong (its.toArray.size * k.toNat) = true := by
    rw [notLongL size]
    exact Bool.false_ne_true
  have made : List.foldl (fun a b => a ++ b) #[] (List.replicate (if its.toArray.isEmpty = true then 0 else k.toNat) its.toArray) = (List.replicate k.toNat its).flatten.toArray := by
    have any : ∀ j : Nat, List.foldl (fun a b => a ++ b) #[] (List.replicate j its.toArray) = (List.replicate j its).flatten.toArray := fun j => by simpa using foldl_rep its j []
    rw [any]
    cases its with
    | nil => simp
    | cons a r' => simp
  refine wpAny_binaryOp_repeat_ref (T := "list") (U := "int") (by decide) ⟨_, eo, rfl⟩ (fun s' => typeIs_int s' k tk) noFill_list_mul F.fills_int_mul F.slot_int_rmul repeat_list F.slot_int_index.lookup ?_
  refine call_meets F.slot_int_rmul (typeIs_int s k tk) F.entry_int_rmul (F.args_int_rmul_2 _ _) (int___rmul___int_list k tk l its.toArray m) ⟨eo, rfl, ⟨_, eo, rfl⟩, ?_⟩
  refine call_meets F.slot_list_mul ⟨_, eo, rfl⟩ F.entry_list_mul (F.args_list_mul_2 _ _) (AutoListH.list___mul___list_int_3 l its.toArray m k tk fit cap long) ⟨eo, ?_⟩
  rw [made]
  exact ⟨.ref _, _, I.lnew (t' := s.toks) (rv.rep k.toNat) (by rw [PyProof.Rows.lm_len_rep_flat, Nat.mul_comm]; exact hz), rfl, q _ I.fresh⟩
def repI (M : List MO) (x : D) : D → Option D
  | .int k => match listD M x with
    | some a => if decide (k < 2 ^ 63) && decide (-(2 ^ 63) ≤ k) && decide (a.length * k.toNat ≤ sizeLine) then some (.lst (List.replicate k.toNat a).flatten) else none
    | none => none
  | _ => none
def dMulA (M : List MO) : D → D → Option D
  | .int i, y => dMul M (.int i) y
  | x, y => repI M x y
abbrev rMulA (K : PySem.W.Frag) : R2 := fun x y H Q => rI (fun i j => mulOk i j = true) (fun i j => .int (i * j)) x y H Q ∨ rRepS K x y H Q
theorem op_mulL : OpR X (binaryOp .Mult) (rMulA X.K) := op_mulA.or op_repS
theorem ok_mulL : Ok2 X (rMulA X.K) dMulA := fun x y H Z ι M dx dy d Q hr rx ry e q => by
  have lists : ∀ {dx : D}, Rp X.K Z ι M.length dx x → repI M dx dy = some d → rMulA X.K x y H Q := fun {dx} rx e => by
    cases ry with
    | int k =>
      have e' : (match listD M dx with
        | some a => if decide (k < 2 ^ 63) && decide (-(2 ^ 63) ≤ k) && decide (a.length * k.toNat ≤ sizeLine) then some (D.lst (List.replicate k.toNat a).flatten) else none
        | none => none) = some d := e
      cases e1 : listD M dx with
      | none => rw [e1] at e'; cases e'
      | some a =>
        rw [e1] at e'
        simp only at e'
        by_cases c : (decide (k < 2 ^ 63) && decide (-(2 ^ 63) ≤ k) && decide (a.length * k.toNat ≤ sizeLine)) = true
        · rw [if_pos c] at e'
          cases e'
          simp only [Bool.and_eq_true, decide_eq_true_eq] at c
          obtain ⟨p1, xs, rfl, s1, r1⟩ := listD_run hr rx e1
          exact .inr ⟨p1, k, xs, rfl, rfl, s1, c.1.2, c.1.1, by rw [← r1.length]; exact c.2, q.lst hr (r1.rep k.toNat)⟩
        · rw [if_neg c] at e'
          cases e'
    | _ => cases e
  cases rx with
  | dct s_ r_ t_ => first | (cases e; done) | (cases hd; done) | (cases h; done) | (cases h1; done) | (cases e1; done) | (cases h'; done) | (cases ei; done) | (cases e'; done) | exact h.elim | exact h1.elim | exact h2.elim | exact .inl (lists (.dct s_ r_ t_) hd) | exact lists (.dct s_ r_ t_) e
  | ptu s_ r_ => first | exact seqs (.ptu s_ r_) e | (cases e; exact .base (.tup (subT hr.sub s_.sq))) | (cases e; done) | (cases hd; done) | (cases h; done) | (cases h1; done) | (cases e1; done) | (cases h'; done) | (cases ei; done) | (cases e'; done) | exact h.elim | exact h1.elim | exact h2.elim | exact .inl (lists (.ptu s_ r_) hd) | exact lists (.ptu s_ r_) e
  | int i => exact .inl (ok_mul (X := X) _ _ H Z ι M _ _ d Q hr (.int i) ry e q)
  | lst s1 r1 => exact lists (.lst s1 r1) e
  | ref hk => exact lists (.ref hk) e
  | tup s1 r1 => exact lists (.tup s1 r1) e
  | non => exact lists .non e
  | bl b => exact lists (.bl b) e
  | str b => exact lists (.str b) e
/-! minus -/
def dNeg (_ : List MO) : D → Option D
  | .int i => some (.int (-i))
  | _ => none
theorem ok_neg : Ok1 X (rU fun i => .int (-i)) dNeg := fun x H Z ι M dx d Q hr rx e q => by
  cases rx with
  | int i =>
    cases e
    exact ⟨i, rfl, q.now hr (.int _)⟩
  | _ => cases e
/-! items -/
def dIx (M : List MO) (x : D) : D → Option D
  | .int i => (itemsD M x).bind fun ds => atI ds i
  | _ => none
theorem atI_rp {K : PySem.W.Frag} {Z : Hp} {ι : Nat → Addr} {n : Nat} {ds : List D} {vs : List V} {i : Int} {d : D} (r : Rps K Z ι n ds vs) (h : atI ds i = some d) : ∃ v, atI vs i = some v ∧ Rp K Z ι n d v := by
  unfold atI at h
  cases e : ixN ds.length i with
  | none => rw [e] at h; cases h
  | some j =>
    rw [e] at h
    obtain ⟨v, h1, h2⟩ := r.get (i := j) h
    refine ⟨v, ?_, h2⟩
    unfold atI
    rw [← r.length, e]
    exact h1
abbrev rIxA (K : PySem.W.Frag) : R2 := fun x y H Q => rIxL K x y H Q ∨ rIxT K x y H Q
theorem ix_A : IxR X (rIxA X.K) := ix_list.or ix_tup
theorem ok_ix : Ok2 X (rIxA X.K) dIx := fun x y H Z ι M dx dy d Q hr rx ry e q => by
  cases ry with
  | int i =>
    have e' : (itemsD M dx).bind (fun ds => atI ds i) = some d := e
    cases e1 : itemsD M dx with
    | none => rw [e1] at e'; cases e'
    | some ds =>
      rw [e1] at e'
      obtain ⟨a, xs, rfl, s, r⟩ := itemsD_run hr rx e1
      obtain ⟨v, h1, h2⟩ := atI_rp r e'
      rcases s with s | s
      · exact .inl ⟨a, xs, i, v, rfl, rfl, s.sq, h1, q.now hr h2⟩
      · exact .inr ⟨a, xs, i, v, rfl, rfl, s, h1, q.now hr h2⟩
  | _ => cases e
/-! in -/
def toV : D → Option V
  | .non => some .non
  | .bl b => some (.bl b)
  | .int i => some (.int i)
  | .str x => some (.str x)
  | _ => none
def toVs : List D → Option (List V)
  | [] => some []
  | d :: ds => match toV d, toVs ds with
    | some v, some vs => some (v :: vs)
    | _, _ => none
theorem toV_is {K : PySem.W.Frag} {Z : Hp} {ι : Nat → Addr} {n : Nat} {d : D} {v w : V} (r : Rp K Z ι n d v) (h : toV d = some w) : v = w ∧ flatV v = true := by
  cases r with
  | non => cases h; exact ⟨rfl, rfl⟩
  | bl b => cases h; exact ⟨rfl, rfl⟩
  | int i => cases h; exact ⟨rfl, rfl⟩
  | str x => cases h; exact ⟨rfl, rfl⟩
  | _ => cases h
theorem toVs_is {K : PySem.W.Frag} {Z : Hp} {ι : Nat → Addr} {n : Nat} : ∀ {ds : List D} {vs ws : List V}, Rps K Z ι n ds vs → toVs ds = some ws → vs = ws ∧ vs.all flatV = true
  | [], _, _, r, h => by cases r; cases h; exact ⟨rfl, rfl⟩
  | d :: ds, _, _, r, h => by
    cases r with
    | cons r rs =>
      have h' : (match toV d, toVs ds with
        | some v, some vs => some (v :: vs)
        | _, _ => none) = some _ := h
      cases e1 : toV d with
      | none => rw [e1] at h'; cases h'
      | some v =>
        cases e2 : toVs ds with
        | none => rw [e1, e2] at h'; cases h'
        | some vs =>
          rw [e1, e2] at h'
          cases h'
          obtain ⟨a1, a2⟩ := toV_is r e1
          obtain ⟨b1, b2⟩ := toVs_is rs e2
          exact ⟨by rw [a1, b1], by simp [a2, b2]⟩
def inP (M : List MO) (x y : D) : Option Bool := match toV x, (itemsD M y).bind toVs with
  | some v, some vs => some (inV v vs)
  | _, _ => none
def dIn (M : List MO) (x y : D) : Option D := (inP M x y).map D.bl
def dNotIn (M : List MO) (x y : D) : Option D := (inP M x y).map fun b => D.bl (!b)
theorem inP_run {K : PySem.W.Frag} {H Z : Hp} {ι : Nat → Addr} {M : List MO} {dx dy : D} {x y : V} {b : Bool} (hr : HR K H Z ι M) (rx : Rp K Z ι M.length dx x) (ry : Rp K Z ι M.length dy y) (e : inP M dx dy = some b) :
    ∃ p xs, y = .ref p ∧ (SqL K H p xs ∨ SqT K H p xs) ∧ flatV x = true ∧ xs.all flatV = true ∧ inV x xs = b := by
  unfold inP at e
  cases e1 : toV dx with
  | none => rw [e1] at e; cases e
  | some v =>
    cases e2 : itemsD M dy with
    | none => rw [e1, e2] at e; cases e
    | some ds =>
      cases e3 : toVs ds with
      | none => rw [e1, e2, Option.bind_some, e3] at e; cases e
      | some vs =>
        rw [e1, e2, Option.bind_some, e3] at e
        cases e
        obtain ⟨a1, a2⟩ := toV_is rx e1
        obtain ⟨p, xs, rfl, s, r⟩ := itemsD_run hr ry e2
        obtain ⟨b1, b2⟩ := toVs_is r e3
        subst a1 b1
        exact ⟨p, _, rfl, s.elim (fun s => .inl s.sq) .inr, a2, b2, rfl⟩
theorem ok_in : Ok2 X (rIn X.K false) dIn := fun x y H Z ι M dx dy d Q hr rx ry e q => by
  unfold dIn at e
  cases e1 : inP M dx dy with
  | none => rw [e1] at e; cases e
  | some b =>
    rw [e1] at e
    cases e
    obtain ⟨p, xs, h1, h2, h3, h4, h5⟩ := inP_run hr rx ry e1
    exact ⟨p, xs, h1, h2, h3, h4, by rw [h5]; exact q.now hr (.bl b)⟩
theorem ok_notIn : Ok2 X (rIn X.K true) dNotIn := fun x y H Z ι M dx dy d Q hr rx ry e q => by
  unfold dNotIn at e
  cases e1 : inP M dx dy with
  | none => rw [e1] at e; cases e
  | some b =>
    rw [e1] at e
    cases e
    obtain ⟨p, xs, h1, h2, h3, h4, h5⟩ := inP_run hr rx ry e1
    exact ⟨p, xs, h1, h2, h3, h4, by rw [h5]; exact q.now hr (.bl _)⟩
/-! slices -/
abbrev GO := Env → List MO → R (Option Int)
abbrev rpO : RpK (Option Int) (Option Int) := fun _ _ _ a b => a = b
def QO (X : Cx) (C : CT) (W : WX) (e : Option Expr) (g : GO) : Prop := ∃ te, PO X e te ∧ ∀ (σ : St) (H Z : Hp) (ι : Nat → Addr) (Γ : Env) (M : List MO) (Q : Option Int → Hp → Prop), Slots X.K Z ι M.length Γ σ → HR X.K H Z ι M → Post X C W rpO σ H Z ι M (g Γ M) Q → te σ H Q
def gNoO : GO := fun _ M => .ok none M
def toI : D → Option Int
  | .int i => some i
  | _ => none
def gO (ge : GE) : GO := fun Γ M => (ge Γ M).bind fun d M1 => opR ((toI d).map some) M1
variable {C : CT} {W : WX}
theorem qo_none : QO X C W none gNoO := ⟨_, po_none, fun σ H Z ι Γ M Q sl hr h => h none H Z ι .refl hr rfl⟩
theorem qo_some {e : Expr} {g : GE} (h : QE X C W e g) : QO X C W (some e) (gO g) := by
  obtain ⟨t, p, q⟩ := h
  refine ⟨_, po_some p, fun σ H Z ι Γ M Q sl hr h => q σ H Z ι Γ M _ sl hr (h.bind fun x M1 v H1 Z1 ι1 e1 hr1 r1 h1 => ?_)⟩
  cases r1 with
  | int i => exact ⟨i, rfl, h1 _ H1 Z1 ι1 .refl hr1 rfl⟩
  | _ => exact h1.elim
def cutD (ds : List D) (lo hi : Option Int) : List D := (ds.drop (HT.sIx ds.length 0 lo)).take (HT.sIx ds.length ds.length hi - HT.sIx ds.length 0 lo)
def dCut (M : List MO) (lo hi : Option Int) : D → Option D
  | .tup ds => some (.tup (cutD ds lo hi))
  | d => (listD M d).map fun ds => .lst (cutD ds lo hi)
def gSl (ge : GE) (lo hi : GO) : GE := fun Γ M => (ge Γ M).bind fun x M1 => (lo Γ M1).bind fun a M2 => (hi Γ M2).bind fun b M3 => opR (dCut M3 a b x) M3
theorem cut_rps {K : PySem.W.Frag} {Z : Hp} {ι : Nat → Addr} {n : Nat} {ds : List D} {vs : List V} (r : Rps K Z ι n ds vs) (lo hi : Option Int) : Rps K Z ι n (cutD ds lo hi) (cutV vs lo hi) := by
  unfold cutD cutV
  rw [r.length]
  exact (r.drop _).take _
theorem qe_slice {e : Expr} {lo hi : Option Expr} {g : GE} {gl gh : GO} {pos p2 : Pos} (he : QE X C W e g) (hl : QO X C W lo gl) (hh : QO X C W hi gh) : QE X C W (.Subscript e (.Slice lo hi none p2) pos) (gSl g gl gh) := by
  obtain ⟨t, p, q⟩ := he
  obtain ⟨tl, pl, ql⟩ := hl
  obtain ⟨th, ph, qh⟩ := hh
  refine ⟨_, pe_slice (sl_list.or sl_tupA) p pl ph, fun σ H Z ι Γ M Q sl hr h => q σ H Z ι Γ M _ sl hr (h.bind fun x M1 v H1 Z1 ι1 e1 hr1 r1 h1 => ql σ H1 Z1 ι1 Γ M1 _ (sl.ext e1) hr1 (h1.bind fun a M2 a' H2 Z2 ι2 e2 hr2 ra h2 =>
    qh σ H2 Z2 ι2 Γ M2 _ ((sl.ext e1).ext e2) hr2 (h2.bind fun b M3 b' H3 Z3 ι3 e3 hr3 rb h3 => ?_)))⟩
  have ra' : a = a' := ra
  have rb' : b = b' := rb
  subst ra' rb'
  obtain ⟨d, hd, h4⟩ := Post.of_opR (γ := D) (δ := V) h3
  have r3 := (r1.ext e2).ext e3
  have q3 := h4.after
  have lists : ∀ {dx : D}, Rp X.K Z3 ι3 M3.length dx v → (listD M3 dx).map (fun ds => D.lst (cutD ds a b)) = some d → rSlL X.K v a b H3 Q := fun {dx} rx e => by
    cases e1 : listD M3 dx with
    | none => rw [e1] at e; cases e
    | some ds =>
      rw [e1] at e
      cases e
      obtain ⟨p1, xs, rfl, s1, r1⟩ := listD_run hr3 rx e1
      exact ⟨p1, xs, rfl, s1.sq, q3.lst hr3 (cut_rps r1 a b)⟩
  cases r3 with
  | dct s_ r_ t_ => first | (cases e; done) | (cases hd; done) | (cases h; done) | (cases h1; done) | (cases e1; done) | (cases h'; done) | (cases ei; done) | (cases e'; done) | exact h.elim | exact h1.elim | exact h2.elim | exact .inl (lists (.dct s_ r_ t_) hd) | exact lists (.dct s_ r_ t_) e
  | ptu s_ r_ => first | exact seqs (.ptu s_ r_) e | (cases e; exact .base (.tup (subT hr.sub s_.sq))) | (cases e; done) | (cases hd; done) | (cases h; done) | (cases h1; done) | (cases e1; done) | (cases h'; done) | (cases ei; done) | (cases e'; done) | exact h.elim | exact h1.elim | exact h2.elim | exact .inl (lists (.ptu s_ r_) hd) | exact lists (.ptu s_ r_) e
  | tup s r =>
    rename_i ds a0 xs
    cases hd
    refine .inr ⟨a0, xs, rfl, subT hr3.sub s, fun z => ?_, fun _ => q3.tup hr3 (cut_rps r a b)⟩
    have ec : cutD ds a b = ds := by
      unfold cutD
      rw [r.length, z.1, z.2, List.drop_zero, Nat.sub_zero, ← r.length, List.take_length]
    rw [ec] at q3
    exact q3.now hr3 (.tup s r)
  | lst s r => exact .inl (lists (.lst s r) hd)
  | ref hk => exact .inl (lists (.ref hk) hd)
  | non => cases hd
  | bl b => cases hd
  | int b => cases hd
  | str b => cases hd
end
end Bk

set_option Elab.async false
set_option linter.all false
set_option maxRecDepth 100000
set_option maxHeartbeats 2000000
namespace Bk
open PySem PySem.Spec PyProof.Rows L2
section
variable {X : Cx}
theorem rps1 {K : PySem.W.Frag} {Z : Hp} {ι : Nat → Addr} {n : Nat} {d : D} {vs : List V} (r : Rps K Z ι n [d] vs) : ∃ v, vs = [v] ∧ Rp K Z ι n d v := by
  cases r with
  | cons r rs =>
    cases rs
    exact ⟨_, rfl, r⟩
theorem rps2 {K : PySem.W.Frag} {Z : Hp} {ι : Nat → Addr} {n : Nat} {d e : D} {vs : List V} (r : Rps K Z ι n [d, e] vs) : ∃ v u, vs = [v, u] ∧ Rp K Z ι n d v ∧ Rp K Z ι n e u := by
  cases r with
  | cons r rs =>
    obtain ⟨u, rfl, r2⟩ := rps1 rs
    exact ⟨_, u, rfl, r, r2⟩
/-- a function of one argument -/
def fn1 (f : List MO → D → Option D) (M : List MO) : List D → Option D
  | [d] => f M d
  | _ => none
theorem OkA.of1 {r : List V → Hp → VK → Prop} {f : List MO → D → Option D} (h : Ok1 X (fun x H Q => r [x] H Q) f) : OkA X r (fn1 f) := fun xs H Z ι M ds d Q hr rx e q => by
  match ds, e, rx with
  | [d0], e, rx =>
    obtain ⟨v, rfl, r1⟩ := rps1 rx
    exact h v H Z ι M d0 d Q hr r1 e q
def fn2 (f : List MO → D → D → Option D) (M : List MO) : List D → Option D
  | [d, e] => f M d e
  | _ => none
theorem OkA.of2 {r : List V → Hp → VK → Prop} {f : List MO → D → D → Option D} (h : Ok2 X (fun x y H Q => r [x, y] H Q) f) : OkA X r (fn2 f) := fun xs H Z ι M ds d Q hr rx e q => by
  match ds, e, rx with
  | [d0, d1], e, rx =>
    obtain ⟨v, u, rfl, r1, r2⟩ := rps2 rx
    exact h v u H Z ι M d0 d1 d Q hr r1 r2 e q
/-! len -/
def dLen (M : List MO) : D → Option D
  | .str x => if x.length ≤ sizeLine then some (.int x.length) else none
  | d => (itemsD M d).map fun ds => .int ds.length
theorem ok_len : Ok1 X (fun x H Q => ∃ x' n, [x] = [x'] ∧ LenV X.K x' H n ∧ Q (.int n) H) dLen := fun x H Z ι M dx d Q hr rx e q => by
  have seqs : ∀ {dx : D}, Rp X.K Z ι M.length dx x → (itemsD M dx).map (fun ds => D.int ds.length) = some d → ∃ x' n, [x] = [x'] ∧ LenV X.K x' H n ∧ Q (.int n) H := fun {dx} rx e => by
    cases e1 : itemsD M dx with
    | none => rw [e1] at e; cases e
    | some ds =>
      rw [e1] at e
      cases e
      obtain ⟨a, xs, rfl, s, r⟩ := itemsD_run hr rx e1
      refine ⟨_, xs.length, rfl, ?_, by rw [← r.length]; exact q.now hr (.int _)⟩
      rcases s with s | s
      · exact .inl ⟨xs, s.sq, rfl⟩
      · exact .inr ⟨xs, s, rfl⟩
  cases rx with
  | dct s_ r_ t_ => first | (cases e; done) | (cases hd; done) | (cases h; done) | (cases h1; done) | (cases e1; done) | (cases h'; done) | (cases ei; done) | (cases e'; done) | exact h.elim | exact h1.elim | exact h2.elim | exact .inl (lists (.dct s_ r_ t_) hd) | exact lists (.dct s_ r_ t_) e
  | ptu s_ r_ => first | exact seqs (.ptu s_ r_) e | (cases e; exact .base (.tup (subT hr.sub s_.sq))) | (cases e; done) | (cases hd; done) | (cases h; done) | (cases h1; done) | (cases e1; done) | (cases h'; done) | (cases ei; done) | (cases e'; done) | exact h.elim | exact h1.elim | exact h2.elim | exact .inl (lists (.ptu s_ r_) hd) | exact lists (.ptu s_ r_) e
  | str z =>
    have e' : (if z.length ≤ sizeLine then some (D.int z.length) else none) = some d := e
    by_cases c : z.length ≤ sizeLine
    · rw [if_pos c] at e'
      cases e'
      exact ⟨_, z.length, rfl, ⟨c, rfl⟩, q.now hr (.int _)⟩
    · rw [if_neg c] at e'
      cases e'
  | tup s r => exact seqs (.tup s r) e
  | lst s r => exact seqs (.lst s r) e
  | ref hk => exact seqs (.ref hk) e
  | non => exact seqs .non e
  | bl b => exact seqs (.bl b) e
  | int b => exact seqs (.int b) e
/-! int -/
def dInt (_ : List MO) : D → Option D
  | .int i => some (.int i)
  | .bl b => some (.int (if b then 1 else 0))
  | _ => none
theorem ok_int : Ok1 X (fun x H Q => (∃ i, [x] = [.int i] ∧ Q (.int i) H) ∨ ∃ k, [x] = [.bl k] ∧ Q (.int (if k then 1 else 0)) H) dInt := fun x H Z ι M dx d Q hr rx e q => by
  cases rx with
  | int i =>
    cases e
    exact .inl ⟨i, rfl, q.now hr (.int i)⟩
  | bl b =>
    cases e
    exact .inr ⟨b, rfl, q.now hr (.int _)⟩
  | _ => cases e
/-! str of a number -/
def dStr (_ : List MO) : D → Option D
  | .int i => if i.natAbs.log2 < 1920 then some (.str (toString i)) else none
  | _ => none
theorem ok_str : Ok1 X (fun x H Q => ∃ i, [x] = [.int i] ∧ i.natAbs.log2 < 1920 ∧ Q (.str (toString i)) H) dStr := fun x H Z ι M dx d Q hr rx e q => by
  cases rx with
  | int i =>
    have e' : (if i.natAbs.log2 < 1920 then some (D.str (toString i)) else none) = some d := e
    by_cases c : i.natAbs.log2 < 1920
    · rw [if_pos c] at e'
      cases e'
      exact ⟨i, rfl, c, q.now hr (.str _)⟩
    · rw [if_neg c] at e'
      cases e'
  | _ => cases e
/-! min, max, sum, all, any -/
def dMin2 (_ : List MO) : D → D → Option D
  | .int i, .int j => some (.int (if j < i then j else i))
  | _, _ => none
def dMax2 (_ : List MO) : D → D → Option D
  | .int i, .int j => some (.int (if j > i then j else i))
  | _, _ => none
theorem ok_min2 : Ok2 X (fun x y H Q => ∃ i j, [x, y] = [V.int i, .int j] ∧ Q (.int (if j < i then j else i)) H) dMin2 := fun x y H Z ι M dx dy d Q hr rx ry e q => by
  cases rx with
  | int i =>
    cases ry with
    | int j =>
      cases e
      exact ⟨i, j, rfl, q.now hr (.int _)⟩
    | _ => cases e
  | _ => cases ry <;> cases e
theorem ok_max2 : Ok2 X (fun x y H Q => ∃ i j, [x, y] = [V.int i, .int j] ∧ Q (.int (if j > i then j else i)) H) dMax2 := fun x y H Z ι M dx dy d Q hr rx ry e q => by
  cases rx with
  | int i =>
    cases ry with
    | int j =>
      cases e
      exact ⟨i, j, rfl, q.now hr (.int _)⟩
    | _ => cases e
  | _ => cases ry <;> cases e
def intsD : List D → Option (List Int)
  | [] => some []
  | .int i :: ds => (intsD ds).map (i :: ·)
  | _ => none
def blsD : List D → Option (List Bool)
  | [] => some []
  | .bl i :: ds => (blsD ds).map (i :: ·)
  | _ => none
theorem intsD_is {K : PySem.W.Frag} {Z : Hp} {ι : Nat → Addr} {n : Nat} : ∀ {ds : List D} {vs : List V} {is : List Int}, Rps K Z ι n ds vs → intsD ds = some is → vs = is.map V.int
  | [], _, _, r, h => by cases r; cases h; rfl
  | .int i :: ds, _, _, r, h => by
    cases r with
    | cons r rs =>
      have h' : (intsD ds).map (i :: ·) = some _ := h
      cases e : intsD ds with
      | none => rw [e] at h'; cases h'
      | some js =>
        rw [e] at h'
        cases h'
        cases r
        rw [intsD_is rs e]
        rfl
  | .non :: _, _, _, _, h => by cases h
  | .bl _ :: _, _, _, _, h => by cases h
  | .str _ :: _, _, _, _, h => by cases h
  | .tup _ :: _, _, _, _, h => by cases h
  | .lst _ :: _, _, _, _, h => by cases h
  | .ref _ :: _, _, _, _, h => by cases h
theorem blsD_is {K : PySem.W.Frag} {Z : Hp} {ι : Nat → Addr} {n : Nat} : ∀ {ds : List D} {vs : List V} {is : List Bool}, Rps K Z ι n ds vs → blsD ds = some is → vs = is.map V.bl
  | [], _, _, r, h => by cases r; cases h; rfl
  | .bl i :: ds, _, _, r, h => by
    cases r with
    | cons r rs =>
      have h' : (blsD ds).map (i :: ·) = some _ := h
      cases e : blsD ds with
      | none => rw [e] at h'; cases h'
      | some js =>
        rw [e] at h'
        cases h'
        cases r
        rw [blsD_is rs e]
        rfl
  | .non :: _, _, _, _, h => by cases h
  | .int _ :: _, _, _, _, h => by cases h
  | .str _ :: _, _, _, _, h => by cases h
  | .tup _ :: _, _, _, _, h => by cases h
  | .lst _ :: _, _, _, _, h => by cases h
  | .ref _ :: _, _, _, _, h => by cases h
@[simp] theorem intsD_map (is : List Int) : intsD (is.map D.int) = some is := by
  induction is with
  | nil => rfl
  | cons i is ih => simp [intsD, ih]
@[simp] theorem blsD_map (is : List Bool) : blsD (is.map D.bl) = some is := by
  induction is with
  | nil => rfl
  | cons i is ih => simp [blsD, ih]
def minI : List Int → Int
  | [] => 0
  | [i] => i
  | i :: j :: r => let m := minI (j :: r); if i ≤ m then i else m
def maxI : List Int → Int
  | [] => 0
  | [i] => i
  | i :: j :: r => let m := maxI (j :: r); if m ≤ i then i else m
theorem minI_is : ∀ (is : List Int) (m : Int), m ∈ is → (∀ y, y ∈ is → m ≤ y) → minI is = m
  | [], _, h, _ => by cases h
  | [i], m, h, _ => by
    have : m = i := by simpa using h
    rw [this]
    rfl
  | i :: j :: r, m, h, hl => by
    have h1 : m ≤ i := hl i List.mem_cons_self
    have up : ∀ l : List Int, l ≠ [] → minI l ∈ l := by
      intro l
      induction l with
      | nil => intro z; exact absurd rfl z
      | cons a l ih =>
        intro _
        cases l with
        | nil => simp [minI]
        | cons b l =>
          have q := ih (by simp)
          show (if a ≤ minI (b :: l) then a else minI (b :: l)) ∈ a :: b :: l
          split
          · exact List.mem_cons_self
          · exact List.mem_cons_of_mem _ q
    show (if i ≤ minI (j :: r) then i else minI (j :: r)) = m
    have hm := up (j :: r) (by simp)
    have h2 : m ≤ minI (j :: r) := hl _ (List.mem_cons_of_mem _ hm)
    rcases List.mem_cons.mp h with e | e
    · subst e
      rw [if_pos h2]
    · have q := minI_is (j :: r) m e fun y hy => hl y (List.mem_cons_of_mem _ hy)
      rw [q]
      split
      · omega
      · rfl
theorem maxI_is : ∀ (is : List Int) (m : Int), m ∈ is → (∀ y, y ∈ is → y ≤ m) → maxI is = m
  | [], _, h, _ => by cases h
  | [i], m, h, _ => by
    have : m = i := by simpa using h
    rw [this]
    rfl
  | i :: j :: r, m, h, hl => by
    have h1 : i ≤ m := hl i List.mem_cons_self
    have up : ∀ l : List Int, l ≠ [] → maxI l ∈ l := by
      intro l
      induction l with
      | nil => intro z; exact absurd rfl z
      | cons a l ih =>
        intro _
        cases l with
        | nil => simp [maxI]
        | cons b l =>
          have q := ih (by simp)
          show (if maxI (b :: l) ≤ a then a else maxI (b :: l)) ∈ a :: b :: l
          split
          · exact List.mem_cons_self
          · exact List.mem_cons_of_mem _ q
    show (if maxI (j :: r) ≤ i then i else maxI (j :: r)) = m
    have hm := up (j :: r) (by simp)
    have h2 : maxI (j :: r) ≤ m := hl _ (List.mem_cons_of_mem _ hm)
    rcases List.mem_cons.mp h with e | e
    · subst e
      rw [if_pos h2]
    · have q := maxI_is (j :: r) m e fun y hy => hl y (List.mem_cons_of_mem _ hy)
      rw [q]
      split
      · omega
      · rfl
def ofInts (f : List Int → Option D) (M : List MO) (d : D) : Option D := ((listD M d).bind intsD).bind f
def ofBls (f : List Bool → D) (M : List MO) (d : D) : Option D := ((listD M d).bind blsD).map f
def dSum := ofInts fun is => some (.int is.sum)
def dMin := ofInts fun is => if is = [] then none else some (.int (minI is))
def dMax := ofInts fun is => if is = [] then none else some (.int (maxI is))
def dAll := ofBls fun bs => .bl (bs.all id)
def dAny := ofBls fun bs => .bl (bs.any id)
theorem ofInts_run {K : PySem.W.Frag} {H Z : Hp} {ι : Nat → Addr} {M : List MO} {f : List Int → Option D} {dx d : D} {x : V} (hr : HR K H Z ι M) (r : Rp K Z ι M.length dx x) (e : ofInts f M dx = some d) : ∃ a is, x = .ref a ∧ SqL K H a (is.map V.int) ∧ f is = some d := by
  unfold ofInts at e
  cases e1 : listD M dx with
  | none => rw [e1] at e; cases e
  | some ds =>
    rw [e1, Option.bind_some] at e
    cases e2 : intsD ds with
    | none => rw [e2] at e; cases e
    | some is =>
      rw [e2] at e
      obtain ⟨a, xs, rfl, s, r2⟩ := listD_run hr r e1
      rw [intsD_is r2 e2] at s
      exact ⟨a, is, rfl, s.sq, e⟩
theorem ofBls_run {K : PySem.W.Frag} {H Z : Hp} {ι : Nat → Addr} {M : List MO} {f : List Bool → D} {dx d : D} {x : V} (hr : HR K H Z ι M) (r : Rp K Z ι M.length dx x) (e : ofBls f M dx = some d) : ∃ a is, x = .ref a ∧ SqL K H a (is.map V.bl) ∧ f is = d := by
  unfold ofBls at e
  cases e1 : listD M dx with
  | none => rw [e1] at e; cases e
  | some ds =>
    rw [e1, Option.bind_some] at e
    cases e2 : blsD ds with
    | none => rw [e2] at e; cases e
    | some is =>
      rw [e2] at e
      cases e
      obtain ⟨a, xs, rfl, s, r2⟩ := listD_run hr r e1
      rw [blsD_is r2 e2] at s
      exact ⟨a, is, rfl, s.sq, rfl⟩
theorem ok_sum : Ok1 X (fun x H Q => rSum X.K [x] H Q) dSum := fun x H Z ι M dx d Q hr rx e q => by
  obtain ⟨a, is, rfl, s, e2⟩ := ofInts_run hr rx e
  cases e2
  exact ⟨a, is, rfl, s, q.now hr (.int _)⟩
theorem ok_min : Ok1 X (fun x H Q => rMin X.K [x] H Q) dMin := fun x H Z ι M dx d Q hr rx e q => by
  obtain ⟨a, is, rfl, s, e2⟩ := ofInts_run hr rx e
  by_cases c : is = []
  · rw [if_pos c] at e2
    cases e2
  · rw [if_neg c] at e2
    cases e2
    refine ⟨a, is, rfl, s, List.length_pos_iff.mpr c, fun m h1 h2 => ?_⟩
    rw [← minI_is is m h1 h2]
    exact q.now hr (.int _)
theorem ok_max : Ok1 X (fun x H Q => rMax X.K [x] H Q) dMax := fun x H Z ι M dx d Q hr rx e q => by
  obtain ⟨a, is, rfl, s, e2⟩ := ofInts_run hr rx e
  by_cases c : is = []
  · rw [if_pos c] at e2
    cases e2
  · rw [if_neg c] at e2
    cases e2
    refine ⟨a, is, rfl, s, List.length_pos_iff.mpr c, fun m h1 h2 => ?_⟩
    rw [← maxI_is is m h1 h2]
    exact q.now hr (.int _)
theorem ok_all : Ok1 X (fun x H Q => rAll X.K [x] H Q) dAll := fun x H Z ι M dx d Q hr rx e q => by
  obtain ⟨a, is, rfl, s, rfl⟩ := ofBls_run hr rx e
  exact ⟨a, is, rfl, s, q.now hr (.bl _)⟩
theorem ok_any : Ok1 X (fun x H Q => rAny X.K [x] H Q) dAny := fun x H Z ι M dx d Q hr rx e q => by
  obtain ⟨a, is, rfl, s, rfl⟩ := ofBls_run hr rx e
  exact ⟨a, is, rfl, s, q.now hr (.bl _)⟩
/-! list(x), tuple(x) -/
def dList (M : List MO) (d : D) : Option D := (itemsD M d).map D.lst
def dTuple (M : List MO) (d : D) : Option D := (itemsD M d).map D.tup
theorem ok_list : Ok1 X (fun x H Q => ∃ p ys, [x] = [.ref p] ∧ (SqL X.K H p ys ∨ SqT X.K H p ys) ∧ ∀ l, H l = none → Q (.ref l) (upd H l (.lst ys))) dList := fun x H Z ι M dx d Q hr rx e q => by
  unfold dList at e
  cases e1 : itemsD M dx with
  | none => rw [e1] at e; cases e
  | some ds =>
    rw [e1] at e
    cases e
    obtain ⟨a, xs, rfl, s, r⟩ := itemsD_run hr rx e1
    exact ⟨a, xs, rfl, s.elim (fun s => .inl s.sq) .inr, q.lst hr r⟩
theorem ok_tuple : Ok1 X (fun x H Q => ∃ p ys, [x] = [.ref p] ∧ ((SqL X.K H p ys ∧ ∀ l, H l = none → Q (.ref l) (upd H l (.tup ys))) ∨ (SqT X.K H p ys ∧ Q (.ref p) H))) dTuple := fun x H Z ι M dx d Q hr rx e q => by
  unfold dTuple at e
  cases rx with
  | tup s r =>
    cases e
    exact ⟨_, _, rfl, .inr ⟨subT hr.sub s, q.now hr (.tup s r)⟩⟩
  | ptu s r =>
    cases e
    exact ⟨_, _, rfl, .inr ⟨subT hr.sub s.sq, q.now hr (.tup s.sq r)⟩⟩
  | lst s r =>
    cases e
    exact ⟨_, _, rfl, .inl ⟨(subL hr.sub s).sq, q.tup hr r⟩⟩
  | ref hk =>
    rename_i k
    cases e1 : itemsD M (.ref k) with
    | none => rw [e1] at e; cases e
    | some ds =>
      rw [e1] at e
      cases e
      obtain ⟨a, xs, ea, s, r⟩ := listD_run hr (.ref hk) e1
      cases ea
      exact ⟨_, _, rfl, .inl ⟨s.sq, q.tup hr r⟩⟩
  | _ => cases e
end
/-! list(range(..)) -/
section
variable {X : Cx} {C : CT} {W : WX} {a b e : Expr} {ga gb : GE} {p pos p2 pos2 : Pos}
def rngOk (i j : Int) : Bool := inR i && inR j && decide ((j - i).toNat ≤ 2 ^ 24)
def gRgL (own : Bool) (ga gb : GE) : GE := fun Γ M => (ga Γ M).bind fun x M1 => (gb Γ M1).bind fun y M2 => match x, y with
  | .int i, .int j => if rngOk i j = true then (if own = true then .ok (.ref M2.length) (M2 ++ [.lst (rngL i (j - i).toNat)]) else .ok (.lst (rngL i (j - i).toNat)) M2) else .bad
  | _, _ => .bad
theorem rngL_rg {K : PySem.W.Frag} {Z : Hp} {ι : Nat → Addr} {m : Nat} : ∀ (n : Nat) (lo : Int), Rps K Z ι m (rngL lo n) ((List.range n).map fun i => V.int (lo + (i : Nat)))
  | 0, lo => .nil
  | n + 1, lo => by
    rw [List.range_succ_eq_map, List.map_cons, List.map_map]
    refine .cons (by simpa using Rp.int (lo)) ?_
    have ih := rngL_rg (K := K) (Z := Z) (ι := ι) (m := m) n (lo + 1)
    have e : ((List.range n).map ((fun i : Nat => V.int (lo + (i : Nat))) ∘ Nat.succ)) = (List.range n).map fun i : Nat => V.int (lo + 1 + (i : Nat)) := by
      apply List.map_congr_left
      intro i _
      simp only [Function.comp]
      congr 1
      push_cast
      omega
    rw [e]
    exact ih
theorem rg_read {ta : TE} {tb : TE} {own : Bool} (qa : ∀ (σ : St) (H Z : Hp) (ι : Nat → Addr) (Γ : Env) (M : List MO) (Q : VK), Slots X.K Z ι M.length Γ σ → HR X.K H Z ι M → Post X C W (rpE X.K) σ H Z ι M (ga Γ M) Q → ta σ H Q)
    (qb : ∀ (σ : St) (H Z : Hp) (ι : Nat → Addr) (Γ : Env) (M : List MO) (Q : VK), Slots X.K Z ι M.length Γ σ → HR X.K H Z ι M → Post X C W (rpE X.K) σ H Z ι M (gb Γ M) Q → tb σ H Q) (σ : St) (H Z : Hp) (ι : Nat → Addr) (Γ : Env) (M : List MO) (Q : VK) (sl : Slots X.K Z ι M.length Γ σ)
    (hr : HR X.K H Z ι M) (h : Post X C W (rpE X.K) σ H Z ι M (gRgL own ga gb Γ M) Q) : ta σ H fun x H1 => tb σ H1 fun y H2 => ∃ i j, x = .int i ∧ y = .int j ∧ RgOk i j ∧ ∀ q, H2 q = none → Q (.ref q) (upd H2 q (.lst (rgV i j))) := by
  refine qa σ H Z ι Γ M _ sl hr (Post.bind h fun x M1 v H1 Z1 ι1 e1 hr1 r1 h1 => qb σ H1 Z1 ι1 Γ M1 _ (sl.ext e1) hr1 (h1.bind fun y M2 u H2 Z2 ι2 e2 hr2 r2 h2 => ?_))
  have r1' := r1.ext e2
  cases r1' with
  | int i =>
    cases r2 with
    | int j =>
      have h3 : Post X C W (rpE X.K) σ H2 Z2 ι2 M2 (if rngOk i j = true then (if own = true then .ok (.ref M2.length) (M2 ++ [.lst (rngL i (j - i).toNat)]) else .ok (.lst (rngL i (j - i).toNat)) M2) else .bad) Q := h2
      by_cases c : rngOk i j = true
      · rw [if_pos c] at h3
        simp only [rngOk, inR, Bool.and_eq_true, decide_eq_true_eq] at c
        refine ⟨i, j, rfl, rfl, ⟨c.1.1.1, c.1.1.2, c.1.2.1, c.1.2.2, c.2⟩, fun q hq => ?_⟩
        have rr : Rps X.K Z2 ι2 M2.length (rngL i (j - i).toNat) (rgV i j) := rngL_rg _ _
        by_cases ho : own = true
        · rw [if_pos ho] at h3
          obtain ⟨hr3, e3⟩ := hr2.owned hq rr
          have qq : Rp X.K Z2 (put ι2 M2.length q) (M2 ++ [MO.lst (rngL i (j - i).toNat)]).length (.ref M2.length) (.ref (put ι2 M2.length q M2.length)) := .ref (by simp)
          rw [put_at] at qq
          exact h3 _ _ _ _ e3 hr3 qq
        · rw [if_neg ho] at h3
          exact h3.after.lst hr2 rr q hq
      · rw [if_neg c] at h3
        exact h3.elim
    | _ => exact h2.elim
  | _ => exact h2.elim
theorem qe_lrg2 (own : Bool) (hc : X.calm = true) (hg : Gl X "list") (hm : X.mg "list" = none) (hg2 : Gl X "range") (hm2 : X.mg "range" = none) (ha : QE X C W a ga) (hb : QE X C W b gb)
    (h1 : starEach [a, b] X.env = (false, eval a X.env) :: starEach [b] X.env := by rfl) (h2 : starEach [b] X.env = (false, eval b X.env) :: starEach [] X.env := by rfl) (h3 : (backTo pos2 (starEach [b] X.env)).any (·.1) = false := by rfl)
    (na : starEach [Expr.Call (.Name "range" p2) [a, b] [] pos2] X.env = (false, eval (Expr.Call (.Name "range" p2) [a, b] [] pos2) X.env) :: starEach [] X.env := by rfl) :
    QE X C W (.Call (.Name "list" p) [.Call (.Name "range" p2) [a, b] [] pos2] [] pos) (gRgL own ga gb) := by
  obtain ⟨ta, pa, qa⟩ := ha
  obtain ⟨tb, pb, qb⟩ := hb
  exact ⟨_, pe_listRg hc hg hm (prg_2 hg2 hm2 pa pb h1 h2 h3) na, fun σ H Z ι Γ M Q sl hr h => rg_read qa qb σ H Z ι Γ M Q sl hr h⟩
theorem qe_lrg1 (own : Bool) (hc : X.calm = true) (hg : Gl X "list") (hm : X.mg "list" = none) (hg2 : Gl X "range") (hm2 : X.mg "range" = none) (hb : QE X C W b gb) (h2 : starEach [b] X.env = (false, eval b X.env) :: starEach [] X.env := by rfl)
    (na : starEach [Expr.Call (.Name "range" p2) [b] [] pos2] X.env = (false, eval (Expr.Call (.Name "range" p2) [b] [] pos2) X.env) :: starEach [] X.env := by rfl) :
    QE X C W (.Call (.Name "list" p) [.Call (.Name "range" p2) [b] [] pos2] [] pos) (gRgL own (gC (.int 0)) gb) := by
  obtain ⟨tb, pb, qb⟩ := hb
  refine ⟨_, pe_listRg hc hg hm (prg_1 hg2 hm2 pb h2) na, fun σ H Z ι Γ M Q sl hr h => ?_⟩
  have q := rg_read (ta := tC (.int 0)) (ga := gC (.int 0)) (C := C) (W := W) (X := X) (fun σ H Z ι Γ M Q sl hr h => h _ H Z ι .refl hr (.int 0)) qb σ H Z ι Γ M Q sl hr h
  have q2 : tb σ H fun y H2 => ∃ i j, V.int 0 = .int i ∧ y = .int j ∧ RgOk i j ∧ ∀ q, H2 q = none → Q (.ref q) (upd H2 q (.lst (rgV i j))) := q
  have mono : (fun (y : V) (H2 : Hp) => ∃ i j, V.int 0 = .int i ∧ y = .int j ∧ RgOk i j ∧ ∀ q, H2 q = none → Q (.ref q) (upd H2 q (.lst (rgV i j)))) = fun y H2 => ∃ n, y = .int n ∧ RgOk 0 n ∧ ∀ q, H2 q = none → Q (.ref q) (upd H2 q (.lst (rgV 0 n))) := by
    funext y H2
    apply propext
    constructor
    · rintro ⟨i, j, e, e2, r⟩
      cases e
      exact ⟨j, e2, r⟩
    · rintro ⟨j, e2, r⟩
      exact ⟨0, j, rfl, e2, r⟩
  rw [mono] at q2
  exact q2
/-! isinstance -/
def tyName (M : List MO) : D → Option String
  | .non => some "NoneType"
  | .bl _ => some "bool"
  | .int _ => some "int"
  | .str _ => some "str"
  | .tup _ => some "tuple"
  | .lst _ => some "list"
  | .dct _ _ => none
  | .ptu _ => some "tuple"
  | .ref k => match M[k]? with
    | some (.lst _) => some "list"
    | _ => none
theorem tyName_run {K : PySem.W.Frag} {H Z : Hp} {ι : Nat → Addr} {M : List MO} {d : D} {x : V} {t : String} (hr : HR K H Z ι M) (r : Rp K Z ι M.length d x) (e : tyName M d = some t) : TyX K H x (.type t) := by
  have lists : ∀ {a : Addr} {xs : List V}, ExL K H a xs → TyX K H (.ref a) (.type "list") := fun {a xs} s => by
    rcases s with (s | ⟨o, s⟩) | ⟨its, m, s, _, _⟩
    · exact .base (.lst s)
    · exact .base (.frz s)
    · exact .kList s rfl
  cases r with
  | dct s_ r_ t_ => first | (cases e; done) | (cases hd; done) | (cases h; done) | (cases h1; done) | (cases e1; done) | (cases h'; done) | (cases ei; done) | (cases e'; done) | exact h.elim | exact h1.elim | exact h2.elim | exact .inl (lists (.dct s_ r_ t_) hd) | exact lists (.dct s_ r_ t_) e
  | ptu s r =>
    cases e
    obtain ⟨o, s, _⟩ := s
    exact .fTuple (hr.sub _ _ s)
  | non => cases e; exact .base .non
  | bl b => cases e; exact .base (.bl b)
  | int i => cases e; exact .base (.int i)
  | str z => cases e; exact .base (.str z)
  | tup s r =>
    cases e
    rcases subT hr.sub s with (s | ⟨o, s⟩) | ⟨o, its, m, s, c, _⟩
    · exact .base (.tup s)
    · exact .fTuple s
    · exact .kTuple s c
  | lst s r =>
    cases e
    exact lists (subL hr.sub s)
  | ref hk =>
    rename_i k
    have e' : (match M[k]? with
      | some (.lst _) => some "list"
      | _ => none) = some t := e
    cases e1 : M[k]? with
    | none => rw [e1] at e'; cases e'
    | some o =>
      rw [e1] at e'
      cases o with
      | dead => cases e'
      | dct ks0 vs0 => cases e'
      | dki kvs0 => cases e'
      | obj nm fs => cases e'
      | lst ds =>
        cases e'
        obtain ⟨xs, h1, _⟩ := hr.obj k _ e1
        exact lists (.inl (.of h1))
def dIsi (T : String) (M : List MO) (d : D) : Option D := (tyName M d).bind fun t => (kitB t T).map D.bl
def anyB (t : String) : List String → Option Bool
  | [] => some false
  | T :: Ts => match kitB t T with
    | some true => some true
    | some false => anyB t Ts
    | none => none
def dIsiT (Ts : List String) (M : List MO) (d : D) : Option D := (tyName M d).bind fun t => (anyB t Ts).map D.bl
theorem anyB_kit {K : PySem.W.Frag} {t : String} : ∀ {Ts : List String} {b : Bool}, anyB t Ts = some b → PySem.W.kitAny K (.type t) (Ts.map Value.type) = some b
  | [], b, h => by cases h; rfl
  | T :: Ts, b, h => by
    unfold anyB at h
    show (match PySem.W.kitOne K (.type t) (.type T) with
      | some true => some true
      | some false => PySem.W.kitAny K (.type t) (Ts.map Value.type)
      | none => none) = some b
    cases e : kitB t T with
    | none => rw [e] at h; cases h
    | some k =>
      rw [e] at h
      rw [kit_ty e]
      cases k with
      | true => exact h
      | false => exact anyB_kit h
theorem qe_isi {T : String} {TN : Str} {q : Pos} (hg : Gl X "isinstance") (hm : X.mg "isinstance" = none) (hT : Gl X TN) (hmT : X.mg TN = none) (hv : bootBuiltins TN = some (.type T)) (ha : QE X C W e ga) (hn : TN ≠ "__name__" := by decide) (hd : (TN == ("__debug__" : Str)) = false := by decide)
    (he : starEach [e, Expr.Name TN q] X.env = (false, eval e X.env) :: starEach [Expr.Name TN q] X.env := by rfl) (he2 : starEach [Expr.Name TN q] X.env = (false, eval (Expr.Name TN q) X.env) :: starEach [] X.env := by rfl) (hpl : (backTo pos (starEach [Expr.Name TN q] X.env)).any (·.1) = false := by rfl) :
    QE X C W (.Call (.Name "isinstance" p) [e, .Name TN q] [] pos) (gOp1 (dIsi T) ga) := by
  obtain ⟨ta, pa, qa⟩ := ha
  refine ⟨_, pe_callB call_isi hg hm (by decide +kernel) (pa_cons pa (pa_cons (pe_bltn (v := .ty T) hT hmT hv rfl hn hd) pa_nil he2) he) (he := he) (hpl := hpl), fun σ H Z ι Γ M Q sl hr h => qa σ H Z ι Γ M _ sl hr (h.bind fun x M1 v H1 Z1 ι1 e1 hr1 r1 h1 => ?_)⟩
  obtain ⟨d, hd, h3⟩ := Post.of_opR (γ := D) (δ := V) h1
  unfold dIsi at hd
  cases e2 : tyName M1 x with
  | none => rw [e2] at hd; cases hd
  | some t =>
    rw [e2, Option.bind_some] at hd
    cases e3 : kitB t T with
    | none => rw [e3] at hd; cases hd
    | some b =>
      rw [e3] at hd
      cases hd
      exact ⟨v, .ty T, .type t, .type T, b, rfl, .ty T, tyName_run hr1 r1 e2, kit_ty e3, h3.after.now hr1 (.bl b)⟩
theorem qe_isi2 {T1 T2 : String} {N1 N2 : Str} {q1 q2 q3 : Pos} {kk : Nat} (hg : Gl X "isinstance") (hm : X.mg "isinstance" = none) (hT1 : Gl X N1) (hm1 : X.mg N1 = none) (hv1 : bootBuiltins N1 = some (.type T1)) (hT2 : Gl X N2) (hm2 : X.mg N2 = none) (hv2 : bootBuiltins N2 = some (.type T2)) (ha : QE X C W e ga)
    (hn1 : N1 ≠ "__name__" := by decide) (hd1 : (N1 == ("__debug__" : Str)) = false := by decide) (hn2 : N2 ≠ "__name__" := by decide) (hd2 : (N2 == ("__debug__" : Str)) = false := by decide)
    (he : starEach [e, Expr.Tuple [.Name N1 q1, .Name N2 q2] kk q3] X.env = (false, eval e X.env) :: starEach [Expr.Tuple [.Name N1 q1, .Name N2 q2] kk q3] X.env := by rfl) (he2 : starEach [Expr.Tuple [.Name N1 q1, .Name N2 q2] kk q3] X.env = (false, eval (Expr.Tuple [.Name N1 q1, .Name N2 q2] kk q3) X.env) :: starEach [] X.env := by rfl)
    (hpl : (backTo pos (starEach [Expr.Tuple [.Name N1 q1, .Name N2 q2] kk q3] X.env)).any (·.1) = false := by rfl)
    (hs1 : starEach [Expr.Name N1 q1, Expr.Name N2 q2] X.env = (false, eval (Expr.Name N1 q1) X.env) :: starEach [Expr.Name N2 q2] X.env := by rfl) (hs2 : starEach [Expr.Name N2 q2] X.env = (false, eval (Expr.Name N2 q2) X.env) :: starEach [] X.env := by rfl) :
    QE X C W (.Call (.Name "isinstance" p) [e, .Tuple [.Name N1 q1, .Name N2 q2] kk q3] [] pos) (gOp1 (dIsiT [T1, T2]) ga) := by
  obtain ⟨ta, pa, qa⟩ := ha
  refine ⟨_, pe_callB call_isiT hg hm (by decide +kernel) (pa_cons pa (pa_cons (pe_tup (pa_cons (pe_bltn (v := .ty T1) hT1 hm1 hv1 rfl hn1 hd1) (pa_cons (pe_bltn (v := .ty T2) hT2 hm2 hv2 rfl hn2 hd2) pa_nil hs2) hs1)) pa_nil he2) he) (he := he) (hpl := hpl),
    fun σ H Z ι Γ M Q sl hr h => qa σ H Z ι Γ M _ sl hr (h.bind fun x M1 v H1 Z1 ι1 e1 hr1 r1 h1 => ?_)⟩
  obtain ⟨d, hd, h3⟩ := Post.of_opR (γ := D) (δ := V) h1
  unfold dIsiT at hd
  cases e2 : tyName M1 x with
  | none => rw [e2] at hd; cases hd
  | some t =>
    rw [e2, Option.bind_some] at hd
    cases e3 : anyB t [T1, T2] with
    | none => rw [e3] at hd; cases hd
    | some b =>
      rw [e3] at hd
      cases hd
      refine ⟨by show 2 ≤ sizeLine; decide, fun tp hp => ?_⟩
      obtain ⟨hr2, x2⟩ := hr1.frozen (o := .tup [.ty T1, .ty T2]) hp
      exact ⟨v, tp, [.ty T1, .ty T2], .type t, [.type T1, .type T2], b, rfl, upd_same, .cons (.ty T1) (.cons (.ty T2) .nil), tyName_run hr2 (r1.ext x2) e2, anyB_kit (Ts := [T1, T2]) e3, h3.after _ _ _ x2 hr2 (.bl b)⟩
end
end Bk

set_option Elab.async false
set_option linter.all false
set_option maxRecDepth 100000
set_option maxHeartbeats 2000000
namespace Bk
open PySem PySem.Spec PyProof.Rows L2
/-! ### what changes a list of ours -/
/-- a method: the list as it was, the argument; the list as it is, the answer -/
abbrev MF := List MO → List D → D → Option (List D × D)
abbrev MF0 := List D → Option (List D × D)
def isListD (M : List MO) (d : D) : Bool := (listD M d).isSome
def mutR (M : List MO) (x : D) (f : List D → Option (List D × D)) : R D := match x with
  | .ref k => match M[k]? with
    | some (.lst ds) => match f ds with
      | some (ds', r) => .ok r (M.set k (.lst ds'))
      | none => .bad
    | _ => .bad
  | _ => .bad
def gMeth1 (f : MF) (go ge : GE) : GE := fun Γ M => (go Γ M).bind fun x M1 => if isListD M1 x = true then (ge Γ M1).bind fun y M2 => mutR M2 x fun ds => f M2 ds y else .bad
def gMeth0 (f : MF0) (go : GE) : GE := fun Γ M => (go Γ M).bind fun x M1 => mutR M1 x f
section
variable {X : Cx} {C : CT} {W : WX}
def OkM (X : Cx) (r : V → List V → Hp → VK → Prop) (f : MF) : Prop := ∀ (p : Addr) (xs : List V) (y : V) (H Z : Hp) (ι : Nat → Addr) (M : List MO) (ds ds' : List D) (dy d : D) (Q : VK), HR X.K H Z ι M → H p = some (.lst xs) → Rps X.K Z ι M.length ds xs → Rp X.K Z ι M.length dy y → f M ds dy = some (ds', d) →
  (∀ (xs' : List V) (w : V), Rps X.K Z ι M.length ds' xs' → Rp X.K Z ι M.length d w → Q w (upd H p (.lst xs'))) → r (.ref p) [y] H Q
def OkM0 (X : Cx) (r : V → List V → Hp → VK → Prop) (f : MF0) : Prop := ∀ (p : Addr) (xs : List V) (H Z : Hp) (ι : Nat → Addr) (n : Nat) (ds ds' : List D) (d : D) (Q : VK), H p = some (.lst xs) → Rps X.K Z ι n ds xs → f ds = some (ds', d) →
  (∀ (xs' : List V) (w : V), Rps X.K Z ι n ds' xs' → Rp X.K Z ι n d w → Q w (upd H p (.lst xs'))) → r (.ref p) [] H Q
theorem mutR_run {σ : St} {H Z : Hp} {ι : Nat → Addr} {M : List MO} {x : D} {v : V} {f : List D → Option (List D × D)} {Q : VK} (hr : HR X.K H Z ι M) (r : Rp X.K Z ι M.length x v) (h : Post X C W (rpE X.K) σ H Z ι M (mutR M x f) Q) :
    ∃ (k : Nat) (ds ds' : List D) (d : D) (xs : List V), v = .ref (ι k) ∧ H (ι k) = some (.lst xs) ∧ Rps X.K Z ι M.length ds xs ∧ f ds = some (ds', d) ∧ ∀ (xs' : List V) (w : V), Rps X.K Z ι M.length ds' xs' → Rp X.K Z ι M.length d w → Q w (upd H (ι k) (.lst xs')) := by
  cases r with
  | ref hk =>
    rename_i k
    have h' : Post X C W (rpE X.K) σ H Z ι M (match M[k]? with
      | some (.lst ds) => match f ds with
        | some (ds', r) => .ok r (M.set k (.lst ds'))
        | none => .bad
      | _ => .bad) Q := h
    cases e1 : M[k]? with
    | none => rw [e1] at h'; exact h'.elim
    | some o =>
      rw [e1] at h'
      cases o with
      | dead => exact h'.elim
      | dct ks0 vs0 => exact h'.elim
      | dki kvs0 => exact h'.elim
      | obj nm fs => exact h'.elim
      | lst ds =>
        have h2 : Post X C W (rpE X.K) σ H Z ι M (match f ds with
          | some (ds', r) => .ok r (M.set k (.lst ds'))
          | none => .bad) Q := h'
        cases e2 : f ds with
        | none => rw [e2] at h2; exact h2.elim
        | some q =>
          obtain ⟨ds', d⟩ := q
          rw [e2] at h2
          obtain ⟨xs, a1, a2⟩ := hr.obj k _ e1
          refine ⟨k, ds, ds', d, xs, rfl, a1, a2, e2, fun xs' w r1 r2 => ?_⟩
          obtain ⟨b1, b2⟩ := hr.change e1 r1
          exact h2 w _ Z ι b2 b1 (r2.ext b2)
  | _ => exact h.elim
theorem isListD_run {K : PySem.W.Frag} {H Z : Hp} {ι : Nat → Addr} {M : List MO} {d : D} {v : V} (hr : HR K H Z ι M) (r : Rp K Z ι M.length d v) (h : isListD M d = true) : tyV K "list" v H := by
  unfold isListD at h
  cases e : listD M d with
  | none => rw [e] at h; cases h
  | some ds =>
    obtain ⟨a, xs, rfl, s, _⟩ := listD_run hr r e
    exact .inl ⟨rfl, xs, s.sq⟩
theorem qe_meth1 {o e : Expr} {go ge : GE} {f : MF} {id : String} {name : Str} {pos apos : Pos} {r : V → List V → Hp → VK → Prop} (slot : Slot "list" name id) (hty : typeOf (.builtin id) = pure (.type "method_descriptor")) (hm : MtR X id r) (ok : OkM X r f) (ho : QE X C W o go) (he : QE X C W e ge)
    (hbase : attributeBase o name X.env (eval o X.env) = eval o X.env := by rfl) (hs : starEach [e] X.env = (false, eval e X.env) :: starEach [] X.env := by rfl)
    (hfew : ((backTo pos (starEach [e] X.env)).all (fun x => !x.1) && (backToKw pos (keywordEach [] X.env)).all (fun x => x.1.isSome) && decide ([e].length + ([] : List Keyword).length + (if ([] : List Keyword).isEmpty then 0 else 1) < 30)) = true := by rfl)
    (hline : (apos.endLine == pos.line) = true := by rfl) : QE X C W (.Call (.Attribute o name apos) [e] [] pos) (gMeth1 f go ge) := by
  obtain ⟨ta, pa, qa⟩ := ho
  obtain ⟨tb, pb, qb⟩ := he
  refine ⟨_, pe_bm PySem.F.plainAttrs_list slot hty hm pa (pa_cons pb pa_nil hs) hbase hfew hline hs rfl, fun σ H Z ι Γ M Q sl hr h => qa σ H Z ι Γ M _ sl hr (h.bind fun x M1 v H1 Z1 ι1 e1 hr1 r1 h1 => ?_)⟩
  by_cases c : isListD M1 x = true
  · rw [if_pos c] at h1
    refine ⟨isListD_run hr1 r1 c, qb σ H1 Z1 ι1 Γ M1 _ (sl.ext e1) hr1 (h1.bind fun y M2 u H2 Z2 ι2 e2 hr2 r2 h2 => ?_)⟩
    obtain ⟨k, ds, ds', d, xs, ev, a1, a2, a3, a4⟩ := mutR_run hr2 (r1.ext e2) h2
    rw [ev]
    exact ok _ xs u H2 Z2 ι2 M2 ds ds' y d Q hr2 a1 a2 r2 a3 a4
  · rw [if_neg c] at h1
    exact h1.elim
theorem qe_meth0 {o : Expr} {go : GE} {f : MF0} {id : String} {name : Str} {pos apos : Pos} {r : V → List V → Hp → VK → Prop} (slot : Slot "list" name id) (hty : typeOf (.builtin id) = pure (.type "method_descriptor")) (hm : MtR X id r) (ok : OkM0 X r f) (ho : QE X C W o go)
    (hbase : attributeBase o name X.env (eval o X.env) = eval o X.env := by rfl) (hline : (apos.endLine == pos.line) = true := by rfl) : QE X C W (.Call (.Attribute o name apos) [] [] pos) (gMeth0 f go) := by
  obtain ⟨ta, pa, qa⟩ := ho
  refine ⟨_, pe_bm0 PySem.F.plainAttrs_list slot hty hm pa hbase hline, fun σ H Z ι Γ M Q sl hr h => qa σ H Z ι Γ M _ sl hr (h.bind fun x M1 v H1 Z1 ι1 e1 hr1 r1 h1 => ?_)⟩
  obtain ⟨k, ds, ds', d, xs, ev, a1, a2, a3, a4⟩ := mutR_run hr1 r1 h1
  rw [ev]
  exact ⟨.inl ⟨rfl, xs, .of a1⟩, ok _ xs H1 Z1 ι1 M1.length ds ds' d Q a1 a2 a3 a4⟩
def mAppend : MF := fun _ ds y => if ds.length < sizeLine then some (ds ++ [y], .non) else none
theorem ok_append : OkM X rAppend mAppend := fun p xs y H Z ι M ds ds' dy d Q hr e r ry h q => by
  unfold mAppend at h
  by_cases c : ds.length < sizeLine
  · rw [if_pos c] at h
    cases h
    exact ⟨p, xs, y, rfl, rfl, e, by rw [← r.length]; exact c, q _ _ (r.append (.cons ry .nil)) .non⟩
  · rw [if_neg c] at h
    cases h
def rExtendS (K : PySem.W.Frag) : V → List V → Hp → VK → Prop := fun x vs H Q => ∃ l b xs zs, x = .ref l ∧ vs = [.ref b] ∧ H l = some (.lst xs) ∧ ExL K H b zs ∧ xs.length + zs.length ≤ sizeLine ∧ Q .non (upd H l (.lst (xs ++ zs)))
theorem mt_extendS : MtM X "list.extend" (rExtendS X.K) := by
  intro pins s σ H x vs v us Q I rx rv h
  obtain ⟨l, b, xs, zs, rfl, rfl, h1, h2, hz, q⟩ := h
  cases rx
  obtain ⟨u, rfl, ru⟩ := rv.one
  cases ru
  obtain ⟨z, its, n, r, hl, e⟩ := I.lstM h1
  obtain ⟨its2, n2, r2, e2, z2⟩ := h2.at_ I
  have l2 := r2.length
  have room : its.toArray.size + its2.toArray.size ≤ sizeLine := by
    rw [List.size_toArray, List.size_toArray]
    omega
  have short : ¬ (!its.toArray.isEmpty && Builtin.List.listTooLong (its.toArray.size + its2.toArray.size)) = true := by
    rw [notLongL room, Bool.and_false]
    exact Bool.false_ne_true
  refine call_meets F.slot_list_extend ⟨_, e, rfl⟩ F.entry_list_extend (F.args_list_extend_2 _ _) (AutoSeq1.list_extend_list_list_0 l its.toArray n b its2.toArray n2 short (by rw [List.size_toArray]; omega) (by omega)) ⟨e, e2, ?_⟩
  exact ⟨.non, _, I.lset (its' := its ++ its2) h1 e (by simp) (r.append r2) (by rw [List.length_append]; omega), rfl, q⟩
def mExtend : MF := fun M ds y => match listD M y with
  | some es => if ds.length + es.length ≤ sizeLine then some (ds ++ es, .non) else none
  | none => none
theorem ok_extend : OkM X (rExtendS X.K) mExtend := fun p xs y H Z ι M ds ds' dy d Q hr e r ry h q => by
  unfold mExtend at h
  cases e1 : listD M dy with
  | none => rw [e1] at h; cases h
  | some es =>
    rw [e1] at h
    simp only at h
    obtain ⟨b, zs, rfl, s2, r2⟩ := listD_run hr ry e1
    by_cases c : ds.length + es.length ≤ sizeLine
    · rw [if_pos c] at h
      cases h
      exact ⟨p, b, xs, zs, rfl, rfl, e, s2, by rw [← r.length, ← r2.length]; exact c, q _ _ (r.append r2) .non⟩
    · rw [if_neg c] at h
      cases h
def mPopAt : MF := fun _ ds y => match y with
  | .int i => match ixN ds.length i with
    | some k => match ds[k]? with
      | some d => if decide (-(2 ^ 63) ≤ i) && decide (i < 2 ^ 63) then some (ds.eraseIdx k, d) else none
      | none => none
    | none => none
  | _ => none
theorem ok_popAt : OkM X rPopAt mPopAt := fun p xs y H Z ι M ds ds' dy d Q hr e r ry h q => by
  cases ry with
  | int i =>
    have h' : (match ixN ds.length i with
      | some k => match ds[k]? with
        | some d => if decide (-(2 ^ 63) ≤ i) && decide (i < 2 ^ 63) then some (ds.eraseIdx k, d) else none
        | none => none
      | none => none) = some (ds', d) := h
    cases e1 : ixN ds.length i with
    | none => rw [e1] at h'; cases h'
    | some k =>
      rw [e1] at h'
      simp only at h'
      cases e2 : ds[k]? with
      | none => rw [e2] at h'; cases h'
      | some d0 =>
        rw [e2] at h'
        simp only at h'
        by_cases c : (decide (-(2 ^ 63) ≤ i) && decide (i < 2 ^ 63)) = true
        · rw [if_pos c] at h'
          cases h'
          simp only [Bool.and_eq_true, decide_eq_true_eq] at c
          obtain ⟨v, a1, a2⟩ := r.get e2
          rw [r.length] at e1
          exact ⟨p, xs, i, k, v, rfl, rfl, e, c.1, c.2, (ixN_seq e1).1, a1, q _ _ (r.erase k) a2⟩
        · rw [if_neg c] at h'
          cases h'
  | _ => cases h
def mPop : MF0 := fun ds => match ds[ds.length - 1]? with
  | some d => some (ds.dropLast, d)
  | none => none
theorem rps_dropLast {K : PySem.W.Frag} {Z : Hp} {ι : Nat → Addr} {n : Nat} {ds : List D} {vs : List V} (r : Rps K Z ι n ds vs) : Rps K Z ι n ds.dropLast vs.dropLast := by
  rw [List.dropLast_eq_take, List.dropLast_eq_take, r.length]
  exact r.take _
theorem ok_pop : OkM0 X rPop mPop := fun p xs H Z ι n ds ds' d Q e r h q => by
  unfold mPop at h
  cases e2 : ds[ds.length - 1]? with
  | none => rw [e2] at h; cases h
  | some d0 =>
    rw [e2] at h
    cases h
    obtain ⟨v, a1, a2⟩ := r.get e2
    rw [r.length] at a1
    exact ⟨p, xs, v, rfl, rfl, e, a1, q _ _ (rps_dropLast r) a2⟩
/-! xs[i] = e -/
def setR (M : List MO) (o i v : D) : Option (List MO) := match o, i with
  | .ref k, .int j => match M[k]? with
    | some (.lst ds) => match ixN ds.length j with
      | some m => some (M.set k (.lst (ds.set m v)))
      | none => none
    | _ => none
  | _, _ => none
def gSetI (ge go gi : GE) : GS := fun Γ M => (ge Γ M).thenS Γ fun v M1 => (go Γ M1).thenS Γ fun o M2 => (gi Γ M2).thenS Γ fun i M3 => match setR M3 o i v with
  | some M4 => .nx Γ M4
  | none => .bad
theorem qs_setI {o i e : Expr} {go gi ge : GE} {pos spos : Pos} (he : QE X C W e ge) (ho : QE X C W o go) (hi : QE X C W i gi) (hs : swapsWithSole [Expr.Subscript o i spos] e pos.line X.env = pure false := by rfl) (hp : swappedStores [Expr.Subscript o i spos] e X.env = pure none := by rfl)
    (h1 : (assignEach [Expr.Subscript o i spos] X.env).map (·.2) = [assign (Expr.Subscript o i spos) X.env] := by rfl)
    (ha : ∀ v, assign (.Subscript o i spos) X.env v = (do let ov ← holding [v] (eval o X.env); let iv ← holding [v, ov] (eval i X.env); standAt spos; holding [v, ov, iv] (setItem ov iv v); release [v, ov, iv] []) := by intro _; rfl) :
    QS X C W (.Assign [.Subscript o i spos] e pos) (gSetI ge go gi) := by
  obtain ⟨te, pe, qe⟩ := he
  obtain ⟨to, po, qo⟩ := ho
  obtain ⟨ti, pi, qi⟩ := hi
  refine ⟨_, ps_asg pe (pg_sub po pi set_list ha) hs hp h1, fun Dd σ H Z ι Γ M sl hr h => qe σ H Z ι Γ M _ sl hr (PostS.bind h sl fun v M1 v' H1 Z1 ι1 e1 hr1 r1 h1 => qo σ H1 Z1 ι1 Γ M1 _ (sl.ext e1) hr1 (PostS.bind h1 (sl.ext e1) fun o M2 o' H2 Z2 ι2 e2 hr2 r2 h2 =>
    qi σ H2 Z2 ι2 Γ M2 _ ((sl.ext e1).ext e2) hr2 (PostS.bind h2 ((sl.ext e1).ext e2) fun i M3 i' H3 Z3 ι3 e3 hr3 r3 h3 => ?_)))⟩
  have ro := r2.ext e3
  have rv := (r1.ext e2).ext e3
  have sl3 := ((sl.ext e1).ext e2).ext e3
  cases es : setR M3 o i v with
  | none => rw [es] at h3; exact h3.elim
  | some M4 =>
    rw [es] at h3
    unfold setR at es
    cases ro with
    | ref hk =>
      rename_i k
      cases r3 with
      | int j =>
        simp only at es
        cases ek : M3[k]? with
        | none => rw [ek] at es; cases es
        | some u =>
          rw [ek] at es
          cases u with
          | dead => cases es
          | dct ks0 vs0 => cases es
          | dki kvs0 => cases es
          | obj nm fs => cases es
          | lst ds =>
            simp only at es
            cases em : ixN ds.length j with
            | none => rw [em] at es; cases es
            | some m =>
              rw [em] at es
              cases es
              obtain ⟨xs, a1, a2⟩ := hr3.obj k _ ek
              obtain ⟨b1, b2⟩ := hr3.change ek (a2.set m rv)
              exact ⟨_, xs, j, m, rfl, rfl, a1, by rw [← a2.length]; exact em, h3 σ _ Z3 ι3 b2 b1 (sl3.ext b2)⟩
      | _ => cases es
    | _ => cases es
/-! x += e -/
def gAug (i : Nat) (f : Int → Int → Int) (ge : GE) : GS := fun Γ M => match Γ[i]? with
  | some (some (.int a)) => (ge Γ M).thenS Γ fun y M1 => match y with
    | .int b => .nx (Γ.set i (some (.int (f a b)))) M1
    | _ => .bad
  | _ => .bad
theorem qs_aug (i : Nat) {x : Str} {e : Expr} {op : Operator} {f : Int → Int → Int} {ge : GE} {pos pos' : Pos} (hN : X.N.Nodup) (ho : PIp X op (ipI f)) (he : QE X C W e ge) (hi : X.N[i]? = some x := by rfl) (hx : Loc X.env.scope x := by first | exact Or.inl rfl | exact Or.inr rfl)
    (hf : X.fn x = true ∨ X.env.scope.names.lookup x = some .local := by first | exact Or.inl rfl | exact Or.inr rfl) : QS X C W (.AugAssign (.Name x pos') op e pos) (gAug i f ge) := by
  obtain ⟨te, pe, qe⟩ := he
  refine ⟨_, ps_aug hN hi hx pe ho hf, fun Dd σ H Z ι Γ M sl hr h => ?_⟩
  unfold gAug at h
  cases e1 : Γ[i]? with
  | none => rw [e1] at h; exact h.elim
  | some o =>
    rw [e1] at h
    cases o with
    | none => exact h.elim
    | some d =>
      cases d with
      | int a =>
        obtain ⟨v, a1, a2⟩ := sl.2 i _ e1
        cases a2
        refine ⟨_, a1, qe σ H Z ι Γ M _ sl hr (PostS.bind h sl fun y M1 u H1 Z1 ι1 x1 hr1 r1 h1 => ?_)⟩
        cases r1 with
        | int b => exact ⟨a, b, rfl, rfl, h1 _ H1 Z1 ι1 .refl hr1 ((sl.ext x1).set i (.int _))⟩
        | _ => exact h1.elim
      | _ => exact h.elim
/-! repr -/
def rReprD (K : PySem.W.Frag) : List V → Hp → VK → Prop := fun xs H Q => ∃ (a : Addr) (d : PyData), xs = [.ref a] ∧ Dp K H (.ref a) d ∧ d.showable = true ∧ d.hasDict = false ∧ d.depth ≤ 60 ∧ d.shown.length ≤ sizeLine ∧ Q (.str d.shown) H
theorem call_reprD (hgu : X.A.guards = some []) (hu : X.A.units + 64 < cLine) : CallR X (.builtin "repr") (rReprD X.K) := by
  intro pins s σ H xs us Q I r h
  obtain ⟨a, d, rfl, hd, h1, h2, h3, h4, q⟩ := h
  obtain ⟨u, rfl, ru⟩ := Vals.one r
  cases ru
  obtain ⟨as, rd⟩ := Dp.reads I d (.ref a) (.ref a) hd rfl
  refine repr_of_reads' rd h1 (fun z => by rw [h2] at z; cases z) hgu (by omega) (fun _ _ e => e) (fun h' u tk k => ?_) h4
  exact ⟨.str d.shown, H, I.kept (t' := tk) k, ⟨u, rfl⟩, q⟩
def dRepr (M : List MO) (d : D) : Option D := match d with
  | .non => none
  | .bl _ => none
  | .int _ => none
  | .str _ => none
  | d => (toP (deref M d)).bind fun p => if (p.showable && !p.hasDict && decide (p.depth ≤ 60) && decide (p.shown.length ≤ sizeLine)) = true then some (.str p.shown) else none
theorem ok_repr : Ok1 X (fun x H Q => rReprD X.K [x] H Q) dRepr := fun x H Z ι M dx d Q hr rx e q => by
  have go : ∀ {dx : D} {a : Addr}, Rp X.K Z ι M.length dx (.ref a) → ((toP (deref M dx)).bind fun p => if (p.showable && !p.hasDict && decide (p.depth ≤ 60) && decide (p.shown.length ≤ sizeLine)) = true then some (D.str p.shown) else none) = some d → rReprD X.K [.ref a] H Q := fun {dx a} rx e => by
    cases e1 : toP (deref M dx) with
    | none => rw [e1] at e; cases e
    | some p =>
      rw [e1, Option.bind_some] at e
      by_cases c : (p.showable && !p.hasDict && decide (p.depth ≤ 60) && decide (p.shown.length ≤ sizeLine)) = true
      · rw [if_pos c] at e
        cases e
        simp only [Bool.and_eq_true, Bool.not_eq_true', decide_eq_true_eq] at c
        exact ⟨a, p, rfl, deref_dp hr rx e1, c.1.1.1, c.1.1.2, c.1.2, c.2, q.now hr (.str _)⟩
      · rw [if_neg c] at e
        cases e
  cases rx with
  | tup s r => exact go (.tup s r) e
  | ptu s r => exact go (.ptu s r) e
  | lst s r => exact go (.lst s r) e
  | ref hk => exact go (.ref hk) e
  | _ => cases e
end
end Bk

set_option Elab.async false
set_option linter.all false
set_option maxRecDepth 100000
set_option maxHeartbeats 2000000
namespace Bk
open PySem PySem.Spec PyProof.Rows L2
/-! ### enumerate and zip of lists and tuples -/
inductive Src where
  | l (a : Addr) | t (a : Addr)
namespace Src
def addr : Src → Addr
  | .l a => a
  | .t a => a
def here (K : PySem.W.Frag) (H : Hp) (xs : List V) : Src → Prop
  | .l a => SqL K H a xs
  | .t a => SqT K H a xs
def it (h : Heap) (i : Addr) (n : Nat) : Src → Prop
  | .l a => h.IsListIter i a n
  | .t a => h.IsTupleIter i a n
def arr (h : Heap) (items : Array Value) : Src → Prop
  | .l a => h.IsList a items
  | .t a => h.IsTuple a items
def obj : Src → Obj
  | .l a => { cls := .type "list_iterator", data := .fields #[.ref a, .int 0 0] }
  | .t a => { cls := .type "tuple_iterator", data := .fields #[.ref a, .int 0 0] }
theorem begins (S : Src) (items : Array Value) : Begins (.ref S.addr) S.obj fun h => S.arr h items := by
  cases S with
  | l a => exact begins_list a items
  | t a => exact begins_tuple a items
theorem draws {prog : Program} {w : World} {A : Around} (hh : A.handled = none) (S : Src) (i : Addr) (hne : S.addr ≠ i) (items : Array Value) :
    Draws prog w A i [i, S.addr] items.size (fun n v => items[n]? = some v) (fun n h => S.it h i n ∧ S.arr h items) := by
  cases S with
  | l a => exact Draws.list hh i a hne items
  | t a => exact Draws.tuple hh i a hne items
theorem inv {X : Cx} {pins : List (Addr × Obj)} {σ : L2.St} {H : Hp} {s : Shared} {xs : List V} (I : Inv X pins σ H s) {S : Src} (h : S.here X.K H xs) : ∃ its : List Value, Vals xs its ∧ S.arr s.heap its.toArray := by
  cases S with
  | l a =>
    obtain ⟨its, r, p, _⟩ := I.list h
    exact ⟨its, r, p.isList⟩
  | t a =>
    obtain ⟨its, r, p, _⟩ := I.tuple h
    exact ⟨its, r, p⟩
theorem inj {X : Cx} {pins : List (Addr × Obj)} {σ : L2.St} {H : Hp} {s : Shared} {xs ys : List V} (I : Inv X pins σ H s) {S : Src} (h : S.here X.K H xs) (h' : S.here X.K H ys) : xs = ys := by
  cases S with
  | l a => exact I.list_inj h h'
  | t a => exact I.tuple_inj h h'
theorem start {S : Src} {h : Heap} {i : Addr} (e : h.get? i = some S.obj) : S.it h i 0 := by
  cases S with
  | l a => exact ⟨_, e, rfl, rfl⟩
  | t a => exact ⟨_, e, rfl, rfl⟩
theorem it_at {S : Src} {h h' : Heap} {i : Addr} {n : Nat} (x : S.it h i n) (k : ∀ o, h.get? i = some o → h'.get? i = some o) : S.it h' i n := by
  cases S with
  | l a =>
    have y : h.IsListIter i a n := x
    exact y.at k
  | t a =>
    have y : h.IsTupleIter i a n := x
    exact y.at k
theorem it_obj {S : Src} {h : Heap} {i : Addr} {n : Nat} (x : S.it h i n) : ∃ o, h.get? i = some o ∧ ∀ v, o.data ≠ .cell v := by
  cases S with
  | l a =>
    obtain ⟨o, ho, _, hd⟩ := (show h.IsListIter i a n from x)
    exact ⟨o, ho, fun v q => by rw [hd] at q; cases q⟩
  | t a =>
    obtain ⟨o, ho, _, hd⟩ := (show h.IsTupleIter i a n from x)
    exact ⟨o, ho, fun v q => by rw [hd] at q; cases q⟩
theorem arr_ne {S : Src} {h : Heap} {items : Array Value} {b : Addr} {ob : Obj} (x : S.arr h items) (e : h.get? b = some ob) (hd : ∀ its n, ob.data ≠ .seq its n) : S.addr ≠ b := by
  cases S with
  | l a =>
    obtain ⟨o, ho, _, m, hdd⟩ := (show h.IsList a items from x)
    intro z
    have z' : a = b := z
    rw [z', e] at ho
    cases ho
    exact hd _ _ hdd
  | t a =>
    obtain ⟨o, ho, _, m, hdd⟩ := (show h.IsTuple a items from x)
    intro z
    have z' : a = b := z
    rw [z', e] at ho
    cases ho
    exact hd _ _ hdd
theorem arr_it {S : Src} {h : Heap} {items : Array Value} {i : Addr} {n : Nat} (x : S.arr h items) (y : S.it h i n) : S.addr ≠ i := by
  cases S with
  | l a =>
    obtain ⟨o, ho, _, m, hd⟩ := (show h.IsList a items from x)
    obtain ⟨o', ho', _, hd'⟩ := (show h.IsListIter i a n from y)
    intro z
    have z' : a = i := z
    rw [z', ho'] at ho
    cases ho
    rw [hd] at hd'
    cases hd'
  | t a =>
    obtain ⟨o, ho, _, m, hd⟩ := (show h.IsTuple a items from x)
    obtain ⟨o', ho', _, hd'⟩ := (show h.IsTupleIter i a n from y)
    intro z
    have z' : a = i := z
    rw [z', ho'] at ho
    cases ho
    rw [hd] at hd'
    cases hd'
theorem arr_lt {S : Src} {h : Heap} {items : Array Value} (x : S.arr h items) : S.addr < h.objs.size := by
  cases S with
  | l a =>
    obtain ⟨o, ho, _⟩ := (show h.IsList a items from x)
    exact Heap.lt_size ho
  | t a =>
    obtain ⟨o, ho, _⟩ := (show h.IsTuple a items from x)
    exact Heap.lt_size ho
end Src
set_option maxHeartbeats 4000000 in
theorem meets_enum1 {v : Value} {o : Obj} {H : Heap → Prop} (B : Begins v o H) :
    Meets (Builtin.«enumerate.__new__» ⟨[.type "enumerate", v], []⟩) (fun _ R s => H s.heap ∧ R (.ok (.ret (.ref (s.heap.push o).objs.size)))
      { s with heap := (s.heap.push o).push { cls := .type "enumerate", data := .fields #[.none, .bool false, .ref s.heap.objs.size, rawInt 0, .none, .none] } }) :=
  .of_wp fun prog w A R s hs => by
    obtain ⟨hp, g, d, tk, os⟩ := s
    obtain ⟨hH, hR⟩ := hs
    have subs := sub_enumerate
    have iter : ∀ {A' : Around} {E : Value → Shared → Prop} {Q : Value → Shared → Prop}, Q (.ref hp.objs.size) ⟨hp.push o, g, d, tk, os⟩ → wpAny (model prog w) A' (pyIter v) Q E ⟨hp, g, d, tk, os⟩ := fun q => B.iter prog w _ _ _ _ hH q
    wp_walk using iter
    refine wpAny_stack_any fun _ => wpAny_pure ?_
    split
    · rename_i c _ _ _ _ _
      cases (c == Value.type "enumerate") <;> (wp_walk using iter; exact ⟨_, rfl, hR⟩)
    · wp_walk using iter
      exact ⟨_, rfl, hR⟩
theorem call_enum1 {prog : Program} {w : World} {A : Around} {E : Value → Shared → Prop} {s : Shared} {v : Value} {o : Obj} {H : Heap → Prop} {Q : Value → Shared → Prop} (B : Begins v o H) (hH : H s.heap)
    (h : ∀ h', IsEnum h' (s.heap.objs.size + 1) s.heap.objs.size 0 .none → h'.get? s.heap.objs.size = some o → (∀ b u, s.heap.get? b = some u → h'.get? b = some u) → Q (.ref (s.heap.objs.size + 1)) { s with heap := h' }) :
    wpAny (model prog w) A (call (.type "enumerate") [v]) Q E s := by
  refine callType_new F.called_enumerate (by decide) (F.typeCall_enumerate_1 _) (F.newCall_enumerate_1 _) (fun ob => F.args_object_init_2 ob _) F.entry_enumerate_new (meets_enum1 B) ⟨hH, ?_⟩
  have sz : (s.heap.push o).objs.size = s.heap.objs.size + 1 := Heap.size_push ..
  show _ ∧ _
  rw [sz]
  have e := Heap.get?_push_size (s.heap.push o) (o := { cls := .type "enumerate", data := .fields #[.none, .bool false, .ref s.heap.objs.size, rawInt 0, .none, .none] }) rfl
  rw [sz] at e
  exact ⟨⟨_, e, rfl⟩, h _ e (Heap.get?_push_of_some _ (Heap.get?_push_size _ B.free)) fun b u x => Heap.get?_push_of_some _ (Heap.get?_push_of_some _ x)⟩
/-! the turns -/
def Ien (K : PySem.W.Frag) (S : Src) (k0 : Int) : It :=
  ⟨fun n H => ∃ (xs : List V) (x : V), S.here K H xs ∧ xs[n]? = some x, fun n H v H' => ∃ T x, v = .ref T ∧ H T = none ∧ H' = upd H T (.tup [.int (k0 + (n : Nat)), x]) ∧ ∀ xs, S.here K H xs → xs[n]? = some x, fun n H => ∃ xs : List V, S.here K H xs ∧ xs.length = n⟩
theorem turn_en {P : Program} {w : World} {K : PySem.W.Frag} {elts : List Expr} {kk : Nat} {tpos : Pos} (S : Src) (k0 : Int) (e i : Addr) :
    Turn P w K (.Tuple elts kk tpos) (Ien K S k0) [e, i] e (fun n h => (∃ old, IsEnum h e i (k0 + (n : Nat)) old) ∧ S.it h i n ∧ e ≠ i) where
  mem := List.mem_cons_self
  obj := fun n h st b hb => by
    obtain ⟨⟨old, he⟩, hi, _⟩ := st
    rcases List.mem_cons.mp hb with z | z
    · subst z
      exact ⟨_, he, fun v q => nomatch q⟩
    · have z' : b = i := by simpa using z
      subst z'
      exact Src.it_obj hi
  keep := fun n h h' st k => by
    obtain ⟨⟨old, he⟩, hi, ne⟩ := st
    exact ⟨⟨old, k e (by simp) _ he⟩, Src.it_at hi fun o q => k i (by simp) o q, ne⟩
  item := by
    intro X hP hw hK hc n pins s σ H E I hf st hg
    subst hP hw hK
    obtain ⟨⟨old, he⟩, hi, ne⟩ := st
    obtain ⟨xs, x, hq, hx⟩ := hg
    obtain ⟨its, rv, har⟩ := Src.inv I hq
    obtain ⟨u, hu, ru⟩ := rv.get hx
    obtain ⟨oi, hoi, _⟩ := Src.it_obj hi
    have hh : X.A.in1.handled = none := I.ok.hd hc
    have a1 : S.addr ≠ e := Src.arr_ne har he (fun _ _ q => nomatch q)
    have a2 := Src.arr_it har hi
    have Wk := WalksT.enumFrom k0 (Src.draws (prog := X.prog) (w := X.w) hh S i a2 its.toArray) e ne (by simp only [List.mem_cons, List.not_mem_nil, or_false, not_or]; exact ⟨ne, fun z => a1 z.symm⟩) (by simp)
    have ln : n < its.toArray.size := by
      have := (List.getElem?_eq_some_iff.mp hu).1
      simpa using this
    refine Wk.item n s _ E ln ⟨⟨old, he⟩, hi, har⟩ fun T vals h' tk hP hT hTup hMid hk => ⟨_, rfl, Wk.go elts kk tpos n T _ _ _ hMid fun h2 hSt hk2 => ?_⟩
    obtain ⟨t, x', hx', hvals⟩ := hP
    subst hvals
    have ex : x' = u := by
      have q : its.toArray[n]? = some u := by simpa using hu
      rw [hx'] at q
      exact Option.some.inj q
    subst ex
    have out := Wk.apart n T _ hMid
    have tup2 : h2.IsTuple T #[.int (k0 + (n : Nat)) t, x'] := hTup.at fun o q => hk2 T o out q
    have new : ObjOk X.prog X.w (upd H T (.tup [.int (k0 + (n : Nat)), x])) h2 T (.tup [.int (k0 + (n : Nat)), x]) :=
      ⟨by show 2 ≤ sizeLine; decide, [.int (k0 + (n : Nat)) t, x'], .cons ⟨_, rfl⟩ (.cons ru .nil), tup2⟩
    have J := I.turnedNew (t' := tk) (ch := [e, i]) (fun b ob hb q => hk2 b ob hb (hk b ob hb q)) hf hT new
    refine ⟨.ref T, _, J, rfl, ⟨T, x, rfl, I.hok.fresh hT, rfl, fun ys hy => by rw [Src.inj I hy hq]; exact hx⟩, ?_, fun b hb => ?_⟩
    · obtain ⟨⟨o2, he2⟩, hi2, _⟩ := hSt
      have en : k0 + ((n + 1 : Nat) : Int) = k0 + (n : Nat) + 1 := by push_cast; omega
      exact ⟨⟨o2, by first | exact he2 | (rw [en]; exact he2)⟩, hi2, ne⟩
    · have hb' : b < s.heap.objs.size := by
        rcases List.mem_cons.mp hb with z | z
        · rw [z]; exact Heap.lt_size he
        · have z' : b = i := by simpa using z
          rw [z']; exact Heap.lt_size hoi
      rw [upd_ne (Nat.ne_of_lt (Nat.lt_of_lt_of_le hb' hT))]
      exact (hf b hb).1
  done := by
    intro X hP hw hK hc n pins s σ H E I hf st hg
    subst hP hw hK
    obtain ⟨⟨old, he⟩, hi, ne⟩ := st
    obtain ⟨xs, hq, hx⟩ := hg
    obtain ⟨its, rv, har⟩ := Src.inv I hq
    have hh : X.A.in1.handled = none := I.ok.hd hc
    have a1 : S.addr ≠ e := Src.arr_ne har he (fun _ _ q => nomatch q)
    have Wk := WalksT.enumFrom k0 (Src.draws (prog := X.prog) (w := X.w) hh S i (Src.arr_it har hi) its.toArray) e ne (by simp only [List.mem_cons, List.not_mem_nil, or_false, not_or]; exact ⟨ne, fun z => a1 z.symm⟩) (by simp)
    have en : its.toArray.size = n := by rw [List.size_toArray, ← rv.length]; exact hx
    rw [en] at Wk
    exact Wk.done s _ E ⟨⟨old, he⟩, hi, har⟩ fun h' tk hk => ⟨rfl, I.turnedL (t' := tk) (ch := [e, i]) (fun b ob hb q => hk b ob hb q) hf⟩
  self := fun A n s Q E st h => by
    obtain ⟨⟨_, he⟩, _⟩ := st
    exact wpAny_pyIter_enum he h
end Bk

set_option Elab.async false
set_option linter.all false
set_option maxRecDepth 100000
set_option maxHeartbeats 2000000
namespace Bk
open PySem PySem.Spec PyProof.Rows L2
def enumL (k : Int) : List D → List D
  | [] => []
  | d :: ds => .tup [.int k, d] :: enumL (k + 1) ds
theorem enumL_len : ∀ (ds : List D) (k : Int), (enumL k ds).length = ds.length
  | [], _ => rfl
  | d :: ds, k => by simp [enumL, enumL_len ds]
theorem enumL_get : ∀ (ds : List D) (k : Int) (i : Nat) (x : D), (enumL k ds)[i]? = some x → ∃ d, ds[i]? = some d ∧ x = .tup [.int (k + (i : Nat)), d]
  | [], _, _, _, h => by simp [enumL] at h
  | d :: ds, k, 0, x, h => by
    simp [enumL] at h
    exact ⟨d, rfl, by rw [← h]; simp⟩
  | d :: ds, k, i + 1, x, h => by
    simp only [enumL, List.getElem?_cons_succ] at h
    obtain ⟨d', h1, h2⟩ := enumL_get ds (k + 1) i x h
    refine ⟨d', by simpa using h1, ?_⟩
    rw [h2]
    congr 3
    push_cast
    omega
def zipL : List D → List D → List D
  | d :: ds, e :: es => .tup [d, e] :: zipL ds es
  | _, _ => []
theorem zipL_len : ∀ (ds es : List D), (zipL ds es).length = min ds.length es.length
  | [], _ => by simp [zipL]
  | _ :: _, [] => by simp [zipL]
  | d :: ds, e :: es => by
    simp only [zipL, List.length_cons, zipL_len ds es]
    omega
theorem zipL_get : ∀ (ds es : List D) (i : Nat) (x : D), (zipL ds es)[i]? = some x → ∃ d e, ds[i]? = some d ∧ es[i]? = some e ∧ x = .tup [d, e]
  | [], _, _, _, h => by simp [zipL] at h
  | _ :: _, [], _, _, h => by simp [zipL] at h
  | d :: ds, e :: es, 0, x, h => by
    simp [zipL] at h
    exact ⟨d, e, rfl, rfl, h.symm⟩
  | d :: ds, e :: es, i + 1, x, h => by
    simp only [zipL, List.getElem?_cons_succ] at h
    obtain ⟨d', e', h1, h2, h3⟩ := zipL_get ds es i x h
    exact ⟨d', e', by simpa using h1, by simpa using h2, h3⟩
def gEnum (ge : GE) : GI := fun Γ M => (ge Γ M).bind fun d M1 => opR ((seqD d).map (enumL 0)) M1
def gEnumK (ge : GE) (gk : GE) : GI := fun Γ M => (ge Γ M).bind fun d M1 => (gk Γ M1).bind fun k M2 => match k with
  | .int k => if decide (-(2 ^ 63) ≤ k) && decide (k < 2 ^ 63) then opR ((seqD d).map (enumL k)) M2 else .bad
  | _ => .bad
def zipO (x y : D) : Option (List D) := match seqD x, seqD y with
  | some ds, some es => some (zipL ds es)
  | _, _ => none
def gZip (ga gb : GE) : GI := fun Γ M => (ga Γ M).bind fun x M1 => (gb Γ M1).bind fun y M2 => opR (zipO x y) M2
section
variable {X : Cx} {C : CT} {W : WX} {e e2 : Expr} {ge ga gb gk : GE} {p pos tpos : Pos} {elts : List Expr} {kk : Nat}
theorem src_of {K : PySem.W.Frag} {H Z : Hp} {ι : Nat → Addr} {n : Nat} {d : D} {ds : List D} {v : V} (hs : Sub Z H) (r : Rp K Z ι n d v) (h : seqD d = some ds) : ∃ (S : Src) (xs : List V), v = .ref S.addr ∧ S.here K Z xs ∧ Rps K Z ι n ds xs := by
  cases r with
  | lst s r => cases h; exact ⟨.l _, _, rfl, s.sq, r⟩
  | tup s r => cases h; exact ⟨.t _, _, rfl, s, r⟩
  | ptu s r => cases h; exact ⟨.t _, _, rfl, s.sq, r⟩
  | _ => cases h
theorem here_sub {K : PySem.W.Frag} {Z H : Hp} (h : Sub Z H) {S : Src} {xs : List V} : S.here K Z xs → S.here K H xs := by
  cases S with
  | l a =>
    intro q
    rcases (show SqL K Z a xs from q) with (q | ⟨o, q⟩) | q
    · exact .inl (.inl (h _ _ q))
    · exact .inl (.inr ⟨o, h _ _ q⟩)
    · exact .inr q
  | t a => exact fun q => subT h q
theorem itr_en {K : PySem.W.Frag} {Z : Hp} {ι : Nat → Addr} {n : Nat} {S : Src} {xs : List V} {ds : List D} {k : Int} (s : S.here K Z xs) (r : Rps K Z ι n ds xs) : ItR K (Ien K S k) (enumL k ds) Z ι n := by
  intro i H' Z' ι' M' hz hi hn hr _
  have sH : S.here K H' xs := here_sub (fun a o h => hr.sub _ _ (hz _ _ h)) s
  refine ⟨fun hl => ⟨xs, sH, by rw [← r.length, ← enumL_len ds k]; exact hl⟩, fun d hd => ?_⟩
  obtain ⟨d0, h1, rfl⟩ := enumL_get ds k i d hd
  obtain ⟨v, hv, rv⟩ := r.get h1
  refine ⟨⟨xs, v, sH, hv⟩, fun x H2 hy => ?_⟩
  obtain ⟨T, x', rfl, hT, rfl, hx⟩ := hy
  have ex : xs[i]? = some x' := hx _ sH
  rw [hv] at ex
  cases ex
  obtain ⟨q1, q2⟩ := hr.frozen (o := .tup [.int (k + (i : Nat)), v]) hT
  refine ⟨_, q2, q1, .tup (.inl (.inl upd_same)) (.cons (.int _) (.cons ?_ .nil))⟩
  exact Rp.ext (Rp.mono hz hi hn _ _ rv) q2
theorem qi_enum (hg : Gl X "enumerate") (hm : X.mg "enumerate" = none) (ha : QE X C W e ge) (hs : starEach [e] X.env = (false, eval e X.env) :: starEach [] X.env := by rfl) : QI X C W (.Tuple elts kk tpos) (.Call (.Name "enumerate" p) [e] [] pos) (gEnum ge) := by
  obtain ⟨ta, pa, qa⟩ := ha
  refine ⟨fun σ H R => ta σ H fun v H1 => ∃ (S : Src) (xs : List V), v = .ref S.addr ∧ S.here X.K H1 xs ∧ R (Ien X.K S 0) H1, ⟨fun pins s σ H R I h => ?_⟩, fun σ H Z ι Γ M Q sl hr h => qa σ H Z ι Γ M _ sl hr (Post.bind h fun x M1 v H1 Z1 ι1 e1 hr1 r1 h1 => ?_)⟩
  · refine Call_ (ld_blt I hg hm boot_enumerate (PyProof.Rows.callWith_type1 (thn ((pa_cons pa pa_nil hs).run pos pins s σ H (fun vs H1 => ∃ v, vs = [v] ∧ ∃ (S : Src) (xs : List V), v = .ref S.addr ∧ S.here X.K H1 xs ∧ R (Ien X.K S 0) H1) I ?_) fun us s1 hh => ?_) hs rfl))
    · have hmono : (fun x H1 => tNil σ H1 fun xs H2 => ∃ v, x :: xs = [v] ∧ ∃ (S : Src) (ys : List V), v = .ref S.addr ∧ S.here X.K H2 ys ∧ R (Ien X.K S 0) H2) = fun (v : V) (H1 : Hp) => ∃ (S : Src) (xs : List V), v = .ref S.addr ∧ S.here X.K H1 xs ∧ R (Ien X.K S 0) H1 := by
        funext x H1
        apply propext
        constructor
        · rintro ⟨v, ev, q⟩
          cases ev
          exact q
        · intro q
          exact ⟨x, rfl, q⟩
      show ta σ H fun x H1 => tNil σ H1 fun xs H2 => ∃ v, x :: xs = [v] ∧ ∃ (S : Src) (ys : List V), v = .ref S.addr ∧ S.here X.K H2 ys ∧ R (Ien X.K S 0) H2
      rw [hmono]
      exact h
    · obtain ⟨vs, H1, J, r1, v, rfl, S, xs, rfl, hq, q⟩ := hh
      obtain ⟨u, rfl, ru⟩ := Vals.one r1
      cases ru
      obtain ⟨its, rv, har⟩ := Src.inv J hq
      refine call_enum1 (S.begins its.toArray) har fun h' he hit hk => wpAny_pyIter_enum he ?_
      have J2 : Inv X pins σ H1 { s1 with heap := h' } := J.kept (t' := s1.toks) hk
      refine ⟨s1.heap.objs.size + 1, [s1.heap.objs.size + 1, s1.heap.objs.size], _, _, H1, rfl, J2, turn_en S 0 (s1.heap.objs.size + 1) s1.heap.objs.size, ⟨⟨.none, by simpa using he⟩, Src.start hit, Nat.succ_ne_self _⟩, fun b hb => ?_, q⟩
      have le : s1.heap.objs.size ≤ b := by
        rcases List.mem_cons.mp hb with z | z
        · rw [z]; exact Nat.le_succ _
        · have z' : b = s1.heap.objs.size := by simpa using z
          rw [z']
          exact Nat.le_refl _
      exact J.fpOk le (J.hok.fresh le)
  · obtain ⟨items, hd, h2⟩ := Post.of_opR (γ := D) (δ := V) h1
    cases es : seqD x with
    | none => rw [es] at hd; cases hd
    | some ds =>
      rw [es] at hd
      cases hd
      obtain ⟨S, xs, rfl, hS, r⟩ := src_of hr1.sub r1 es
      exact ⟨S, xs, rfl, here_sub hr1.sub hS, h2 _ H1 Z1 ι1 .refl hr1 (itr_en hS r)⟩
theorem qi_enumK (hg : Gl X "enumerate") (hm : X.mg "enumerate" = none) (ha : QE X C W e ge) (hb : QE X C W e2 gk) (hs : starEach [e, e2] X.env = (false, eval e X.env) :: starEach [e2] X.env := by rfl) (hs2 : starEach [e2] X.env = (false, eval e2 X.env) :: starEach [] X.env := by rfl)
    (hpl : (backTo pos (starEach [e2] X.env)).any (·.1) = false := by rfl) : QI X C W (.Tuple elts kk tpos) (.Call (.Name "enumerate" p) [e, e2] [] pos) (gEnumK ge gk) := by
  obtain ⟨ta, pa, qa⟩ := ha
  obtain ⟨tb, pb, qb⟩ := hb
  refine ⟨fun σ H R => ta σ H fun v H1 => tb σ H1 fun u H2 => ∃ (S : Src) (xs : List V) (k : Int), v = .ref S.addr ∧ u = .int k ∧ S.here X.K H2 xs ∧ -(2 ^ 63) ≤ k ∧ k < 2 ^ 63 ∧ R (Ien X.K S k) H2, ⟨fun pins s σ H R I h => ?_⟩,
    fun σ H Z ι Γ M Q sl hr h => qa σ H Z ι Γ M _ sl hr (Post.bind h fun x M1 v H1 Z1 ι1 e1 hr1 r1 h1 => qb σ H1 Z1 ι1 Γ M1 _ (sl.ext e1) hr1 (h1.bind fun y M2 u H2 Z2 ι2 e2 hr2 r2 h2 => ?_))⟩
  · refine Call_ (ld_blt I hg hm boot_enumerate (PyProof.Rows.callWith_type1 (thn ((pa_cons pa (pa_cons pb pa_nil hs2) hs).run pos pins s σ H (fun vs H1 => ∃ v u, vs = [v, u] ∧ ∃ (S : Src) (xs : List V) (k : Int), v = .ref S.addr ∧ u = .int k ∧ S.here X.K H1 xs ∧ -(2 ^ 63) ≤ k ∧ k < 2 ^ 63 ∧ R (Ien X.K S k) H1) I ?_) fun us s1 hh => ?_) hs hpl))
    · have hmono : (fun x H1 => tb σ H1 fun y H2 => tNil σ H2 fun ys H3 => ∃ v u, x :: y :: ys = [v, u] ∧ ∃ (S : Src) (xs : List V) (k : Int), v = .ref S.addr ∧ u = .int k ∧ S.here X.K H3 xs ∧ -(2 ^ 63) ≤ k ∧ k < 2 ^ 63 ∧ R (Ien X.K S k) H3) =
          fun (v : V) (H1 : Hp) => tb σ H1 fun u H2 => ∃ (S : Src) (xs : List V) (k : Int), v = .ref S.addr ∧ u = .int k ∧ S.here X.K H2 xs ∧ -(2 ^ 63) ≤ k ∧ k < 2 ^ 63 ∧ R (Ien X.K S k) H2 := by
        funext x H1
        congr 1
        funext y H2
        apply propext
        constructor
        · rintro ⟨v, u, ev, q⟩
          cases ev
          exact q
        · intro q
          exact ⟨x, y, rfl, q⟩
      show ta σ H fun x H1 => tb σ H1 fun y H2 => tNil σ H2 fun ys H3 => ∃ v u, x :: y :: ys = [v, u] ∧ ∃ (S : Src) (xs : List V) (k : Int), v = .ref S.addr ∧ u = .int k ∧ S.here X.K H3 xs ∧ -(2 ^ 63) ≤ k ∧ k < 2 ^ 63 ∧ R (Ien X.K S k) H3
      rw [hmono]
      exact h
    · obtain ⟨vs, H1, J, r1, v, u, rfl, S, xs, k, rfl, rfl, hq, k1, k2, q⟩ := hh
      obtain ⟨u1, u2, rfl, ru, ru2⟩ := Vals.two r1
      cases ru
      obtain ⟨tk, rfl⟩ := ru2
      obtain ⟨its, rv, har⟩ := Src.inv J hq
      refine enum_begins (S.begins its.toArray) har k1 k2 fun h' he hit _ hk => wpAny_pyIter_enum he ?_
      have J2 : Inv X pins σ H1 { s1 with heap := h' } := J.kept (t' := s1.toks) hk
      refine ⟨s1.heap.objs.size + 1, [s1.heap.objs.size + 1, s1.heap.objs.size], _, _, H1, rfl, J2, turn_en S k (s1.heap.objs.size + 1) s1.heap.objs.size, ⟨⟨.none, by simpa using he⟩, Src.start hit, Nat.succ_ne_self _⟩, fun b hb => ?_, q⟩
      have le : s1.heap.objs.size ≤ b := by
        rcases List.mem_cons.mp hb with z | z
        · rw [z]; exact Nat.le_succ _
        · have z' : b = s1.heap.objs.size := by simpa using z
          rw [z']
          exact Nat.le_refl _
      exact J.fpOk le (J.hok.fresh le)
  · cases r2 with
    | int k =>
      have h3 : Post X C W (rpI X.K) σ H2 Z2 ι2 M2 (if decide (-(2 ^ 63) ≤ k) && decide (k < 2 ^ 63) then opR ((seqD x).map (enumL k)) M2 else .bad) Q := h2
      by_cases c : (decide (-(2 ^ 63) ≤ k) && decide (k < 2 ^ 63)) = true
      · rw [if_pos c] at h3
        simp only [Bool.and_eq_true, decide_eq_true_eq] at c
        obtain ⟨items, hd, h4⟩ := Post.of_opR (γ := D) (δ := V) h3
        cases es : seqD x with
        | none => rw [es] at hd; cases hd
        | some ds =>
          rw [es] at hd
          cases hd
          obtain ⟨S, xs, rfl, hS, r⟩ := src_of hr2.sub (r1.ext e2) es
          exact ⟨S, xs, k, rfl, rfl, here_sub hr2.sub hS, c.1, c.2, h4 _ H2 Z2 ι2 .refl hr2 (itr_en hS r)⟩
      · rw [if_neg c] at h3
        exact h3.elim
    | _ => exact h2.elim
end
end Bk

set_option Elab.async false
set_option linter.all false
set_option maxRecDepth 100000
set_option maxHeartbeats 2000000
namespace Bk
open PySem PySem.Spec PyProof.Rows L2
/-! ### a comprehension over a list of ours, which it leaves as it is -/
def Pure {α : Type} (g : Env → List MO → R α) : Prop := ∀ (Γ : Env) (M : List MO) (d : α) (M' : List MO), g Γ M = .ok d M' → M' = M
theorem R.bind_ok {α β : Type} {r : R α} {f : α → List MO → R β} {b : β} {M' : List MO} (h : r.bind f = .ok b M') : ∃ a M1, r = .ok a M1 ∧ f a M1 = .ok b M' := by
  cases r with
  | ok a M1 => exact ⟨a, M1, rfl, h⟩
  | exc c d M1 => cases h
  | bad => cases h
theorem opR_ok {α : Type} {o : Option α} {M M' : List MO} {a : α} (h : opR o M = .ok a M') : M' = M := by
  cases o with
  | none => cases h
  | some a => cases h; rfl
theorem pure_v (i : Nat) : Pure (gV i) := fun Γ M d M' h => by
  unfold gV at h
  split at h <;> cases h
  rfl
theorem pure_c (d : D) : Pure (gC d) := fun Γ M d M' h => by cases h; rfl
theorem pure_op1 {f : List MO → D → Option D} {ga : GE} (h1 : Pure ga) : Pure (gOp1 f ga) := fun Γ M d M' h => by
  obtain ⟨a, M1, e1, h⟩ := R.bind_ok h
  rw [opR_ok h, h1 _ _ _ _ e1]
theorem pure_op2 {f : List MO → D → D → Option D} {ga gb : GE} (h1 : Pure ga) (h2 : Pure gb) : Pure (gOp2 f ga gb) := fun Γ M d M' h => by
  obtain ⟨a, M1, e1, h⟩ := R.bind_ok h
  obtain ⟨b, M2, e2, h⟩ := R.bind_ok h
  rw [opR_ok h, h2 _ _ _ _ e2, h1 _ _ _ _ e1]
theorem pure_yes : Pure gYes := fun Γ M d M' h => by cases h; rfl
theorem pure_val {ga : GE} (h1 : Pure ga) : Pure (gVal ga) := fun Γ M d M' h => by
  obtain ⟨a, M1, e1, h⟩ := R.bind_ok h
  rw [opR_ok h, h1 _ _ _ _ e1]
theorem pure_notT {ga : GT} (h1 : Pure ga) : Pure (gNotT ga) := fun Γ M d M' h => by
  obtain ⟨a, M1, e1, h⟩ := R.bind_ok h
  cases h
  exact h1 _ _ _ _ e1
theorem pure_nil : Pure gNil := fun Γ M d M' h => by cases h; rfl
theorem pure_cons {ga : GE} {gs : GA} (h1 : Pure ga) (h2 : Pure gs) : Pure (gCons ga gs) := fun Γ M d M' h => by
  obtain ⟨a, M1, e1, h⟩ := R.bind_ok h
  obtain ⟨b, M2, e2, h⟩ := R.bind_ok h
  cases h
  rw [h2 _ _ _ _ e2, h1 _ _ _ _ e1]
theorem pure_tup {gs : GA} (h1 : Pure gs) : Pure (gTup gs) := fun Γ M d M' h => by
  obtain ⟨a, M1, e1, h⟩ := R.bind_ok h
  split at h
  · cases h
    exact h1 _ _ _ _ e1
  · cases h
theorem pure_call {f : List MO → List D → Option D} {gs : GA} (h1 : Pure gs) : Pure (gCall f gs) := fun Γ M d M' h => by
  obtain ⟨a, M1, e1, h⟩ := R.bind_ok h
  rw [opR_ok h, h1 _ _ _ _ e1]
def gLcW (ge : GE) (gg : GG) (gt : GT) (gel : GE) (own : List Nat) : GE := fun Γ M => (ge Γ M).bind fun d M1 => match d with
  | .ref k => match M1[k]? with
    | some (.lst ds) => (gLcL gg gt gel (forget Γ own) ds [] M1).bind fun acc M2 => .ok (.lst acc) M2
    | _ => .bad
  | _ => .bad
theorem itr_o {K : PySem.W.Frag} {Z : Hp} {ι : Nat → Addr} {n k : Nat} {ds : List D} (hk : k < n) : ItC (fun M => M[k]? = some (.lst ds)) K (Itl K (ι k)) ds Z ι n := by
  intro i H' Z' ι' M' hz hi hn hr hM
  obtain ⟨xs, e1, r⟩ := hr.obj k _ hM
  rw [hi k hk] at e1
  have sH : SqL K H' (ι k) xs := .of e1
  refine ⟨fun hl => ⟨xs, sH, by rw [← r.length]; exact Nat.le_of_eq hl⟩, fun d hd => ?_⟩
  obtain ⟨v, hv, rv⟩ := r.get hd
  refine ⟨⟨xs, v, sH, hv⟩, fun x H2 hy => ?_⟩
  obtain ⟨rfl, hx⟩ := hy
  have ex : xs[i]? = some x := hx _ sH
  rw [hv] at ex
  cases ex
  exact ⟨Z', .refl, hr, rv⟩
section
variable {X : Cx} {C : CT} {W : WX} {elt tg iter : Expr} {ifs : List Expr} {scope : Scope} {own : List (Str × Nat)} {pos : Pos} {gi : GE} {gg : GG} {gt : GT} {ge : GE} {is ixs : List Nat}
theorem qe_lcW (hc : X.calm = true) (hN : X.N.Nodup) (hi : QE X C W iter gi) (ok : BlkOk X.N X.env.scope scope own) (hg : Blk X scope fun Y => QG Y tg gg is) (ht : Blk X scope fun Y => QTs Y C noW ifs gt) (he : Blk X scope fun Y => QE Y C noW elt ge)
    (p1 : Pure gt) (p2 : Pure ge) (hix : ixs = own.map (·.2) := by rfl) (hsub : ∀ i ∈ is, i ∈ own.map (·.2) := by decide) (hs : ∀ x, foldedSetIterable iter X.env x = pure x := by intro _; rfl) : QE X C W (.ListComp elt [⟨tg, iter, ifs, 0⟩] scope pos) (gLcW gi gg gt ge ixs) := by
  subst hix
  obtain ⟨ta, pa, qa⟩ := hi
  refine ⟨_, pe_lc hc hN (pi_seq pa) ok (blk_g hg) (blk_t ht) (blk_e he) hs, fun σ H Z ι Γ M Q sl hr h => qa σ H Z ι Γ M _ sl hr (Post.bind h fun x M1 v H1 Z1 ι1 e1 hr1 r1 h1 => ?_)⟩
  cases r1 with
  | ref hk =>
    rename_i k
    have h2 : Post X C W (rpE X.K) σ H1 Z1 ι1 M1 (match M1[k]? with
      | some (.lst ds) => (gLcL gg gt ge (forget Γ (own.map (·.2))) ds [] M1).bind fun acc M2 => .ok (.lst acc) M2
      | _ => .bad) Q := h1
    cases e2 : M1[k]? with
    | none => rw [e2] at h2; exact h2.elim
    | some o =>
      rw [e2] at h2
      cases o with
      | dead => exact h2.elim
      | dct ks0 vs0 => exact h2.elim
      | dki kvs0 => exact h2.elim
      | obj nm fs => exact h2.elim
      | lst ds =>
        obtain ⟨xs, a1, a2⟩ := hr1.obj k _ e2
        refine ⟨ι1 k, rfl, .inl ⟨⟨xs, .of a1⟩, fun p hp => ?_⟩⟩
        exact gLcL_run hsub (slots_wipe _ (sl.ext e1)) (itr_o hk) e2 (fun Γ M d M' e c => by rw [p1 _ _ _ _ e]; exact c) (fun Γ M d M' e c => by rw [p2 _ _ _ _ e]; exact c) hp hr1 h2
          fun acc accV M' H' Z' ι' b1 b2 b3 b4 b5 b6 => fin_z hp b1 b2 b3 b4 b5 b6
  | _ => exact h1.elim
end
end Bk
namespace Bk
open PySem PySem.Spec PyProof.Rows L2
theorem qs_pre {X : Cx} {C : CT} {W : WX} {st : Stmt} {g : GS} (is : List Nat) (h1 : QS X C W st g) : QS X C W st (gSeq (gForget is) g) := by
  obtain ⟨t, p, q⟩ := h1
  exact ⟨t, p, fun Dd σ H Z ι Γ M sl hr h => q Dd σ H Z ι (forget Γ is) M (sl.forget is) hr h⟩
end Bk

set_option Elab.async false
set_option linter.all false
set_option maxRecDepth 100000
set_option maxHeartbeats 2000000
namespace Bk
open PySem PySem.Spec PyProof.Rows L2
/-! ### ==, for texts of any kind as well -/
def dEqA (M : List MO) (x y : D) : Option D := match x, y with
  | .str a, .str b => some (.bl (decide (a = b)))
  | x, y => dEq M x y
def dNeA (M : List MO) (x y : D) : Option D := match x, y with
  | .str a, .str b => some (.bl (!decide (a = b)))
  | x, y => dNe M x y
section
variable {X : Cx}
theorem op_eqA (hu : X.A.units + 64 < cLine) : OpR X (compareOp .Eq) (fun x y H Q => rEqD X.K x y H Q ∨ rEq x y H Q) := (op_eqD hu).or op_eq
theorem op_neA (hu : X.A.units + 64 < cLine) : OpR X (compareOp .NotEq) (fun x y H Q => rNeD X.K x y H Q ∨ rNe x y H Q) := (op_neD hu).or op_ne
theorem str_dec (a b : Str) : decide (V.str a = V.str b) = decide (a = b) := by simp
theorem ok_eqA : Ok2 X (fun x y H Q => rEqD X.K x y H Q ∨ rEq x y H Q) dEqA := fun x y H Z ι M dx dy d Q hr rx ry e q => by
  unfold dEqA at e
  split at e
  · cases e
    cases rx
    cases ry
    exact .inr ⟨rfl, q.now hr (by rw [str_dec]; exact .bl _)⟩
  · exact .inl (ok_eq x y H Z ι M dx dy d Q hr rx ry e q)
theorem ok_neA : Ok2 X (fun x y H Q => rNeD X.K x y H Q ∨ rNe x y H Q) dNeA := fun x y H Z ι M dx dy d Q hr rx ry e q => by
  unfold dNeA at e
  split at e
  · cases e
    cases rx
    cases ry
    exact .inr ⟨rfl, q.now hr (by rw [str_dec]; exact .bl _)⟩
  · exact .inl (ok_ne x y H Z ι M dx dy d Q hr rx ry e q)
end
@[simp] theorem e_eqS (M : List MO) (a b : Str) : dEqA M (.str a) (.str b) = some (.bl (decide (a = b))) := Eq.trans rfl rfl
@[simp] theorem e_neS (M : List MO) (a b : Str) : dNeA M (.str a) (.str b) = some (.bl (!decide (a = b))) := Eq.trans rfl rfl
/-! ### data that is as it is -/
structure Dt (n : Nat) (d : D) (p : PyData) : Prop where
  e : toP d = some p
  l : p.canLay0 = true
  h : p.depth ≤ n
structure Dts (n : Nat) (ds : List D) (ps : List PyData) : Prop where
  e : toPs ds = some ps
  l : PyData.canLayAll0 ps = true
  h : PyData.depthAll ps ≤ n
theorem Dt.int (n : Nat) (i : Int) : Dt n (.int i) (.int i) := ⟨rfl, rfl, Nat.zero_le _⟩
theorem Dt.non (n : Nat) : Dt n .non .none := ⟨rfl, rfl, Nat.zero_le _⟩
theorem Dt.bl (n : Nat) (b : Bool) : Dt n (.bl b) (.bool b) := ⟨rfl, rfl, Nat.zero_le _⟩
theorem Dts.nil (n : Nat) : Dts n [] [] := ⟨rfl, rfl, Nat.zero_le _⟩
theorem Dts.cons {n : Nat} {d : D} {ds : List D} {p : PyData} {ps : List PyData} (h : Dt n d p) (t : Dts n ds ps) : Dts n (d :: ds) (p :: ps) :=
  ⟨by simp [toPs, h.e, t.e], by simp [PyData.canLayAll0, h.l, t.l], by have := h.h; have := t.h; simp only [PyData.depthAll]; omega⟩
theorem Dts.tup {n : Nat} {ds : List D} {ps : List PyData} (h : Dts n ds ps) : Dt (n + 1) (.tup ds) (.tuple ps) := ⟨by simp [toP, h.e], by simpa [PyData.canLay0] using h.l, by have := h.h; simp only [PyData.depth]; omega⟩
theorem Dts.lst {n : Nat} {ds : List D} {ps : List PyData} (h : Dts n ds ps) : Dt (n + 1) (.lst ds) (.list ps) := ⟨by simp [toP, h.e], by simpa [PyData.canLay0] using h.l, by have := h.h; simp only [PyData.depth]; omega⟩
theorem Dts.map {α : Type} {n : Nat} {f : α → D} {g : α → PyData} (xs : List α) (h : ∀ x ∈ xs, Dt n (f x) (g x)) : Dts n (xs.map f) (xs.map g) := by
  induction xs with
  | nil => exact .nil n
  | cons x xs ih => exact .cons (h x (by simp)) (ih fun y hy => h y (by simp [hy]))
theorem Dts.ints (n : Nat) (is : List Int) : Dts n (is.map D.int) (is.map PyData.int) := Dts.map is fun i _ => .int n i
theorem Dt.shaped {n : Nat} {d : D} {p : PyData} (h : Dt n d p) (hn : n ≤ 64) : SeqAt.shaped p = true := by
  have := h.h
  simp [SeqAt.shaped, h.l]
  omega
theorem eqP_of {n m : Nat} {M : List MO} {x y d d' : D} {p q : PyData} (h : Dt n d p) (h' : Dt m d' q) (hx : deref M x = d) (hy : deref M y = d') (hn : n ≤ 64) (hm : m ≤ 64) : eqP M x y = some (PyData.eqv p q) := by
  unfold eqP
  rw [hx, hy, h.e, h'.e]
  simp [h.shaped hn, h'.shaped hm]
theorem eqv_same {p : PyData} (h : p.canLay0 = true) : PyData.eqv p p = true := SeqAt.eqv_refl p h
theorem eqP_same {n : Nat} {M : List MO} {x y d : D} {p : PyData} (h : Dt n d p) (hx : deref M x = d) (hy : deref M y = d) (hn : n ≤ 64) : eqP M x y = some true := by
  rw [eqP_of h h hx hy hn hn, eqv_same h.l]
theorem dEqA_p {M : List MO} {x y : D} {b : Bool} (h : eqP M x y = some b) (hx : ∀ s, x ≠ .str s) : dEqA M x y = some (.bl b) := by
  unfold dEqA
  split
  · exact absurd rfl (hx _)
  · simp [dEq, h]
theorem dNeA_p {M : List MO} {x y : D} {b : Bool} (h : eqP M x y = some b) (hx : ∀ s, x ≠ .str s) : dNeA M x y = some (.bl !b) := by
  unfold dNeA
  split
  · exact absurd rfl (hx _)
  · simp [dNe, h]
@[simp] theorem dEqA_int (M : List MO) (i j : Int) : dEqA M (.int i) (.int j) = some (.bl (decide (i = j))) := by
  rw [dEqA_p (eqP_of (Dt.int 0 i) (Dt.int 0 j) rfl rfl (by decide) (by decide)) (fun _ h => by cases h)]
  simp only [PyData.eqv]
  congr 2
  try rfl
@[simp] theorem dNeA_int (M : List MO) (i j : Int) : dNeA M (.int i) (.int j) = some (.bl (!decide (i = j))) := by
  rw [dNeA_p (eqP_of (Dt.int 0 i) (Dt.int 0 j) rfl rfl (by decide) (by decide)) (fun _ h => by cases h)]
  simp only [PyData.eqv]
  congr 2
  try rfl
theorem deref_ref {M : List MO} {k : Nat} {ds : List D} (h : M[k]? = some (.lst ds)) : deref M (.ref k) = .lst (ds.map (deref1 M)) := by
  simp [deref, deref1, h]
mutual
theorem below_toP : ∀ (d : D) (p : PyData), toP d = some p → below 0 d = true
  | .non, _, _ => rfl
  | .bl _, _, _ => rfl
  | .int _, _, _ => rfl
  | .str _, _, _ => rfl
  | .tup ds, p, h => by
    cases e : toPs ds with
    | none => simp [toP, e] at h
    | some ps => simpa [below] using belows_toPs ds ps e
  | .lst ds, p, h => by
    cases e : toPs ds with
    | none => simp [toP, e] at h
    | some ps => simpa [below] using belows_toPs ds ps e
  | .ref _, _, h => by cases h
  | .dct _ _, _, h => by cases h
  | .ptu ds, p, h => by
    cases e : toPs ds with
    | none => simp [toP, e] at h
    | some ps => simpa [below] using belows_toPs ds ps e
theorem belows_toPs : ∀ (ds : List D) (ps : List PyData), toPs ds = some ps → belows 0 ds = true
  | [], _, _ => rfl
  | d :: ds, ps, h => by
    cases e1 : toP d with
    | none => simp [toPs, e1] at h
    | some p =>
      cases e2 : toPs ds with
      | none => simp [toPs, e1, e2] at h
      | some ps => simp [belows, below_toP d p e1, belows_toPs ds ps e2]
end
mutual
theorem below_up : ∀ {m : Nat} (d : D), below 0 d = true → below m d = true
  | _, .non, _ => rfl
  | _, .bl _, _ => rfl
  | _, .int _, _ => rfl
  | _, .str _, _ => rfl
  | m, .tup ds, h => by simpa [below] using belows_up ds (by simpa [below] using h)
  | m, .lst ds, h => by simpa [below] using belows_up ds (by simpa [below] using h)
  | _, .ref _, h => by simp [below] at h
  | m, .dct ks vs, h => by
    have h' : belows 0 ks = true ∧ belows 0 vs = true := by simpa [below] using h
    simp [below, belows_up ks h'.1, belows_up vs h'.2]
  | m, .ptu ds, h => by simpa [below] using belows_up ds (by simpa [below] using h)
theorem belows_up : ∀ {m : Nat} (ds : List D), belows 0 ds = true → belows m ds = true
  | _, [], _ => rfl
  | m, d :: ds, h => by
    simp only [belows, Bool.and_eq_true] at h ⊢
    exact ⟨below_up d h.1, belows_up ds h.2⟩
end
mutual
theorem flat_noref : ∀ (M : List MO) (d : D), below 0 d = true → deref1 M d = d
  | _, .non, _ => rfl
  | _, .bl _, _ => rfl
  | _, .int _, _ => rfl
  | _, .str _, _ => rfl
  | _, .tup _, _ => rfl
  | _, .lst _, _ => rfl
  | _, .ref _, h => by simp [below] at h
  | _, .dct _ _, _ => rfl
  | _, .ptu _, _ => rfl
end
theorem belows_all {m : Nat} (ds : List D) : belows m ds = ds.all (below m) := by
  induction ds with
  | nil => rfl
  | cons d ds ih => simp [belows, ih]
theorem map_deref {M : List MO} {ds : List D} (h : belows 0 ds = true) : ds.map (deref1 M) = ds := by
  rw [belows_all, List.all_eq_true] at h
  conv => rhs; rw [← List.map_id ds]
  exact List.map_congr_left fun d hd => flat_noref M d (h d hd)
theorem deref_flat {M : List MO} {d : D} (h : below 0 d = true) : deref M d = d := by
  unfold deref
  rw [flat_noref M d h]
  cases d with
  | lst ds =>
    show D.lst (ds.map (deref1 M)) = _
    rw [map_deref (by simpa [below] using h)]
  | _ => rfl
theorem Dt.below {n m : Nat} {d : D} {p : PyData} (h : Dt n d p) : below m d = true := below_up d (below_toP d p h.e)
theorem Dts.belows {n m : Nat} {ds : List D} {ps : List PyData} (h : Dts n ds ps) : belows m ds = true := belows_up ds (belows_toPs ds ps h.e)
theorem Dt.deref {n : Nat} {M : List MO} {d : D} {p : PyData} (h : Dt n d p) : deref M d = d := deref_flat h.below
theorem Dts.derefR {n : Nat} {M : List MO} {k : Nat} {ds : List D} {ps : List PyData} (h : Dts n ds ps) (hk : M[k]? = some (.lst ds)) : deref M (.ref k) = .lst ds := by rw [deref_ref hk, map_deref h.belows]
@[simp] theorem belows_ints (m : Nat) (is : List Int) : belows m (is.map D.int) = true := (Dts.ints 0 is).belows
/-! what repr writes is not too long -/
structure Sh (b : Nat) (p : PyData) : Prop where
  s : p.showable = true
  d : p.hasDict = false
  l : p.leavesShort 13 = true
  b : p.bulk ≤ b
structure Shs (b : Nat) (ps : List PyData) : Prop where
  s : PyData.showableAll ps = true
  d : PyData.hasDictAll ps = false
  l : PyData.leavesShortAll 13 ps = true
  b : PyData.bulkAll ps ≤ b
theorem Sh.int {i : Int} (h : i.natAbs < 10 ^ 12) : Sh 0 (.int i) := ⟨by
  have : i.natAbs.log2 < 1920 := by
    by_cases z : i.natAbs = 0
    · rw [z]; decide
    · have : i.natAbs.log2 < 40 := (Nat.log2_lt z).mpr (by omega)
      omega
  simp [PyData.showable, this], rfl, by simpa [PyData.leavesShort] using PyData.shown_int_le h, Nat.le_refl _⟩
theorem Sh.non : Sh 0 .none := ⟨rfl, rfl, rfl, Nat.le_refl _⟩
theorem Sh.bl (b : Bool) : Sh 0 (.bool b) := ⟨rfl, rfl, rfl, Nat.le_refl _⟩
theorem Shs.nil : Shs 0 [] := ⟨rfl, rfl, rfl, Nat.le_refl _⟩
theorem Shs.cons {b c : Nat} {p : PyData} {ps : List PyData} (h : Sh b p) (t : Shs c ps) : Shs (b + 1 + c) (p :: ps) :=
  ⟨by simp [PyData.showableAll, h.s, t.s], by simp [PyData.hasDictAll, h.d, t.d], by simp [PyData.leavesShortAll, h.l, t.l], by have := h.b; have := t.b; simp only [PyData.bulkAll]; omega⟩
theorem Shs.tup {b : Nat} {ps : List PyData} (h : Shs b ps) : Sh b (.tuple ps) := ⟨by simpa [PyData.showable] using h.s, by simpa [PyData.hasDict] using h.d, by simpa [PyData.leavesShort] using h.l, by simpa [PyData.bulk] using h.b⟩
theorem Shs.lst {b : Nat} {ps : List PyData} (h : Shs b ps) : Sh b (.list ps) := ⟨by simpa [PyData.showable] using h.s, by simpa [PyData.hasDict] using h.d, by simpa [PyData.leavesShort] using h.l, by simpa [PyData.bulk] using h.b⟩
theorem Shs.map {α : Type} {b : Nat} {g : α → PyData} (xs : List α) (h : ∀ x ∈ xs, Sh b (g x)) : Shs (xs.length * (b + 1)) (xs.map g) := by
  induction xs with
  | nil => simpa using Shs.nil
  | cons x xs ih =>
    have := Shs.cons (h x (by simp)) (ih fun y hy => h y (by simp [hy]))
    simp only [List.length_cons, List.map_cons]
    rw [Nat.succ_mul, Nat.add_comm]
    exact this
theorem Shs.ints {is : List Int} (h : ∀ i ∈ is, i.natAbs < 10 ^ 12) : Shs is.length (is.map PyData.int) := by
  have := Shs.map (b := 0) is fun i hi => Sh.int (h i hi)
  simpa using this
theorem repr_of {n b : Nat} {M : List MO} {x d : D} {p : PyData} (h : Dt n d p) (s : Sh b p) (hx : deref M x = d) (hn : n ≤ 60) (hb : b ≤ 2 ^ 20) (hk : (∃ k, x = .ref k) ∨ (∃ ds, x = .lst ds) ∨ ∃ ds, x = .tup ds) : dRepr M x = some (.str p.shown) := by
  have e : dRepr M x = (toP (deref M x)).bind fun p => if (p.showable && !p.hasDict && decide (p.depth ≤ 60) && decide (p.shown.length ≤ sizeLine)) = true then some (.str p.shown) else none := by
    rcases hk with ⟨k, rfl⟩ | ⟨k, rfl⟩ | ⟨k, rfl⟩ <;> rfl
  rw [e, hx, h.e, Option.bind_some, if_pos]
  have h1 := h.h
  have h2 := PyData.shown_fits_bulk (B := 13) (by decide) (by decide) s.l (Nat.le_trans s.b hb)
  have h3 : p.depth ≤ 60 := by omega
  simp [s.s, s.d, h3, h2]
end Bk

set_option Elab.async false
set_option linter.all false
set_option maxRecDepth 100000
set_option maxHeartbeats 2000000
namespace Bk
open PySem PySem.Spec PyProof.Rows L2
/-! ### how the functions are worked out -/
section
variable {α β : Type}
@[simp] theorem rb_ok (a : α) (M : List MO) (f : α → List MO → R β) : (R.ok a M).bind f = f a M := Eq.trans rfl rfl
@[simp] theorem rb_ex (c : Nat) (d : D) (M : List MO) (f : α → List MO → R β) : (R.exc c d M : R α).bind f = .exc c d M := Eq.trans rfl rfl
@[simp] theorem rt_ok (Γ : Env) (a : α) (M : List MO) (f : α → List MO → RS) : (R.ok a M).thenS Γ f = f a M := Eq.trans rfl rfl
@[simp] theorem rt_ex (Γ : Env) (c : Nat) (d : D) (M : List MO) (f : α → List MO → RS) : (R.exc c d M : R α).thenS Γ f = .exc c d Γ M := Eq.trans rfl rfl
@[simp] theorem ro_ok (a : α) (M : List MO) (f : α → List MO → R β) : (R.ok a M).only f = f a M := Eq.trans rfl rfl
@[simp] theorem sn_nx (Γ : Env) (M : List MO) (f : Env → List MO → RS) : (RS.nx Γ M).next f = f Γ M := Eq.trans rfl rfl
@[simp] theorem sn_rt (d : D) (M : List MO) (f : Env → List MO → RS) : (RS.rt d M).next f = .rt d M := Eq.trans rfl rfl
@[simp] theorem sn_ct (Γ : Env) (M : List MO) (f : Env → List MO → RS) : (RS.ct Γ M).next f = .ct Γ M := Eq.trans rfl rfl
@[simp] theorem sn_bk (Γ : Env) (M : List MO) (f : Env → List MO → RS) : (RS.bk Γ M).next f = .bk Γ M := Eq.trans rfl rfl
@[simp] theorem sn_ex (c : Nat) (d : D) (Γ : Env) (M : List MO) (f : Env → List MO → RS) : (RS.exc c d Γ M).next f = .exc c d Γ M := Eq.trans rfl rfl
@[simp] theorem st_nx (Γ : Env) (M : List MO) (f : Env → List MO → RS) : (RS.nx Γ M).turn f = f Γ M := Eq.trans rfl rfl
@[simp] theorem st_ct (Γ : Env) (M : List MO) (f : Env → List MO → RS) : (RS.ct Γ M).turn f = f Γ M := Eq.trans rfl rfl
@[simp] theorem st_bk (Γ : Env) (M : List MO) (f : Env → List MO → RS) : (RS.bk Γ M).turn f = .nx Γ M := Eq.trans rfl rfl
@[simp] theorem st_rt (d : D) (M : List MO) (f : Env → List MO → RS) : (RS.rt d M).turn f = .rt d M := Eq.trans rfl rfl
@[simp] theorem st_ex (c : Nat) (d : D) (Γ : Env) (M : List MO) (f : Env → List MO → RS) : (RS.exc c d Γ M).turn f = .exc c d Γ M := Eq.trans rfl rfl
@[simp] theorem opR_some (a : α) (M : List MO) : opR (some a) M = .ok a M := Eq.trans rfl rfl
@[simp] theorem optS_some (Γ : Env) (f : Env → RS) : optS (some Γ) f = f Γ := Eq.trans rfl rfl
theorem rb_if {c : Prop} [Decidable c] (a b : R α) (f : α → List MO → R β) : (if c then a else b).bind f = if c then a.bind f else b.bind f := by split <;> rfl
theorem rt_if {c : Prop} [Decidable c] (Γ : Env) (a b : R α) (f : α → List MO → RS) : (if c then a else b).thenS Γ f = if c then a.thenS Γ f else b.thenS Γ f := by split <;> rfl
theorem sn_if {c : Prop} [Decidable c] (a b : RS) (f : Env → List MO → RS) : (if c then a else b).next f = if c then a.next f else b.next f := by split <;> rfl
theorem st_if {c : Prop} [Decidable c] (a b : RS) (f : Env → List MO → RS) : (if c then a else b).turn f = if c then a.turn f else b.turn f := by split <;> rfl
end
@[simp] theorem u_gV (i : Nat) (Γ : Env) (M : List MO) : gV i Γ M = (match Γ[i]? with
  | some (some d) => .ok d M
  | _ => .bad) := Eq.trans rfl rfl
@[simp] theorem u_gC (d : D) (Γ : Env) (M : List MO) : gC d Γ M = .ok d M := Eq.trans rfl rfl
@[simp] theorem u_gOp2 (f : List MO → D → D → Option D) (ga gb : GE) (Γ : Env) (M : List MO) : gOp2 f ga gb Γ M = (ga Γ M).bind fun x M1 => (gb Γ M1).bind fun y M2 => opR (f M2 x y) M2 := Eq.trans rfl rfl
@[simp] theorem u_gOp1 (f : List MO → D → Option D) (ga : GE) (Γ : Env) (M : List MO) : gOp1 f ga Γ M = (ga Γ M).bind fun x M1 => opR (f M1 x) M1 := Eq.trans rfl rfl
@[simp] theorem u_gNil (Γ : Env) (M : List MO) : gNil Γ M = .ok [] M := Eq.trans rfl rfl
@[simp] theorem u_gCons (ga : GE) (gr : GA) (Γ : Env) (M : List MO) : gCons ga gr Γ M = (ga Γ M).bind fun x M1 => (gr Γ M1).bind fun xs M2 => .ok (x :: xs) M2 := Eq.trans rfl rfl
@[simp] theorem u_gTup (ga : GA) (Γ : Env) (M : List MO) : gTup ga Γ M = (ga Γ M).bind fun xs M1 => if xs.length ≤ sizeLine then .ok (.tup xs) M1 else .bad := Eq.trans rfl rfl
@[simp] theorem u_gLst (ga : GA) (Γ : Env) (M : List MO) : gLst ga Γ M = (ga Γ M).bind fun xs M1 => if xs.length ≤ sizeLine then .ok (.lst xs) M1 else .bad := Eq.trans rfl rfl
@[simp] theorem u_gLstO (ga : GA) (Γ : Env) (M : List MO) : gLstO ga Γ M = (ga Γ M).bind fun xs M1 => if xs.length ≤ sizeLine then .ok (.ref M1.length) (M1 ++ [.lst xs]) else .bad := Eq.trans rfl rfl
@[simp] theorem u_gCall (f : List MO → List D → Option D) (ga : GA) (Γ : Env) (M : List MO) : gCall f ga Γ M = (ga Γ M).bind fun xs M1 => opR (f M1 xs) M1 := Eq.trans rfl rfl
@[simp] theorem u_gVal (ga : GE) (Γ : Env) (M : List MO) : gVal ga Γ M = (ga Γ M).bind fun x M1 => opR (toBl x) M1 := Eq.trans rfl rfl
@[simp] theorem u_gAndT (a b : GT) (Γ : Env) (M : List MO) : gAndT a b Γ M = (a Γ M).bind fun c M1 => if c = true then b Γ M1 else .ok false M1 := Eq.trans rfl rfl
@[simp] theorem u_gOrT (a b : GT) (Γ : Env) (M : List MO) : gOrT a b Γ M = (a Γ M).bind fun c M1 => if c = true then .ok true M1 else b Γ M1 := Eq.trans rfl rfl
@[simp] theorem u_gNotT (a : GT) (Γ : Env) (M : List MO) : gNotT a Γ M = (a Γ M).bind fun c M1 => .ok (!c) M1 := Eq.trans rfl rfl
@[simp] theorem u_gIfE (c : GT) (a b : GE) (Γ : Env) (M : List MO) : gIfE c a b Γ M = (c Γ M).bind fun k M1 => if k = true then a Γ M1 else b Γ M1 := Eq.trans rfl rfl
@[simp] theorem u_gAndV (a b : GE) (Γ : Env) (M : List MO) : gAndV a b Γ M = ((a Γ M).bind fun x M1 => match x with
  | .bl c => if c = true then b Γ M1 else .ok (.bl false) M1
  | _ => .bad) := Eq.trans rfl rfl
@[simp] theorem u_gOrV (a b : GE) (Γ : Env) (M : List MO) : gOrV a b Γ M = ((a Γ M).bind fun x M1 => match x with
  | .bl c => if c = true then .ok (.bl true) M1 else b Γ M1
  | _ => .bad) := Eq.trans rfl rfl
@[simp] theorem u_gChain (f f' : List MO → D → D → Option D) (ga gb gc : GE) (Γ : Env) (M : List MO) : gChain f f' ga gb gc Γ M = ((ga Γ M).bind fun x M1 => (gb Γ M1).bind fun y M2 => (opR (f M2 x y) M2).bind fun k M3 => match k with
  | .bl c => if c = true then (gc Γ M3).bind fun z M4 => opR (f' M4 y z) M4 else .ok (.bl false) M3
  | _ => .bad) := Eq.trans rfl rfl
@[simp] theorem u_gSeqI (ge : GE) (Γ : Env) (M : List MO) : gSeqI ge Γ M = (ge Γ M).bind fun d M1 => opR (seqD d) M1 := Eq.trans rfl rfl
@[simp] theorem u_gRng1 (ga : GA) (Γ : Env) (M : List MO) : gRng1 ga Γ M = (ga Γ M).bind fun ds M1 => opR (rng1 ds) M1 := Eq.trans rfl rfl
@[simp] theorem u_gRng2 (ga : GA) (Γ : Env) (M : List MO) : gRng2 ga Γ M = (ga Γ M).bind fun ds M1 => opR (rng2 ds) M1 := Eq.trans rfl rfl
@[simp] theorem u_gTo (i : Nat) (d : D) (Γ : Env) : gTo i d Γ = some (Γ.set i (some d)) := Eq.trans rfl rfl
@[simp] theorem u_gToT (gs : GGs) (d : D) (Γ : Env) : gToT gs d Γ = (match d with
  | .tup ds => gs ds Γ
  | _ => none) := Eq.trans rfl rfl
@[simp] theorem u_gToNil (ds : List D) (Γ : Env) : gToNil ds Γ = (match ds with
  | [] => some Γ
  | _ :: _ => none) := Eq.trans rfl rfl
@[simp] theorem u_gToCons (g : GG) (gs : GGs) (ds : List D) (Γ : Env) : gToCons g gs ds Γ = (match ds with
  | [] => none
  | d :: r => (g d Γ).bind fun Γ1 => gs r Γ1) := Eq.trans rfl rfl
@[simp] theorem u_gPass (Γ : Env) (M : List MO) : gPass Γ M = .nx Γ M := Eq.trans rfl rfl
@[simp] theorem u_gSeq (a b : GS) (Γ : Env) (M : List MO) : gSeq a b Γ M = (a Γ M).next b := Eq.trans rfl rfl
@[simp] theorem u_gExpr (ge : GE) (Γ : Env) (M : List MO) : gExpr ge Γ M = (ge Γ M).thenS Γ fun _ M1 => .nx Γ M1 := Eq.trans rfl rfl
@[simp] theorem u_gRet (ge : GE) (Γ : Env) (M : List MO) : gRet ge Γ M = (ge Γ M).thenS Γ fun d M1 => .rt d M1 := Eq.trans rfl rfl
@[simp] theorem u_gRetN (Γ : Env) (M : List MO) : gRetN Γ M = .rt .non M := Eq.trans rfl rfl
@[simp] theorem u_gIf (c : GT) (a b : GS) (Γ : Env) (M : List MO) : gIf c a b Γ M = (c Γ M).thenS Γ fun k M1 => if k = true then a Γ M1 else b Γ M1 := Eq.trans rfl rfl
@[simp] theorem u_gAsg (ge : GE) (gg : GG) (Γ : Env) (M : List MO) : gAsg ge gg Γ M = ((ge Γ M).thenS Γ fun d M1 => match gg d Γ with
  | some Γ' => .nx Γ' M1
  | none => .bad) := Eq.trans rfl rfl
@[simp] theorem u_gBad (Γ : Env) (M : List MO) : gBad Γ M = .bad := Eq.trans rfl rfl
@[simp] theorem u_gForget (is : List Nat) (Γ : Env) (M : List MO) : gForget is Γ M = .nx (forget Γ is) M := Eq.trans rfl rfl
@[simp] theorem u_gFz (i : Nat) (Γ : Env) (M : List MO) : gFz i Γ M = (match Γ[i]? with
  | some (some (.ref k)) => match M[k]? with
    | some (.lst ds) => .nx (Γ.set i (some (.lst ds))) (M.set k .dead)
    | some (.dct ks vs) => .nx (Γ.set i (some (.dct ks vs))) (M.set k .dead)
    | _ => .bad
  | _ => .bad) := Eq.trans rfl rfl
@[simp] theorem u_gScope (a : GS) (Γ : Env) (M : List MO) : gScope a Γ M = gCut M.length (a Γ M) := Eq.trans rfl rfl
@[simp] theorem u_gFor (gi : GI) (gg : GG) (body : GS) (Γ : Env) (M : List MO) : gFor gi gg body Γ M = (gi Γ M).thenS Γ fun ds M1 => gForL gg body ds Γ M1 := Eq.trans rfl rfl
@[simp] theorem u_gYes (Γ : Env) (M : List MO) : gYes Γ M = .ok true M := Eq.trans rfl rfl
@[simp] theorem u_gLc (gi : GI) (gg : GG) (gt : GT) (ge : GE) (own : List Nat) (Γ : Env) (M : List MO) : gLc gi gg gt ge own Γ M = (gi Γ M).bind fun ds M1 => (gLcL gg gt ge (forget Γ own) ds [] M1).bind fun acc M2 => .ok (.lst acc) M2 := Eq.trans rfl rfl
@[simp] theorem u_gLcO (gi : GI) (gg : GG) (gt : GT) (ge : GE) (own : List Nat) (Γ : Env) (M : List MO) : gLcO gi gg gt ge own Γ M = (gi Γ M).bind fun ds M1 => (gLcL gg gt ge (forget Γ own) ds [] M1).bind fun acc M2 => .ok (.ref M2.length) (M2 ++ [.lst acc]) := Eq.trans rfl rfl
@[simp] theorem u_gNoO (Γ : Env) (M : List MO) : gNoO Γ M = .ok none M := Eq.trans rfl rfl
@[simp] theorem u_gO (ge : GE) (Γ : Env) (M : List MO) : gO ge Γ M = (ge Γ M).bind fun d M1 => opR ((toI d).map some) M1 := Eq.trans rfl rfl
@[simp] theorem u_gSl (ge : GE) (lo hi : GO) (Γ : Env) (M : List MO) : gSl ge lo hi Γ M = (ge Γ M).bind fun x M1 => (lo Γ M1).bind fun a M2 => (hi Γ M2).bind fun b M3 => opR (dCut M3 a b x) M3 := Eq.trans rfl rfl
@[simp] theorem u_gRgL (own : Bool) (ga gb : GE) (Γ : Env) (M : List MO) : gRgL own ga gb Γ M = ((ga Γ M).bind fun x M1 => (gb Γ M1).bind fun y M2 => match x, y with
  | .int i, .int j => if rngOk i j = true then (if own = true then .ok (.ref M2.length) (M2 ++ [.lst (rngL i (j - i).toNat)]) else .ok (.lst (rngL i (j - i).toNat)) M2) else .bad
  | _, _ => .bad) := Eq.trans rfl rfl
@[simp] theorem u_gMeth1 (f : MF) (go ge : GE) (Γ : Env) (M : List MO) : gMeth1 f go ge Γ M = (go Γ M).bind fun x M1 => if isListD M1 x = true then (ge Γ M1).bind fun y M2 => mutR M2 x fun ds => f M2 ds y else .bad := Eq.trans rfl rfl
@[simp] theorem u_gMeth0 (f : MF0) (go : GE) (Γ : Env) (M : List MO) : gMeth0 f go Γ M = (go Γ M).bind fun x M1 => mutR M1 x f := Eq.trans rfl rfl
@[simp] theorem u_gSetI (ge go gi : GE) (Γ : Env) (M : List MO) : gSetI ge go gi Γ M = ((ge Γ M).thenS Γ fun v M1 => (go Γ M1).thenS Γ fun o M2 => (gi Γ M2).thenS Γ fun i M3 => match setR M3 o i v with
  | some M4 => .nx Γ M4
  | none => .bad) := Eq.trans rfl rfl
@[simp] theorem u_gAug (i : Nat) (f : Int → Int → Int) (ge : GE) (Γ : Env) (M : List MO) : gAug i f ge Γ M = (match Γ[i]? with
  | some (some (.int a)) => (ge Γ M).thenS Γ fun y M1 => match y with
    | .int b => .nx (Γ.set i (some (.int (f a b)))) M1
    | _ => .bad
  | _ => .bad) := Eq.trans rfl rfl
@[simp] theorem u_gEnum (ge : GE) (Γ : Env) (M : List MO) : gEnum ge Γ M = (ge Γ M).bind fun d M1 => opR ((seqD d).map (enumL 0)) M1 := Eq.trans rfl rfl
@[simp] theorem u_gEnumK (ge : GE) (gk : GE) (Γ : Env) (M : List MO) : gEnumK ge gk Γ M = ((ge Γ M).bind fun d M1 => (gk Γ M1).bind fun k M2 => match k with
  | .int k => if decide (-(2 ^ 63) ≤ k) && decide (k < 2 ^ 63) then opR ((seqD d).map (enumL k)) M2 else .bad
  | _ => .bad) := Eq.trans rfl rfl
@[simp] theorem u_gZip (ga gb : GE) (Γ : Env) (M : List MO) : gZip ga gb Γ M = (ga Γ M).bind fun x M1 => (gb Γ M1).bind fun y M2 => opR (zipO x y) M2 := Eq.trans rfl rfl
@[simp] theorem u_gLcW (ge : GE) (gg : GG) (gt : GT) (gel : GE) (own : List Nat) (Γ : Env) (M : List MO) : gLcW ge gg gt gel own Γ M = ((ge Γ M).bind fun d M1 => match d with
  | .ref k => match M1[k]? with
    | some (.lst ds) => (gLcL gg gt gel (forget Γ own) ds [] M1).bind fun acc M2 => .ok (.lst acc) M2
    | _ => .bad
  | _ => .bad) := Eq.trans rfl rfl
@[simp] theorem u_gCallF (n : Nat) (F : List D → List MO → R D) (ga : GA) (Γ : Env) (M : List MO) : gCallF n F ga Γ M = (ga Γ M).bind fun ds M1 => if ds.length = n then callF F ds M1 else .bad := Eq.trans rfl rfl
@[simp] theorem u_gCallK (n : Nat) (F : List D → List MO → R D) (is : List Nat) (ga gk : GA) (Γ : Env) (M : List MO) : gCallK n F is ga gk Γ M = (ga Γ M).bind fun ds M1 => (gk Γ M1).bind fun es M2 => if (pick (ds ++ es) is).length = n then callF F (pick (ds ++ es) is) M2 else .bad := Eq.trans rfl rfl
@[simp] theorem u_gForL0 (gg : GG) (b : GS) (Γ : Env) (M : List MO) : gForL gg b [] Γ M = .nx Γ M := Eq.trans rfl rfl
@[simp] theorem u_gForLc (gg : GG) (b : GS) (d : D) (ds : List D) (Γ : Env) (M : List MO) : gForL gg b (d :: ds) Γ M = optS (gg d Γ) fun Γ1 => (b Γ1 M).turn (gForL gg b ds) := Eq.trans rfl rfl
@[simp] theorem u_forget0 (Γ : Env) : forget Γ [] = Γ := Eq.trans rfl rfl
@[simp] theorem u_forgetc (Γ : Env) (i : Nat) (is : List Nat) : forget Γ (i :: is) = forget (Γ.set i none) is := Eq.trans rfl rfl
@[simp] theorem u_toBl (b : Bool) : toBl (.bl b) = some b := Eq.trans rfl rfl
@[simp] theorem u_dNot (M : List MO) (b : Bool) : dNot M (.bl b) = some (.bl !b) := Eq.trans rfl rfl
@[simp] theorem u_toI (i : Int) : toI (.int i) = some i := Eq.trans rfl rfl
@[simp] theorem u_rng1 (j : Int) : rng1 [.int j] = if inR j then some (rngL 0 j.toNat) else none := Eq.trans rfl rfl
@[simp] theorem u_rng2 (i j : Int) : rng2 [.int i, .int j] = if inR i && inR j then some (rngL i (j - i).toNat) else none := Eq.trans rfl rfl
@[simp] theorem u_fn1 (f : List MO → D → Option D) (M : List MO) (d : D) : fn1 f M [d] = f M d := Eq.trans rfl rfl
@[simp] theorem u_fn2 (f : List MO → D → D → Option D) (M : List MO) (d e : D) : fn2 f M [d, e] = f M d e := Eq.trans rfl rfl
@[simp] theorem u_isListD (M : List MO) (d : D) : isListD M d = (listD M d).isSome := Eq.trans rfl rfl
@[simp] theorem u_pick0 {α : Type} (l : List α) : pick l [] = [] := Eq.trans rfl rfl
@[simp] theorem u_pickc {α : Type} (l : List α) (i : Nat) (is : List Nat) : pick l (i :: is) = (match l[i]? with
    | some a => a :: pick l is
    | none => pick l is) := Eq.trans rfl rfl
@[simp] theorem bl_non (m : Nat) : below m .non = true := Eq.trans rfl rfl
@[simp] theorem bl_bl (m : Nat) (b : Bool) : below m (.bl b) = true := Eq.trans rfl rfl
@[simp] theorem bl_int (m : Nat) (i : Int) : below m (.int i) = true := Eq.trans rfl rfl
@[simp] theorem bl_str (m : Nat) (x : Str) : below m (.str x) = true := Eq.trans rfl rfl
@[simp] theorem bl_tup (m : Nat) (ds : List D) : below m (.tup ds) = belows m ds := by simp [below]
@[simp] theorem bl_lst (m : Nat) (ds : List D) : below m (.lst ds) = belows m ds := by simp [below]
@[simp] theorem bl_ref (m k : Nat) : below m (.ref k) = decide (k < m) := by simp [below]
@[simp] theorem bls_nil (m : Nat) : belows m [] = true := Eq.trans rfl rfl
@[simp] theorem bls_cons (m : Nat) (d : D) (ds : List D) : belows m (d :: ds) = (below m d && belows m ds) := by simp [belows]
@[simp] theorem bls_app (m : Nat) (ds es : List D) : belows m (ds ++ es) = (belows m ds && belows m es) := by simp [belows_all]
@[simp] theorem blo_lst (m : Nat) (ds : List D) : belowO m (.lst ds) = belows m ds := Eq.trans rfl rfl
@[simp] theorem blo_dead (m : Nat) : belowO m .dead = true := Eq.trans rfl rfl
theorem fin_d {m : Nat} {d : D} {M : List MO} (h : m ≤ M.length) (hc : cutOk m M = true) (hr : ∀ k, d ≠ .ref k) (hd : below m d = true) : fin m (.rt d M) = .ok d (M.take m) := by
  show (if m ≤ M.length ∧ cutOk m M = true then retR m M d else .bad) = _
  rw [if_pos ⟨h, hc⟩]
  cases d with
  | ref k => exact absurd rfl (hr k)
  | _ => simp [retR, hd]
theorem fin_n {m : Nat} {Γ : Env} {M : List MO} (h : m ≤ M.length) (hc : cutOk m M = true) : fin m (.nx Γ M) = .ok .non (M.take m) := by
  show (if m ≤ M.length ∧ cutOk m M = true then R.ok D.non (M.take m) else .bad) = _
  rw [if_pos ⟨h, hc⟩]
theorem fin_new {m k : Nat} {ds : List D} {M : List MO} (h : m ≤ M.length) (hc : cutOk m M = true) (hk : m ≤ k) (e : M[k]? = some (.lst ds)) (hd : belows m ds = true) : fin m (.rt (.ref k) M) = .ok (.ref m) (M.take m ++ [.lst ds]) := by
  show (if m ≤ M.length ∧ cutOk m M = true then retR m M (.ref k) else .bad) = _
  rw [if_pos ⟨h, hc⟩]
  simp [retR, e, hd, Nat.not_lt_of_le hk]
@[simp] theorem cut_0 (M : List MO) : cutOk 0 M = true := by simp [cutOk]
@[simp] theorem cut_nil (m : Nat) : cutOk m [] = true := by simp [cutOk]
@[simp] theorem cut_s (m : Nat) (o : MO) (M : List MO) : cutOk (m + 1) (o :: M) = ((M.take m).all (belowO (m + 1)) && belowO (m + 1) o) := by simp [cutOk, Bool.and_comm]
@[simp] theorem sz_1 : 1 ≤ sizeLine := by decide
@[simp] theorem sz_2 : 2 ≤ sizeLine := by decide
@[simp] theorem sz_3 : 3 ≤ sizeLine := by decide
@[simp] theorem sz_4 : 4 ≤ sizeLine := by decide
@[simp] theorem sz_5 : 5 ≤ sizeLine := by decide
@[simp] theorem sz_6 : 6 ≤ sizeLine := by decide
@[simp] theorem sz_7 : 7 ≤ sizeLine := by decide
@[simp] theorem sz_8 : 8 ≤ sizeLine := by decide
@[simp] theorem sz_9 : 9 ≤ sizeLine := by decide
@[simp] theorem sz_10 : 10 ≤ sizeLine := by decide
@[simp] theorem sz_11 : 11 ≤ sizeLine := by decide
@[simp] theorem sz_12 : 12 ≤ sizeLine := by decide
@[simp] theorem sz_13 : 13 ≤ sizeLine := by decide
@[simp] theorem sz_14 : 14 ≤ sizeLine := by decide
@[simp] theorem sz_15 : 15 ≤ sizeLine := by decide
@[simp] theorem sz_16 : 16 ≤ sizeLine := by decide
@[simp] theorem sz_17 : 17 ≤ sizeLine := by decide
@[simp] theorem sz_18 : 18 ≤ sizeLine := by decide
@[simp] theorem sz_19 : 19 ≤ sizeLine := by decide
@[simp] theorem sz_20 : 20 ≤ sizeLine := by decide
@[simp] theorem szl_0 : 0 < sizeLine := by decide
@[simp] theorem szl_1 : 1 < sizeLine := by decide
@[simp] theorem szl_2 : 2 < sizeLine := by decide
@[simp] theorem szl_3 : 3 < sizeLine := by decide
@[simp] theorem szl_4 : 4 < sizeLine := by decide
@[simp] theorem szl_5 : 5 < sizeLine := by decide
@[simp] theorem szl_6 : 6 < sizeLine := by decide
@[simp] theorem szl_7 : 7 < sizeLine := by decide
@[simp] theorem szl_8 : 8 < sizeLine := by decide
@[simp] theorem szl_9 : 9 < sizeLine := by decide
@[simp] theorem szl_10 : 10 < sizeLine := by decide
@[simp] theorem szl_11 : 11 < sizeLine := by decide
@[simp] theorem szl_12 : 12 < sizeLine := by decide
@[simp] theorem szl_13 : 13 < sizeLine := by decide
@[simp] theorem szl_14 : 14 < sizeLine := by decide
@[simp] theorem szl_15 : 15 < sizeLine := by decide
@[simp] theorem szl_16 : 16 < sizeLine := by decide
@[simp] theorem szl_17 : 17 < sizeLine := by decide
@[simp] theorem szl_18 : 18 < sizeLine := by decide
@[simp] theorem szl_19 : 19 < sizeLine := by decide
@[simp] theorem szl_20 : 20 < sizeLine := by decide
@[simp] theorem gc_nx (m : Nat) (Γ : Env) (M : List MO) : gCut m (.nx Γ M) = if m ≤ M.length ∧ cutOk m M = true then .nx (clean m Γ) (M.take m) else .bad := Eq.trans rfl rfl
@[simp] theorem gc_ct (m : Nat) (Γ : Env) (M : List MO) : gCut m (.ct Γ M) = if m ≤ M.length ∧ cutOk m M = true then .ct (clean m Γ) (M.take m) else .bad := Eq.trans rfl rfl
@[simp] theorem gc_bk (m : Nat) (Γ : Env) (M : List MO) : gCut m (.bk Γ M) = .bk Γ M := Eq.trans rfl rfl
@[simp] theorem gc_rt (m : Nat) (d : D) (M : List MO) : gCut m (.rt d M) = .rt d M := Eq.trans rfl rfl
@[simp] theorem gc_ex (m c : Nat) (d : D) (Γ : Env) (M : List MO) : gCut m (.exc c d Γ M) = .exc c d Γ M := Eq.trans rfl rfl
@[simp] theorem fi_rt (m : Nat) (d : D) (M : List MO) : fin m (.rt d M) = if m ≤ M.length ∧ cutOk m M = true then retR m M d else .bad := Eq.trans rfl rfl
@[simp] theorem fi_nx (m : Nat) (Γ : Env) (M : List MO) : fin m (.nx Γ M) = if m ≤ M.length ∧ cutOk m M = true then R.ok D.non (M.take m) else .bad := Eq.trans rfl rfl
@[simp] theorem fi_ex (m c : Nat) (d : D) (Γ : Env) (M : List MO) : fin m (.exc c d Γ M) = if m ≤ M.length ∧ cutOk m M = true ∧ below m d = true then .exc c d (M.take m) else .bad := Eq.trans rfl rfl
@[simp] theorem re_non (m : Nat) (M : List MO) : retR m M .non = .ok .non (M.take m) := Eq.trans rfl rfl
@[simp] theorem re_bl (m : Nat) (M : List MO) (b : Bool) : retR m M (.bl b) = .ok (.bl b) (M.take m) := Eq.trans rfl rfl
@[simp] theorem re_int (m : Nat) (M : List MO) (i : Int) : retR m M (.int i) = .ok (.int i) (M.take m) := Eq.trans rfl rfl
@[simp] theorem re_str (m : Nat) (M : List MO) (x : Str) : retR m M (.str x) = .ok (.str x) (M.take m) := Eq.trans rfl rfl
@[simp] theorem re_tup (m : Nat) (M : List MO) (ds : List D) : retR m M (.tup ds) = if belows m ds = true then .ok (.tup ds) (M.take m) else .bad := by simp [retR]
@[simp] theorem re_lst (m : Nat) (M : List MO) (ds : List D) : retR m M (.lst ds) = if belows m ds = true then .ok (.lst ds) (M.take m) else .bad := by simp [retR]
@[simp] theorem re_ref (m : Nat) (M : List MO) (k : Nat) : retR m M (.ref k) = if k < m then .ok (.ref k) (M.take m) else match M[k]? with
    | some (.lst ds) => if belows m ds = true then .ok (.ref m) (M.take m ++ [.lst ds]) else .bad
    | _ => .bad := Eq.trans rfl rfl
@[simp] theorem seqD_l (ds : List D) : seqD (.lst ds) = some ds := Eq.trans rfl rfl
@[simp] theorem seqD_t (ds : List D) : seqD (.tup ds) = some ds := Eq.trans rfl rfl
@[simp] theorem listD_l (M : List MO) (ds : List D) : listD M (.lst ds) = some ds := Eq.trans rfl rfl
theorem listD_r {M : List MO} {k : Nat} {ds : List D} (h : M[k]? = some (.lst ds)) : listD M (.ref k) = some ds := by simp [listD, h]
@[simp] theorem itemsD_l (M : List MO) (ds : List D) : itemsD M (.lst ds) = some ds := Eq.trans rfl rfl
@[simp] theorem itemsD_t (M : List MO) (ds : List D) : itemsD M (.tup ds) = some ds := Eq.trans rfl rfl
@[simp] theorem itemsD_r (M : List MO) (k : Nat) : itemsD M (.ref k) = listD M (.ref k) := Eq.trans rfl rfl
@[simp] theorem e_add (M : List MO) (i j : Int) : dAdd M (.int i) (.int j) = some (.int (i + j)) := Eq.trans rfl rfl
@[simp] theorem e_addL (M : List MO) (a b : List D) : dAdd M (.lst a) (.lst b) = if a.length + b.length ≤ sizeLine then some (.lst (a ++ b)) else none := Eq.trans rfl rfl
@[simp] theorem e_addT (M : List MO) (a b : List D) : dAdd M (.tup a) (.tup b) = if a.length + b.length ≤ sizeLine then some (.tup (a ++ b)) else none := Eq.trans rfl rfl
@[simp] theorem e_sub (M : List MO) (i j : Int) : dSub M (.int i) (.int j) = some (.int (i - j)) := Eq.trans rfl rfl
theorem e_mul {i j : Int} (M : List MO) (h : mulOk i j = true) : dMulA M (.int i) (.int j) = some (.int (i * j)) := by
  show (if mulOk i j = true then some (D.int (i * j)) else none) = _
  rw [if_pos h]
@[simp] theorem e_mulR (M : List MO) (i : Int) : dMulA M (.int i) (.int 0) = some (.int 0) := by
  rw [e_mul M (by simp [mulOk])]
  simp
@[simp] theorem e_fdiv (M : List MO) (i j : Int) : dFdiv M (.int i) (.int j) = if fdivOk i j = true then some (.int (i / j)) else none := Eq.trans rfl rfl
@[simp] theorem e_mod (M : List MO) (i j : Int) : dMod M (.int i) (.int j) = if 0 < j then some (.int (i % j)) else none := by
  show (if modOk i j = true then _ else _) = _
  simp [modOk]
@[simp] theorem e_pow (M : List MO) (i j : Int) : dPow M (.int i) (.int j) = if powOk i j = true then some (.int (i ^ j.toNat)) else none := Eq.trans rfl rfl
@[simp] theorem e_lt (M : List MO) (i j : Int) : dLt M (.int i) (.int j) = some (.bl (decide (i < j))) := Eq.trans rfl rfl
@[simp] theorem e_le (M : List MO) (i j : Int) : dLe M (.int i) (.int j) = some (.bl (decide (i ≤ j))) := Eq.trans rfl rfl
@[simp] theorem e_gt (M : List MO) (i j : Int) : dGt M (.int i) (.int j) = some (.bl (decide (j < i))) := Eq.trans rfl rfl
@[simp] theorem e_ge (M : List MO) (i j : Int) : dGe M (.int i) (.int j) = some (.bl (decide (j ≤ i))) := Eq.trans rfl rfl
@[simp] theorem e_neg (M : List MO) (i : Int) : dNeg M (.int i) = some (.int (-i)) := Eq.trans rfl rfl
@[simp] theorem e_is0 (M : List MO) : dIsN M .non .non = some (.bl true) := Eq.trans rfl rfl
@[simp] theorem e_is1 (M : List MO) (i : Int) : dIsN M (.int i) .non = some (.bl false) := Eq.trans rfl rfl
@[simp] theorem e_is2 (M : List MO) (i : List D) : dIsN M (.tup i) .non = some (.bl false) := Eq.trans rfl rfl
@[simp] theorem e_is3 (M : List MO) (i : List D) : dIsN M (.lst i) .non = some (.bl false) := Eq.trans rfl rfl
@[simp] theorem e_is4 (M : List MO) (i : Str) : dIsN M (.str i) .non = some (.bl false) := Eq.trans rfl rfl
@[simp] theorem e_is5 (M : List MO) (i : Nat) : dIsN M (.ref i) .non = some (.bl false) := Eq.trans rfl rfl
@[simp] theorem e_ns0 (M : List MO) : dNotN M .non .non = some (.bl false) := Eq.trans rfl rfl
@[simp] theorem e_ns1 (M : List MO) (i : Int) : dNotN M (.int i) .non = some (.bl true) := Eq.trans rfl rfl
@[simp] theorem e_ns2 (M : List MO) (i : List D) : dNotN M (.tup i) .non = some (.bl true) := Eq.trans rfl rfl
@[simp] theorem e_ns3 (M : List MO) (i : List D) : dNotN M (.lst i) .non = some (.bl true) := Eq.trans rfl rfl
@[simp] theorem e_ns4 (M : List MO) (i : Str) : dNotN M (.str i) .non = some (.bl true) := Eq.trans rfl rfl
@[simp] theorem e_ns5 (M : List MO) (i : Nat) : dNotN M (.ref i) .non = some (.bl true) := Eq.trans rfl rfl
@[simp] theorem e_ix (M : List MO) (x : D) (i : Int) : dIx M x (.int i) = (itemsD M x).bind fun ds => atI ds i := Eq.trans rfl rfl
theorem atI_nat (ds : List D) (n : Nat) : atI ds (n : Int) = ds[n]? := by
  unfold atI ixN
  by_cases h : n < ds.length
  · simp [h]
  · simp [h]
@[simp] theorem atI_0 (a : D) (ds : List D) : atI (a :: ds) 0 = some a := (atI_nat _ 0).trans rfl
@[simp] theorem atI_1 (a b : D) (ds : List D) : atI (a :: b :: ds) 1 = some b := (atI_nat _ 1).trans rfl
@[simp] theorem atI_2 (a b c : D) (ds : List D) : atI (a :: b :: c :: ds) 2 = some c := (atI_nat _ 2).trans rfl
@[simp] theorem atI_3 (a b c d : D) (ds : List D) : atI (a :: b :: c :: d :: ds) 3 = some d := (atI_nat _ 3).trans rfl
@[simp] theorem atI_4 (a b c d e : D) (ds : List D) : atI (a :: b :: c :: d :: e :: ds) 4 = some e := (atI_nat _ 4).trans rfl
@[simp] theorem atI_5 (a b c d e f : D) (ds : List D) : atI (a :: b :: c :: d :: e :: f :: ds) 5 = some f := (atI_nat _ 5).trans rfl
@[simp] theorem e_lenL (M : List MO) (ds : List D) : dLen M (.lst ds) = some (.int ds.length) := Eq.trans rfl rfl
@[simp] theorem e_lenT (M : List MO) (ds : List D) : dLen M (.tup ds) = some (.int ds.length) := Eq.trans rfl rfl
@[simp] theorem e_lenR (M : List MO) (k : Nat) : dLen M (.ref k) = (listD M (.ref k)).map fun ds => .int ds.length := Eq.trans rfl rfl
@[simp] theorem e_lenS (M : List MO) (x : Str) : dLen M (.str x) = if x.length ≤ sizeLine then some (.int x.length) else none := Eq.trans rfl rfl
@[simp] theorem e_intI (M : List MO) (i : Int) : dInt M (.int i) = some (.int i) := Eq.trans rfl rfl
@[simp] theorem e_intB (M : List MO) (b : Bool) : dInt M (.bl b) = some (.int (if b then 1 else 0)) := Eq.trans rfl rfl
@[simp] theorem e_str (M : List MO) (i : Int) : dStr M (.int i) = if i.natAbs.log2 < 1920 then some (.str (toString i)) else none := Eq.trans rfl rfl
@[simp] theorem e_min2 (M : List MO) (i j : Int) : dMin2 M (.int i) (.int j) = some (.int (if j < i then j else i)) := Eq.trans rfl rfl
@[simp] theorem e_max2 (M : List MO) (i j : Int) : dMax2 M (.int i) (.int j) = some (.int (if i < j then j else i)) := Eq.trans rfl rfl
@[simp] theorem e_isi_ii (M : List MO) (i : Int) : dIsi "int" M (.int i) = some (.bl true) := Eq.trans rfl rfl
@[simp] theorem e_isi_ib (M : List MO) (i : Int) : dIsi "bool" M (.int i) = some (.bl false) := Eq.trans rfl rfl
@[simp] theorem e_isi_ll (M : List MO) (ds : List D) : dIsi "list" M (.lst ds) = some (.bl true) := Eq.trans rfl rfl
@[simp] theorem e_isi_tt (M : List MO) (ds : List D) : dIsi "tuple" M (.tup ds) = some (.bl true) := Eq.trans rfl rfl
@[simp] theorem e_isi_ss (M : List MO) (ds : Str) : dIsi "str" M (.str ds) = some (.bl true) := Eq.trans rfl rfl
@[simp] theorem e_isi_is (M : List MO) (i : Int) : dIsi "str" M (.int i) = some (.bl false) := Eq.trans rfl rfl
@[simp] theorem e_isiT_l (M : List MO) (ds : List D) : dIsiT ["list", "tuple"] M (.lst ds) = some (.bl true) := Eq.trans rfl rfl
@[simp] theorem e_isiT_t (M : List MO) (ds : List D) : dIsiT ["list", "tuple"] M (.tup ds) = some (.bl true) := Eq.trans rfl rfl
theorem e_isi_lr {M : List MO} {k : Nat} {ds : List D} (h : M[k]? = some (.lst ds)) : dIsi "list" M (.ref k) = some (.bl true) := by
  simp only [dIsi, tyName, h]
  rfl
theorem toVs_ints (is : List Int) : toVs (is.map D.int) = some (is.map V.int) := by
  induction is with
  | nil => rfl
  | cons i is ih => simp [toVs, toV, ih]
theorem inV_ints (i : Int) (is : List Int) : inV (V.int i) (is.map V.int) = decide (i ∈ is) := by
  induction is with
  | nil => rfl
  | cons j is ih =>
    have e : eqV (V.int j) (V.int i) = decide (j = i) := Eq.trans rfl rfl
    rw [List.map_cons]
    unfold inV at ih ⊢
    rw [List.any_cons, ih, e]
    by_cases h : j = i
    · subst h
      simp
    · have h' : ¬ i = j := fun e => h e.symm
      simp [h, h']
@[simp] theorem e_inL (M : List MO) (i : Int) (is : List Int) : dIn M (.int i) (.lst (is.map D.int)) = some (.bl (decide (i ∈ is))) := by
  simp [dIn, inP, toV, toVs_ints, inV_ints]
@[simp] theorem e_inT (M : List MO) (i : Int) (is : List Int) : dIn M (.int i) (.tup (is.map D.int)) = some (.bl (decide (i ∈ is))) := by
  simp [dIn, inP, toV, toVs_ints, inV_ints]
@[simp] theorem e_niL (M : List MO) (i : Int) (is : List Int) : dNotIn M (.int i) (.lst (is.map D.int)) = some (.bl (!decide (i ∈ is))) := by
  simp [dNotIn, inP, toV, toVs_ints, inV_ints]
@[simp] theorem e_niT (M : List MO) (i : Int) (is : List Int) : dNotIn M (.int i) (.tup (is.map D.int)) = some (.bl (!decide (i ∈ is))) := by
  simp [dNotIn, inP, toV, toVs_ints, inV_ints]
end Bk
namespace Bk
open PySem PySem.Spec PyProof.Rows L2
theorem mulOk_l {i : Int} (j : Int) (h1 : -(2 ^ 64) < i) (h2 : i < 2 ^ 64) : mulOk i j = true := by
  simp only [mulOk, Bool.or_eq_true, Bool.and_eq_true, decide_eq_true_eq]
  omega
theorem mulOk_r (i : Int) {j : Int} (h1 : -(2 ^ 64) < j) (h2 : j < 2 ^ 64) : mulOk i j = true := by
  simp only [mulOk, Bool.or_eq_true, Bool.and_eq_true, decide_eq_true_eq]
  omega
theorem mulOk_m (x y : Int) {n : Int} (h0 : 0 < n) (h : n ≤ 2 ^ 63) : mulOk (x % n) y = true := by
  have a := Int.emod_nonneg x (by omega : n ≠ 0)
  have b := Int.emod_lt_of_pos x h0
  exact mulOk_l y (by omega) (by omega)
theorem mulOk_m1 (x y : Int) {n : Int} (h0 : 0 < n) (h : n ≤ 2 ^ 63) : mulOk (x % n + 1) y = true := by
  have a := Int.emod_nonneg x (by omega : n ≠ 0)
  have b := Int.emod_lt_of_pos x h0
  exact mulOk_l y (by omega) (by omega)
end Bk

set_option Elab.async false
set_option linter.all false
set_option maxRecDepth 100000
set_option maxHeartbeats 2000000
namespace Bk
open PySem PySem.Spec PyProof.Rows L2
/-! ### calls that lend nothing -/
theorem lendK_nil : ∀ {ds : List D}, belows 0 ds = true → lendK ds = []
  | [], _ => rfl
  | d :: ds, h => by
    simp only [belows, Bool.and_eq_true] at h
    cases d with
    | ref k => simp [below] at h
    | _ =>
      have ih := lendK_nil h.2
      simpa [lendK] using ih
theorem lendA_nil : ∀ {m : Nat} {ds : List D}, belows 0 ds = true → lendA m ds = ds
  | _, [], _ => rfl
  | m, d :: ds, h => by
    simp only [belows, Bool.and_eq_true] at h
    cases d with
    | ref k => simp [below] at h
    | _ => simp [lendA, lendA_nil h.2]
theorem flatArgs_of : ∀ {ds : List D}, belows 0 ds = true → flatArgs ds = true
  | [], _ => rfl
  | d :: ds, h => by
    simp only [belows, Bool.and_eq_true] at h
    cases d with
    | ref k => simp [below] at h
    | _ => simp [flatArgs, flatArgs_of h.2, h.1]
theorem backD_flat {n : Nat} {d : D} (h : below 0 d = true) : backD [] n d = some d := by
  cases d with
  | ref k => simp [below] at h
  | _ => simp [backD, h]
theorem c_flat {F : List D → List MO → R D} {ds : List D} {d : D} (h : F ds [] = .ok d []) (M : List MO) (ha : belows 0 ds = true) (hd : below 0 d = true) : callF F ds M = .ok d M := by
  simp [callF, lendK_nil ha, getAll, flatArgs_of ha, lentOk, lendA_nil ha, h, backD_flat hd, setAll]
theorem c_flatO {F : List D → List MO → R D} {ds es : List D} (h : F ds [] = .ok (.ref 0) [.lst es]) (M : List MO) (ha : belows 0 ds = true) (hd : belows 0 es = true) : callF F ds M = .ok (.ref M.length) (M ++ [.lst es]) := by
  simp [callF, lendK_nil ha, getAll, flatArgs_of ha, lentOk, lendA_nil ha, h, backD, setAll, belowO, hd]
/-- a call that raises -/
theorem c_flatX {F : List D → List MO → R D} {ds : List D} {d : D} {c : Nat} (h : F ds [] = .exc c d []) (M : List MO) (ha : belows 0 ds = true) (hd : below 0 d = true) : callF F ds M = .exc c d M := by
  simp [callF, lendK_nil ha, getAll, flatArgs_of ha, lentOk, lendA_nil ha, h, hd, setAll]
/-! ### numbers in a row -/
def intR (lo : Int) : Nat → List Int
  | 0 => []
  | n + 1 => lo :: intR (lo + 1) n
theorem rngL_int : ∀ (n : Nat) (lo : Int), rngL lo n = (intR lo n).map D.int
  | 0, _ => rfl
  | n + 1, lo => by simp [rngL, intR, rngL_int n]
@[simp] theorem intR_length : ∀ (n : Nat) (lo : Int), (intR lo n).length = n
  | 0, _ => rfl
  | n + 1, lo => by simp [intR, intR_length n]
theorem mem_intR : ∀ {n : Nat} {lo i : Int}, i ∈ intR lo n ↔ lo ≤ i ∧ i < lo + n
  | 0, lo, i => by simp [intR]; try omega
  | n + 1, lo, i => by
    simp only [intR, List.mem_cons, mem_intR]
    omega
theorem intR_nodup : ∀ (n : Nat) (lo : Int), (intR lo n).Nodup
  | 0, _ => .nil
  | n + 1, lo => by
    simp only [intR, List.nodup_cons, mem_intR]
    exact ⟨by omega, intR_nodup n _⟩
theorem intR_get : ∀ {n : Nat} {lo : Int} {k : Nat}, k < n → (intR lo n)[k]? = some (lo + k)
  | n + 1, lo, 0, _ => by simp [intR]
  | n + 1, lo, k + 1, h => by
    simp only [intR, List.getElem?_cons_succ]
    rw [intR_get (by omega)]
    congr 1
    push_cast
    omega
theorem intR_succ : ∀ (n : Nat) (lo : Int), intR lo (n + 1) = intR lo n ++ [lo + n]
  | 0, lo => by simp [intR]
  | n + 1, lo => by
    rw [intR, intR_succ n (lo + 1), intR]
    simp only [List.cons_append]
    congr 3
    push_cast
    omega
/-! ### lists made by comprehensions -/
theorem lcL_map {gg : GG} {ge : GE} {Γ : Env} {M : List MO} {f : D → D} : ∀ (ds acc : List D), acc.length + ds.length ≤ sizeLine → (∀ d ∈ ds, ∃ Γ1, gg d Γ = some Γ1 ∧ ge Γ1 M = .ok (f d) M) → gLcL gg gYes ge Γ ds acc M = .ok (acc ++ ds.map f) M
  | [], acc, _, _ => by simp [gLcL]
  | d :: ds, acc, h, hf => by
    obtain ⟨Γ1, h1, h2⟩ := hf d (by simp)
    simp only [List.length_cons] at h
    have ih := lcL_map (gg := gg) (ge := ge) (Γ := Γ) (M := M) (f := f) ds (acc ++ [f d]) (by simp; omega) fun e he => hf e (by simp [he])
    have q : acc.length < sizeLine := by omega
    simp [gLcL, h1, h2, q, ih]
theorem lcL_filter {gg : GG} {gt : GT} {ge : GE} {Γ : Env} {M : List MO} {f : D → D} {c : D → Bool} : ∀ (ds acc : List D), acc.length + ds.length ≤ sizeLine → (∀ d ∈ ds, ∃ Γ1, gg d Γ = some Γ1 ∧ gt Γ1 M = .ok (c d) M ∧ (c d = true → ge Γ1 M = .ok (f d) M)) → gLcL gg gt ge Γ ds acc M = .ok (acc ++ (ds.filter c).map f) M
  | [], acc, _, _ => by simp [gLcL]
  | d :: ds, acc, h, hf => by
    obtain ⟨Γ1, h1, h2, h3⟩ := hf d (by simp)
    simp only [List.length_cons] at h
    have q : acc.length < sizeLine := by omega
    cases e : c d with
    | true =>
      have ih := lcL_filter (gg := gg) (gt := gt) (ge := ge) (Γ := Γ) (M := M) (f := f) (c := c) ds (acc ++ [f d]) (by simp; omega) fun e he => hf e (by simp [he])
      simp [gLcL, h1, h2, e, h3 e, q, ih]
    | false =>
      have ih := lcL_filter (gg := gg) (gt := gt) (ge := ge) (Γ := Γ) (M := M) (f := f) (c := c) ds acc (by omega) fun e he => hf e (by simp [he])
      simp [gLcL, h1, h2, e, ih]
/-! ### walks -/
theorem forL_cons {gg : GG} {b : GS} {d : D} {ds : List D} {Γ Γ1 Γ2 : Env} {M M2 : List MO} (h1 : gg d Γ = some Γ1) (h2 : b Γ1 M = .nx Γ2 M2) : gForL gg b (d :: ds) Γ M = gForL gg b ds Γ2 M2 := by simp [h1, h2]
theorem while_go {gt : GT} {b : GS} {n : Nat} {Γ Γ2 : Env} {M M1 M2 : List MO} (h1 : gt Γ M = .ok true M1) (h2 : b Γ M1 = .nx Γ2 M2) : gWhile gt b (n + 1) Γ M = gWhile gt b n Γ2 M2 := by simp [gWhile, h1, h2]
theorem while_end {gt : GT} {b : GS} {n : Nat} {Γ : Env} {M M1 : List MO} (h1 : gt Γ M = .ok false M1) : gWhile gt b (n + 1) Γ M = .nx Γ M1 := by simp [gWhile, h1]
theorem inR_of {i : Int} (h1 : -(2 ^ 62) ≤ i) (h2 : i < 2 ^ 62) : inR i = true := by simp [inR]; omega
theorem atI_pos {α : Type} {ds : List α} {i : Int} (h0 : 0 ≤ i) (h1 : i < ds.length) : atI ds i = ds[i.toNat]? := by
  have l : i.toNat < ds.length := by omega
  simp [atI, ixN, h0, h1]
theorem atI_lt {ds : List D} {i : Int} (h0 : 0 ≤ i) (h1 : i < ds.length) : ∃ d, atI ds i = some d ∧ ds[i.toNat]? = some d := by
  have l : i.toNat < ds.length := by omega
  exact ⟨ds[i.toNat], by rw [atI_pos h0 h1]; exact List.getElem?_eq_getElem l, List.getElem?_eq_getElem l⟩
theorem atI_ints {is : List Int} {i : Int} (h0 : 0 ≤ i) (h1 : i < is.length) : ∃ j, is[i.toNat]? = some j ∧ atI (is.map D.int) i = some (.int j) := by
  have l : i.toNat < is.length := by omega
  refine ⟨is[i.toNat], List.getElem?_eq_getElem l, ?_⟩
  rw [atI_pos h0 (by simpa using h1)]
  simp [l]
theorem ixN_lt {n : Nat} {i : Int} (h0 : 0 ≤ i) (h1 : i < n) : ixN n i = some i.toNat := by simp [ixN, h0, h1]
theorem popAt_run {M : List MO} {ds : List D} {i : Int} {d : D} (h0 : 0 ≤ i) (h1 : i < ds.length) (h : ds[i.toNat]? = some d) (h2 : i < 2 ^ 62) : mPopAt M ds (.int i) = some (ds.eraseIdx i.toNat, d) := by
  have a : -(2 ^ 63) ≤ i := by omega
  have b : i < 2 ^ 63 := by omega
  simp only [mPopAt, ixN_lt h0 h1, h]
  simp [a, b]
  omega
@[simp] theorem append_run (M : List MO) (ds : List D) (y : D) : mAppend M ds y = if ds.length < sizeLine then some (ds ++ [y], .non) else none := rfl
theorem cutD_upto {ds : List D} {n : Nat} : cutD ds none (some (n : Int)) = ds.take n := by
  unfold cutD
  rw [HT.sIx_none, HT.sIx_nat]
  simp
end Bk
namespace Bk
theorem erase_perm {α : Type} : ∀ (l : List α) (i : Nat) (h : i < l.length), (l[i] :: l.eraseIdx i).Perm l
  | [], _, h => by simp at h
  | a :: l, 0, _ => by simp
  | a :: l, i + 1, h => by
    simp only [List.getElem_cons_succ, List.eraseIdx_cons_succ]
    exact (List.Perm.swap _ _ _).trans (List.Perm.cons _ (erase_perm l i (by simpa using h)))
theorem map_erase {α β : Type} (f : α → β) : ∀ (l : List α) (i : Nat), (l.map f).eraseIdx i = (l.eraseIdx i).map f
  | [], _ => rfl
  | a :: l, 0 => rfl
  | a :: l, i + 1 => by simp [map_erase f l i]
end Bk

set_option Elab.async false
set_option linter.all false
set_option maxRecDepth 100000
set_option maxHeartbeats 2000000
namespace Bk
open PySem PySem.Spec PyProof.Rows L2
/-! ### zip of two lists or tuples of any kind -/
def Izz (K : PySem.W.Frag) (S1 S2 : Src) : It :=
  ⟨fun n H => ∃ (xs ys : List V) (x y : V), S1.here K H xs ∧ S2.here K H ys ∧ xs[n]? = some x ∧ ys[n]? = some y, fun n H v H' => ∃ T x y, v = .ref T ∧ H T = none ∧ H' = upd H T (.tup [x, y]) ∧ (∀ xs, S1.here K H xs → xs[n]? = some x) ∧ ∀ ys, S2.here K H ys → ys[n]? = some y, fun n H => ∃ xs ys : List V, S1.here K H xs ∧ S2.here K H ys ∧ min xs.length ys.length = n⟩
theorem turn_zz {P : Program} {w : World} {K : PySem.W.Frag} {elts : List Expr} {kk : Nat} {tpos : Pos} (S1 S2 : Src) (N : Nat) (lt1 : S1.addr < N) (lt2 : S2.addr < N) :
    Turn P w K (.Tuple elts kk tpos) (Izz K S1 S2) [N + 4, N + 2, N + 3, N, N + 1] (N + 4) (fun n h => IsZip h (N + 4) (N + 2) (N + 3) .none ∧ IsTupOf2 h (N + 2) (.ref N) (.ref (N + 1)) ∧ (∃ a1 a2, IsTupOf2 h (N + 3) a1 a2) ∧ S1.it h N n ∧ S2.it h (N + 1) n) where
  mem := List.mem_cons_self
  obj := fun n h st b hb => by
    obtain ⟨hz, hTI, ⟨x, y, hTO⟩, h1, h2⟩ := st
    have e' : b = N + 4 ∨ b = N + 2 ∨ b = N + 3 ∨ b = N ∨ b = N + 1 := by simpa using hb
    rcases e' with q | q | q | q | q
    · rw [q]; exact ⟨_, hz, fun v q => nomatch q⟩
    · rw [q]; exact ⟨_, hTI, fun v q => nomatch q⟩
    · rw [q]; exact ⟨_, hTO, fun v q => nomatch q⟩
    · rw [q]; exact Src.it_obj h1
    · rw [q]; exact Src.it_obj h2
  keep := fun n h h' st k => by
    obtain ⟨hz, hTI, ⟨x, y, hTO⟩, h1, h2⟩ := st
    exact ⟨k _ (by simp) _ hz, k _ (by simp) _ hTI, ⟨x, y, k _ (by simp) _ hTO⟩, Src.it_at h1 fun o q => k _ (by simp) o q, Src.it_at h2 fun o q => k _ (by simp) o q⟩
  item := by
    intro X hP hw hK hc n pins s σ H E I hf st hg
    subst hP hw hK
    obtain ⟨xs, ys, x, y, hqx, hqy, hx, hy⟩ := hg
    obtain ⟨hz, hTI, hTO, h1, h2⟩ := st
    obtain ⟨its1, rv1, har1⟩ := Src.inv I hqx
    obtain ⟨its2, rv2, har2⟩ := Src.inv I hqy
    obtain ⟨u1, hu1, ru1⟩ := rv1.get hx
    obtain ⟨u2, hu2, ru2⟩ := rv2.get hy
    have hh : X.A.in1.handled = none := I.ok.hd hc
    have Wk := WalksT.zipD2 (prog := X.prog) (w := X.w) (A := X.A) (zip_sep2 (N := N) (fp1 := [S1.addr]) (fp2 := [S2.addr]) (fun b hb => by rw [List.mem_singleton.mp hb]; exact lt1) (fun b hb => by rw [List.mem_singleton.mp hb]; exact lt2))
      (Src.draws hh S1 N (Nat.ne_of_lt lt1) its1.toArray) (Src.draws hh S2 (N + 1) (by have q : S2.addr ≠ N + 1 := Nat.ne_of_lt (Nat.lt_succ_of_lt lt2); exact q) its2.toArray)
    have ln1 : n < its1.toArray.size := by
      have := (List.getElem?_eq_some_iff.mp hu1).1
      simpa using this
    have ln2 : n < its2.toArray.size := by
      have := (List.getElem?_eq_some_iff.mp hu2).1
      simpa using this
    refine Wk.item n s _ E (by omega) ⟨hz, hTI, hTO, ⟨h1, har1⟩, ⟨h2, har2⟩⟩ fun T vals h' tk hP hT hTup hMid hk => ⟨_, rfl, Wk.go elts kk tpos n T _ _ _ hMid fun h2' hSt hk2 => ?_⟩
    obtain ⟨x1, x2, p1, p2, hvals⟩ := hP
    subst hvals
    have ex1 : x1 = u1 := by
      have q : its1.toArray[n]? = some u1 := by simpa using hu1
      rw [p1] at q
      exact Option.some.inj q
    have ex2 : x2 = u2 := by
      have q : its2.toArray[n]? = some u2 := by simpa using hu2
      rw [p2] at q
      exact Option.some.inj q
    subst ex1 ex2
    have out := Wk.apart n T _ hMid
    have tup2 : h2'.IsTuple T #[x1, x2] := hTup.at fun o q => hk2 T o out q
    have new : ObjOk X.prog X.w (upd H T (.tup [x, y])) h2' T (.tup [x, y]) :=
      ⟨by show 2 ≤ sizeLine; decide, [x1, x2], .cons ru1 (.cons ru2 .nil), tup2⟩
    have sub : ∀ c, c ∉ [N + 4, N + 2, N + 3, N, N + 1] → c ∉ [N + 4, N + 3, N, N + 1] := fun c hc q => hc (by
      have e' : c = N + 4 ∨ c = N + 3 ∨ c = N ∨ c = N + 1 := by simpa using q
      rcases e' with z | z | z | z <;> simp [z])
    have J := I.turnedNew (t' := tk) (ch := [N + 4, N + 2, N + 3, N, N + 1]) (fun b ob hb q => hk2 b ob (sub b hb) (hk b ob (sub b hb) q)) hf hT new
    refine ⟨.ref T, _, J, rfl, ⟨T, x, y, rfl, I.hok.fresh hT, rfl, fun ys' hy' => by rw [Src.inj I hy' hqx]; exact hx, fun ys' hy' => by rw [Src.inj I hy' hqy]; exact hy⟩, ?_, fun b hb => ?_⟩
    · obtain ⟨g1, g2, g3, ⟨g4, _⟩, ⟨g5, _⟩⟩ := hSt
      exact ⟨g1, g2, g3, g4, g5⟩
    · have hb' : b < s.heap.objs.size := by
        have e' : b = N + 4 ∨ b = N + 2 ∨ b = N + 3 ∨ b = N ∨ b = N + 1 := by simpa using hb
        rcases e' with q | q | q | q | q
        · rw [q]; exact Heap.lt_size hz
        · rw [q]; exact Heap.lt_size hTI
        · rw [q]; obtain ⟨_, _, q'⟩ := hTO; exact Heap.lt_size q'
        · rw [q]; obtain ⟨_, q', _⟩ := Src.it_obj h1; exact Heap.lt_size q'
        · rw [q]; obtain ⟨_, q', _⟩ := Src.it_obj h2; exact Heap.lt_size q'
      rw [upd_ne (Nat.ne_of_lt (Nat.lt_of_lt_of_le hb' hT))]
      exact (hf b hb).1
  done := by
    intro X hP hw hK hc n pins s σ H E I hf st hg
    subst hP hw hK
    obtain ⟨xs, ys, hqx, hqy, hl⟩ := hg
    obtain ⟨hz, hTI, hTO, h1, h2⟩ := st
    obtain ⟨its1, rv1, har1⟩ := Src.inv I hqx
    obtain ⟨its2, rv2, har2⟩ := Src.inv I hqy
    have hh : X.A.in1.handled = none := I.ok.hd hc
    have Wk := WalksT.zipD2 (prog := X.prog) (w := X.w) (A := X.A) (zip_sep2 (N := N) (fp1 := [S1.addr]) (fp2 := [S2.addr]) (fun b hb => by rw [List.mem_singleton.mp hb]; exact lt1) (fun b hb => by rw [List.mem_singleton.mp hb]; exact lt2))
      (Src.draws hh S1 N (Nat.ne_of_lt lt1) its1.toArray) (Src.draws hh S2 (N + 1) (by have q : S2.addr ≠ N + 1 := Nat.ne_of_lt (Nat.lt_succ_of_lt lt2); exact q) its2.toArray)
    have en : min its1.toArray.size its2.toArray.size = n := by rw [List.size_toArray, List.size_toArray, ← rv1.length, ← rv2.length]; exact hl
    rw [en] at Wk
    have sub : ∀ c, c ∉ [N + 4, N + 2, N + 3, N, N + 1] → c ∉ [N + 4, N + 3, N, N + 1] := fun c hc q => hc (by
      have e' : c = N + 4 ∨ c = N + 3 ∨ c = N ∨ c = N + 1 := by simpa using q
      rcases e' with z | z | z | z <;> simp [z])
    exact Wk.done s _ E ⟨hz, hTI, hTO, ⟨h1, har1⟩, ⟨h2, har2⟩⟩ fun h' tk hk => ⟨rfl, I.turnedL (t' := tk) (ch := [N + 4, N + 2, N + 3, N, N + 1]) (fun b ob hb q => hk b ob (sub b hb) q) hf⟩
  self := fun A n s Q E st h => wpAny_pyIter_zip st.1 h
theorem itr_zz {K : PySem.W.Frag} {Z : Hp} {ι : Nat → Addr} {n : Nat} {S1 S2 : Src} {xs ys : List V} {ds es : List D} (s1 : S1.here K Z xs) (s2 : S2.here K Z ys) (r1 : Rps K Z ι n ds xs) (r2 : Rps K Z ι n es ys) : ItR K (Izz K S1 S2) (zipL ds es) Z ι n := by
  intro i H' Z' ι' M' hz hi hn hr _
  have sH : S1.here K H' xs := here_sub (fun a o h => hr.sub _ _ (hz _ _ h)) s1
  have sK : S2.here K H' ys := here_sub (fun a o h => hr.sub _ _ (hz _ _ h)) s2
  refine ⟨fun hl => ⟨xs, ys, sH, sK, by rw [← r1.length, ← r2.length, ← zipL_len]; exact hl⟩, fun d hd => ?_⟩
  obtain ⟨d0, e0, h1, h2, rfl⟩ := zipL_get ds es i d hd
  obtain ⟨v, hv, rv⟩ := r1.get h1
  obtain ⟨u, hu, ru⟩ := r2.get h2
  refine ⟨⟨xs, ys, v, u, sH, sK, hv, hu⟩, fun x H2 hy => ?_⟩
  obtain ⟨T, x', y', rfl, hT, rfl, hx, hy⟩ := hy
  have ex : xs[i]? = some x' := hx _ sH
  rw [hv] at ex
  cases ex
  have ey : ys[i]? = some y' := hy _ sK
  rw [hu] at ey
  cases ey
  obtain ⟨q1, q2⟩ := hr.frozen (o := .tup [v, u]) hT
  refine ⟨_, q2, q1, .tup (.inl (.inl upd_same)) (.cons ?_ (.cons ?_ .nil))⟩
  · exact Rp.ext (Rp.mono hz hi hn _ _ rv) q2
  · exact Rp.ext (Rp.mono hz hi hn _ _ ru) q2
section
variable {X : Cx} {C : CT} {W : WX} {e e2 : Expr} {ga gb : GE} {p pos tpos : Pos} {elts : List Expr} {kk : Nat}
theorem qi_zip (hg : Gl X "zip") (hm : X.mg "zip" = none) (ha : QE X C W e ga) (hb : QE X C W e2 gb) (hs : starEach [e, e2] X.env = (false, eval e X.env) :: starEach [e2] X.env := by rfl) (hs2 : starEach [e2] X.env = (false, eval e2 X.env) :: starEach [] X.env := by rfl)
    (hpl : (backTo pos (starEach [e2] X.env)).any (·.1) = false := by rfl) : QI X C W (.Tuple elts kk tpos) (.Call (.Name "zip" p) [e, e2] [] pos) (gZip ga gb) := by
  obtain ⟨ta, pa, qa⟩ := ha
  obtain ⟨tb, pb, qb⟩ := hb
  refine ⟨fun σ H R => ta σ H fun v H1 => tb σ H1 fun u H2 => ∃ (S1 S2 : Src) (xs ys : List V), v = .ref S1.addr ∧ u = .ref S2.addr ∧ S1.here X.K H2 xs ∧ S2.here X.K H2 ys ∧ R (Izz X.K S1 S2) H2, ⟨fun pins s σ H R I h => ?_⟩,
    fun σ H Z ι Γ M Q sl hr h => qa σ H Z ι Γ M _ sl hr (Post.bind h fun x M1 v H1 Z1 ι1 e1 hr1 r1 h1 => qb σ H1 Z1 ι1 Γ M1 _ (sl.ext e1) hr1 (h1.bind fun y M2 u H2 Z2 ι2 e2 hr2 r2 h2 => ?_))⟩
  · refine Call_ (ld_blt I hg hm boot_zip (PyProof.Rows.callWith_type1 (thn ((pa_cons pa (pa_cons pb pa_nil hs2) hs).run pos pins s σ H (fun vs H1 => ∃ v u, vs = [v, u] ∧ ∃ (S1 S2 : Src) (xs ys : List V), v = .ref S1.addr ∧ u = .ref S2.addr ∧ S1.here X.K H1 xs ∧ S2.here X.K H1 ys ∧ R (Izz X.K S1 S2) H1) I ?_) fun us s1 hh => ?_) hs hpl))
    · have hmono : (fun x H1 => tb σ H1 fun y H2 => tNil σ H2 fun ys H3 => ∃ v u, x :: y :: ys = [v, u] ∧ ∃ (S1 S2 : Src) (xs zs : List V), v = .ref S1.addr ∧ u = .ref S2.addr ∧ S1.here X.K H3 xs ∧ S2.here X.K H3 zs ∧ R (Izz X.K S1 S2) H3) =
          fun (v : V) (H1 : Hp) => tb σ H1 fun u H2 => ∃ (S1 S2 : Src) (xs ys : List V), v = .ref S1.addr ∧ u = .ref S2.addr ∧ S1.here X.K H2 xs ∧ S2.here X.K H2 ys ∧ R (Izz X.K S1 S2) H2 := by
        funext x H1
        congr 1
        funext y H2
        apply propext
        constructor
        · rintro ⟨v, u, ev, q⟩
          cases ev
          exact q
        · intro q
          exact ⟨x, y, rfl, q⟩
      show ta σ H fun x H1 => tb σ H1 fun y H2 => tNil σ H2 fun ys H3 => ∃ v u, x :: y :: ys = [v, u] ∧ ∃ (S1 S2 : Src) (xs zs : List V), v = .ref S1.addr ∧ u = .ref S2.addr ∧ S1.here X.K H3 xs ∧ S2.here X.K H3 zs ∧ R (Izz X.K S1 S2) H3
      rw [hmono]
      exact h
    · obtain ⟨vs, H1, J, r1, v, u, rfl, S1, S2, xs, ys, rfl, rfl, hq1, hq2, q⟩ := hh
      obtain ⟨u1, u2, rfl, ru, ru2⟩ := Vals.two r1
      cases ru
      cases ru2
      obtain ⟨its1, rv1, har1⟩ := Src.inv J hq1
      obtain ⟨its2, rv2, har2⟩ := Src.inv J hq2
      refine zip_begins2 (S1.begins its1.toArray) (S2.begins its2.toArray) har1 har2 fun h' hz hTI hTO hi1 hi2 hsz hk => wpAny_pyIter_zip hz ?_
      have J2 : Inv X pins σ H1 { s1 with heap := h' } := J.kept (t' := s1.toks) hk
      refine ⟨s1.heap.objs.size + 4, [s1.heap.objs.size + 4, s1.heap.objs.size + 2, s1.heap.objs.size + 3, s1.heap.objs.size, s1.heap.objs.size + 1], _, _, H1, rfl, J2, turn_zz S1 S2 s1.heap.objs.size (Src.arr_lt har1) (Src.arr_lt har2), ⟨hz, hTI, ⟨_, _, hTO⟩, Src.start hi1, Src.start hi2⟩, fun b hb => ?_, q⟩
      have e' : b = s1.heap.objs.size + 4 ∨ b = s1.heap.objs.size + 2 ∨ b = s1.heap.objs.size + 3 ∨ b = s1.heap.objs.size ∨ b = s1.heap.objs.size + 1 := by simpa using hb
      have le : s1.heap.objs.size ≤ b := by
        rcases e' with z | z | z | z | z
        · rw [z]; exact Nat.le_add_right _ _
        · rw [z]; exact Nat.le_add_right _ _
        · rw [z]; exact Nat.le_add_right _ _
        · rw [z]; exact Nat.le_refl _
        · rw [z]; exact Nat.le_add_right _ _
      exact J.fpOk le (J.hok.fresh le)
  · obtain ⟨items, hd, h3⟩ := Post.of_opR (γ := D) (δ := V) h2
    unfold zipO at hd
    cases es : seqD x with
    | none => rw [es] at hd; cases hd
    | some ds =>
      cases et : seqD y with
      | none => rw [es, et] at hd; cases hd
      | some dt =>
        rw [es, et] at hd
        cases hd
        obtain ⟨S1, xs, rfl, hS1, q1⟩ := src_of hr2.sub (r1.ext e2) es
        obtain ⟨S2, ys, rfl, hS2, q2⟩ := src_of hr2.sub r2 et
        exact ⟨S1, S2, xs, ys, rfl, rfl, here_sub hr2.sub hS1, here_sub hr2.sub hS2, h3 _ H2 Z2 ι2 .refl hr2 (itr_zz hS1 hS2 q1 q2)⟩
end
end Bk

set_option Elab.async false
set_option linter.all false
set_option maxRecDepth 100000
set_option maxHeartbeats 2000000
namespace Bk
open PySem PySem.Spec PyProof.Rows L2
open PySem.W (kdx_alive)
/-! ### list(zip(a, b)): the zip's tuples stay, so each turn makes a new one -/
section
variable {prog : Program} {w : World} {A : Around} {E : Value → Shared → Prop} {s : Shared} {z TI TO i1 i2 T : Addr} {fp1 fp2 : List Addr} {n1 n2 i : Nat} {P1 P2 : Nat → Value → Prop} {St1 St2 : Nat → Heap → Prop} {f : Bool} {oT : Obj}
theorem zz_item {Q : Value → Shared → Prop} (S : ZipSep2 z TI TO i1 i2 fp1 fp2) (D1 : Draws prog w A i1 fp1 n1 P1 St1) (D2 : Draws prog w A i2 fp2 n2 P2 St2) (hz : IsZipHeld s.heap z TI TO T f) (hT : s.heap.get? T = some oT) (hTI : IsTupOf2 s.heap TI (.ref i1) (.ref i2)) (t1 : St1 i s.heap) (t2 : St2 i s.heap) (l1 : i < n1) (l2 : i < n2)
    (hQ : ∀ x1 x2 h' tk, P1 i x1 → P2 i x2 → IsZipHeld h' z TI TO T true → St1 (i + 1) h' → St2 (i + 1) h' → IsTupOf2 h' s.heap.objs.size x1 x2 → h'.objs.size = s.heap.objs.size + 1 → (∀ c o, c ≠ z → c ≠ i1 → c ≠ i2 → s.heap.get? c = some o → h'.get? c = some o) → Q (.ref s.heap.objs.size) { s with heap := h', toks := tk }) :
    wpAny (model prog w) A (Builtin.«zip.__next__» ⟨[.ref z], []⟩) (fun r s' => ∃ v, r = .done (.ret v) ∧ Q v s') E s := by
  obtain ⟨hp, gn, dr, tk0, os⟩ := s
  show wpAny _ _ (field (.ref z) 2 >>= _) _ _ _; refine wpAny_bind (wpAny_field hz rfl (x := .bool false) rfl ?_)
  show wpAny _ _ (field (.ref z) 3 >>= _) _ _ _; refine wpAny_bind (wpAny_field hz rfl (x := .ref TI) rfl ?_)
  refine wpAny_bind (wpAny_seqItems hTI rfl ?_); show wpAny _ _ (Builtin.SmallTypes.ownedTupleIsFree (.ref z) >>= _) _ _ _
  refine wpAny_bind (wpAny_tupleHeld_zip hz hT fun g0 zg0 sg0 => ?_); simp only [Bool.false_eq_true, if_false]; refine wpAny_bind ?_
  replace sg0 : Heap.SameBut z hp g0 := sg0
  rw [← Array.forIn_toList]; simp only [List.forIn_cons, List.forIn_nil]
  refine wpAny_bind (wpAny_bind (wpAny_holding ?_)); show wpAny _ _ (Builtin.SmallTypes.nextOf (.ref i1) >>= _) _ _ ⟨g0, gn, dr, tk0, os⟩
  refine wpAny_bind (D1.item i _ _ _ l1 (D1.over t1 sg0 S.zf1) fun x1 g1 k1 hx1 tn1 sg1 => wpAny_pure ?_)
  replace sg1 : Heap.SameBut i1 g0 g1 := sg1
  refine wpAny_pure ?_
  refine wpAny_bind (wpAny_bind (wpAny_holding ?_)); show wpAny _ _ (Builtin.SmallTypes.nextOf (.ref i2) >>= _) _ _ ⟨g1, gn, dr, k1, os⟩
  refine wpAny_bind (D2.item i _ _ _ l2 (D2.over (D2.over t2 sg0 S.zf2) sg1 S.sep1_2) fun x2 g2 k2 hx2 tn2 sg2 => wpAny_pure ?_)
  replace sg2 : Heap.SameBut i2 g1 g2 := sg2
  refine wpAny_pure (wpAny_pure ?_); show wpAny _ _ (newTuple [x1, x2] >>= _) _ _ _; refine wpAny_bind (wpAny_newTuple ?_)
  have sz : g2.objs.size = hp.objs.size := by rw [sg2.1, sg1.1, sg0.1]
  have zg2 : IsZipHeld g2 z TI TO T true := sg2.extBut _ _ S.zi2 (sg1.extBut _ _ S.zi1 zg0)
  have hk : ∀ c o, c ≠ z → c ≠ i1 → c ≠ i2 → hp.get? c = some o → g2.get? c = some o := fun c o c1 c2 c3 e => sg2.extBut _ _ c3 (sg1.extBut _ _ c2 (sg0.extBut _ _ c1 e))
  have q1 : St1 (i + 1) g2 := D1.over tn1 sg2 S.sep2_1
  refine wpAny_pure ⟨_, rfl, ?_⟩
  show Q (.ref g2.objs.size) _
  have hp2 : IsTupOf2 (g2.push { cls := .type "tuple", data := .seq #[x1, x2] }) g2.objs.size x1 x2 := Heap.get?_push_size _ rfl
  have sz2 : (g2.push { cls := .type "tuple", data := .seq #[x1, x2] }).objs.size = g2.objs.size + 1 := Heap.size_push ..
  rw [sz] at hp2 sz2 ⊢
  exact hQ x1 x2 _ k2 hx1 hx2 (Heap.get?_push_of_some _ zg2) (D1.frame _ _ _ q1 fun b _ o e => Heap.get?_push_of_some _ e) (D2.frame _ _ _ tn2 fun b _ o e => Heap.get?_push_of_some _ e) hp2 sz2 fun c o c1 c2 c3 e => Heap.get?_push_of_some _ (hk c o c1 c2 c3 e)
theorem zz_end {Q : Fin → Shared → Prop} (S : ZipSep2 z TI TO i1 i2 fp1 fp2) (D1 : Draws prog w A i1 fp1 n1 P1 St1) (D2 : Draws prog w A i2 fp2 n2 P2 St2) (hz : IsZipHeld s.heap z TI TO T f) (hT : s.heap.get? T = some oT) (hTI : IsTupOf2 s.heap TI (.ref i1) (.ref i2)) (t1 : St1 i s.heap) (t2 : St2 i s.heap) (l1 : i ≤ n1) (l2 : i ≤ n2) (hend : i = n1 ∨ i = n2)
    (hE : ∀ h' tk e, (∀ c o, c ≠ z → c ≠ i1 → c ≠ i2 → s.heap.get? c = some o → h'.get? c = some o) → (∃ o, h'.get? e = some o ∧ o.cls = .type "StopIteration") → E (.ref e) { s with heap := h', toks := tk }) :
    wpAny (model prog w) A (Builtin.«zip.__next__» ⟨[.ref z], []⟩) Q E s := by
  obtain ⟨hp, gn, dr, tk0, os⟩ := s
  show wpAny _ _ (field (.ref z) 2 >>= _) _ _ _; refine wpAny_bind (wpAny_field hz rfl (x := .bool false) rfl ?_)
  show wpAny _ _ (field (.ref z) 3 >>= _) _ _ _; refine wpAny_bind (wpAny_field hz rfl (x := .ref TI) rfl ?_)
  refine wpAny_bind (wpAny_seqItems hTI rfl ?_); show wpAny _ _ (Builtin.SmallTypes.ownedTupleIsFree (.ref z) >>= _) _ _ _
  refine wpAny_bind (wpAny_tupleHeld_zip hz hT fun g0 zg0 sg0 => ?_); simp only [Bool.false_eq_true, if_false]; refine wpAny_bind ?_
  replace sg0 : Heap.SameBut z hp g0 := sg0
  rw [← Array.forIn_toList]; simp only [List.forIn_cons, List.forIn_nil]
  refine wpAny_bind (wpAny_bind (wpAny_holding ?_)); show wpAny _ _ (Builtin.SmallTypes.nextOf (.ref i1) >>= _) _ _ ⟨g0, gn, dr, tk0, os⟩
  by_cases c : i < n1
  · refine wpAny_bind (D1.item i _ _ _ c (D1.over t1 sg0 S.zf1) fun x1 g1 k1 hx1 tn1 sg1 => wpAny_pure ?_)
    replace sg1 : Heap.SameBut i1 g0 g1 := sg1
    refine wpAny_pure ?_
    have c2 : i = n2 := by omega
    refine wpAny_bind (wpAny_bind (wpAny_holding ?_)); show wpAny _ _ (Builtin.SmallTypes.nextOf (.ref i2) >>= _) _ _ ⟨g1, gn, dr, k1, os⟩
    refine wpAny_bind (D2.done ⟨g1, gn, dr, k1, os⟩ _ _ (by rw [← c2]; exact D2.over (D2.over t2 sg0 S.zf2) sg1 S.sep1_2) fun q e hq he => ?_)
    replace hq : Heap.ExtBut i2 g1 q := hq
    exact hE q k1 e (fun c o cz c1 c2 x => hq _ _ c2 (sg1.extBut _ _ c1 (sg0.extBut _ _ cz x))) he
  · have c1 : i = n1 := by omega
    refine wpAny_bind (D1.done ⟨g0, gn, dr, tk0, os⟩ _ _ (by rw [← c1]; exact D1.over t1 sg0 S.zf1) fun q e hq he => ?_)
    replace hq : Heap.ExtBut i1 g0 q := hq
    exact hE q tk0 e (fun c o cz c1 _ x => hq _ _ c1 (sg0.extBut _ _ cz x)) he
/-- where a zip stands whose tuples are kept -/
def ZH (z TI TO : Addr) (no : List Addr) (h : Heap) : Prop := (IsZip h z TI TO .none ∧ ∃ a1 a2, IsTupOf2 h TO a1 a2) ∨ ∃ T f oT, IsZipHeld h z TI TO T f ∧ h.get? T = some oT ∧ T ∉ no
theorem zh_item {no : List Addr} {Q : Option Value → Shared → Prop} (S : ZipSep2 z TI TO i1 i2 fp1 fp2) (D1 : Draws prog w A.in1 i1 fp1 n1 P1 St1) (D2 : Draws prog w A.in1 i2 fp2 n2 P2 St2) (hz : ZH z TI TO no s.heap) (hn : z ∈ no ∧ i1 ∈ no ∧ i2 ∈ no) (hno : ∀ b ∈ no, b < s.heap.objs.size) (hTI : IsTupOf2 s.heap TI (.ref i1) (.ref i2)) (t1 : St1 i s.heap) (t2 : St2 i s.heap) (l1 : i < n1) (l2 : i < n2)
    (hQ : ∀ x1 x2 h' tk, P1 i x1 → P2 i x2 → ZH z TI TO no h' → St1 (i + 1) h' → St2 (i + 1) h' → IsTupOf2 h' s.heap.objs.size x1 x2 → h'.objs.size = s.heap.objs.size + 1 → (∀ c o, c ≠ z → c ≠ TO → c ≠ i1 → c ≠ i2 → s.heap.get? c = some o → h'.get? c = some o) → Q (some (.ref s.heap.objs.size)) { s with heap := h', toks := tk }) :
    wpAny (model prog w) A (pyNext (.ref z)) Q E s := by
  have fresh : s.heap.objs.size ∉ no := fun q => Nat.lt_irrefl _ (hno _ q)
  rcases hz with ⟨hz, a1, a2, hTO⟩ | ⟨T, f, oT, hz, hT, hTn⟩
  · exact wpAny_pyNext_zipD2_item S D1 D2 hz hTI hTO t1 t2 l1 l2 fun x1 x2 h' tk p1 p2 b1 b2 d1 d2 b5 b6 hk => hQ x1 x2 h' tk p1 p2 (.inr ⟨_, false, _, b1, b5, fresh⟩) d1 d2 b5 b6 hk
  · have hTy : s.TypeIs (.ref z) "zip" := ⟨_, hz, rfl⟩
    unfold pyNext
    refine wpAny_bind (wpAny_attempt (wpAny_callSpecial?_slot (name := Str.ofString "__next__") hTy F.slot_zip_next (wpAny_call_entry F.slot_zip_next hTy F.entry_zip_next
      (zz_item S D1 D2 hz hT hTI t1 t2 l1 l2 fun x1 x2 h' tk p1 p2 b1 d1 d2 b5 b6 hk => wpAny_pure (hQ x1 x2 h' tk p1 p2 (.inr ⟨T, true, oT, b1, hk T oT (fun q => hTn (q ▸ hn.1)) (fun q => hTn (q ▸ hn.2.1)) (fun q => hTn (q ▸ hn.2.2)) hT, hTn⟩) d1 d2 b5 b6 fun c o c1 _ c2 c3 e => hk c o c1 c2 c3 e)) (F.args_zip_next_1 _))))
theorem zh_end {no : List Addr} {Q : Option Value → Shared → Prop} (S : ZipSep2 z TI TO i1 i2 fp1 fp2) (D1 : Draws prog w A.in1 i1 fp1 n1 P1 St1) (D2 : Draws prog w A.in1 i2 fp2 n2 P2 St2) (hz : ZH z TI TO no s.heap) (hTI : IsTupOf2 s.heap TI (.ref i1) (.ref i2)) (t1 : St1 i s.heap) (t2 : St2 i s.heap) (l1 : i ≤ n1) (l2 : i ≤ n2) (hend : i = n1 ∨ i = n2)
    (hQ : ∀ h' tk, (∀ c o, c ≠ z → c ≠ TO → c ≠ i1 → c ≠ i2 → s.heap.get? c = some o → h'.get? c = some o) → Q none { s with heap := h', toks := tk }) : wpAny (model prog w) A (pyNext (.ref z)) Q E s := by
  rcases hz with ⟨hz, a1, a2, hTO⟩ | ⟨T, f, oT, hz, hT, hTn⟩
  · exact wpAny_pyNext_zipD2_end S D1 D2 hz hTI hTO t1 t2 l1 l2 hend hQ
  · have hTy : s.TypeIs (.ref z) "zip" := ⟨_, hz, rfl⟩
    unfold pyNext
    refine wpAny_bind (wpAny_attempt (wpAny_callSpecial?_slot (name := Str.ofString "__next__") hTy F.slot_zip_next (wpAny_call_entry F.slot_zip_next hTy F.entry_zip_next (zz_end S D1 D2 hz hT hTI t1 t2 l1 l2 hend fun h' tk e hk he => ?_) (F.args_zip_next_1 _))))
    obtain ⟨o, ho, hc⟩ := he
    exact wpAny_bind (wpAny_isInstance (T := "StopIteration") (b := true) ⟨o, ho, hc⟩ isSubtype_stop (wpAny_pure (hQ _ _ fun c o c1 _ c2 c3 e => hk c o c1 c2 c3 e)))
end
end Bk

set_option Elab.async false
set_option linter.all false
set_option maxRecDepth 100000
set_option maxHeartbeats 4000000
namespace Bk
open PySem PySem.Spec PyProof.Rows L2
/-- tuples laid one after the other -/
inductive Laid : Hp → List (V × V) → List Addr → Hp → Prop
  | nil (H : Hp) : Laid H [] [] H
  | snoc {H H1 : Hp} {ps : List (V × V)} {Ts : List Addr} {T : Addr} {x y : V} : Laid H ps Ts H1 → H1 T = none → Laid H (ps ++ [(x, y)]) (Ts ++ [T]) (upd H1 T (.tup [x, y]))
theorem zip_no_len : typeLookup (.type "zip") "__len__" = pure none := am_miss_of_fast (by decide +kernel)
theorem zip_no_hint : typeLookup (.type "zip") "__length_hint__" = pure none := am_miss_of_fast (by decide +kernel)
theorem zip_hint {prog : Program} {w : World} {A : Around} {E : Value → Shared → Prop} {s : Shared} {r : Addr} {Q : Bool → Shared → Prop} (hT : s.TypeIs (.ref r) "zip") (h : Q true s) : wpAny (model prog w) A (Builtin.List.listLengthHint (.ref r)) Q E s := by
  unfold Builtin.List.listLengthHint
  refine wpAny_bind (wpAny_specialOf hT zip_no_len ?_)
  refine wpAny_bind (wpAny_specialOf hT zip_no_hint ?_)
  exact wpAny_pure h
section
variable {X : Cx} {pins : List (Addr × Obj)} {σ : L2.St} {S1 S2 : Src} {N Sx : Nat} {its1 its2 : List Value} {xs ys : List V} {A : Around} {H0 : Hp} {R : Result → Shared → Prop}
abbrev zch (N Sx : Nat) : List Addr := [N + 4, N + 2, N + 3, N, N + 1, Sx]
theorem zl_loop (hh : A.handled = none) (rv1 : Vals xs its1) (rv2 : Vals ys its2) (lt1 : S1.addr < N) (lt2 : S2.addr < N) (hSx : N + 4 < Sx) (res : Value) (hlen : min xs.length ys.length ≤ sizeLine)
    (hR : ∀ (s' : Shared) (H' : Hp) (Ts : List Addr) (acc : Array Value) (c : Nat), Inv X pins σ H' s' → FpOk X pins H' Sx → Laid H0 (xs.zip ys) Ts H' → s'.heap.get? Sx = some { cls := .type "list", dict := none, data := .seq acc c, slots := #[] } → acc.toList = Ts.map Value.ref → R (.ok (.ret res)) s') :
    ∀ (k i : Nat) (s : Shared) (H : Hp) (c : Nat) (acc : Array Value) (Ts : List Addr), min xs.length ys.length - i = k → i ≤ min xs.length ys.length → Inv X pins σ H s → (∀ b ∈ zch N Sx, FpOk X pins H b) → ZH (N + 4) (N + 2) (N + 3) (zch N Sx) s.heap →
      IsTupOf2 s.heap (N + 2) (.ref N) (.ref (N + 1)) → S1.it s.heap N i → S2.it s.heap (N + 1) i → S1.arr s.heap its1.toArray → S2.arr s.heap its2.toArray → s.heap.get? Sx = some { cls := .type "list", dict := none, data := .seq acc c, slots := #[] } → acc.toList = Ts.map Value.ref → Ts.length = i →
      Laid H0 ((xs.zip ys).take i) Ts H → codeAny (model X.prog X.w) A (.builtin "list.extend.loop" ⟨[.ref Sx, .ref (N + 4), res], []⟩) R s := by
  have SS := zip_sep2 (N := N) (fp1 := [S1.addr]) (fp2 := [S2.addr]) (fun b hb => by rw [List.mem_singleton.mp hb]; exact lt1) (fun b hb => by rw [List.mem_singleton.mp hb]; exact lt2)
  have D1 := Src.draws (prog := X.prog) (w := X.w) (A := A.in1.in1) hh S1 N (Nat.ne_of_lt lt1) its1.toArray
  have D2 := Src.draws (prog := X.prog) (w := X.w) (A := A.in1.in1) hh S2 (N + 1) (by have q : S2.addr ≠ N + 1 := Nat.ne_of_lt (Nat.lt_succ_of_lt lt2); exact q) its2.toArray
  have len1 : its1.toArray.size = xs.length := by rw [List.size_toArray, ← rv1.length]
  have len2 : its2.toArray.size = ys.length := by rw [List.size_toArray, ← rv2.length]
  have far : ∀ {u : Nat}, u < N → ¬ (u = N + 4 ∨ u = N + 2 ∨ u = N + 3 ∨ u = N ∨ u = N + 1 ∨ u = Sx) := fun {u} a b => by omega
  have a1 : S1.addr ∉ zch N Sx := fun q => by
    have e' : S1.addr = N + 4 ∨ S1.addr = N + 2 ∨ S1.addr = N + 3 ∨ S1.addr = N ∨ S1.addr = N + 1 ∨ S1.addr = Sx := by simpa using q
    exact far lt1 e'
  have a2 : S2.addr ∉ zch N Sx := fun q => by
    have e' : S2.addr = N + 4 ∨ S2.addr = N + 2 ∨ S2.addr = N + 3 ∨ S2.addr = N ∨ S2.addr = N + 1 ∨ S2.addr = Sx := by simpa using q
    exact far lt2 e'
  have nz : Sx ≠ N + 4 ∧ Sx ≠ N + 2 ∧ Sx ≠ N + 3 ∧ Sx ≠ N ∧ Sx ≠ N + 1 := by omega
  intro k
  induction k with
  | zero =>
    intro i s H c acc Ts hk hi I hf hz hTI t1 t2 r1 r2 hS hacc hTs hL
    have ei : i = min xs.length ys.length := by omega
    refine codeAny_builtin PySem.F.entry_extend_loop ?_
    rw [Around.under_plainId PySem.F.plain_extend_loop _]
    show wpAny _ A.in1 (pyNext (.ref (N + 4)) >>= _) _ _ _
    refine wpAny_bind (zh_end SS D1 D2 hz hTI ⟨t1, r1⟩ ⟨t2, r2⟩ (by rw [len1]; omega) (by rw [len2]; omega) (by rw [len1, len2]; omega) fun h' tk hkp => ?_)
    refine wpAny_pure (hR _ H Ts acc c (I.turnedL (t' := tk) (ch := zch N Sx) (fun b o hb e => hkp b o (fun q => hb (by simp [q])) (fun q => hb (by simp [q])) (fun q => hb (by simp [q])) (fun q => hb (by simp [q])) e) hf) (hf Sx (by simp)) ?_ (hkp Sx _ nz.1 nz.2.2.1 nz.2.2.2.1 nz.2.2.2.2 hS) hacc)
    rw [List.take_of_length_le (by rw [List.length_zip]; omega)] at hL
    exact hL
  | succ k ih =>
    intro i s H c acc Ts hk hi I hf hz hTI t1 t2 r1 r2 hS hacc hTs hL
    have hlt : i < min xs.length ys.length := by omega
    have hsz : acc.size = i := by rw [← Array.length_toList, hacc, List.length_map, hTs]
    have l1 : i < xs.length := by omega
    have l2 : i < ys.length := by omega
    obtain ⟨u1, hu1, ru1⟩ := rv1.get (List.getElem?_eq_getElem l1)
    obtain ⟨u2, hu2, ru2⟩ := rv2.get (List.getElem?_eq_getElem l2)
    have hlive : ∀ b ∈ zch N Sx, b < s.heap.objs.size := fun b hb => by
      have e' : b = N + 4 ∨ b = N + 2 ∨ b = N + 3 ∨ b = N ∨ b = N + 1 ∨ b = Sx := by simpa using hb
      have hx : Sx < s.heap.objs.size := Heap.lt_size hS
      have h2 : ∀ {u v : Nat}, u < v → v < s.heap.objs.size → u < s.heap.objs.size := fun a b => Nat.lt_trans a b
      rcases e' with q | q | q | q | q | q <;> rw [q]
      · exact h2 hSx hx
      · exact h2 (Nat.lt_trans (by omega) hSx) hx
      · exact h2 (Nat.lt_trans (by omega) hSx) hx
      · exact h2 (Nat.lt_trans (by omega) hSx) hx
      · exact h2 (Nat.lt_trans (by omega) hSx) hx
      · exact hx
    refine codeAny_builtin PySem.F.entry_extend_loop ?_
    rw [Around.under_plainId PySem.F.plain_extend_loop _]
    show wpAny _ A.in1 (pyNext (.ref (N + 4)) >>= _) _ _ _
    refine wpAny_bind (zh_item SS D1 D2 hz ⟨by simp, by simp, by simp⟩ hlive hTI ⟨t1, r1⟩ ⟨t2, r2⟩ (by rw [len1]; omega) (by rw [len2]; omega) fun x1 x2 h' tk p1 p2 zh' ⟨t1', r1'⟩ ⟨t2', r2'⟩ hT hz' hkp => ?_)
    have ex1 : x1 = u1 := by
      have q : its1.toArray[i]? = some u1 := by simpa using hu1
      rw [p1] at q
      exact Option.some.inj q
    have ex2 : x2 = u2 := by
      have q : its2.toArray[i]? = some u2 := by simpa using hu2
      rw [p2] at q
      exact Option.some.inj q
    subst ex1 ex2
    have hS' : h'.get? Sx = _ := hkp Sx _ nz.1 nz.2.2.1 nz.2.2.2.1 nz.2.2.2.2 hS
    have up : ∀ b o, b ≠ Sx → h'.get? b = some o → (h'.update Sx (Obj.mapSeq (·.push (Value.ref s.heap.objs.size)))).get? b = some o := fun b o hb e => (Heap.get?_update_other _ _ (Ne.symm hb)).trans e
    have hSl : Sx < s.heap.objs.size := Heap.lt_size hS
    have neT : ∀ b ∈ zch N Sx, b ≠ s.heap.objs.size := fun b hb => Nat.ne_of_lt (hlive b hb)
    show wpAny _ A.in1 (updateSeq Sx (·.push (Value.ref s.heap.objs.size)) >>= _) _ _ _
    refine wpAny_bind ?_
    have hT2 : (h'.update Sx (Obj.mapSeq (·.push (Value.ref s.heap.objs.size)))).get? s.heap.objs.size = _ := up _ _ (Nat.ne_of_gt hSl) hT
    have hTn : H s.heap.objs.size = none := I.hok.fresh (Nat.le_refl _)
    have new : ObjOk X.prog X.w (upd H s.heap.objs.size (.tup [xs[i], ys[i]])) (h'.update Sx (Obj.mapSeq (·.push (Value.ref s.heap.objs.size)))) s.heap.objs.size (.tup [xs[i], ys[i]]) :=
      ⟨by show 2 ≤ sizeLine; decide, [x1, x2], .cons ru1 (.cons ru2 .nil), ⟨_, hT2, rfl, _, rfl⟩⟩
    have J := I.turnedNew (t' := tk) (ch := zch N Sx) (fun b o hb e => up b o (fun q => hb (by simp [q])) (hkp b o (fun q => hb (by simp [q])) (fun q => hb (by simp [q])) (fun q => hb (by simp [q])) (fun q => hb (by simp [q])) e)) hf (Nat.le_refl _) new
    have L2 : Laid H0 ((xs.zip ys).take (i + 1)) (Ts ++ [s.heap.objs.size]) (upd H s.heap.objs.size (.tup [xs[i], ys[i]])) := by
      have e : (xs.zip ys).take (i + 1) = (xs.zip ys).take i ++ [(xs[i], ys[i])] := by
        rw [List.take_add_one, List.getElem?_eq_getElem (by rw [List.length_zip]; omega), List.getElem_zip]
        rfl
      rw [e]
      exact .snoc hL hTn
    have zh2 : ZH (N + 4) (N + 2) (N + 3) (zch N Sx) (h'.update Sx (Obj.mapSeq (·.push (Value.ref s.heap.objs.size)))) := by
      rcases zh' with ⟨q, b1, b2, q2⟩ | ⟨T, f, oT, q, q2, q3⟩
      · exact .inl ⟨up _ _ nz.1.symm q, b1, b2, up _ _ nz.2.2.1.symm q2⟩
      · exact .inr ⟨T, f, oT, up _ _ nz.1.symm q, up _ _ (fun z => q3 (by simp [z])) q2, q3⟩
    refine wpAny_updateSeq hS' rfl (wpAny_pure ⟨plainId_quiet PySem.F.plain_extend_loop _, ih (i + 1) _ _ _ (acc.push (Value.ref s.heap.objs.size)) (Ts ++ [s.heap.objs.size]) (by omega) hlt J (fun b hb => ?_) zh2 (up _ _ nz.2.1.symm (hkp _ _ ?_ ?_ ?_ ?_ hTI)) (Src.it_at t1' fun o e => up _ _ nz.2.2.2.1.symm e) (Src.it_at t2' fun o e => up _ _ nz.2.2.2.2.symm e)
      ?_ ?_ (Heap.get?_update_self _ hS' rfl) (by rw [Array.toList_push, hacc, List.map_append]; rfl) (by rw [List.length_append, hTs]; rfl) L2⟩) (by rw [hsz]; omega) (by show (acc.push (Value.ref s.heap.objs.size)).size ≤ sizeLine + 1; rw [Array.size_push, hsz]; omega)
    · obtain ⟨f1, f2, f3, f4, f5, f6⟩ := hf b hb
      exact ⟨by rw [upd_ne (neT b hb)]; exact f1, f2, f3, f4, f5, f6⟩
    · show (N + 2 : Nat) ≠ N + 4; omega
    · show (N + 2 : Nat) ≠ N + 3; omega
    · show (N + 2 : Nat) ≠ N; omega
    · show (N + 2 : Nat) ≠ N + 1; omega
    · cases S1 with
      | l a => exact Heap.IsList.at r1' fun o e => up _ _ (fun q => a1 (by simp [Src.addr, q])) e
      | t a => exact Heap.IsTuple.at r1' fun o e => up _ _ (fun q => a1 (by simp [Src.addr, q])) e
    · cases S2 with
      | l a => exact Heap.IsList.at r2' fun o e => up _ _ (fun q => a2 (by simp [Src.addr, q])) e
      | t a => exact Heap.IsTuple.at r2' fun o e => up _ _ (fun q => a2 (by simp [Src.addr, q])) e
end
end Bk

set_option Elab.async false
set_option linter.all false
set_option maxRecDepth 100000
set_option maxHeartbeats 4000000
namespace Bk
open PySem PySem.Spec PyProof.Rows L2
theorem Laid.length {H H' : Hp} {ps : List (V × V)} {Ts : List Addr} (L : Laid H ps Ts H') : Ts.length = ps.length := by
  induction L with
  | nil => rfl
  | snoc _ _ ih => simp [ih]
section
variable {X : Cx} {pins : List (Addr × Obj)} {σ : L2.St} {S1 S2 : Src} {N : Nat} {its1 its2 : List Value} {xs ys : List V} {H : Hp}
/-- list(z) of a new zip z -/
theorem zl_call {s : Shared} {E : Value → Shared → Prop} {Q : VK} (hh : X.A.handled = none) (rv1 : Vals xs its1) (rv2 : Vals ys its2) (lt1 : S1.addr < N) (lt2 : S2.addr < N) (hlen : min xs.length ys.length ≤ sizeLine) (I : Inv X pins σ H s) (hf : ∀ b ∈ [N + 4, N + 2, N + 3, N, N + 1], FpOk X pins H b)
    (hz : IsZip s.heap (N + 4) (N + 2) (N + 3) .none) (hTI : IsTupOf2 s.heap (N + 2) (.ref N) (.ref (N + 1))) (hTO : ∃ a1 a2, IsTupOf2 s.heap (N + 3) a1 a2) (t1 : S1.it s.heap N 0) (t2 : S2.it s.heap (N + 1) 0) (r1 : S1.arr s.heap its1.toArray) (r2 : S2.arr s.heap its2.toArray)
    (hQ : ∀ (H' : Hp) (Ts : List Addr) (p : Addr), Laid H (xs.zip ys) Ts H' → H' p = none → Q (.ref p) (upd H' p (.lst (Ts.map V.ref)))) : wpAny (model X.prog X.w) X.A (call (.type "list") [.ref (N + 4)]) (EP X pins σ Q) E s := by
  refine callType_codes (Q₁ := fun obj s₁ => obj = .ref s.heap.objs.size ∧ s₁ = { s with heap := s.heap.push { cls := .type "list", data := .seq #[] } }) PySem.F.called_list (PySem.F.typeCall_list_1 _) PySem.F.entry_list_init (code_list_new _ ⟨rfl, rfl⟩) fun obj s₁ h₁ => ?_
  obtain ⟨rfl, rfl⟩ := h₁
  have hzl : N + 4 < s.heap.objs.size := Heap.lt_size hz
  have hS : (s.heap.push { cls := .type "list", data := .seq #[] }).get? s.heap.objs.size = some { cls := .type "list", data := .seq #[] } := Heap.get?_push_size _ rfl
  refine ⟨⟨_, hS, rfl⟩, PySem.F.args_list_init_2 _ _, ?_⟩
  have hSr : s.heap.objs.size ≠ N + 4 := Nat.ne_of_gt hzl
  have hSx : H s.heap.objs.size = none := I.hok.fresh (Nat.le_refl _)
  show wpAny _ _ (do let old ← Builtin.List.listItems (.ref s.heap.objs.size); Builtin.List.listUpdate (.ref s.heap.objs.size) (fun _ => #[]); letGo old.toList.reverse; Builtin.List.listExtendWith (.ref s.heap.objs.size) (.ref (N + 4)) .none) _ _ _
  refine wpAny_bind ?_; unfold Builtin.List.listItems; refine wpAny_bind (wpAny_seqItems hS rfl (wpAny_pure ?_))
  show wpAny _ _ (updateSeq s.heap.objs.size (fun _ => #[]) >>= fun _ => letGo (#[] : Array Value).toList.reverse >>= fun _ => Builtin.List.listExtendWith (.ref s.heap.objs.size) (.ref (N + 4)) .none) _ _ _
  refine wpAny_bind (wpAny_updateSeq hS rfl ?_)
  have hS2 := Heap.get?_update_self (Obj.mapSeq (fun _ => (#[] : Array Value))) hS rfl
  have o1 : ∀ b o, s.heap.get? b = some o → ((s.heap.push { cls := .type "list", data := .seq #[] }).update s.heap.objs.size (Obj.mapSeq (fun _ => (#[] : Array Value)))).get? b = some o := fun b o e => (Heap.get?_update_other _ _ (Nat.ne_of_gt (Heap.lt_size e))).trans (Heap.get?_push_of_some _ e)
  refine wpAny_bind (wpAny_letGo ?_)
  generalize (s.heap.push { cls := .type "list", data := .seq #[] }).update s.heap.objs.size (Obj.mapSeq (fun _ => (#[] : Array Value))) = g at hS2 o1
  unfold Builtin.List.listExtendWith
  have hT1 : Shared.TypeIs { s with heap := g } (.ref (N + 4)) "zip" := ⟨_, o1 _ _ hz, rfl⟩
  refine wpAny_bind (wpAny_typeOf (T := "zip") hT1 ?_)
  have h1 : Builtin.List.listSameRef (.ref s.heap.objs.size) (.ref (N + 4)) = false := by simp [Builtin.List.listSameRef, hSr]
  have h2 : (Value.type "zip" == Value.type "list") = false := by decide
  have h3 : (Value.type "zip" == Value.type "tuple") = false := by decide
  simp only [h1, h2, h3, Bool.or_false, Bool.false_eq_true, if_false]
  refine wpAny_bind (wpAny_pyIter_zip (o1 _ _ hz) ?_)
  refine wpAny_bind (wpAny_holding (zip_hint hT1 ?_))
  refine wpAny_ite_split (fun _ => ?_) (fun q => absurd rfl q)
  refine wpAny_bind (wpAny_rule ?_)
  refine wpAny_bind ?_
  show wpAny _ _ (updateSeq s.heap.objs.size (·.push .none) >>= fun _ => updateSeq s.heap.objs.size (·.pop)) _ _ _
  refine wpAny_bind (wpAny_updateSeq hS2 rfl ?_)
  have hS3 := Heap.get?_update_self (Obj.mapSeq (·.push Value.none)) hS2 rfl
  refine wpAny_updateSeq (hz := by seq_fits) hS3 rfl ?_
  have hS4 := Heap.get?_update_self (Obj.mapSeq (·.pop)) hS3 rfl
  have o2 : ∀ b o, s.heap.get? b = some o → ((g.update s.heap.objs.size (Obj.mapSeq (·.push Value.none))).update s.heap.objs.size (Obj.mapSeq (·.pop))).get? b = some o := fun b o e => (Heap.get?_update_other _ _ (Nat.ne_of_gt (Heap.lt_size e))).trans ((Heap.get?_update_other _ _ (Nat.ne_of_gt (Heap.lt_size e))).trans (o1 b o e))
  generalize (g.update s.heap.objs.size (Obj.mapSeq (·.push Value.none))).update s.heap.objs.size (Obj.mapSeq (·.pop)) = g2 at hS4 o2
  have I2 : Inv X pins σ H { s with heap := g2 } := I.kept (t' := s.toks) o2
  have fS : FpOk X pins H s.heap.objs.size := I.fpOk (Nat.le_refl _) hSx
  refine wpAny_pure ⟨plainId_quiet PySem.F.plain_extend_loop _, zl_loop (A := X.A.in1) (H0 := H) hh rv1 rv2 lt1 lt2 hzl .none hlen (fun s' H' Ts acc c I' f' L e ha => ?_) (min xs.length ys.length) 0 { s with heap := g2 } H _ #[] [] (Nat.sub_zero _) (Nat.zero_le _) I2 (fun b hb => ?_) (.inl ⟨o2 _ _ hz, ?_⟩) (o2 _ _ hTI) (Src.it_at t1 fun o e => o2 _ _ e) (Src.it_at t2 fun o e => o2 _ _ e) ?_ ?_ hS4 rfl rfl (.nil H)⟩
  · obtain ⟨f1, f2, f3, f4, f5, f6⟩ := f'
    have hl := L.length
    have new : ObjOk X.prog X.w (upd H' s.heap.objs.size (.lst (Ts.map V.ref))) s'.heap s.heap.objs.size (.lst (Ts.map V.ref)) := by
      refine ⟨by rw [List.length_map, hl, List.length_zip]; exact hlen, acc.toList, c, ?_, e⟩
      rw [ha]
      clear e ha L hl f1
      induction Ts with
      | nil => exact .nil
      | cons T Ts ih => exact .cons rfl ih
    refine ⟨rfl, .ref s.heap.objs.size, _, I'.step (g' := s'.gens) (t' := s'.toks) (d' := s'.drawn) (h' := s'.heap) (ch := [s.heap.objs.size]) (fun b hb => ?_) (fun b o _ _ hc q _ => q) (fun b o _ _ hc q _ => ⟨o.slots, q⟩) (fun b o hc q n => ?_) (fun b o hc q => ⟨o, q⟩) (fun b zs q => ?_) (fun b o u q => ?_) (fun b ps q => ⟨#[], ?_⟩) (fun m q => q) (fun b u q => ?_) I'.bare, rfl, hQ H' Ts _ L f1⟩
    · rw [List.mem_singleton.mp hb]; exact ⟨f4, f2, f5, f6⟩
    · rw [upd_ne (fun z => hc (by rw [z]; exact List.mem_singleton_self _))]; exact n
    · rw [upd_ne (ne_of_none q f1)]; exact q
    · rw [upd_ne (ne_of_none q f1)]; exact q
    · rw [upd_ne (ne_of_none q f1), q]; simp
    · by_cases hb : b = s.heap.objs.size
      · subst hb
        rw [upd_same] at q
        cases q
        exact new
      · rw [upd_ne hb] at q
        exact (I'.hok b u q).stay (fun _ _ _ z => z) (fun d z => by rw [upd_ne (ne_of_none z f1)]; exact z) fun d zs z => by rw [upd_ne (ne_of_none z f1)]; exact z
  · have e' : b = N + 4 ∨ b = N + 2 ∨ b = N + 3 ∨ b = N ∨ b = N + 1 ∨ b = s.heap.objs.size := by simpa using hb
    rcases e' with q | q | q | q | q | q
    · rw [q]; exact hf _ (by simp)
    · rw [q]; exact hf _ (by simp)
    · rw [q]; exact hf _ (by simp)
    · rw [q]; exact hf _ (by simp)
    · rw [q]; exact hf _ (by simp)
    · rw [q]; exact fS
  · obtain ⟨a1, a2, q⟩ := hTO; exact ⟨a1, a2, o2 _ _ q⟩
  · cases S1 with
    | l a => exact Heap.IsList.at r1 fun o e => o2 _ _ e
    | t a => exact Heap.IsTuple.at r1 fun o e => o2 _ _ e
  · cases S2 with
    | l a => exact Heap.IsList.at r2 fun o e => o2 _ _ e
    | t a => exact Heap.IsTuple.at r2 fun o e => o2 _ _ e
end
theorem Laid.read {K : PySem.W.Frag} {H H' : Hp} {ps : List (V × V)} {Ts : List Addr} (L : Laid H ps Ts H') : ∀ {dps : List (D × D)} {Z : Hp} {ι : Nat → Addr} {M : List MO}, HR K H Z ι M → dps.length = ps.length → (∀ (i : Nat) (dp : D × D) (vp : V × V), dps[i]? = some dp → ps[i]? = some vp → Rp K Z ι M.length dp.1 vp.1 ∧ Rp K Z ι M.length dp.2 vp.2) →
    ∃ Z', HR K H' Z' ι M ∧ Ext H Z ι M.length H' Z' ι M.length ∧ Rps K Z' ι M.length (dps.map fun dp => .tup [dp.1, dp.2]) (Ts.map V.ref) := by
  induction L with
  | nil =>
    intro dps Z ι M hr hl h
    have : dps = [] := List.length_eq_zero_iff.mp hl
    subst this
    exact ⟨Z, hr, .refl, .nil⟩
  | @snoc H1 ps Ts T x y L hT ih =>
    intro dps Z ι M hr hl h
    rcases List.eq_nil_or_concat dps with e | ⟨ds, d, e⟩
    · subst e
      simp at hl
    · rw [List.concat_eq_append] at e
      subst e
      have hl' : ds.length = ps.length := by simpa using hl
      obtain ⟨Z1, hr1, e1, r1⟩ := ih hr hl' fun i dp vp a b => h i dp vp (by rw [List.getElem?_append_left (List.getElem?_eq_some_iff.mp a).1]; exact a) (by rw [List.getElem?_append_left (List.getElem?_eq_some_iff.mp b).1]; exact b)
      obtain ⟨q1, q2⟩ := h ds.length d (x, y) (by simp) (by rw [hl']; simp)
      obtain ⟨p1, p2⟩ := hr1.frozen (o := .tup [x, y]) hT
      refine ⟨_, p1, e1.trans p2 hr1.ali, ?_⟩
      rw [List.map_append, List.map_append]
      exact (r1.ext p2).append (.cons (.tup (.inl (.inl upd_same)) (.cons ((q1.ext e1).ext p2) (.cons ((q2.ext e1).ext p2) .nil))) .nil)
theorem zipL_map : ∀ (ds es : List D), zipL ds es = (ds.zip es).map fun dp => .tup [dp.1, dp.2]
  | [], _ => by simp [zipL]
  | _ :: _, [] => by simp [zipL]
  | d :: ds, e :: es => by simp [zipL, zipL_map ds es]
def gLzip (own : Bool) (ga gb : GE) : GE := fun Γ M => (ga Γ M).bind fun x M1 => (gb Γ M1).bind fun y M2 => (opR (zipO x y) M2).bind fun ds M3 => if ds.length ≤ sizeLine then (if own = true then .ok (.ref M3.length) (M3 ++ [.lst ds]) else .ok (.lst ds) M3) else .bad
section
variable {X : Cx} {C : CT} {W : WX} {e e2 : Expr} {ga gb : GE} {p p2 pos pos2 : Pos}
theorem qe_lzip (own : Bool) (hc : X.calm = true) (hgl : Gl X "list") (hml : X.mg "list" = none) (hg : Gl X "zip") (hm : X.mg "zip" = none) (ha : QE X C W e ga) (hb : QE X C W e2 gb) (hs : starEach [e, e2] X.env = (false, eval e X.env) :: starEach [e2] X.env := by rfl) (hs2 : starEach [e2] X.env = (false, eval e2 X.env) :: starEach [] X.env := by rfl)
    (hpl : (backTo pos2 (starEach [e2] X.env)).any (·.1) = false := by rfl) (na : starEach [Expr.Call (.Name "zip" p2) [e, e2] [] pos2] X.env = (false, eval (Expr.Call (.Name "zip" p2) [e, e2] [] pos2) X.env) :: starEach [] X.env := by rfl) :
    QE X C W (.Call (.Name "list" p) [.Call (.Name "zip" p2) [e, e2] [] pos2] [] pos) (gLzip own ga gb) := by
  obtain ⟨ta, pa, qa⟩ := ha
  obtain ⟨tb, pb, qb⟩ := hb
  refine ⟨fun σ H Q => ta σ H fun v H1 => tb σ H1 fun u H2 => ∃ (S1 S2 : Src) (xs ys : List V), v = .ref S1.addr ∧ u = .ref S2.addr ∧ S1.here X.K H2 xs ∧ S2.here X.K H2 ys ∧ min xs.length ys.length ≤ sizeLine ∧ ∀ (H' : Hp) (Ts : List Addr) (q : Addr), Laid H2 (xs.zip ys) Ts H' → H' q = none → Q (.ref q) (upd H' q (.lst (Ts.map V.ref))), ⟨fun pins s σ H Q I h => ?_⟩,
    fun σ H Z ι Γ M Q sl hr h => qa σ H Z ι Γ M _ sl hr (Post.bind h fun x M1 v H1 Z1 ι1 e1 hr1 r1 h1 => qb σ H1 Z1 ι1 Γ M1 _ (sl.ext e1) hr1 (h1.bind fun y M2 u H2 Z2 ι2 e2 hr2 r2 h2 => ?_))⟩
  · refine Call_ (ld_blt I hgl hml boot_list (PyProof.Rows.callWith_type1 (args_cons (thn (Call_ (ld_blt I hg hm boot_zip (PyProof.Rows.callWith_type1 (thn ((pa_cons pa (pa_cons pb pa_nil hs2) hs).run pos2 pins s σ H (fun vs H1 => ∃ v u, vs = [v, u] ∧ ∃ (S1 S2 : Src) (xs ys : List V), v = .ref S1.addr ∧ u = .ref S2.addr ∧ S1.here X.K H1 xs ∧ S2.here X.K H1 ys ∧ min xs.length ys.length ≤ sizeLine ∧ ∀ (H' : Hp) (Ts : List Addr) (q : Addr), Laid H1 (xs.zip ys) Ts H' → H' q = none → Q (.ref q) (upd H' q (.lst (Ts.map V.ref)))) I ?_) fun us s1 hh => ?_) hs hpl)))
      fun z s1 (hz : ∃ (pins' : Unit) (N : Nat) (S1 S2 : Src) (xs ys : List V) (its1 its2 : List Value) (H1 : Hp), z = .ref (N + 4) ∧ Inv X pins σ H1 s1 ∧ Vals xs its1 ∧ Vals ys its2 ∧ S1.addr < N ∧ S2.addr < N ∧ min xs.length ys.length ≤ sizeLine ∧ (∀ b ∈ [N + 4, N + 2, N + 3, N, N + 1], FpOk X pins H1 b) ∧ IsZip s1.heap (N + 4) (N + 2) (N + 3) .none ∧ IsTupOf2 s1.heap (N + 2) (.ref N) (.ref (N + 1)) ∧ (∃ a1 a2, IsTupOf2 s1.heap (N + 3) a1 a2) ∧ S1.it s1.heap N 0 ∧ S2.it s1.heap (N + 1) 0 ∧ S1.arr s1.heap its1.toArray ∧ S2.arr s1.heap its2.toArray ∧
        ∀ (H' : Hp) (Ts : List Addr) (q : Addr), Laid H1 (xs.zip ys) Ts H' → H' q = none → Q (.ref q) (upd H' q (.lst (Ts.map V.ref)))) => args_nil ?_) na) na))
    · have hmono : (fun x H1 => tb σ H1 fun y H2 => tNil σ H2 fun ys H3 => ∃ v u, x :: y :: ys = [v, u] ∧ ∃ (S1 S2 : Src) (xs zs : List V), v = .ref S1.addr ∧ u = .ref S2.addr ∧ S1.here X.K H3 xs ∧ S2.here X.K H3 zs ∧ min xs.length zs.length ≤ sizeLine ∧ ∀ (H' : Hp) (Ts : List Addr) (q : Addr), Laid H3 (xs.zip zs) Ts H' → H' q = none → Q (.ref q) (upd H' q (.lst (Ts.map V.ref)))) =
          fun (v : V) (H1 : Hp) => tb σ H1 fun u H2 => ∃ (S1 S2 : Src) (xs ys : List V), v = .ref S1.addr ∧ u = .ref S2.addr ∧ S1.here X.K H2 xs ∧ S2.here X.K H2 ys ∧ min xs.length ys.length ≤ sizeLine ∧ ∀ (H' : Hp) (Ts : List Addr) (q : Addr), Laid H2 (xs.zip ys) Ts H' → H' q = none → Q (.ref q) (upd H' q (.lst (Ts.map V.ref))) := by
        funext x H1
        congr 1
        funext y H2
        apply propext
        constructor
        · rintro ⟨v, u, ev, q⟩
          cases ev
          exact q
        · intro q
          exact ⟨x, y, rfl, q⟩
      show ta σ H fun x H1 => tb σ H1 fun y H2 => tNil σ H2 fun ys H3 => ∃ v u, x :: y :: ys = [v, u] ∧ ∃ (S1 S2 : Src) (xs zs : List V), v = .ref S1.addr ∧ u = .ref S2.addr ∧ S1.here X.K H3 xs ∧ S2.here X.K H3 zs ∧ min xs.length zs.length ≤ sizeLine ∧ ∀ (H' : Hp) (Ts : List Addr) (q : Addr), Laid H3 (xs.zip zs) Ts H' → H' q = none → Q (.ref q) (upd H' q (.lst (Ts.map V.ref)))
      rw [hmono]
      exact h
    · obtain ⟨vs, H1, J, r1, v, u, rfl, S1, S2, xs, ys, rfl, rfl, hq1, hq2, hl, q⟩ := hh
      obtain ⟨u1, u2, rfl, ru, ru2⟩ := Vals.two r1
      cases ru
      cases ru2
      obtain ⟨its1, rv1, har1⟩ := Src.inv J hq1
      obtain ⟨its2, rv2, har2⟩ := Src.inv J hq2
      refine zip_begins2 (S1.begins its1.toArray) (S2.begins its2.toArray) har1 har2 fun h' hz hTI hTO hi1 hi2 hsz hk => ?_
      have J2 : Inv X pins σ H1 { s1 with heap := h' } := J.kept (t' := s1.toks) hk
      refine ⟨(), s1.heap.objs.size, S1, S2, xs, ys, its1, its2, H1, rfl, J2, rv1, rv2, Src.arr_lt har1, Src.arr_lt har2, hl, fun b hb => ?_, hz, hTI, ⟨_, _, hTO⟩, Src.start hi1, Src.start hi2, ?_, ?_, q⟩
      · have e' : b = s1.heap.objs.size + 4 ∨ b = s1.heap.objs.size + 2 ∨ b = s1.heap.objs.size + 3 ∨ b = s1.heap.objs.size ∨ b = s1.heap.objs.size + 1 := by simpa using hb
        have le : s1.heap.objs.size ≤ b := by
          rcases e' with z | z | z | z | z
          · rw [z]; exact Nat.le_add_right _ _
          · rw [z]; exact Nat.le_add_right _ _
          · rw [z]; exact Nat.le_add_right _ _
          · rw [z]; exact Nat.le_refl _
          · rw [z]; exact Nat.le_add_right _ _
        exact J.fpOk le (J.hok.fresh le)
      · cases S1 with
        | l a => exact Heap.IsList.at har1 fun o e => hk _ _ e
        | t a => exact Heap.IsTuple.at har1 fun o e => hk _ _ e
      · cases S2 with
        | l a => exact Heap.IsList.at har2 fun o e => hk _ _ e
        | t a => exact Heap.IsTuple.at har2 fun o e => hk _ _ e
    · obtain ⟨_, N, S1, S2, xs, ys, its1, its2, H1, rfl, J, rv1, rv2, lt1, lt2, hl, hf, hz, hTI, hTO, t1, t2, r1, r2, q⟩ := hz
      exact zl_call (J.ok.hd hc) rv1 rv2 lt1 lt2 hl J hf hz hTI hTO t1 t2 r1 r2 q
  · obtain ⟨items, M3, hd, h3⟩ : ∃ ds M3, opR (zipO x y) M2 = .ok ds M3 ∧ Post X C W (rpE X.K) σ H2 Z2 ι2 M2 (if ds.length ≤ sizeLine then (if own = true then .ok (.ref M3.length) (M3 ++ [.lst ds]) else .ok (.lst ds) M3) else .bad) Q := by
      cases ez : zipO x y with
      | none =>
        have h2' : Post X C W (rpE X.K) σ H2 Z2 ι2 M2 ((opR (zipO x y) M2).bind fun ds M3 => if ds.length ≤ sizeLine then (if own = true then .ok (.ref M3.length) (M3 ++ [.lst ds]) else .ok (.lst ds) M3) else .bad) Q := h2
        rw [ez] at h2'
        exact h2'.elim
      | some ds =>
        have h2' : Post X C W (rpE X.K) σ H2 Z2 ι2 M2 ((opR (zipO x y) M2).bind fun ds M3 => if ds.length ≤ sizeLine then (if own = true then .ok (.ref M3.length) (M3 ++ [.lst ds]) else .ok (.lst ds) M3) else .bad) Q := h2
        rw [ez] at h2'
        exact ⟨ds, M2, rfl, h2'⟩
    have e3 : M3 = M2 := opR_ok hd
    subst e3
    have hd' : zipO x y = some items := by
      cases ez : zipO x y with
      | none => rw [ez] at hd; cases hd
      | some ds => rw [ez] at hd; cases hd; rfl
    by_cases c : items.length ≤ sizeLine
    · rw [if_pos c] at h3
      unfold zipO at hd'
      cases es : seqD x with
      | none => rw [es] at hd'; cases hd'
      | some ds =>
        cases et : seqD y with
        | none => rw [es, et] at hd'; cases hd'
        | some dt =>
          rw [es, et] at hd'
          cases hd'
          obtain ⟨S1, xs, rfl, hS1, q1⟩ := src_of hr2.sub (r1.ext e2) es
          obtain ⟨S2, ys, rfl, hS2, q2⟩ := src_of hr2.sub r2 et
          have hl : min xs.length ys.length ≤ sizeLine := by rw [← q1.length, ← q2.length, ← zipL_len]; exact c
          refine ⟨S1, S2, xs, ys, rfl, rfl, here_sub hr2.sub hS1, here_sub hr2.sub hS2, hl, fun H' Ts q L hq => ?_⟩
          obtain ⟨Z3, hr3, e3, r3⟩ := L.read (dps := ds.zip dt) hr2 (by rw [List.length_zip, List.length_zip, q1.length, q2.length]) fun i dp vp a b => by
            rw [List.getElem?_zip_eq_some] at a b
            obtain ⟨v1, a1, a2⟩ := q1.get a.1
            obtain ⟨v2, b1, b2⟩ := q2.get a.2
            rw [b.1] at a1
            rw [b.2] at b1
            cases a1
            cases b1
            exact ⟨a2, b2⟩
          rw [← zipL_map] at r3
          by_cases ho : own = true
          · rw [if_pos ho] at h3
            obtain ⟨hr4, e4⟩ := hr3.owned hq r3
            have qq : Rp X.K Z3 (put ι2 M3.length q) (M3 ++ [MO.lst (zipL ds dt)]).length (.ref M3.length) (.ref (put ι2 M3.length q M3.length)) := .ref (by simp)
            rw [put_at] at qq
            exact h3 _ _ _ _ (e3.trans e4 hr3.ali) hr4 qq
          · rw [if_neg ho] at h3
            exact ((h3.shift e3 hr3).after).lst hr3 r3 q hq
    · rw [if_neg c] at h3
      exact h3.elim
end
end Bk

set_option Elab.async false
set_option linter.all false
set_option maxRecDepth 100000
set_option maxHeartbeats 2000000
namespace Bk
open PySem PySem.Spec PyProof.Rows L2
/-! ### a, b = x, y -/
def gPar2 (i j : Nat) (gs : GA) : GS := fun Γ M => (gs Γ M).thenS Γ fun ds M1 => match ds with
  | [d, e] => .nx ((Γ.set i (some d)).set j (some e)) M1
  | _ => .bad
def gPar3 (i j l : Nat) (gs : GA) : GS := fun Γ M => (gs Γ M).thenS Γ fun ds M1 => match ds with
  | [d, e, f] => .nx (((Γ.set i (some d)).set j (some e)).set l (some f)) M1
  | _ => .bad
section
variable {X : Cx} {C : CT} {W : WX} {gs : GA}
theorem rps3 {K : PySem.W.Frag} {Z : Hp} {ι : Nat → Addr} {n : Nat} {d e f : D} {vs : List V} (r : Rps K Z ι n [d, e, f] vs) : ∃ v u w, vs = [v, u, w] ∧ Rp K Z ι n d v ∧ Rp K Z ι n e u ∧ Rp K Z ι n f w := by
  cases r with
  | cons r1 r => obtain ⟨u, w, rfl, r2, r3⟩ := rps2 r; exact ⟨_, _, _, rfl, r1, r2, r3⟩
theorem qs_par2 (i j : Nat) {x y : Str} {a b : Expr} {px py pt pos : Pos} {kt k2 : Nat} {pt2 : Pos} (hc : X.calm = true) (hN : X.N.Nodup) (ha : QA X C W [a, b] gs) (hij : i ≠ j := by decide) (hi : X.N[i]? = some x := by rfl) (hj : X.N[j]? = some y := by rfl)
    (hx : X.env.scope.names.lookup x = some .local := by rfl) (hy : X.env.scope.names.lookup y = some .local := by rfl)
    (hw : swappedStores [.Tuple [.Name x px, .Name y py] kt pt] (.Tuple [a, b] k2 pt2) X.env = pure (some [x, y]) := by rfl)
    (hs : swapsWithSole [.Tuple [.Name x px, .Name y py] kt pt] (.Tuple [a, b] k2 pt2) pos.line X.env = pure false := by rfl) :
    QS X C W (.Assign [.Tuple [.Name x px, .Name y py] kt pt] (.Tuple [a, b] k2 pt2) pos) (gPar2 i j gs) := by
  obtain ⟨ta, pa, qa⟩ := ha
  refine ⟨_, ps_par hc hN hi hj hij hx hy pa hw hs, fun Dd σ H Z ι Γ M sl hr h => qa σ H Z ι Γ M _ sl hr (PostS.bind h sl fun ds M1 vs H1 Z1 ι1 e1 hr1 r1 h1 => ?_)⟩
  match ds, h1, r1 with
  | [d, e], h1, r1 =>
    obtain ⟨v, u, rfl, q1, q2⟩ := rps2 r1
    exact ⟨v, u, rfl, h1 _ H1 Z1 ι1 .refl hr1 (((sl.ext e1).set i q1).set j q2)⟩
theorem qs_par3 (i j l : Nat) {x y z : Str} {a b c : Expr} {px py pz pt pos : Pos} {kt k2 : Nat} {pt2 : Pos} (hc : X.calm = true) (hN : X.N.Nodup) (ha : QA X C W [a, b, c] gs) (hij : i ≠ j := by decide) (hil : i ≠ l := by decide) (hjl : j ≠ l := by decide) (hi : X.N[i]? = some x := by rfl) (hj : X.N[j]? = some y := by rfl) (hl : X.N[l]? = some z := by rfl)
    (hx : X.env.scope.names.lookup x = some .local := by rfl) (hy : X.env.scope.names.lookup y = some .local := by rfl) (hz : X.env.scope.names.lookup z = some .local := by rfl)
    (hw : swappedStores [.Tuple [.Name x px, .Name y py, .Name z pz] kt pt] (.Tuple [a, b, c] k2 pt2) X.env = pure (some [x, y, z]) := by rfl)
    (hs : swapsWithSole [.Tuple [.Name x px, .Name y py, .Name z pz] kt pt] (.Tuple [a, b, c] k2 pt2) pos.line X.env = pure false := by rfl) :
    QS X C W (.Assign [.Tuple [.Name x px, .Name y py, .Name z pz] kt pt] (.Tuple [a, b, c] k2 pt2) pos) (gPar3 i j l gs) := by
  obtain ⟨ta, pa, qa⟩ := ha
  refine ⟨_, ps_par3 hc hN hi hj hl hij hil hjl hx hy hz pa hw hs, fun Dd σ H Z ι Γ M sl hr h => qa σ H Z ι Γ M _ sl hr (PostS.bind h sl fun ds M1 vs H1 Z1 ι1 e1 hr1 r1 h1 => ?_)⟩
  match ds, h1, r1 with
  | [d, e, f], h1, r1 =>
    obtain ⟨v, u, w, rfl, q1, q2, q3⟩ := rps3 r1
    exact ⟨v, u, w, rfl, h1 _ H1 Z1 ι1 .refl hr1 ((((sl.ext e1).set i q1).set j q2).set l q3)⟩
end
@[simp] theorem u_gPar2 (i j : Nat) (gs : GA) (Γ : Env) (M : List MO) : gPar2 i j gs Γ M = (gs Γ M).thenS Γ fun ds M1 => (match ds with
  | [d, e] => .nx ((Γ.set i (some d)).set j (some e)) M1
  | _ => .bad) := Eq.trans rfl rfl
@[simp] theorem u_gPar3 (i j l : Nat) (gs : GA) (Γ : Env) (M : List MO) : gPar3 i j l gs Γ M = (gs Γ M).thenS Γ fun ds M1 => (match ds with
  | [d, e, f] => .nx (((Γ.set i (some d)).set j (some e)).set l (some f)) M1
  | _ => .bad) := Eq.trans rfl rfl
@[simp] theorem u_gLzip (own : Bool) (ga gb : GE) (Γ : Env) (M : List MO) : gLzip own ga gb Γ M = (ga Γ M).bind fun x M1 => (gb Γ M1).bind fun y M2 => (opR (zipO x y) M2).bind fun ds M3 => if ds.length ≤ sizeLine then (if own = true then .ok (.ref M3.length) (M3 ++ [.lst ds]) else .ok (.lst ds) M3) else .bad := Eq.trans rfl rfl
end Bk

set_option Elab.async false
set_option linter.all false
set_option maxRecDepth 100000
set_option maxHeartbeats 4000000
namespace Bk
open PySem PySem.Spec PyProof.Rows L2
/-! ### tuple * int, any count up to a thousand -/
theorem tuple_mul1 (l : Addr) (items : Array Value) (n : Nat) (dd : Option Addr) (sl : Array (Option Value)) (u : Tok) :
    Meets (Builtin.«tuple.__mul__» ⟨[.ref l, .int 1 u], []⟩) (fun _ R s => s.heap.get? l = some { cls := .type "tuple", dict := dd, data := .seq items n, slots := sl } ∧ R (.ok (.ret (Value.ref l))) s) :=
  .of_wp fun prog w A R s h => by
    obtain ⟨hp, g, d, tk, os⟩ := s
    obtain ⟨hl, h⟩ := h
    have f1 := AutoSeq1.idx_int
    have c0 : (decide ((1 : Int) < -(2 ^ 63)) || decide ((1 : Int) ≥ 2 ^ 63)) = false := by decide
    have c1 : (items.isEmpty || (1 : Int) == 1) = true := by simp
    wp_walk using wpAny_loadPart' hl
    repeat (first
      | (refine wpAny_ite_false (decide_eq_false (by rw [c0]; exact Bool.false_ne_true)) ?_; wp_walk using wpAny_loadPart' hl)
      | (refine wpAny_ite_true (decide_eq_true c1) ?_; wp_walk using wpAny_loadPart' hl))
    exact ⟨_, rfl, h⟩
theorem tuple_mul0 (l : Addr) (items : Array Value) (n : Nat) (dd : Option Addr) (sl : Array (Option Value)) (x : Int) (u : Tok) (c0 : (decide (x < -(2 ^ 63)) || decide (x ≥ 2 ^ 63)) = false) (c1 : (items.isEmpty || x == 1) = false) (c2 : (decide (x ≤ 0) || items.isEmpty) = true) :
    Meets (Builtin.«tuple.__mul__» ⟨[.ref l, .int x u], []⟩) (fun _ R s => s.heap.get? l = some { cls := .type "tuple", dict := dd, data := .seq items n, slots := sl } ∧
      R (.ok (.ret (Value.ref s.heap.objs.size))) { s with heap := s.heap.push { cls := Value.type "tuple", data := Data.seq #[] }, toks := s.toks }) :=
  .of_wp fun prog w A R s h => by
    obtain ⟨hp, g, d, tk, os⟩ := s
    obtain ⟨hl, h⟩ := h
    have f1 := AutoSeq1.idx_int
    wp_walk using wpAny_loadPart' hl
    repeat (first
      | (refine wpAny_ite_false (decide_eq_false (by rw [c0]; exact Bool.false_ne_true)) ?_; wp_walk using wpAny_loadPart' hl)
      | (refine wpAny_ite_false (decide_eq_false (by rw [c1]; exact Bool.false_ne_true)) ?_; wp_walk using wpAny_loadPart' hl)
      | (refine wpAny_ite_true (decide_eq_true c2) ?_; wp_walk using wpAny_loadPart' hl))
    exact ⟨_, rfl, h⟩
def rRepTA (K : PySem.W.Frag) : R2 := fun x y H Q => ∃ l k xs, x = .ref l ∧ y = .int k ∧ SqT K H l xs ∧ xs ≠ [] ∧ -1000 ≤ k ∧ k ≤ 1000 ∧ xs.length ≤ 1000 ∧ (k = 1 → Q (.ref l) H) ∧ (k ≠ 1 → ∀ p, H p = none → Q (.ref p) (upd H p (.tup (List.replicate k.toNat xs).flatten)))
section
variable {X : Cx}
theorem op_repTA : OpR X (binaryOp .Mult) (rRepTA X.K) := by
  intro pins s σ H x y v u Q I rx ry h
  obtain ⟨l, k, xs, rfl, rfl, hT, hne, h0, h1, hz, q1, q⟩ := h
  by_cases h2 : 2 ≤ k
  · exact op_repT pins s σ H _ _ v u Q I rx ry ⟨l, k, xs, rfl, rfl, hT, hne, h2, h1, hz, q (by omega)⟩
  cases rx
  obtain ⟨t, rfl⟩ := ry
  obtain ⟨its, r, ⟨⟨cls, dd, data, sl⟩, ho, hc, n, hd⟩, hs⟩ := I.tuple hT
  simp only at hc hd
  subst hc hd
  have hle : its.length = xs.length := r.length.symm
  have hn : its ≠ [] := fun e => hne (List.eq_nil_of_length_eq_zero (by rw [← hle, e]; rfl))
  have hi : its.toArray.isEmpty = false := by
    cases its with
    | nil => exact absurd rfl hn
    | cons a b => rfl
  by_cases e1 : k = 1
  · subst e1
    exact wpAny_binaryOp_repeat_ref (T := "tuple") (U := "int") (by decide) ⟨_, ho, rfl⟩ (fun s' => typeIs_int s' 1 t) noFill_tuple_mul F.fills_int_mul F.slot_int_rmul repeat_tuple F.slot_int_index.lookup
      (call_meets F.slot_int_rmul (typeIs_int s 1 t) F.entry_int_rmul (F.args_int_rmul_2 _ _) (int_rmul_tuple 1 t l its.toArray n dd sl) ⟨ho, rfl, ⟨_, ho, rfl⟩, call_meets F.slot_tuple_mul ⟨_, ho, rfl⟩ F.entry_tuple_mul (F.args_tuple_mul_2 _ _) (tuple_mul1 l its.toArray n dd sl t) ⟨ho, ⟨.ref l, H, I, rfl, q1 rfl⟩⟩⟩)
  · have c0 : (decide (k < -(2 ^ 63)) || decide (k ≥ 2 ^ 63)) = false := by
      rw [decide_eq_false (by omega), decide_eq_false (by omega)] <;> rfl
    have c1 : (its.toArray.isEmpty || k == 1) = false := by
      rw [hi, Bool.false_or]; exact beq_eq_false_iff_ne.mpr e1
    have c2 : (decide (k ≤ 0) || its.toArray.isEmpty) = true := by
      rw [hi, Bool.or_false]; exact decide_eq_true (by omega)
    have z : (List.replicate k.toNat xs).flatten = [] := by
      have : k.toNat = 0 := by omega
      rw [this]; rfl
    rw [z] at q
    refine wpAny_binaryOp_repeat_ref (T := "tuple") (U := "int") (by decide) ⟨_, ho, rfl⟩ (fun s' => typeIs_int s' k t) noFill_tuple_mul F.fills_int_mul F.slot_int_rmul repeat_tuple F.slot_int_index.lookup
      (call_meets F.slot_int_rmul (typeIs_int s k t) F.entry_int_rmul (F.args_int_rmul_2 _ _) (int_rmul_tuple k t l its.toArray n dd sl) ⟨ho, rfl, ⟨_, ho, rfl⟩, call_meets F.slot_tuple_mul ⟨_, ho, rfl⟩ F.entry_tuple_mul (F.args_tuple_mul_2 _ _) (tuple_mul0 l its.toArray n dd sl k t c0 c1 c2) ⟨ho, ?_⟩⟩)
    exact ⟨.ref s.heap.objs.size, _, I.laid (t' := s.toks) (o := .tup []) (fun b ob q => Heap.get?_push_of_some _ q) (Nat.le_refl _) ⟨by decide, [], .nil, IsTup.new _ _⟩, rfl, q e1 _ (I.hok.fresh (Nat.le_refl _))⟩
def dMulT (M : List MO) (x : D) (y : D) : Option D := match x, y with
  | .tup ds, .int k => if (decide (ds ≠ []) && decide (-1000 ≤ k) && decide (k ≤ 1000) && decide (ds.length ≤ 1000)) = true then some (.tup (List.replicate k.toNat ds).flatten) else none
  | x, y => dMulA M x y
theorem op_mulT : OpR X (binaryOp .Mult) (fun x y H Q => rMulA X.K x y H Q ∨ rRepTA X.K x y H Q) := op_mulL.or op_repTA
theorem ok_mulT : Ok2 X (fun x y H Q => rMulA X.K x y H Q ∨ rRepTA X.K x y H Q) dMulT := fun x y H Z ι M dx dy d Q hr rx ry e q => by
  unfold dMulT at e
  split at e
  · rename_i ds k
    split at e
    · rename_i c
      cases e
      simp only [Bool.and_eq_true, decide_eq_true_eq] at c
      obtain ⟨⟨⟨c1, c2⟩, c3⟩, c4⟩ := c
      cases ry
      cases rx with
      | tup s r =>
        have r' := r.rep k.toNat
        refine .inr ⟨_, k, _, rfl, rfl, subT hr.sub s, fun z => c1 ?_, c2, c3, by rw [← r.length]; exact c4, fun e1 => ?_, fun _ => ?_⟩
        · have := r.length
          rw [z] at this
          exact List.eq_nil_of_length_eq_zero this
        · subst e1
          refine q.now hr (.tup s ?_)
          simpa using r
        · exact q.tup hr r'
    · cases e
  · exact .inl (ok_mulL x y H Z ι M dx dy d Q hr rx ry e q)
end
@[simp] theorem e_mulT (M : List MO) (d : D) (ds : List D) (k : Int) (h1 : -1000 ≤ k) (h2 : k ≤ 1000) (h3 : ds.length < 1000) : dMulT M (.tup (d :: ds)) (.int k) = some (.tup (List.replicate k.toNat (d :: ds)).flatten) := by
  have : (d :: ds).length ≤ 1000 := by rw [List.length_cons]; omega
  simp only [dMulT]
  rw [if_pos]
  simp [h1, h2]
  omega
@[simp] theorem e_mulTi (M : List MO) (i : Int) (y : D) : dMulT M (.int i) y = dMulA M (.int i) y := Eq.trans rfl rfl
@[simp] theorem e_mulTl (M : List MO) (ds : List D) (y : D) : dMulT M (.lst ds) y = dMulA M (.lst ds) y := Eq.trans rfl rfl
theorem e_mulI {i j : Int} (M : List MO) (h : mulOk i j = true) : dMulT M (.int i) (.int j) = some (.int (i * j)) := e_mul M h
theorem e_mulL (M : List MO) (ds : List D) (k : Int) (h1 : -(2 ^ 63) ≤ k) (h2 : k < 2 ^ 63) (h3 : ds.length * k.toNat ≤ sizeLine) : dMulA M (.lst ds) (.int k) = some (.lst (List.replicate k.toNat ds).flatten) := by
  show repI M (.lst ds) (.int k) = _
  simp only [repI, listD]
  rw [if_pos]
  simp only [Bool.and_eq_true, decide_eq_true_eq]
  exact ⟨⟨h2, h1⟩, h3⟩
end Bk

set_option Elab.async false
set_option linter.all false
set_option maxRecDepth 100000
set_option maxHeartbeats 2000000
namespace Bk
open PySem PySem.Spec PyProof.Rows L2
theorem pure_chain {f f' : List MO → D → D → Option D} {ga gb gc : GE} (h1 : Pure ga) (h2 : Pure gb) (h3 : Pure gc) : Pure (gChain f f' ga gb gc) := fun Γ M d M' h => by
  obtain ⟨a, M1, e1, h⟩ := R.bind_ok h
  obtain ⟨b, M2, e2, h⟩ := R.bind_ok h
  obtain ⟨k, M3, e3, h⟩ := R.bind_ok h
  have z := opR_ok e3
  have z2 := h2 _ _ _ _ e2
  have z1 := h1 _ _ _ _ e1
  split at h
  · split at h
    · obtain ⟨c, M4, e4, h⟩ := R.bind_ok h
      rw [opR_ok h, h3 _ _ _ _ e4, z, z2, z1]
    · cases h
      rw [z, z2, z1]
  · cases h
theorem lcL_cons {gg : GG} {ge : GE} {d y : D} {ds acc : List D} {Γ Γ1 : Env} {M M2 : List MO} (h1 : gg d Γ = some Γ1) (h2 : ge Γ1 M = .ok y M2) (q : acc.length < sizeLine) : gLcL gg gYes ge Γ (d :: ds) acc M = gLcL gg gYes ge Γ ds (acc ++ [y]) M2 := by
  simp [gLcL, h1, h2, q]
theorem lcL_nil {gg : GG} {gt : GT} {ge : GE} {acc : List D} {Γ : Env} {M : List MO} : gLcL gg gt ge Γ [] acc M = .ok acc M := by simp [gLcL]
theorem lcL_take {gg : GG} {gt : GT} {ge : GE} {d y : D} {ds acc : List D} {Γ Γ1 : Env} {M M1 M2 : List MO} (h1 : gg d Γ = some Γ1) (ht : gt Γ1 M = .ok true M1) (h2 : ge Γ1 M1 = .ok y M2) (q : acc.length < sizeLine) : gLcL gg gt ge Γ (d :: ds) acc M = gLcL gg gt ge Γ ds (acc ++ [y]) M2 := by
  simp [gLcL, h1, ht, h2, q]
theorem lcL_skip {gg : GG} {gt : GT} {ge : GE} {d : D} {ds acc : List D} {Γ Γ1 : Env} {M M1 : List MO} (h1 : gg d Γ = some Γ1) (ht : gt Γ1 M = .ok false M1) : gLcL gg gt ge Γ (d :: ds) acc M = gLcL gg gt ge Γ ds acc M1 := by
  simp [gLcL, h1, ht]
/-- a list made item by item -/
theorem lcL_run {α : Type} {gg : GG} {ge : GE} {Γ : Env} {M : List MO} (f : α → D) (g : α → D) : ∀ (xs : List α) (acc : List D), acc.length + xs.length ≤ sizeLine → (∀ x ∈ xs, ∃ Γ1, gg (f x) Γ = some Γ1 ∧ ge Γ1 M = .ok (g x) M) → gLcL gg gYes ge Γ (xs.map f) acc M = .ok (acc ++ xs.map g) M
  | [], acc, _, _ => by simp [gLcL]
  | x :: xs, acc, h, hf => by
    obtain ⟨Γ1, h1, h2⟩ := hf x (by simp)
    simp only [List.length_cons] at h
    have ih := lcL_run (gg := gg) (ge := ge) (Γ := Γ) (M := M) f g xs (acc ++ [g x]) (by simp; omega) fun e he => hf e (by simp [he])
    rw [List.map_cons, lcL_cons h1 h2 (by omega), ih]
    simp
/-- items let go by a test -/
theorem lcL_sel {α : Type} {gg : GG} {gt : GT} {ge : GE} {Γ : Env} {M : List MO} (f : α → D) (g : α → D) (c : α → Bool) : ∀ (xs : List α) (acc : List D), acc.length + xs.length ≤ sizeLine → (∀ x ∈ xs, ∃ Γ1, gg (f x) Γ = some Γ1 ∧ gt Γ1 M = .ok (c x) M ∧ (c x = true → ge Γ1 M = .ok (g x) M)) → gLcL gg gt ge Γ (xs.map f) acc M = .ok (acc ++ (xs.filter c).map g) M
  | [], acc, _, _ => by simp [gLcL]
  | x :: xs, acc, h, hf => by
    obtain ⟨Γ1, h1, h2, h3⟩ := hf x (by simp)
    simp only [List.length_cons] at h
    have hf' : ∀ y ∈ xs, ∃ Γ1, gg (f y) Γ = some Γ1 ∧ gt Γ1 M = .ok (c y) M ∧ (c y = true → ge Γ1 M = .ok (g y) M) := fun e he => hf e (by simp [he])
    cases e : c x with
    | true =>
      have ih := lcL_sel (gg := gg) (gt := gt) (ge := ge) (Γ := Γ) (M := M) f g c xs (acc ++ [g x]) (by simp; omega) hf'
      rw [List.map_cons, lcL_take h1 (by rw [h2, e]) (h3 e) (by omega), ih]
      simp [e]
    | false =>
      have ih := lcL_sel (gg := gg) (gt := gt) (ge := ge) (Γ := Γ) (M := M) f g c xs acc (by omega) hf'
      rw [List.map_cons, lcL_skip h1 (by rw [h2, e]), ih]
      simp [e]
end Bk

set_option Elab.async false
set_option linter.all false
set_option maxRecDepth 100000
set_option maxHeartbeats 2000000
namespace Bk
open PySem PySem.Spec PyProof.Rows L2
/-! ### objects of own classes: a cell of the store, its fields by name -/
def putD (f : Str) (d : D) : List (Str × D) → List (Str × D)
  | [] => [(f, d)]
  | (g, x) :: r => if g = f then (g, d) :: r else (g, x) :: putD f d r
section
variable {K : PySem.W.Frag} {H Z : Hp} {ι : Nat → Addr} {n : Nat}
theorem fld_rp {f : Str} {d : D} : ∀ {fs : List (Str × D)} {gs : List (Str × V)}, gs.map (·.1) = fs.map (·.1) → Rps K Z ι n (fs.map (·.2)) (gs.map (·.2)) → fs.lookup f = some d → ∃ v, gs.lookup f = some v ∧ Rp K Z ι n d v
  | [], _, _, _, h => by simp at h
  | _ :: _, [], e, _, _ => by simp at e
  | (a, x) :: fs, (b, y) :: gs, e, r, h => by
    simp only [List.map_cons, List.cons.injEq] at e
    obtain ⟨e1, e2⟩ := e
    subst e1
    cases r with
    | cons r1 r2 =>
      rw [List.lookup_cons] at h ⊢
      cases hb : f == b with
      | true =>
        rw [hb] at h
        have : x = d := Option.some.inj h
        subst this
        exact ⟨y, rfl, r1⟩
      | false =>
        rw [hb] at h
        exact fld_rp e2 r2 h
theorem fld_no {f : Str} : ∀ {fs : List (Str × D)} {gs : List (Str × V)}, gs.map (·.1) = fs.map (·.1) → fs.lookup f = none → gs.lookup f = none
  | [], [], _, _ => rfl
  | [], _ :: _, e, _ => by simp at e
  | _ :: _, [], e, _ => by simp at e
  | (a, x) :: fs, (b, y) :: gs, e, h => by
    simp only [List.map_cons, List.cons.injEq] at e
    obtain ⟨e1, e2⟩ := e
    subst e1
    rw [List.lookup_cons] at h ⊢
    cases hb : f == b with
    | true => rw [hb] at h; cases h
    | false =>
      rw [hb] at h
      exact fld_no e2 h
theorem put_names (f : Str) (d : D) (v : V) : ∀ {fs : List (Str × D)} {gs : List (Str × V)}, gs.map (·.1) = fs.map (·.1) → (putF f v gs).map (·.1) = (putD f d fs).map (·.1)
  | [], [], _ => rfl
  | [], _ :: _, e => by simp at e
  | _ :: _, [], e => by simp at e
  | (a, x) :: fs, (b, y) :: gs, e => by
    simp only [List.map_cons, List.cons.injEq] at e
    obtain ⟨e1, e2⟩ := e
    subst e1
    unfold putF putD
    by_cases h : b = f
    · rw [if_pos h, if_pos h]
      simp [e2]
    · rw [if_neg h, if_neg h]
      simp [put_names f d v e2]
theorem put_rps {f : Str} {d : D} {v : V} (q : Rp K Z ι n d v) : ∀ {fs : List (Str × D)} {gs : List (Str × V)}, gs.map (·.1) = fs.map (·.1) → Rps K Z ι n (fs.map (·.2)) (gs.map (·.2)) → Rps K Z ι n ((putD f d fs).map (·.2)) ((putF f v gs).map (·.2))
  | [], [], _, _ => .cons q .nil
  | [], _ :: _, e, _ => by simp at e
  | _ :: _, [], e, _ => by simp at e
  | (a, x) :: fs, (b, y) :: gs, e, r => by
    simp only [List.map_cons, List.cons.injEq] at e
    obtain ⟨e1, e2⟩ := e
    subst e1
    cases r with
    | cons r1 r2 =>
      unfold putF putD
      by_cases h : b = f
      · rw [if_pos h, if_pos h]
        exact .cons q r2
      · rw [if_neg h, if_neg h]
        exact .cons r1 (put_rps q e2 r2)
end
section
variable {K : PySem.W.Frag} {H Z : Hp} {ι : Nat → Addr} {M : List MO}
/-- a cell's thing is changed -/
theorem HR.changeG (h : HR K H Z ι M) {j : Nat} {o' o : MO} {ho : HO} (hj : M[j]? = some o) (hd : o ≠ .dead) (hd' : o' ≠ .dead) (r : OR K (upd H (ι j) ho) Z ι M.length o' (ι j)) :
    HR K (upd H (ι j) ho) Z ι (M.set j o') ∧ Ext H Z ι M.length (upd H (ι j) ho) Z ι (M.set j o').length := by
  have lt : j < M.length := (List.getElem?_eq_some_iff.mp hj).1
  have ln : (M.set j o').length = M.length := List.length_set
  have zj : Z (ι j) = none := h.sep j _ hj hd
  have cs : ∀ {k : Nat} {u : MO}, (M.set j o')[k]? = some u → (k ≠ j ∧ M[k]? = some u) ∨ (k = j ∧ u = o') := fun {k u} e => by
    by_cases hk : k = j
    · subst hk
      rw [List.getElem?_set_self lt] at e
      exact .inr ⟨rfl, (Option.some.inj e).symm⟩
    · rw [List.getElem?_set_ne (Ne.symm hk)] at e
      exact .inl ⟨hk, e⟩
  have apart : ∀ {k : Nat} {u : MO}, k ≠ j → M[k]? = some u → u ≠ .dead → ι k ≠ ι j := fun {k u} hk e d z => hk (h.inj k j u _ e hj d hd z)
  refine ⟨⟨fun a u e => ?_, fun k hk => ?_, fun k u e d => ?_, fun a b o1 u e1 e2 d1 d2 e => ?_, fun k u e => ?_, fun k e => ?_⟩, fun _ _ e => e, fun _ _ => rfl, fun a u e z => ?_, fun k h1 h2 => absurd h2 (by rw [ln]; exact Nat.not_lt.mpr h1), by rw [ln]; exact Nat.le_refl _, fun _ _ e => .inl e⟩
  · rw [upd_ne (ne_of_none e zj)]
    exact h.sub _ _ e
  · rw [ln] at hk
    by_cases e : ι k = ι j
    · exact ⟨_, by rw [e, upd_same]⟩
    · rw [upd_ne e]
      exact h.ali k hk
  · rcases cs e with ⟨hk, e⟩ | ⟨rfl, rfl⟩
    · exact h.sep k u e d
    · exact zj
  · have live : ∀ {k : Nat} {u : MO}, (M.set j o')[k]? = some u → u ≠ .dead → ∃ u', M[k]? = some u' ∧ u' ≠ .dead := fun {k u} e d => by
      rcases cs e with ⟨_, e⟩ | ⟨rfl, rfl⟩
      · exact ⟨u, e, d⟩
      · exact ⟨_, hj, hd⟩
    obtain ⟨o1', e1', d1'⟩ := live e1 d1
    obtain ⟨u', e2', d2'⟩ := live e2 d2
    exact h.inj a b o1' u' e1' e2' d1' d2' e
  · rw [ln]
    rcases cs e with ⟨hk, e⟩ | ⟨rfl, rfl⟩
    · have q := h.obj k u e
      by_cases du : u = .dead
      · subst du
        trivial
      · exact OR.mono (fun _ _ z => z) (fun _ _ => rfl) (Nat.le_refl _) (fun o z => by rw [upd_ne (apart hk e du)]; exact z) q
    · exact r
  · rcases cs e with ⟨_, e⟩ | ⟨_, e⟩
    · exact h.ded k e
    · exact absurd e.symm hd'
  · rw [upd_ne (z j lt)]
    exact e
/-- a new thing of ours -/
theorem HR.ownedG (h : HR K H Z ι M) {p : Addr} {o' : MO} {ho : HO} (hp : H p = none) (hd' : o' ≠ .dead) (r : OR K (upd H p ho) Z (put ι M.length p) (M.length + 1) o' p) :
    HR K (upd H p ho) Z (put ι M.length p) (M ++ [o']) ∧ Ext H Z ι M.length (upd H p ho) Z (put ι M.length p) (M ++ [o']).length := by
  have zp : Z p = none := by
    cases e : Z p with
    | none => rfl
    | some u =>
      rw [h.sub _ _ e] at hp
      cases hp
  have ne : ∀ k, k < M.length → ι k ≠ p := fun k hk e => by
    obtain ⟨u, hu⟩ := h.ali k hk
    rw [e, hp] at hu
    cases hu
  have ii : ∀ k, k < M.length → (put ι M.length p) k = ι k := fun k hk => put_lt hk
  have il : (put ι M.length p) M.length = p := put_at
  have cs : ∀ {k : Nat} {u : MO}, (M ++ [o'])[k]? = some u → (k < M.length ∧ M[k]? = some u) ∨ (k = M.length ∧ u = o') := fun {k u} e => by
    by_cases hk : k < M.length
    · rw [List.getElem?_append_left hk] at e
      exact .inl ⟨hk, e⟩
    · rw [List.getElem?_append_right (Nat.le_of_not_lt hk)] at e
      by_cases hz : k - M.length = 0
      · rw [hz] at e
        exact .inr ⟨by omega, (Option.some.inj e).symm⟩
      · rw [List.getElem?_eq_none (by simp; omega)] at e
        cases e
  have ln : (M ++ [o']).length = M.length + 1 := by simp
  refine ⟨⟨fun a u e => ?_, fun k hk => ?_, fun k u e d => ?_, fun j k o u e1 e2 d1 d2 e => ?_, fun k u e => ?_, fun k e => ?_⟩, fun _ _ e => e, ii, fun a u e _ => ?_, fun k h1 h2 => ?_, by rw [ln]; omega, fun _ _ e => .inl e⟩
  · rw [upd_ne (ne_of_none e zp)]
    exact h.sub _ _ e
  · rw [ln] at hk
    by_cases hk' : k < M.length
    · rw [ii k hk', upd_ne (ne k hk')]
      exact h.ali k hk'
    · have : k = M.length := by omega
      subst this
      exact ⟨_, by rw [il, upd_same]⟩
  · rcases cs e with ⟨hk, e⟩ | ⟨rfl, rfl⟩
    · rw [ii k hk]
      exact h.sep k u e d
    · rw [il]
      exact zp
  · rcases cs e1 with ⟨hj, e1⟩ | ⟨rfl, rfl⟩ <;> rcases cs e2 with ⟨hk, e2⟩ | ⟨rfl, rfl⟩
    · rw [ii j hj, ii k hk] at e
      exact h.inj j k o u e1 e2 d1 d2 e
    · rw [ii j hj, il] at e
      exact absurd e (ne j hj)
    · rw [ii k hk, il] at e
      exact absurd e.symm (ne k hk)
    · rfl
  · rcases cs e with ⟨hk, e⟩ | ⟨rfl, rfl⟩
    · rw [ii k hk]
      exact OR.mono (fun _ _ z => z) ii (by rw [ln]; omega) (fun o z => by rw [upd_ne (ne k hk)]; exact z) (h.obj k u e)
    · rw [il, ln]
      exact r
  · rcases cs e with ⟨hk, e⟩ | ⟨_, e⟩
    · rw [ii k hk]
      exact h.ded k e
    · exact absurd e.symm hd'
  · rw [upd_ne (ne_of_none e hp)]
    exact e
  · rw [ln] at h2
    have : k = M.length := by omega
    subst this
    rw [il]
    exact hp
/-- the same thing, told in another way -/
theorem HR.retell (h : HR K H Z ι M) {j : Nat} {o' o : MO} (hj : M[j]? = some o) (hd : o ≠ .dead) (hd' : o' ≠ .dead) (r : OR K H Z ι M.length o' (ι j)) : HR K H Z ι (M.set j o') ∧ Ext H Z ι M.length H Z ι (M.set j o').length := by
  have lt : j < M.length := (List.getElem?_eq_some_iff.mp hj).1
  obtain ⟨u, hu⟩ := h.ali j lt
  have e : upd H (ι j) u = H := by
    funext a
    by_cases z : a = ι j
    · rw [z, upd_same, hu]
    · rw [upd_ne z]
  have := h.changeG (o' := o') (ho := u) hj hd hd' (by rw [e]; exact r)
  rw [e] at this
  exact this
end
/-! ### what the rules of objects compute -/
def gFld (nm f : Str) (ge : GE) : GE := fun Γ M => (ge Γ M).bind fun x M1 => match x with
  | .ref k => match M1[k]? with
    | some (.obj nm' fs) => if nm' = nm then opR (fs.lookup f) M1 else .bad
    | _ => .bad
  | _ => .bad
def gSetF (nm f : Str) (ge go : GE) : GS := fun Γ M => (ge Γ M).thenS Γ fun d M1 => (go Γ M1).thenS Γ fun x M2 => match x with
  | .ref k => match M2[k]? with
    | some (.obj nm' fs) => if nm' = nm ∧ fs.length < 1000 then .nx Γ (M2.set k (.obj nm (putD f d fs))) else .bad
    | _ => .bad
  | _ => .bad
def isObj (nm m : Str) (M : List MO) : D → Bool
  | .ref k => match M[k]? with
    | some (.obj nm' fs) => decide (nm' = nm) && (fs.lookup m).isNone
    | _ => false
  | _ => false
def gMeth (nm m : Str) (n : Nat) (F : List D → List MO → R D) (go : GE) (ga : GA) : GE := fun Γ M => (go Γ M).bind fun x M1 => if isObj nm m M1 x = true then (ga Γ M1).bind fun ds M2 => if ds.length + 1 = n then callF F (x :: ds) M2 else .bad else .bad
def newR (m : Nat) : D → List MO → R D
  | .non, M => .ok (.ref m) M
  | _, _ => .bad
def gNew (nm : Str) (n : Nat) (F : List D → List MO → R D) (ga : GA) : GE := fun Γ M => (ga Γ M).bind fun ds M1 => if ds.length + 1 = n then (callF F (.ref M1.length :: ds) (M1 ++ [.obj nm []])).bind (newR M1.length) else .bad
/-- a list in a field will not be changed any more -/
def gFzF (i : Nat) (f : Str) : GS := fun Γ M => match Γ[i]? with
  | some (some (.ref k)) => match M[k]? with
    | some (.obj nm fs) => match fs.lookup f with
      | some (.ref j) => match M[j]? with
        | some (.lst ds) => .nx Γ ((M.set j .dead).set k (.obj nm (putD f (.lst ds) fs)))
        | _ => .bad
      | _ => .bad
    | _ => .bad
  | _ => .bad
section
variable {X : Cx} {C : CT} {W : WX} {e o : Expr} {nm f m x : Str} {ge go : GE} {gs : GA} {pos apos pos' p : Pos} {C0 : Addr} {es : List Expr}
theorem one_cls (h1 : PySem.W.nsIn X.K mainGlobals nm = some (some (.ref C0))) {C1 : Addr} (h2 : PySem.W.nsIn X.K mainGlobals nm = some (some (.ref C1))) : C1 = C0 := by
  rw [h1] at h2
  cases h2
  rfl
theorem qe_fld (hn : PySem.W.nsIn X.K mainGlobals nm = some (some (.ref C0))) (c : Cls X.K C0) (na : NoAttr X.K C0 f) (he : QE X C W e ge) (hb : attributeBase e f X.env (eval e X.env) = eval e X.env := by rfl) : QE X C W (.Attribute e f pos) (gFld nm f ge) := by
  obtain ⟨te, pe, qe⟩ := he
  refine ⟨_, pe_fld pe hb, fun σ H Z ι Γ M Q sl hr h => qe σ H Z ι Γ M _ sl hr (Post.bind h fun x M1 v H1 Z1 ι1 e1 hr1 r1 h1 => ?_)⟩
  cases r1 with
  | ref hk =>
    rename_i k
    simp only at h1
    cases ek : M1[k]? with
    | none => rw [ek] at h1; exact h1.elim
    | some u =>
      rw [ek] at h1
      cases u with
      | dead => exact h1.elim
      | dct ks0 vs0 => exact h1.elim
      | dki kvs0 => exact h1.elim
      | lst ds => exact h1.elim
      | obj nm' fs =>
        simp only at h1
        by_cases en : nm' = nm
        · subst en
          rw [if_pos rfl] at h1
          obtain ⟨d, hd, h3⟩ := Post.of_opR (γ := D) (δ := V) h1
          obtain ⟨C1, dx, gs, a0, a1, a2, a3⟩ := hr1.obj k _ ek
          have := one_cls hn a0
          subst this
          obtain ⟨v, b1, b2⟩ := fld_rp a2 a3 hd
          exact ⟨_, C1, dx, gs, v, rfl, a1, c, na, b1, h3 v H1 Z1 ι1 .refl hr1 b2⟩
        · rw [if_neg en] at h1
          exact h1.elim
  | _ => exact h1.elim
theorem qs_setF (hn : PySem.W.nsIn X.K mainGlobals nm = some (some (.ref C0))) (c : Cls X.K C0) (na : NoAttr X.K C0 f) (he : QE X C W e ge) (ho : QE X C W o go) (hs : swapsWith e (some (.Attribute o f pos')) pos.line X.env = pure false := by rfl) :
    QS X C W (.Assign [.Attribute o f pos'] e pos) (gSetF nm f ge go) := by
  obtain ⟨te, pe, qe⟩ := he
  obtain ⟨to, po, qo⟩ := ho
  refine ⟨_, ps_fld po pe hs, fun Dd σ H Z ι Γ M sl hr h => qe σ H Z ι Γ M _ sl hr (PostS.bind h sl fun d M1 v H1 Z1 ι1 e1 hr1 r1 h1 => qo σ H1 Z1 ι1 Γ M1 _ (sl.ext e1) hr1 (PostS.bind h1 (sl.ext e1) fun x M2 u H2 Z2 ι2 e2 hr2 r2 h2 => ?_))⟩
  cases r2 with
  | ref hk =>
    rename_i k
    simp only at h2
    cases ek : M2[k]? with
    | none => rw [ek] at h2; exact h2.elim
    | some u =>
      rw [ek] at h2
      cases u with
      | dead => exact h2.elim
      | dct ks0 vs0 => exact h2.elim
      | dki kvs0 => exact h2.elim
      | lst ds => exact h2.elim
      | obj nm' fs =>
        simp only at h2
        by_cases en : nm' = nm ∧ fs.length < 1000
        · rw [if_pos en] at h2
          obtain ⟨en1, en2⟩ := en
          subst en1
          obtain ⟨C1, dx, gs, a0, a1, a2, a3⟩ := hr2.obj k _ ek
          have := one_cls hn a0
          subst this
          have ln : gs.length = fs.length := by
            have := congrArg List.length a2
            simpa using this
          obtain ⟨b1, b2⟩ := hr2.changeG (o' := .obj nm' (putD f d fs)) (ho := .ins C1 dx (putF f v gs)) ek (by simp) (by simp) ⟨C1, dx, _, a0, upd_same, put_names f d v a2, put_rps (r1.ext e2) a2 a3⟩
          exact ⟨_, C1, dx, gs, rfl, a1, c, na, by rw [ln]; exact en2, h2 σ _ Z2 ι2 b2 b1 (((sl.ext e1).ext e2).ext b2)⟩
        · rw [if_neg en] at h2
          exact h2.elim
  | _ => exact h2.elim
theorem isObj_run {H Z : Hp} {ι : Nat → Addr} {M : List MO} {d : D} {v : V} (hn : PySem.W.nsIn X.K mainGlobals nm = some (some (.ref C0))) (hr : HR X.K H Z ι M) (r : Rp X.K Z ι M.length d v) (h : isObj nm m M d = true) : ∃ a dx gs, v = .ref a ∧ H a = some (.ins C0 dx gs) ∧ gs.lookup m = none := by
  cases r with
  | ref hk =>
    rename_i k
    unfold isObj at h
    simp only at h
    cases ek : M[k]? with
    | none => rw [ek] at h; cases h
    | some u =>
      rw [ek] at h
      cases u with
      | dead => cases h
      | dct ks0 vs0 => cases h
      | dki kvs0 => cases h
      | lst ds => cases h
      | obj nm' fs =>
        simp only [Bool.and_eq_true, decide_eq_true_eq, Option.isNone_iff_eq_none] at h
        obtain ⟨h1, h2⟩ := h
        subst h1
        obtain ⟨C1, dx, gs, a0, a1, a2, a3⟩ := hr.obj k _ ek
        have := one_cls hn a0
        subst this
        exact ⟨_, dx, gs, rfl, a1, fld_no a2 h2⟩
  | _ => simp [isObj] at h
variable {k n : Nat} {fa : Addr} {fd : FuncData} {ps : List Str} {F : List D → List MO → R D} {pl : Sem Bool}
/-- o.m(e, ..) of an own class -/
theorem qe_methF (hn0 : PySem.W.nsIn X.K mainGlobals nm = some (some (.ref C0))) (c : Cls X.K C0) (hm : Meth X.K C0 m fa) (F0 : FnQ X.prog X.w X.K X.mg X.base C k fa fd ps F) (hr : Room k X.A) (hgu : X.A.guards = some []) (tk : Takes X W) (hb : Binds X.K fd ps []) (ho : QE X C W o go) (ha : QA X C W (e :: es) gs) (hn : n = ps.length := by rfl)
    (hst : starEach (e :: es) X.env = (false, eval e X.env) :: starEach es X.env := by rfl) (hpl : (backTo pos (starEach es X.env)).any (·.1) = false := by rfl)
    (ht : eval (.Call (.Attribute o m apos) (e :: es) [] pos) X.env = (do
      let ov ← eval o X.env
      standAt apos.atName
      let (f, first) ← holding [ov] (getMethod ov m pl)
      callWith pos f first (backTo pos (starEach (e :: es) X.env)) (backToKw pos (keywordEach [] X.env))) := by rfl) :
    QE X C W (.Call (.Attribute o m apos) (e :: es) [] pos) (gMeth nm m n F go gs) := by
  subst hn
  obtain ⟨to, po, qo⟩ := ho
  obtain ⟨ta, pa, qa⟩ := ha
  refine ⟨fun σ H Q => to σ H fun x H1 => ∃ a dx fs, x = .ref a ∧ H1 a = some (.ins C0 dx fs) ∧ fs.lookup m = none ∧ ta σ H1 fun vs H2 => rCallQ X.K C ps F (WE W σ) (x :: vs) H2 Q, ⟨fun pins s σ H Q I h => ?_⟩,
    fun σ H Z ι Γ M Q sl hr h => qo σ H Z ι Γ M _ sl hr (h.bind fun x M1 v H1 Z1 ι1 e1 hr1 r1 h1 => ?_)⟩
  · refine PySem.W.methodCall_KW (pl := pl) (thn (po.run pins s σ H _ I h) fun u s1 ⟨x, H1, I1, rx, a, dx, fs, ex, ea, l, q⟩ => ?_) ht
    subst ex
    obtain rfl : u = Value.ref a := rx
    refine getmeth_ok I1 ea c hm l ?_
    refine PySem.W.callWith_K (first := [.ref a]) (h₀ := X.base) I.ok.mod.kin hm.kp (thn (pa.run pos pins s1 σ H1 _ I1 q) fun us s2 hh => ?_) hst hpl
    obtain ⟨vs, H2, I2, r, q2⟩ := hh
    have r2 : Vals (V.ref a :: vs) (Value.ref a :: us) := .cons rfl r
    have hl : (Value.ref a :: us).length = ps.length := r2.length.symm.trans q2.1
    have hbb := hb s2 (Value.ref a :: us) I2.kIn (by rw [List.append_nil]; exact hl)
    rw [List.append_nil] at hbb
    exact ⟨I2.kIn, run_call F0 hr hgu tk I2 hbb r2 q2⟩
  · by_cases z : isObj nm m M1 x = true
    · rw [if_pos z] at h1
      obtain ⟨a, dx, fs, b1, b2, b3⟩ := isObj_run hn0 hr1 r1 z
      subst b1
      refine ⟨a, dx, fs, rfl, b2, b3, qa σ H1 Z1 ι1 Γ M1 _ (sl.ext e1) hr1 (h1.bind fun ds M2 vs H2 Z2 ι2 e2 hr2 r2 h2 => ?_)⟩
      by_cases cc : ds.length + 1 = ps.length
      · rw [if_pos cc] at h2
        exact lent_post hr2 (.cons (r1.ext e2) r2) (by rw [List.length_cons, ← r2.length]; exact cc) h2
      · rw [if_neg cc] at h2
        exact h2.elim
    · rw [if_neg z] at h1
      exact h1.elim
theorem qe_methF0 (hn0 : PySem.W.nsIn X.K mainGlobals nm = some (some (.ref C0))) (c : Cls X.K C0) (hm : Meth X.K C0 m fa) (F0 : FnQ X.prog X.w X.K X.mg X.base C k fa fd ps F) (hr : Room k X.A) (hgu : X.A.guards = some []) (tk : Takes X W) (hb : Binds X.K fd ps []) (ho : QE X C W o go) (hn : n = ps.length := by rfl)
    (ht : eval (.Call (.Attribute o m apos) [] [] pos) X.env = (do
      let ov ← eval o X.env
      standAt apos.atName
      let (f, first) ← holding [ov] (getMethod ov m pl)
      callWith pos f first (backTo pos (starEach [] X.env)) (backToKw pos (keywordEach [] X.env))) := by rfl) :
    QE X C W (.Call (.Attribute o m apos) [] [] pos) (gMeth nm m n F go gNil) := by
  subst hn
  obtain ⟨to, po, qo⟩ := ho
  refine ⟨fun σ H Q => to σ H fun x H1 => ∃ a dx fs, x = .ref a ∧ H1 a = some (.ins C0 dx fs) ∧ fs.lookup m = none ∧ rCallQ X.K C ps F (WE W σ) [x] H1 Q, ⟨fun pins s σ H Q I h => ?_⟩,
    fun σ H Z ι Γ M Q sl hr h => qo σ H Z ι Γ M _ sl hr (h.bind fun x M1 v H1 Z1 ι1 e1 hr1 r1 h1 => ?_)⟩
  · refine PySem.W.methodCall_KW (pl := pl) (thn (po.run pins s σ H _ I h) fun u s1 ⟨x, H1, I1, rx, a, dx, fs, ex, ea, l, q⟩ => ?_) ht
    subst ex
    obtain rfl : u = Value.ref a := rx
    refine getmeth_ok I1 ea c hm l ?_
    have r2 : Vals [V.ref a] [Value.ref a] := .cons rfl .nil
    have hl : [Value.ref a].length = ps.length := r2.length.symm.trans q.1
    have hbb := hb s1 [Value.ref a] I1.kIn (by rw [List.append_nil]; exact hl)
    rw [List.append_nil] at hbb
    exact PySem.W.callWith_K0 (first := [.ref a]) I1.kIn hm.kp (run_call F0 hr hgu tk I1 hbb r2 q)
  · by_cases z : isObj nm m M1 x = true
    · rw [if_pos z] at h1
      obtain ⟨a, dx, fs, b1, b2, b3⟩ := isObj_run hn0 hr1 r1 z
      subst b1
      have h2 : Post X C W (rpE X.K) σ H1 Z1 ι1 M1 (if ([] : List D).length + 1 = ps.length then callF F [x] M1 else .bad) Q := h1
      by_cases cc : ([] : List D).length + 1 = ps.length
      · rw [if_pos cc] at h2
        exact ⟨a, dx, fs, rfl, b2, b3, lent_post hr1 (.cons r1 .nil) cc h2⟩
      · rw [if_neg cc] at h2
        exact h2.elim
    · rw [if_neg z] at h1
      exact h1.elim
/-- C(e, ..) -/
theorem qe_new (hn0 : PySem.W.nsIn X.K mainGlobals nm = some (some (.ref C0))) (Mk0 : Mk X.K C0 fa) (F0 : FnQ X.prog X.w X.K X.mg X.base C k fa fd ps F) (hr : Room (k + 1) X.A) (hgu : X.A.guards = some []) (tk : Takes X W) (hg : Gl X x) (hmg : X.mg x = some (.ref C0)) (hb : Binds X.K fd ps []) (ha : QA X C W (e :: es) gs) (hn : n = ps.length := by rfl)
    (hdb : (x == ("__debug__" : Str)) = false := by decide) (he : starEach (e :: es) X.env = (false, eval e X.env) :: starEach es X.env := by rfl) (hpl : (backTo pos (starEach es X.env)).any (·.1) = false := by rfl) :
    QE X C W (.Call (.Name x p) (e :: es) [] pos) (gNew nm n F gs) := by
  subst hn
  obtain ⟨ta, pa, qa⟩ := ha
  refine ⟨fun σ H Q => ta σ H fun vs H1 => ∀ y dx, H1 y = none → H1 dx = none → dx ≠ y → rCallQ X.K C ps F (WE W σ) (.ref y :: vs) (upd (upd H1 dx (.own y)) y (.ins C0 dx [])) (fun v H2 => v = .non ∧ Q (.ref y) H2), ⟨fun pins s σ H Q I h => ?_⟩,
    fun σ H Z ι Γ M Q sl hr h => qa σ H Z ι Γ M _ sl hr (h.bind fun ds M1 vs H1 Z1 ι1 e1 hr1 r1 h1 => fun y dx hy hdx hne => ?_)⟩
  · refine wpAny_Call_Name_kw (ld_glob I hg hmg ?_ hdb)
    refine PySem.W.callWith_K (h₀ := X.base) I.ok.mod.kin Mk0.kp (thn (pa.run pos pins s σ H _ I h) fun us s1 hh => ?_) he hpl
    obtain ⟨vs, H1, J, r, q⟩ := hh
    refine ⟨J.kIn, ?_⟩
    have hq := q (s1.heap.objs.size + 1) s1.heap.objs.size (J.hok.fresh (Nat.le_succ _)) (J.hok.fresh (Nat.le_refl _)) (Nat.ne_of_lt (Nat.lt_succ_self _))
    have I2 := Inv.made (C := C0) J
    have r2 : Vals (V.ref (s1.heap.objs.size + 1) :: vs) (Value.ref (s1.heap.objs.size + 1) :: us) := .cons rfl r
    obtain ⟨hl, ds, Z, ι, M, rd, hr', hp⟩ := hq
    have hl2 : (Value.ref (s1.heap.objs.size + 1) :: us).length = ps.length := r2.length.symm.trans hl
    have hbb := hb _ (Value.ref (s1.heap.objs.size + 1) :: us) I2.kIn (by rw [List.append_nil]; exact hl2)
    rw [List.append_nil] at hbb
    have hgu2 : (X.A.under (.builtin "type.__call__" ⟨.ref C0 :: us, []⟩)).guards = some [] := by first | exact hgu | (simpa [Around.under] using hgu)
    refine wpAny_call (make_map (f := fa) J.kIn Mk0.makes Mk0.init (beq_iff_eq.mp Mk0.fn) (codeAny_mono (F0.run _ X.stack _ _ ⟨Value.ref (s1.heap.objs.size + 1) :: us, []⟩ (Value.ref (s1.heap.objs.size + 1) :: us) _ _ (WE W σ) ds Z ι M (hr.make C0 us []) hgu2
      (I2.env0.make C0 us []) hbb r2 hl rd hr' hp) fun r s' hq' => ?_))
    cases r with
    | error e => exact passAt tk σ pins _ _ e s' I2 hq'
    | ok fl =>
      cases fl with
      | ret u =>
        obtain ⟨v, H', I3, rv, ev, q3⟩ := I2.after hq'
        subst ev
        exact ⟨rv, ⟨V.ref (s1.heap.objs.size + 1), H', I3, rfl, q3⟩⟩
      | next => exact False.elim hq'
      | brk => exact False.elim hq'
      | cont => exact False.elim hq'
  · by_cases cc : ds.length + 1 = ps.length
    · rw [if_pos cc] at h1
      have hr2 : HR X.K (upd H1 dx (.own y)) Z1 ι1 M1 := hr1.odd (Odd.new hr1 hdx)
      have x2 : Ext H1 Z1 ι1 M1.length (upd H1 dx (.own y)) Z1 ι1 M1.length := Ext.touch .refl hdx
      have hy2 : upd H1 dx (.own y) y = none := by rw [upd_ne (Ne.symm hne)]; exact hy
      obtain ⟨hr3, x3⟩ := hr2.ownedG (o' := .obj nm []) (ho := .ins C0 dx []) hy2 (by simp) ⟨C0, dx, [], hn0, upd_same, rfl, .nil⟩
      have x23 := x2.trans x3 hr2.ali
      have rp : Rps X.K Z1 (put ι1 M1.length y) (M1 ++ [MO.obj nm []]).length (.ref M1.length :: ds) (.ref y :: vs) := by
        refine .cons ?_ (r1.ext x23)
        have q : Rp X.K Z1 (put ι1 M1.length y) (M1 ++ [MO.obj nm []]).length (.ref M1.length) (.ref (put ι1 M1.length y M1.length)) := .ref (by simp)
        rw [put_at] at q
        exact q
      refine lent_post hr3 rp (by rw [List.length_cons, ← r1.length]; exact cc) ?_
      have h2 : Post X C W (rpE X.K) σ (upd (upd H1 dx (.own y)) y (.ins C0 dx [])) Z1 (put ι1 M1.length y) (M1 ++ [MO.obj nm []]) ((callF F (.ref M1.length :: ds) (M1 ++ [.obj nm []])).bind (newR M1.length)) Q := h1.shift x23 hr3
      refine h2.bind fun d M4 v H4 Z4 ι4 e4 hr4 r4 h4 => ?_
      cases r4 with
      | non =>
        refine ⟨rfl, h4 _ H4 Z4 ι4 .refl hr4 ?_⟩
        have lt : M1.length < (M1 ++ [MO.obj nm []]).length := by simp
        have q : Rp X.K Z4 ι4 M4.length (.ref M1.length) (.ref (ι4 M1.length)) := .ref (Nat.lt_of_lt_of_le lt e4.ln)
        rw [e4.ii _ lt, put_at] at q
        exact q
      | _ => exact h4.elim
    · rw [if_neg cc] at h1
      exact h1.elim
theorem qs_fzF {st : Stmt} {g : GS} (i : Nat) (f : Str) (h1 : QS X C W st g) : QS X C W st (gSeq g (gFzF i f)) := qs_ghost h1 fun Dd σ H Z ι Γ M sl hr h => by
  unfold gFzF at h
  cases e : Γ[i]? with
  | none => rw [e] at h; exact h.elim
  | some o =>
    rw [e] at h
    cases o with
    | none => exact h.elim
    | some d =>
      cases d with
      | ref k =>
        simp only at h
        cases e2 : M[k]? with
        | none => rw [e2] at h; exact h.elim
        | some u =>
          rw [e2] at h
          cases u with
          | dead => exact h.elim
          | dct ks0 vs0 => exact h.elim
          | dki kvs0 => exact h.elim
          | lst ds => exact h.elim
          | obj nm fs =>
            simp only at h
            cases e3 : fs.lookup f with
            | none => rw [e3] at h; exact h.elim
            | some d2 =>
              rw [e3] at h
              cases d2 with
              | ref j =>
                simp only at h
                cases e4 : M[j]? with
                | none => rw [e4] at h; exact h.elim
                | some w =>
                  rw [e4] at h
                  cases w with
                  | dead => exact h.elim
                  | dct ks0 vs0 => exact h.elim
                  | dki kvs0 => exact h.elim
                  | obj nm2 fs2 => exact h.elim
                  | lst ds =>
                    obtain ⟨xs, r, hr1, x1, rp⟩ := hr.freeze e4
                    have jk : j ≠ k := fun z => by rw [z, e2] at e4; cases e4
                    have e2' : (M.set j .dead)[k]? = some (.obj nm fs) := by rw [List.getElem?_set_ne jk]; exact e2
                    obtain ⟨C1, dx, gs, a0, a1, a2, a3⟩ := hr1.obj k _ e2'
                    obtain ⟨v, b1, b2⟩ := fld_rp a2 a3 e3
                    have ev : v = .ref (ι j) := by cases b2; rfl
                    subst ev
                    have eg : putF f (.ref (ι j)) gs = gs := by
                      clear a3 b2 a1 a2
                      induction gs with
                      | nil => simp at b1
                      | cons g gs ih =>
                        obtain ⟨a, y⟩ := g
                        rw [List.lookup_cons] at b1
                        unfold putF
                        by_cases ha : a = f
                        · subst ha
                          rw [if_pos rfl]
                          simp at b1
                          rw [b1]
                        · rw [if_neg ha]
                          have : (f == a) = false := by
                            rw [beq_eq_false_iff_ne]
                            exact fun z => ha z.symm
                          rw [this] at b1
                          rw [ih b1]
                    have orr : OR X.K H (upd Z (ι j) (.lst xs)) ι (M.set j .dead).length (.obj nm (putD f (.lst ds) fs)) (ι k) :=
                      ⟨C1, dx, gs, a0, a1, by rw [← eg]; exact put_names f _ _ a2, by rw [← eg]; exact put_rps rp a2 a3⟩
                    obtain ⟨hr2, x2⟩ := hr1.retell e2' (by simp) (by simp) orr
                    exact h σ H _ ι (x1.trans x2 hr1.ali) hr2 ((sl.ext x1).ext x2)
              | _ => exact h.elim
      | _ => exact h.elim
end
/-! ### how they are worked out -/
@[simp] theorem u_gFld (nm f : Str) (ge : GE) (Γ : Env) (M : List MO) : gFld nm f ge Γ M = ((ge Γ M).bind fun x M1 => match x with
  | .ref k => match M1[k]? with
    | some (.obj nm' fs) => if nm' = nm then opR (fs.lookup f) M1 else .bad
    | _ => .bad
  | _ => .bad) := Eq.trans rfl rfl
@[simp] theorem u_gSetF (nm f : Str) (ge go : GE) (Γ : Env) (M : List MO) : gSetF nm f ge go Γ M = ((ge Γ M).thenS Γ fun d M1 => (go Γ M1).thenS Γ fun x M2 => match x with
  | .ref k => match M2[k]? with
    | some (.obj nm' fs) => if nm' = nm ∧ fs.length < 1000 then .nx Γ (M2.set k (.obj nm (putD f d fs))) else .bad
    | _ => .bad
  | _ => .bad) := Eq.trans rfl rfl
@[simp] theorem u_isObj (nm m : Str) (M : List MO) (k : Nat) : isObj nm m M (.ref k) = (match M[k]? with
    | some (.obj nm' fs) => decide (nm' = nm) && (fs.lookup m).isNone
    | _ => false) := Eq.trans rfl rfl
@[simp] theorem u_gMeth (nm m : Str) (n : Nat) (F : List D → List MO → R D) (go : GE) (ga : GA) (Γ : Env) (M : List MO) : gMeth nm m n F go ga Γ M = (go Γ M).bind fun x M1 => if isObj nm m M1 x = true then (ga Γ M1).bind fun ds M2 => if ds.length + 1 = n then callF F (x :: ds) M2 else .bad else .bad := Eq.trans rfl rfl
@[simp] theorem u_newR (m : Nat) (M : List MO) : newR m .non M = .ok (.ref m) M := Eq.trans rfl rfl
@[simp] theorem u_gNew (nm : Str) (n : Nat) (F : List D → List MO → R D) (ga : GA) (Γ : Env) (M : List MO) : gNew nm n F ga Γ M = (ga Γ M).bind fun ds M1 => if ds.length + 1 = n then (callF F (.ref M1.length :: ds) (M1 ++ [.obj nm []])).bind (newR M1.length) else .bad := Eq.trans rfl rfl
@[simp] theorem u_gFzF (i : Nat) (f : Str) (Γ : Env) (M : List MO) : gFzF i f Γ M = (match Γ[i]? with
  | some (some (.ref k)) => match M[k]? with
    | some (.obj nm fs) => match fs.lookup f with
      | some (.ref j) => match M[j]? with
        | some (.lst ds) => .nx Γ ((M.set j .dead).set k (.obj nm (putD f (.lst ds) fs)))
        | _ => .bad
      | _ => .bad
    | _ => .bad
  | _ => .bad) := Eq.trans rfl rfl
@[simp] theorem blo_obj (m : Nat) (nm : Str) (fs : List (Str × D)) : belowO m (.obj nm fs) = belows m (fs.map (·.2)) := Eq.trans rfl rfl
end Bk

set_option Elab.async false
set_option linter.all false
set_option maxRecDepth 100000
set_option maxHeartbeats 2000000
namespace Bk
open PySem PySem.Spec PyProof.Rows L2
/-! ### range down by ones -/
def rngDn (lo : Int) : Nat → List D
  | 0 => []
  | n + 1 => .int lo :: rngDn (lo - 1) n
theorem rngDn_get : ∀ (n : Nat) (lo : Int) (i : Nat) (d : D), (rngDn lo n)[i]? = some d → i < n ∧ d = .int (lo + (i : Nat) * (-1))
  | 0, _, _, _, h => by simp [rngDn] at h
  | n + 1, lo, 0, d, h => by
    simp [rngDn] at h
    exact ⟨Nat.succ_pos _, by rw [← h]; simp⟩
  | n + 1, lo, i + 1, d, h => by
    simp only [rngDn, List.getElem?_cons_succ] at h
    obtain ⟨h1, h2⟩ := rngDn_get n (lo - 1) i d h
    refine ⟨Nat.succ_lt_succ h1, ?_⟩
    rw [h2]
    congr 1
    push_cast
    omega
theorem rngDn_length : ∀ (n : Nat) (lo : Int), (rngDn lo n).length = n
  | 0, _ => rfl
  | n + 1, lo => by simp [rngDn, rngDn_length n]
def rng3 : List D → Option (List D)
  | [.int i, .int j, .int c] => if (inR i && inR j && decide (c = -1)) = true then some (rngDn i (i - j).toNat) else none
  | _ => none
def gRng3 (ga : GA) : GI := fun Γ M => (ga Γ M).bind fun ds M1 => opR (rng3 ds) M1
def gRev (ge : GE) : GI := fun Γ M => (ge Γ M).bind fun d M1 => opR ((seqD d).map List.reverse) M1
def mReverse : MF0 := fun ds => some (ds.reverse, .non)
def items1 (M : List MO) : List D → Option (List D)
  | [d] => itemsD M d
  | _ => none
def gListO (ga : GA) : GE := fun Γ M => (ga Γ M).bind fun xs M1 => match items1 M1 xs with
  | some ds => .ok (.ref M1.length) (M1 ++ [.lst ds])
  | none => .bad
section
variable {X : Cx} {C : CT} {W : WX} {tg e a b c : Expr} {g ga : GE} {gs : GA} {pos p : Pos}
theorem itr_c {K : PySem.W.Frag} {Z : Hp} {ι : Nat → Addr} {n : Nat} {lo : Int} {m : Nat} : ItR K (Itc lo (-1) m) (rngDn lo m) Z ι n := by
  intro i H' Z' ι' M' hz hi hn hr _
  refine ⟨fun hl => by rw [rngDn_length] at hl; exact Nat.le_of_eq hl, fun d hd => ?_⟩
  obtain ⟨h1, rfl⟩ := rngDn_get _ _ _ _ hd
  refine ⟨h1, fun x H2 hy => ?_⟩
  obtain ⟨rfl, rfl⟩ := hy
  exact ⟨Z', .refl, hr, .int _⟩
theorem qi_rng3 (hg : Gl X "range") (hm : X.mg "range" = none) (ha : QA X C W [a, b, c] gs)
    (hs : starEach [a, b, c] X.env = (false, eval a X.env) :: starEach [b, c] X.env := by rfl) (hpl : (backTo pos (starEach [b, c] X.env)).any (·.1) = false := by rfl) : QI X C W tg (.Call (.Name "range" p) [a, b, c] [] pos) (gRng3 gs) := by
  obtain ⟨ta, pa, qa⟩ := ha
  refine ⟨_, pi_range3 hg hm pa hs hpl, fun σ H Z ι Γ M Q sl hr h => qa σ H Z ι Γ M _ sl hr (h.bind fun x M1 v H1 Z1 ι1 e1 hr1 r1 h1 => ?_)⟩
  obtain ⟨ds, hd, h2⟩ := Post.of_opR (γ := D) (δ := V) h1
  unfold rng3 at hd
  split at hd
  · rename_i i j k
    cases r1 with
    | cons r rr =>
      cases r
      cases rr with
      | cons r2 rr =>
        cases r2
        cases rr with
        | cons r3 rr =>
          cases r3
          cases rr
          by_cases hj : (inR i && inR j && decide (k = -1)) = true
          · rw [if_pos hj] at hd
            cases hd
            simp only [inR, Bool.and_eq_true, decide_eq_true_eq] at hj
            obtain ⟨⟨h1', h2'⟩, h3'⟩ := hj
            subst h3'
            exact ⟨i, j, -1, _, rfl, RgC.neg h1'.1 h1'.2 h2'.1 h2'.2, h2 _ H1 Z1 ι1 .refl hr1 itr_c⟩
          · rw [if_neg hj] at hd
            cases hd
  · cases hd
theorem rev_get {ds : List D} {i : Nat} {d : D} (h : ds.reverse[i]? = some d) : i < ds.length ∧ ds[ds.length - 1 - i]? = some d := by
  have l : i < ds.reverse.length := (List.getElem?_eq_some_iff.mp h).1
  rw [List.length_reverse] at l
  rw [List.getElem?_reverse l] at h
  exact ⟨l, h⟩
theorem itr_vl {K : PySem.W.Frag} {Z : Hp} {ι : Nat → Addr} {n : Nat} {a : Addr} {xs : List V} {ds : List D} (s : ExL K Z a xs) (r : Rps K Z ι n ds xs) : ItR K (Itv K a xs.length) ds.reverse Z ι n := by
  intro i H' Z' ι' M' hz hi hn hr _
  have sH : SqL K H' a xs := (subL (fun a o h => hr.sub _ _ (hz _ _ h)) s).sq
  have l := r.length
  refine ⟨fun hl => by rw [List.length_reverse] at hl; exact Nat.le_of_eq (l.symm.trans hl), fun d hd => ?_⟩
  obtain ⟨h1, h2⟩ := rev_get hd
  obtain ⟨v, hv, rv⟩ := r.get h2
  rw [l] at hv
  refine ⟨⟨by omega, xs, v, sH, hv⟩, fun x H2 hy => ?_⟩
  obtain ⟨rfl, hx⟩ := hy
  have ex : xs[xs.length - 1 - i]? = some x := hx _ sH
  rw [hv] at ex
  cases ex
  exact ⟨Z', .refl, hr, Rp.mono hz hi hn _ _ rv⟩
theorem itr_vt {K : PySem.W.Frag} {Z : Hp} {ι : Nat → Addr} {n : Nat} {a : Addr} {xs : List V} {ds : List D} (s : SqT K Z a xs) (r : Rps K Z ι n ds xs) : ItR K (RT.ItvT K a xs.length) ds.reverse Z ι n := by
  intro i H' Z' ι' M' hz hi hn hr _
  have sH : SqT K H' a xs := subT (fun a o h => hr.sub _ _ (hz _ _ h)) s
  have l := r.length
  refine ⟨fun hl => by rw [List.length_reverse] at hl; exact Nat.le_of_eq (l.symm.trans hl), fun d hd => ?_⟩
  obtain ⟨h1, h2⟩ := rev_get hd
  obtain ⟨v, hv, rv⟩ := r.get h2
  rw [l] at hv
  refine ⟨⟨by omega, xs, v, sH, hv⟩, fun x H2 hy => ?_⟩
  obtain ⟨rfl, hx⟩ := hy
  have ex : xs[xs.length - 1 - i]? = some x := hx _ sH
  rw [hv] at ex
  cases ex
  exact ⟨Z', .refl, hr, Rp.mono hz hi hn _ _ rv⟩
theorem qi_rev (hg : Gl X "reversed") (hm : X.mg "reversed" = none) (ha : QE X C W e g) (hs : starEach [e] X.env = (false, eval e X.env) :: starEach [] X.env := by rfl) : QI X C W tg (.Call (.Name "reversed" p) [e] [] pos) (gRev g) := by
  obtain ⟨ta, pa, qa⟩ := ha
  refine ⟨_, RT.pi_revA hg hm pa hs, fun σ H Z ι Γ M Q sl hr h => qa σ H Z ι Γ M _ sl hr (h.bind fun x M1 v H1 Z1 ι1 e1 hr1 r1 h1 => ?_)⟩
  obtain ⟨ds, hd, h2⟩ := Post.of_opR (γ := D) (δ := V) h1
  cases r1 with
  | lst s r =>
    cases hd
    exact ⟨_, _, rfl, .inl ⟨(subL hr1.sub s).sq, h2 _ H1 Z1 ι1 .refl hr1 (itr_vl s r)⟩⟩
  | tup s r =>
    cases hd
    exact ⟨_, _, rfl, .inr ⟨subT hr1.sub s, h2 _ H1 Z1 ι1 .refl hr1 (itr_vt s r)⟩⟩
  | ptu s r =>
    cases hd
    exact ⟨_, _, rfl, .inr ⟨subT hr1.sub s.sq, h2 _ H1 Z1 ι1 .refl hr1 (itr_vt s.sq r)⟩⟩
  | _ => cases hd
theorem ok_reverse : OkM0 X rReverse mReverse := fun p xs H Z ι n ds ds' d Q e r h q => by
  cases h
  exact ⟨p, xs, rfl, rfl, e, q _ _ r.rev .non⟩
/-- list(x), the new list ours -/
theorem qe_listO (hg : Gl X "list") (hm : X.mg "list" = none) (hv : bootBuiltins "list" = some (.type "list")) (ha : QA X C W [e] gs) (he : starEach [e] X.env = (false, eval e X.env) :: starEach [] X.env := by rfl) (hpl : (backTo pos (starEach [] X.env)).any (·.1) = false := by rfl) :
    QE X C W (.Call (.Name "list" p) [e] [] pos) (gListO gs) := by
  obtain ⟨ta, pa, qa⟩ := ha
  refine ⟨_, pe_callTy call_list_of hg hm hv pa (by decide) (by decide) he hpl, fun σ H Z ι Γ M Q sl hr h => qa σ H Z ι Γ M _ sl hr (h.bind fun xs M1 vs H1 Z1 ι1 e1 hr1 r1 h1 => ?_)⟩
  cases ei : items1 M1 xs with
  | none => rw [ei] at h1; exact h1.elim
  | some ds =>
    rw [ei] at h1
    unfold items1 at ei
    split at ei
    · cases r1 with
      | cons r rr =>
        cases rr
        obtain ⟨a, ys, rfl, s, r2⟩ := itemsD_run hr1 r ei
        refine ⟨a, ys, rfl, s.elim (fun s => .inl s.sq) .inr, fun l hl => ?_⟩
        obtain ⟨hr2, x2⟩ := hr1.owned hl r2
        refine h1 _ _ Z1 _ x2 hr2 ?_
        have q : Rp X.K Z1 (put ι1 M1.length l) (M1 ++ [MO.lst ds]).length (.ref M1.length) (.ref (put ι1 M1.length l M1.length)) := .ref (by simp)
        rw [put_at] at q
        exact q
    · cases ei
end
@[simp] theorem u_gRng3 (ga : GA) (Γ : Env) (M : List MO) : gRng3 ga Γ M = (ga Γ M).bind fun ds M1 => opR (rng3 ds) M1 := Eq.trans rfl rfl
@[simp] theorem u_gRev (ge : GE) (Γ : Env) (M : List MO) : gRev ge Γ M = (ge Γ M).bind fun d M1 => opR ((seqD d).map List.reverse) M1 := Eq.trans rfl rfl
@[simp] theorem u_gListO (ga : GA) (Γ : Env) (M : List MO) : gListO ga Γ M = ((ga Γ M).bind fun xs M1 => match items1 M1 xs with
  | some ds => .ok (.ref M1.length) (M1 ++ [.lst ds])
  | none => .bad) := Eq.trans rfl rfl
@[simp] theorem u_items1 (M : List MO) (d : D) : items1 M [d] = itemsD M d := Eq.trans rfl rfl
@[simp] theorem u_rng3 (i j : Int) : rng3 [.int i, .int j, .int (-1)] = if (inR i && inR j) = true then some (rngDn i (i - j).toNat) else none := by
  show (if (inR i && inR j && decide ((-1 : Int) = -1)) = true then _ else _) = _
  simp
@[simp] theorem u_reverse (ds : List D) : mReverse ds = some (ds.reverse, .non) := Eq.trans rfl rfl
end Bk

set_option Elab.async false
set_option linter.all false
set_option maxRecDepth 100000
set_option maxHeartbeats 2000000
namespace Bk
open PySem PySem.Spec PyProof.Rows L2
theorem units65 {k : Nat} {A : Around} (r : Room k A) : A.units + 65 < cLine := by have := r.un; omega
/-! ### t >= u -/
def rGeT (K : PySem.W.Frag) : R2 := fun x y H Q => ∃ (a b : Addr) (ns ms : List Int), x = .ref a ∧ y = .ref b ∧ SqT K H a (ns.map V.int) ∧ SqT K H b (ms.map V.int) ∧
  Q (.bl (Ob.lexAt (fun j => decide (ns.getD j 0 = ms.getD j 0)) (fun j => decide (ms.getD j 0 ≤ ns.getD j 0)) (decide (ns.length ≥ ms.length)) 0 (min ns.length ms.length))) H
theorem op_geT {X : Cx} (hu : X.A.units < cLine) : OpR X (compareOp .GtE) (rGeT X.K) := by
  intro pins s σ H x y v u Q I rx ry h
  obtain ⟨a, b, ns, ms, rfl, rfl, ha, hb, q⟩ := h
  cases rx
  cases ry
  obtain ⟨its, r1, p1, _⟩ := I.tuple ha
  obtain ⟨its2, r2, p2, _⟩ := I.tuple hb
  have i1 : IntsAre its ns := Vals.ints r1
  have i2 : IntsAre its2 ms := Vals.ints r2
  have e1 : its.toArray.size = ns.length := by rw [List.size_toArray]; exact i1.length
  have e2 : its2.toArray.size = ms.length := by rw [List.size_toArray]; exact i2.length
  have at1 : ∀ j (h1 : j < its.toArray.size), ∃ t, its.toArray[j] = .int (ns.getD j 0) t := fun j h1 => PyProof.Rows.IntsAre.int_at i1 _ _ (by simp at h1; simp [h1])
  have at2 : ∀ j (h1 : j < its2.toArray.size), ∃ t, its2.toArray[j] = .int (ms.getD j 0) t := fun j h1 => PyProof.Rows.IntsAre.int_at i2 _ _ (by simp at h1; simp [h1])
  have R := Ob.RcOp.tuples_ge (A := X.A) (s := s) (e := fun j => decide (ns.getD j 0 = ms.getD j 0)) (r := fun j => decide (ms.getD j 0 ≤ ns.getD j 0)) p1 p2 hu (fun j h1 h2 => by
    obtain ⟨t, et⟩ := at1 j h1
    obtain ⟨t', et'⟩ := at2 j h2
    rw [et, et']
    have z : (ns.getD j 0 == ms.getD j 0) = decide (ns.getD j 0 = ms.getD j 0) := by
      by_cases q : ns.getD j 0 = ms.getD j 0
      · rw [decide_eq_true q]; exact beq_iff_eq.mpr q
      · rw [decide_eq_false q]; exact beq_eq_false_iff_ne.mpr q
    rw [← z]
    exact SeqAt.EqAt.int_int _ _ _ _) (fun j h1 h2 _ => by
    obtain ⟨t, et⟩ := at1 j h1
    obtain ⟨t', et'⟩ := at2 j h2
    rw [et, et']
    exact Ob.RcOp.ge_int _ _ _ _)
  rw [e1, e2] at R
  have z : wpAny (model X.prog X.w) X.A (compareOp .GtE (.ref a) (.ref b)) (EP X pins σ Q) X.xe s := R X.prog X.w X.xe (EP X pins σ Q) ⟨.bl _, H, I, rfl, q⟩
  exact z
def intsL : List D → Option (List Int)
  | [] => some []
  | .int i :: ds => (intsL ds).map fun is => i :: is
  | _ => none
theorem intsL_map : ∀ is : List Int, intsL (is.map D.int) = some is
  | [] => rfl
  | i :: is => by
    show (intsL (is.map D.int)).map (fun is => i :: is) = _
    rw [intsL_map is]
    rfl
theorem intsL_run {K : PySem.W.Frag} {Z : Hp} {ι : Nat → Addr} {n : Nat} : ∀ {ds : List D} {vs : List V} {is : List Int}, Rps K Z ι n ds vs → intsL ds = some is → vs = is.map V.int
  | [], _, _, r, h => by cases r; cases h; rfl
  | d :: ds, _, _, r, h => by
    cases r with
    | cons r rs =>
      cases r with
      | int i =>
        have h' : (intsL ds).map (fun is => i :: is) = some _ := h
        cases e : intsL ds with
        | none => rw [e] at h'; cases h'
        | some js =>
          rw [e] at h'
          cases h'
          rw [List.map_cons, intsL_run rs e]
      | _ => cases h
def geI (ns ms : List Int) : Bool := Ob.lexAt (fun j => decide (ns.getD j 0 = ms.getD j 0)) (fun j => decide (ms.getD j 0 ≤ ns.getD j 0)) (decide (ns.length ≥ ms.length)) 0 (min ns.length ms.length)
def dGeA (M : List MO) (x y : D) : Option D := match x, y with
  | .tup xs, .tup ys => match intsL xs, intsL ys with
    | some ns, some ms => some (.bl (geI ns ms))
    | _, _ => none
  | x, y => dGe M x y
section
variable {X : Cx}
theorem op_geA (hu : X.A.units < cLine) : OpR X (compareOp .GtE) (fun x y H Q => rGeT X.K x y H Q ∨ rI0 (fun i j => .bl (decide (j ≤ i))) x y H Q) := (op_geT hu).or op_ge
theorem ok_geA : Ok2 X (fun x y H Q => rGeT X.K x y H Q ∨ rI0 (fun i j => .bl (decide (j ≤ i))) x y H Q) dGeA := fun x y H Z ι M dx dy d Q hr rx ry e q => by
  unfold dGeA at e
  split at e
  · rename_i xs ys
    cases e1 : intsL xs with
    | none => rw [e1] at e; cases e
    | some ns =>
      cases e2 : intsL ys with
      | none => rw [e1, e2] at e; cases e
      | some ms =>
        rw [e1, e2] at e
        cases e
        cases rx with
        | tup s1 r1 =>
          cases ry with
          | tup s2 r2 =>
            have w1 := intsL_run r1 e1
            have w2 := intsL_run r2 e2
            subst w1 w2
            exact .inl ⟨_, _, ns, ms, rfl, rfl, subT hr.sub s1, subT hr.sub s2, q.now hr (.bl _)⟩
  · exact .inr (ok_ge x y H Z ι M dx dy d Q hr rx ry e q)
end
/-! ### x in l, items of any depth -/
def inDP (M : List MO) (x y : D) : Option Bool := match toP (deref M x), toP (deref M y) with
  | some p, some (.list qs) => if (SeqAt.shaped p && SeqAt.shaped (.list qs)) = true then some (qs.any fun z => PyData.eqv z p) else none
  | _, _ => none
def inAP (M : List MO) (x y : D) : Option Bool := match inP M x y with
  | some b => some b
  | none => inDP M x y
def dInA (M : List MO) (x y : D) : Option D := (inAP M x y).map D.bl
def dNotInA (M : List MO) (x y : D) : Option D := (inAP M x y).map fun b => D.bl (!b)
theorem inDP_run {K : PySem.W.Frag} {H Z : Hp} {ι : Nat → Addr} {M : List MO} {dx dy : D} {x y : V} {b : Bool} (hr : HR K H Z ι M) (rx : Rp K Z ι M.length dx x) (ry : Rp K Z ι M.length dy y) (e : inDP M dx dy = some b) :
    ∃ d ds, Dp K H x d ∧ Dp K H y (.list ds) ∧ SeqAt.shaped d = true ∧ SeqAt.shaped (.list ds) = true ∧ (ds.any fun z => PyData.eqv z d) = b := by
  unfold inDP at e
  cases e1 : toP (deref M dx) with
  | none => rw [e1] at e; cases e
  | some p =>
    cases e2 : toP (deref M dy) with
    | none => rw [e1, e2] at e; cases e
    | some q =>
      rw [e1, e2] at e
      cases q with
      | list qs =>
        simp only at e
        by_cases c : (SeqAt.shaped p && SeqAt.shaped (.list qs)) = true
        · rw [if_pos c] at e
          rw [Bool.and_eq_true] at c
          exact ⟨p, qs, deref_dp hr rx e1, deref_dp hr ry e2, c.1, c.2, Option.some.inj e⟩
        · rw [if_neg c] at e
          cases e
      | _ => cases e
section
variable {X : Cx}
theorem op_inA (hu : X.A.units + 65 < cLine) : OpR X (compareOp .In) (fun x y H Q => rInD X.K x y H Q ∨ rIn X.K false x y H Q) := (op_inD hu).or op_in_seq
theorem op_notInA (hu : X.A.units + 65 < cLine) : OpR X (compareOp .NotIn) (fun x y H Q => rNotInD X.K x y H Q ∨ rIn X.K true x y H Q) := (op_notInD hu).or op_notIn_seq
theorem ok_inA : Ok2 X (fun x y H Q => rInD X.K x y H Q ∨ rIn X.K false x y H Q) dInA := fun x y H Z ι M dx dy d Q hr rx ry e q => by
  unfold dInA inAP at e
  cases e1 : inP M dx dy with
  | some b =>
    rw [e1] at e
    cases e
    obtain ⟨p, xs, h1, h2, h3, h4, h5⟩ := inP_run hr rx ry e1
    exact .inr ⟨p, xs, h1, h2, h3, h4, by rw [h5]; exact q.now hr (.bl b)⟩
  | none =>
    rw [e1] at e
    simp only at e
    cases e2 : inDP M dx dy with
    | none => rw [e2] at e; cases e
    | some b =>
      rw [e2] at e
      cases e
      obtain ⟨p, ps, h1, h2, h3, h4, h5⟩ := inDP_run hr rx ry e2
      exact .inl ⟨p, ps, h1, h2, h3, h4, by rw [h5]; exact q.now hr (.bl b)⟩
theorem ok_notInA : Ok2 X (fun x y H Q => rNotInD X.K x y H Q ∨ rIn X.K true x y H Q) dNotInA := fun x y H Z ι M dx dy d Q hr rx ry e q => by
  unfold dNotInA inAP at e
  cases e1 : inP M dx dy with
  | some b =>
    rw [e1] at e
    cases e
    obtain ⟨p, xs, h1, h2, h3, h4, h5⟩ := inP_run hr rx ry e1
    exact .inr ⟨p, xs, h1, h2, h3, h4, by rw [h5]; exact q.now hr (.bl _)⟩
  | none =>
    rw [e1] at e
    simp only at e
    cases e2 : inDP M dx dy with
    | none => rw [e2] at e; cases e
    | some b =>
      rw [e2] at e
      cases e
      obtain ⟨p, ps, h1, h2, h3, h4, h5⟩ := inDP_run hr rx ry e2
      exact .inl ⟨p, ps, h1, h2, h3, h4, by rw [h5]; exact q.now hr (.bl _)⟩
end
/-! ### l.index(x) -/
def dIndex (M : List MO) (x y : D) : Option D := match toP (deref M x), toP (deref M y) with
  | some (.list ps), some q => if (SeqAt.shaped (.list ps) && SeqAt.shaped q) = true then (ps.findIdx? fun z => PyData.eqv z q).map fun j => .int (j : Nat) else none
  | _, _ => none
def gIndex (go ge : GE) : GE := fun Γ M => (go Γ M).bind fun x M1 => if isListD M1 x = true then (ge Γ M1).bind fun y M2 => opR (dIndex M2 x y) M2 else .bad
section
variable {X : Cx} {C : CT} {W : WX}
theorem qe_index {o e : Expr} {go ge : GE} {pos apos : Pos} (hu : X.A.units + 65 < cLine) (ho : QE X C W o go) (he : QE X C W e ge)
    (hbase : attributeBase o "index" X.env (eval o X.env) = eval o X.env := by rfl) (hs : starEach [e] X.env = (false, eval e X.env) :: starEach [] X.env := by rfl)
    (hfew : ((backTo pos (starEach [e] X.env)).all (fun x => !x.1) && (backToKw pos (keywordEach [] X.env)).all (fun x => x.1.isSome) && decide ([e].length + ([] : List Keyword).length + (if ([] : List Keyword).isEmpty then 0 else 1) < 30)) = true := by rfl)
    (hline : (apos.endLine == pos.line) = true := by rfl) : QE X C W (.Call (.Attribute o "index" apos) [e] [] pos) (gIndex go ge) := by
  obtain ⟨ta, pa, qa⟩ := ho
  obtain ⟨tb, pb, qb⟩ := he
  refine ⟨_, pe_bm PySem.F.plainAttrs_list PySem.F.slot_list_index PySem.F.type_list_index (mt_indexD hu) pa (pa_cons pb pa_nil hs) hbase hfew hline hs rfl, fun σ H Z ι Γ M Q sl hr h => qa σ H Z ι Γ M _ sl hr (h.bind fun x M1 v H1 Z1 ι1 e1 hr1 r1 h1 => ?_)⟩
  by_cases c : isListD M1 x = true
  · rw [if_pos c] at h1
    refine ⟨isListD_run hr1 r1 c, qb σ H1 Z1 ι1 Γ M1 _ (sl.ext e1) hr1 (h1.bind fun y M2 u H2 Z2 ι2 e2 hr2 r2 h2 => ?_)⟩
    obtain ⟨d, hd, h3⟩ := Post.of_opR (γ := D) (δ := V) h2
    unfold dIndex at hd
    cases ea : toP (deref M2 x) with
    | none => rw [ea] at hd; cases hd
    | some p =>
      cases eb : toP (deref M2 y) with
      | none => rw [ea, eb] at hd; cases p <;> cases hd
      | some q =>
        rw [ea, eb] at hd
        cases p with
        | list ps =>
          simp only at hd
          by_cases z : (SeqAt.shaped (.list ps) && SeqAt.shaped q) = true
          · rw [if_pos z] at hd
            rw [Bool.and_eq_true] at z
            cases ej : ps.findIdx? (fun z => PyData.eqv z q) with
            | none => rw [ej] at hd; cases hd
            | some j =>
              rw [ej] at hd
              cases hd
              obtain ⟨hj, h5, h6⟩ := List.findIdx?_eq_some_iff_getElem.mp ej
              have dx := deref_dp hr2 (r1.ext e2) ea
              have dy := deref_dp hr2 r2 eb
              cases dx with
              | lst hs ha =>
                refine ⟨_, u, q, ps, j, ps[j], rfl, rfl, .lst hs ha, dy, z.1, z.2, List.getElem?_eq_getElem hj, h5, fun m z' hm hz => ?_, h3 _ H2 Z2 ι2 .refl hr2 (.int _)⟩
                obtain ⟨hm', rfl⟩ := List.getElem?_eq_some_iff.mp hz
                have := h6 m hm
                simpa using this
          · rw [if_neg z] at hd
            cases hd
        | _ => cases hd
  · rw [if_neg c] at h1
    exact h1.elim
end
@[simp] theorem u_gIndex (go ge : GE) (Γ : Env) (M : List MO) : gIndex go ge Γ M = (go Γ M).bind fun x M1 => if isListD M1 x = true then (ge Γ M1).bind fun y M2 => opR (dIndex M2 x y) M2 else .bad := Eq.trans rfl rfl
@[simp] theorem e_geA (M : List MO) (i j : Int) : dGeA M (.int i) (.int j) = some (.bl (decide (j ≤ i))) := Eq.trans rfl rfl
theorem e_geT (M : List MO) (ns ms : List Int) : dGeA M (.tup (ns.map D.int)) (.tup (ms.map D.int)) = some (.bl (geI ns ms)) := by
  show (match intsL (ns.map D.int), intsL (ms.map D.int) with
    | some ns, some ms => some (D.bl (geI ns ms))
    | _, _ => none) = _
  rw [intsL_map, intsL_map]
/-- the first place that differs tells -/
theorem lexAt_diff {e r : Nat → Bool} {z : Bool} {j : Nat} (hd : e j = false) : ∀ (k i : Nat), i ≤ j → j < i + k → (∀ m, i ≤ m → m < j → e m = true) → Ob.lexAt e r z i k = r j
  | 0, i, h1, h2, _ => by omega
  | k + 1, i, h1, h2, h3 => by
    rw [Ob.lexAt_succ]
    by_cases q : i = j
    · subst q
      rw [hd]
      simp
    · rw [h3 i (Nat.le_refl _) (by omega), if_pos rfl]
      exact lexAt_diff hd k (i + 1) (by omega) (by omega) fun m a b => h3 m (by omega) b
theorem geI_less {ns ms : List Int} {j : Nat} (h1 : j < ns.length) (h2 : j < ms.length) (he : ∀ m, m < j → ns.getD m 0 = ms.getD m 0) (hl : ns.getD j 0 < ms.getD j 0) : geI ns ms = false := by
  unfold geI
  rw [lexAt_diff (j := j) (by simp only [decide_eq_false_iff_not]; omega) _ _ (Nat.zero_le _) (by omega) (fun m _ hm => by simpa using he m hm)]
  simp only [decide_eq_false_iff_not]
  omega
end Bk

set_option Elab.async false
set_option linter.all false
set_option maxRecDepth 100000
set_option maxHeartbeats 2000000
namespace Bk
open PySem PySem.Spec PyProof.Rows L2
/-! ### abs -/
def dAbs (_ : List MO) : D → Option D
  | .int i => some (.int (if i < 0 then -i else i))
  | _ => none
/-! ### sorted, ints -/
def insI (x : Int) : List Int → List Int
  | [] => [x]
  | y :: ys => if x ≤ y then x :: y :: ys else y :: insI x ys
def srtI : List Int → List Int
  | [] => []
  | x :: xs => insI x (srtI xs)
theorem insI_perm (x : Int) : ∀ l : List Int, (insI x l).Perm (x :: l)
  | [] => .refl _
  | y :: ys => by
    unfold insI
    split
    · exact .refl _
    · exact ((insI_perm x ys).cons y).trans (.swap x y ys)
theorem srtI_perm : ∀ l : List Int, (srtI l).Perm l
  | [] => .refl _
  | x :: xs => (insI_perm x _).trans ((srtI_perm xs).cons x)
theorem insI_ord {x : Int} : ∀ {l : List Int}, l.Pairwise (· ≤ ·) → (insI x l).Pairwise (· ≤ ·)
  | [], _ => by simp [insI]
  | y :: ys, h => by
    obtain ⟨h1, h2⟩ := List.pairwise_cons.mp h
    unfold insI
    split
    · rename_i c
      refine List.pairwise_cons.mpr ⟨fun z hz => ?_, h⟩
      rcases List.mem_cons.mp hz with rfl | hz
      · exact c
      · exact Int.le_trans c (h1 z hz)
    · rename_i c
      refine List.pairwise_cons.mpr ⟨fun z hz => ?_, insI_ord h2⟩
      rcases List.mem_cons.mp ((insI_perm x ys).mem_iff.mp hz) with rfl | hz
      · omega
      · exact h1 z hz
theorem srtI_ord : ∀ l : List Int, (srtI l).Pairwise (· ≤ ·)
  | [] => .nil
  | x :: xs => insI_ord (srtI_ord xs)
theorem ord_one : ∀ {l m : List Int}, l.Perm m → l.Pairwise (· ≤ ·) → m.Pairwise (· ≤ ·) → l = m
  | [], m, p, _, _ => (List.perm_nil.mp p.symm).symm
  | x :: l, [], p, _, _ => absurd (List.perm_nil.mp p) (by simp)
  | x :: l, y :: m, p, h, h' => by
    obtain ⟨a1, a2⟩ := List.pairwise_cons.mp h
    obtain ⟨b1, b2⟩ := List.pairwise_cons.mp h'
    have e : x = y := by
      rcases List.mem_cons.mp (p.mem_iff.mp (List.mem_cons_self ..)) with q | q
      · exact q
      · rcases List.mem_cons.mp (p.mem_iff.mpr (List.mem_cons_self ..)) with r | r
        · exact r.symm
        · have := a1 y r
          have := b1 x q
          omega
    subst e
    rw [ord_one (List.Perm.cons_inv p) a2 b2]
def dSort := ofInts fun is => some (.lst ((srtI is).map D.int))
def dSortR := ofInts fun is => some (.lst ((srtI is).reverse.map D.int))
def mClear : MF0 := fun _ => some ([], .non)
def dCnt (M : List MO) (x y : D) : Option D := match (listD M x).bind intsD, y with
  | some is, .int k => some (.int (is.count k : Nat))
  | _, _ => none
/-- a method of a list that reads it, with one argument -/
def gRd1 (f : List MO → D → D → Option D) (go ge : GE) : GE := fun Γ M => (go Γ M).bind fun x M1 => if isListD M1 x = true then (ge Γ M1).bind fun y M2 => opR (f M2 x y) M2 else .bad
def dRevL (M : List MO) (x : D) : Option D := (listD M x).map fun ds => .lst ds.reverse
def gRevL (ge : GE) : GE := fun Γ M => (ge Γ M).bind fun x M1 => opR (dRevL M1 x) M1
def gSortR (ge : GE) : GE := fun Γ M => (ge Γ M).bind fun x M1 => opR (dSortR M1 x) M1
section
variable {X : Cx} {C : CT} {W : WX} {e o : Expr} {g ge go : GE}
theorem ok_abs : Ok1 X (fun x H Q => ∃ i, [x] = [.int i] ∧ Q (.int (if i < 0 then -i else i)) H) dAbs := fun x H Z ι M dx d Q hr rx e q => by
  cases rx with
  | int i =>
    cases e
    exact ⟨i, rfl, q.now hr (.int _)⟩
  | _ => cases e
theorem ok_sort : Ok1 X (fun x H Q => rSortedI X.K [x] H Q) dSort := fun x H Z ι M dx d Q hr rx e q => by
  obtain ⟨a, is, rfl, s, e2⟩ := ofInts_run hr rx e
  cases e2
  refine ⟨a, is, rfl, s, fun ns' p h1 h2 hp => ?_⟩
  rw [ord_one (h1.trans (srtI_perm is).symm) h2 (srtI_ord is)]
  exact q.lst hr (rps_ints _) p hp
theorem ok_clear : OkM0 X rClear mClear := fun p xs H Z ι n ds ds' d Q e r h q => by
  cases h
  exact ⟨p, xs, rfl, rfl, e, q [] .non .nil .non⟩
theorem qe_count {pos apos : Pos} (ho : QE X C W o go) (he : QE X C W e ge)
    (hbase : attributeBase o "count" X.env (eval o X.env) = eval o X.env := by rfl) (hs : starEach [e] X.env = (false, eval e X.env) :: starEach [] X.env := by rfl)
    (hfew : ((backTo pos (starEach [e] X.env)).all (fun x => !x.1) && (backToKw pos (keywordEach [] X.env)).all (fun x => x.1.isSome) && decide ([e].length + ([] : List Keyword).length + (if ([] : List Keyword).isEmpty then 0 else 1) < 30)) = true := by rfl)
    (hline : (apos.endLine == pos.line) = true := by rfl) : QE X C W (.Call (.Attribute o "count" apos) [e] [] pos) (gRd1 dCnt go ge) := by
  obtain ⟨ta, pa, qa⟩ := ho
  obtain ⟨tb, pb, qb⟩ := he
  refine ⟨_, pe_bm PySem.F.plainAttrs_list PySem.F.slot_list_count PySem.F.type_list_count mt_lcount pa (pa_cons pb pa_nil hs) hbase hfew hline hs rfl, fun σ H Z ι Γ M Q sl hr h => qa σ H Z ι Γ M _ sl hr (h.bind fun x M1 v H1 Z1 ι1 e1 hr1 r1 h1 => ?_)⟩
  by_cases c : isListD M1 x = true
  · rw [if_pos c] at h1
    refine ⟨isListD_run hr1 r1 c, qb σ H1 Z1 ι1 Γ M1 _ (sl.ext e1) hr1 (h1.bind fun y M2 u H2 Z2 ι2 e2 hr2 r2 h2 => ?_)⟩
    obtain ⟨d, hd, h3⟩ := Post.of_opR (γ := D) (δ := V) h2
    unfold dCnt at hd
    cases e3 : listD M2 x with
    | none => rw [e3] at hd; cases hd
    | some ds =>
      rw [e3, Option.bind_some] at hd
      cases e4 : intsD ds with
      | none => rw [e4] at hd; cases hd
      | some is =>
        rw [e4] at hd
        obtain ⟨a, xs, rfl, s, r3⟩ := listD_run hr2 (r1.ext e2) e3
        rw [intsD_is r3 e4] at s
        cases r2 with
        | int k =>
          cases hd
          exact ⟨a, is, k, rfl, rfl, s.sq, h3 _ H2 Z2 ι2 .refl hr2 (.int _)⟩
        | _ => cases hd
  · rw [if_neg c] at h1
    exact h1.elim
theorem qe_revL {k : Nat} {p1 p2 p3 pos : Pos} (he : QE X C W e g) : QE X C W (.Subscript e (.Slice none none (some (.UnaryOp .USub (.Constant (.int 1) k p1) p2)) p3) pos) (gRevL g) := by
  obtain ⟨te, pe, qe⟩ := he
  refine ⟨_, pe_revL pe, fun σ H Z ι Γ M Q sl hr h => qe σ H Z ι Γ M _ sl hr (h.bind fun x M1 v H1 Z1 ι1 e1 hr1 r1 h1 => ?_)⟩
  obtain ⟨d, hd, h2⟩ := Post.of_opR (γ := D) (δ := V) h1
  unfold dRevL at hd
  cases e3 : listD M1 x with
  | none => rw [e3] at hd; cases hd
  | some ds =>
    rw [e3] at hd
    cases hd
    obtain ⟨a, xs, rfl, s, r3⟩ := listD_run hr1 r1 e3
    exact ⟨a, xs, rfl, s.sq, After.lst (X := X) (M := M1) (Q := Q) (fun v H' Z' e' hr' r' => h2 v H' Z' ι1 e' hr' r') hr1 r3.rev⟩
theorem qe_sortR {p cp pos kp : Pos} (hg : Gl X "sorted") (hm : X.mg "sorted" = none) (hv : bootBuiltins "sorted" = some (.builtin "sorted")) (he : QE X C W e g) (hs : starEach [e] X.env = (false, eval e X.env) :: starEach [] X.env := by rfl)
    (h1 : backTo pos (starEach [e] X.env) = (false, eval e X.env) :: backTo pos (starEach [] X.env) := by rfl) (h2 : (backTo pos (starEach [e] X.env)).any (·.1) = false := by rfl)
    (h3 : (backToKw pos (keywordEach [⟨some "reverse", .Constant (.bool true) 0 cp, kp⟩] X.env)).all (·.1.isSome) = true := by rfl) (h4 : (backToKw pos (keywordEach [⟨some "reverse", .Constant (.bool true) 0 cp, kp⟩] X.env)).any (·.1.isNone) = false := by rfl)
    (h5 : (backToKw pos (keywordEach [⟨some "reverse", .Constant (.bool true) 0 cp, kp⟩] X.env)).filterMap (·.1) = [Str.ofString "reverse"] := by rfl) :
    QE X C W (.Call (.Name "sorted" p) [e] [⟨some "reverse", .Constant (.bool true) 0 cp, kp⟩] pos) (gSortR g) := by
  obtain ⟨te, pe, qe⟩ := he
  refine ⟨_, pe_callBK (cr_sortedRev (b := true)) hg hm hv (pa_cons pe pa_nil hs) (pk_cons pe_bl pk_nil) (by decide) (by decide) h1 h2 h3 h4 h5, fun σ H Z ι Γ M Q sl hr h => qe σ H Z ι Γ M _ sl hr (h.bind fun x M1 v H1 Z1 ι1 e1 hr1 r1 h1 => ?_)⟩
  obtain ⟨d, hd, h2⟩ := Post.of_opR (γ := D) (δ := V) h1
  obtain ⟨a, is, rfl, s, e2⟩ := ofInts_run hr1 r1 hd
  cases e2
  refine ⟨a, is, rfl, rfl, s, fun ns' p h1 h2' hp => ?_⟩
  have o : ns'.Pairwise (· ≥ ·) := h2'
  have e : ns'.reverse = srtI is := ord_one ((List.reverse_perm ns').trans (h1.trans (srtI_perm is).symm)) (List.pairwise_reverse.mpr o) (srtI_ord is)
  have e' : ns' = (srtI is).reverse := by rw [← e, List.reverse_reverse]
  rw [e']
  exact After.lst (X := X) (M := M1) (Q := Q) (fun v H' Z' e' hr' r' => h2 v H' Z' ι1 e' hr' r') hr1 (rps_ints _) p hp
end
@[simp] theorem u_gRd1 (f : List MO → D → D → Option D) (go ge : GE) (Γ : Env) (M : List MO) : gRd1 f go ge Γ M = (go Γ M).bind fun x M1 => if isListD M1 x = true then (ge Γ M1).bind fun y M2 => opR (f M2 x y) M2 else .bad := Eq.trans rfl rfl
@[simp] theorem u_gRevL (ge : GE) (Γ : Env) (M : List MO) : gRevL ge Γ M = (ge Γ M).bind fun x M1 => opR (dRevL M1 x) M1 := Eq.trans rfl rfl
@[simp] theorem u_gSortR (ge : GE) (Γ : Env) (M : List MO) : gSortR ge Γ M = (ge Γ M).bind fun x M1 => opR (dSortR M1 x) M1 := Eq.trans rfl rfl
@[simp] theorem e_abs (M : List MO) (i : Int) : dAbs M (.int i) = some (.int (if i < 0 then -i else i)) := Eq.trans rfl rfl
theorem e_sort (M : List MO) (is : List Int) : dSort M (.lst (is.map D.int)) = some (.lst ((srtI is).map D.int)) := by
  simp only [dSort, ofInts, listD, Option.bind_some, intsD_map]
theorem e_sortR (M : List MO) (is : List Int) : dSortR M (.lst (is.map D.int)) = some (.lst ((srtI is).reverse.map D.int)) := by
  simp only [dSortR, ofInts, listD, Option.bind_some, intsD_map]
theorem e_cnt (M : List MO) (is : List Int) (k : Int) : dCnt M (.lst (is.map D.int)) (.int k) = some (.int (is.count k : Nat)) := by
  simp only [dCnt, listD, Option.bind_some, intsD_map]
@[simp] theorem e_revL (M : List MO) (ds : List D) : dRevL M (.lst ds) = some (.lst ds.reverse) := Eq.trans rfl rfl
@[simp] theorem e_clear (ds : List D) : mClear ds = some ([], .non) := Eq.trans rfl rfl
end Bk

set_option Elab.async false
set_option linter.all false
set_option maxRecDepth 100000
set_option maxHeartbeats 2000000
namespace Bk
open PySem PySem.Spec PyProof.Rows L2
/-! ### defs that work on the caller's whole store: things within things go in and come back -/
def finW : RS → R D
  | .rt d M' => .ok d M'
  | .nx _ M' => .ok .non M'
  | .exc c d _ M' => .exc c d M'
  | _ => .bad
def runW (n : Nat) (g : GS) (ds : List D) (M : List MO) : R D := finW (g (ds.map some ++ List.replicate (n - ds.length) none) M)
def callW (F : List D → List MO → R D) (ds : List D) (M : List MO) : R D := F ds M
def gCallW (n : Nat) (F : List D → List MO → R D) (ga : GA) : GE := fun Γ M => (ga Γ M).bind fun ds M1 => if ds.length = n then callW F ds M1 else .bad
def gCallWK (n : Nat) (F : List D → List MO → R D) (is : List Nat) (ga gk : GA) : GE := fun Γ M => (ga Γ M).bind fun ds M1 => (gk Γ M1).bind fun es M2 => if (pick (ds ++ es) is).length = n then callW F (pick (ds ++ es) is) M2 else .bad
section
variable {K : PySem.W.Frag} {C : CT} {H Z : Hp} {ι : Nat → Addr} {M : List MO} {E : XK} {Q : VK}
theorem finW_run {X : Cx} {W : WX} {r : RS} (hW : ∀ c d σ H, E c d H → W c d σ H) (eK : X.K = K) (h : PostF K C E H Z ι M (finW r) Q) : PostS X C W H Z ι M r { nx := fun _ H' => Q .non H', rt := Q } := by
  subst eK
  cases r with
  | bad => exact h
  | bk Γ M' => exact h.elim
  | ct Γ M' => exact h.elim
  | nx Γ M' => exact fun σ' H' Z' ι' e hr sl => h .non H' Z' ι' e hr .non
  | rt d M' => exact fun v H' Z' ι' e hr r => h v H' Z' ι' e hr r
  | exc n d Γ M' => exact fun cls dd σ' H' Z' ι' e hr sl x => hW _ _ _ _ (h cls dd H' Z' ι' e hr x)
end
section
variable {P : Program} {w : World} {K : PySem.W.Frag} {mg : Str → Option Value} {base : Heap} {C : CT}
/-- a def whose store stays whole -/
theorem fqW_of {x qual : Str} {st : Stmt} {f : Addr} {fd : FuncData} {N ps : List Str} {k : Nat} {g : GS} (F : Fun K x qual st f fd) (S : FnScope N ps (defScope st))
    (hbody : ∀ (cdv : Value) (A : Around) (outer : List PySem.Env) (s : Shared) (H : Hp) (E : XK), Room k (A.deeper (envOfC qual (defScope st) s.heap.objs.size f cdv)) → A.guards = some [] →
      QSs (cxOf (L2.CX P w) P w K mg base N qual (defScope st) f cdv A outer s H E) C (fun cls d _ H => E cls d H) (defBody st) g) : FnQ P w K mg base C (k + 1) f fd ps (runW N.length g) := by
  obtain ⟨oc, od, kV, doc, pm, an, cdv, ct, osl, rfl, lk, hcd⟩ := F.ex
  refine ⟨fun A outer s H args us vs Q E ds Z ι M room hgu env0 hbind rvs hlen rds hr hpost => ?_⟩
  have hK : K.In s.heap := env0.mod.kin.keeps fun b o z => (env0.bs b o z).1
  have hlim : s.heap.NoLimit := env0.mod.nolimit.keeps fun b o z => (env0.bs b o z).1
  have kinds : ∀ y ∈ ps.zip us, (defScope st).names.lookup y.1 = some .local ∨ ((defScope st).names.lookup y.1 = some .cell ∧ ((cellsFrom (s.heap.objs.size + 1) (defScope st).names []).lookup y.1).isSome = true) := fun y hy => by
    rcases S.par y.1 (List.of_mem_zip (a := y.1) (b := y.2) hy).1 with z | z
    · exact .inl z
    · exact .inr ⟨z, PySem.W.cellsFrom_some _ _ _ (.inl z)⟩
  refine codeAny_call_function room.depth (hK _ _ lk) rfl S.co S.gen rfl (PySem.W.codeRec_of hK hcd) (hbind _ _ _ _ (wpAny_newFunctionEnv_cells S.kind kinds fun env he s1 ic => ?_))
  subst he
  refine ⟨hlim.keeps ic.toInCall.keep, codeAny_func ?_⟩
  obtain ⟨ts, pts, qts⟩ := hbody cdv A outer s H E (room.deeper _) hgu
  have J : Inv (cxOf (L2.CX P w) P w K mg base N qual (defScope st) f cdv A outer s H E) [] (L2.start N vs) H s1 := inv_start S room.hd env0 hlen rvs ic
  have lN : vs.length ≤ N.length := by
    have z := congrArg List.length S.pre
    rw [List.length_take] at z
    omega
  have hq := qts _ (L2.start N vs) H Z ι _ M (slots_start rds lN) hr (finW_run (E := E) (fun _ _ _ _ z => z) rfl hpost)
  refine wpAny_mono (pts.run [] s1 _ H _ J hq) (fun fl s' hs => ?_) fun _ _ hs => hs
  have ends : ∀ {σ' : L2.St} {H' : Hp} {v : V} {u : Value}, Inv (cxOf (L2.CX P w) P w K mg base N qual (defScope st) f cdv A outer s H E) [] σ' H' s' → RelV v u → Q v H' → CE outer P w H s Q u s' :=
    fun {σ' H' v u} J2 rv q => ⟨v, H', J2.os, J2.bare, J2.base, J2.hok, rv, q⟩
  cases fl with
  | ret u => exact let ⟨v, σ', H', J2, rv, q⟩ := hs; ends J2 rv q
  | next => exact let ⟨σ', H', J2, q⟩ := hs; ends (v := V.non) (u := Value.none) J2 rfl q
  | brk => exact let ⟨_, _, _, q⟩ := hs; q.elim
  | cont => exact let ⟨_, _, _, q⟩ := hs; q.elim
end
section
variable {X : Cx} {C : CT} {W : WX} {k : Nat} {f : Addr} {fd : FuncData} {ps : List Str} {F : List D → List MO → R D} {x : Str} {p pos : Pos} {e : Expr} {es : List Expr} {gs : GA}
theorem whole_post {σ : St} {H Z : Hp} {ι : Nat → Addr} {ds : List D} {vs : List V} {M : List MO} {Q : VK} (hr : HR X.K H Z ι M) (r : Rps X.K Z ι M.length ds vs) (hl : vs.length = ps.length) (h : Post X C W (rpE X.K) σ H Z ι M (callW F ds M) Q) : rCallQ X.K C ps F (WE W σ) vs H Q := by
  refine ⟨hl, ds, Z, ι, M, r, hr, ?_⟩
  have h' : Post X C W (rpE X.K) σ H Z ι M (F ds M) Q := h
  cases e : F ds M with
  | bad => rw [e] at h'; exact h'.elim
  | ok d M' => rw [e] at h'; exact h'
  | exc c d M' => rw [e] at h'; exact h'
theorem qe_callW {n : Nat} (F0 : FnQ X.prog X.w X.K X.mg X.base C k f fd ps F) (hr : Room k X.A) (hgu : X.A.guards = some []) (tk : Takes X W) (hg : Gl X x) (hm : X.mg x = some (.ref f)) (hk : PySem.W.keepIn X.K (.ref f) = true) (hb : Binds X.K fd ps []) (ha : QA X C W (e :: es) gs) (hn : n = ps.length := by rfl)
    (hdb : (x == ("__debug__" : Str)) = false := by decide) (he : starEach (e :: es) X.env = (false, eval e X.env) :: starEach es X.env := by rfl) (hpl : (backTo pos (starEach es X.env)).any (·.1) = false := by rfl) :
    QE X C W (.Call (.Name x p) (e :: es) [] pos) (gCallW n F gs) := by
  subst hn
  obtain ⟨ta, pa, qa⟩ := ha
  refine ⟨fun σ H Q => ta σ H fun vs H1 => rCallQ X.K C ps F (WE W σ) vs H1 Q, ⟨fun pins s σ H Q I h => wpAny_Call_Name_kw (ld_glob I hg hm ?_ hdb)⟩, fun σ H Z ι Γ M Q sl hr h => qa σ H Z ι Γ M _ sl hr (h.bind fun ds M1 vs H1 Z1 ι1 e1 hr1 r1 h1 => ?_)⟩
  · refine PySem.W.callWith_K (h₀ := X.base) I.ok.mod.kin hk (thn (pa.run pos pins s σ H _ I h) fun us s1 hh => ?_) he hpl
    obtain ⟨vs, H1, J, r, q⟩ := hh
    have hl : us.length = ps.length := r.length.symm.trans q.1
    have hbb := hb s1 us J.kIn (by rw [List.append_nil]; exact hl)
    rw [List.append_nil] at hbb
    exact ⟨J.kIn, run_call F0 hr hgu tk J hbb r q⟩
  · by_cases c : ds.length = ps.length
    · rw [if_pos c] at h1
      exact whole_post hr1 r1 (by rw [← r1.length]; exact c) h1
    · rw [if_neg c] at h1
      exact h1.elim
variable {kws : List Keyword} {gk : GA} {ks : List Str} {is : List Nat} {np : Nat}
/-- f(k = v, ..) -/
theorem qe_callWK0 {n : Nat} (F0 : FnQ X.prog X.w X.K X.mg X.base C k f fd ps F) (hr : Room k X.A) (hgu : X.A.guards = some []) (tk : Takes X W) (hg : Gl X x) (hm : X.mg x = some (.ref f)) (hk : PySem.W.keepIn X.K (.ref f) = true) (hb : KwBinds X.K fd ps ks 0 is) (hkw : QK X C W kws gk)
    (hlen : ∀ (Γ : Env) (M M' : List MO) (ds : List D), gk Γ M = .ok ds M' → ds.length = ks.length) (hn : n = ps.length := by rfl)
    (hall : (backToKw pos (keywordEach kws X.env)).all (·.1.isSome) = true := by rfl) (hks : (backToKw pos (keywordEach kws X.env)).filterMap (·.1) = ks := by rfl) (hdb : (x == ("__debug__" : Str)) = false := by decide)
    (hpl : ((backTo pos (starEach [] X.env)).any (·.1) || (backToKw pos (keywordEach kws X.env)).any (·.1.isNone)) = false := by rfl) :
    QE X C W (.Call (.Name x p) [] kws pos) (gCallWK n F is gNil gk) := by
  subst hn
  obtain ⟨tk', pk, qk⟩ := hkw
  refine ⟨fun σ H Q => tk' σ H fun zs H2 => zs.length = ks.length ∧ rCallQ X.K C ps F (WE W σ) (pick zs is) H2 Q, ⟨fun pins s σ H Q I h => wpAny_Call_Name_kw (ld_glob I hg hm ?_ hdb)⟩, fun σ H Z ι Γ M Q sl hr h => ?_⟩
  · refine PySem.W.callWith_KW0 (h₀ := X.base) I.ok.mod.kin hk hall (thn (pk.run pos pins s σ H _ I h) fun ws s2 hh => ?_) hpl
    obtain ⟨zs, H2, J, r, hz, q⟩ := hh
    have hl : ws.length = ks.length := r.length.symm.trans hz
    refine ⟨J.kIn, ?_⟩
    rw [hks]
    exact run_call (us := []) F0 hr hgu tk J (by simpa using hb s2 [] ws J.kIn rfl hl) (vals_pick r is) q
  · have h1 : Post X C W (rpE X.K) σ H Z ι M ((gk Γ M).bind fun es M2 => if (pick ([] ++ es) is).length = ps.length then callW F (pick ([] ++ es) is) M2 else .bad) Q := h
    cases eg : gk Γ M with
    | bad => rw [eg] at h1; exact h1.elim
    | exc c d M' =>
      refine qk σ H Z ι Γ M _ sl hr ?_
      rw [eg] at h1 ⊢
      exact h1
    | ok es M' =>
      refine qk σ H Z ι Γ M _ sl hr ?_
      have hle := hlen _ _ _ _ eg
      rw [eg] at h1 ⊢
      intro vs H1 Z1 ι1 e1 hr1 r1
      have h2 : Post X C W (rpE X.K) σ H Z ι M (if (pick es is).length = ps.length then callW F (pick es is) M' else .bad) Q := h1
      have r2 := rps_pick r1 is
      refine ⟨by rw [← r1.length]; exact hle, ?_⟩
      by_cases c : (pick es is).length = ps.length
      · rw [if_pos c] at h2
        exact whole_post hr1 r2 (by rw [← r2.length]; exact c) (Post.shift h2 e1 hr1)
      · rw [if_neg c] at h2
        exact h2.elim
end
@[simp] theorem u_gCallW (n : Nat) (F : List D → List MO → R D) (ga : GA) (Γ : Env) (M : List MO) : gCallW n F ga Γ M = (ga Γ M).bind fun ds M1 => if ds.length = n then callW F ds M1 else .bad := Eq.trans rfl rfl
@[simp] theorem u_gCallWK (n : Nat) (F : List D → List MO → R D) (is : List Nat) (ga gk : GA) (Γ : Env) (M : List MO) : gCallWK n F is ga gk Γ M = (ga Γ M).bind fun ds M1 => (gk Γ M1).bind fun es M2 => if (pick (ds ++ es) is).length = n then callW F (pick (ds ++ es) is) M2 else .bad := Eq.trans rfl rfl
@[simp] theorem fw_rt (d : D) (M : List MO) : finW (.rt d M) = .ok d M := Eq.trans rfl rfl
@[simp] theorem fw_nx (Γ : Env) (M : List MO) : finW (.nx Γ M) = .ok .non M := Eq.trans rfl rfl
@[simp] theorem fw_ex (c : Nat) (d : D) (Γ : Env) (M : List MO) : finW (.exc c d Γ M) = .exc c d M := Eq.trans rfl rfl
end Bk

set_option Elab.async false
set_option linter.all false
set_option maxRecDepth 100000
set_option maxHeartbeats 2000000
namespace Bk
open PySem PySem.Spec PyProof.Rows L2
/-! ### keys -/
mutual
/-- the key that a tree is -/
def keyD : D → Option NestedKey
  | .non => some .none
  | .int i => some (.num i)
  | .tup ds => (keysD ds).map .tup
  | .ptu ds => (keysD ds).map .tup
  | _ => none
def keysD : List D → Option (List NestedKey)
  | [] => some []
  | d :: ds => match keyD d, keysD ds with
    | some k, some ks => some (k :: ks)
    | _, _ => none
end
section
variable {K : PySem.W.Frag} {H Z : Hp} {ι : Nat → Addr} {n : Nat}
mutual
theorem keyD_run (hz : Sub Z H) : ∀ (d : D) (v : V) (k : NestedKey), Rp K Z ι n d v → keyD d = some k → KeyV K H k v
  | .non, _, _, h, e => by cases h; cases e; exact .non
  | .bl _, _, _, _, e => by cases e
  | .int i, _, _, h, e => by cases h; cases e; exact .int i
  | .str _, _, _, _, e => by cases e
  | .tup ds, _, _, h, e => by
    cases h with
    | tup s r =>
      have e' : (keysD ds).map NestedKey.tup = some _ := e
      cases e2 : keysD ds with
      | none => rw [e2] at e'; cases e'
      | some ks =>
        rw [e2] at e'
        cases e'
        exact .tup (subT hz s) (keysD_run hz ds _ ks r e2)
  | .lst _, _, _, _, e => by cases e
  | .ref _, _, _, _, e => by cases e
  | .dct _ _, _, _, _, e => by cases e
  | .ptu ds, _, _, h, e => by
    cases h with
    | ptu s r =>
      have e' : (keysD ds).map NestedKey.tup = some _ := e
      cases e2 : keysD ds with
      | none => rw [e2] at e'; cases e'
      | some ks =>
        rw [e2] at e'
        cases e'
        exact .tup (subT hz s.sq) (keysD_run hz ds _ ks r e2)
theorem keysD_run (hz : Sub Z H) : ∀ (ds : List D) (vs : List V) (ks : List NestedKey), Rps K Z ι n ds vs → keysD ds = some ks → KeyVs K H ks vs
  | [], _, _, h, e => by cases h; cases e; exact .nil
  | d :: ds, _, _, h, e => by
    cases h with
    | cons r s =>
      have e' : (match keyD d, keysD ds with
        | some k, some ks => some (k :: ks)
        | _, _ => none) = some _ := e
      cases e1 : keyD d with
      | none => rw [e1] at e'; cases e'
      | some k =>
        cases e2 : keysD ds with
        | none => rw [e1, e2] at e'; cases e'
        | some ks =>
          rw [e1, e2] at e'
          cases e'
          exact .cons (keyD_run hz d _ k r e1) (keysD_run hz ds _ ks s e2)
end
end
section
variable {X : Cx} {pins : List (Addr × Obj)} {σ : L2.St} {H : Hp} {s : Shared}
mutual
theorem KeyV.is (I : Inv X pins σ H s) : ∀ (k : NestedKey) (v : V) (u : Value), KeyV X.K H k v → RelV v u → NestedIs s.heap k u
  | .none, _, _, h, r => by
    cases h
    have r' : _ = Value.none := r
    rw [r']
    exact .none
  | .num i, _, _, h, r => by
    cases h
    obtain ⟨t, rfl⟩ := r
    exact .int i t
  | .text _, _, _, h, _ => by cases h
  | .tup ks, _, _, h, r => by
    cases h with
    | tup sq kv =>
      have r' : _ = Value.ref _ := r
      rw [r']
      obtain ⟨its, rv, ⟨o, ho, hc, m, hd⟩, _⟩ := I.tuple sq
      exact .tup ho hc hd (by simpa using KeyVs.is I ks _ _ kv rv)
theorem KeyVs.is (I : Inv X pins σ H s) : ∀ (ks : List NestedKey) (vs : List V) (us : List Value), KeyVs X.K H ks vs → Vals vs us → NestedAll s.heap ks us
  | [], _, _, h, r => by
    cases h
    cases r
    exact .nil
  | k :: ks, _, _, h, r => by
    cases h with
    | cons h1 h2 =>
      cases r with
      | cons r1 r2 => exact .cons (KeyV.is I k _ _ h1 r1) (KeyVs.is I ks _ _ h2 r2)
end
abbrev NK (X : Cx) := nestedKind X.prog X.w
/-- a dict as the library tells of it -/
theorem Ents.trip (I : Inv X pins σ H s) : ∀ {nks : List NestedKey} {ks vs : List V} {es : List DictEntry}, Ents X.K H nks ks vs es → AllRef ks →
    ∃ xs : List (NestedKey × Addr × Value), es = xs.map (entryOfKey (NK X)) ∧ xs.map (·.1) = nks ∧ (∀ x ∈ xs, (NK X).is s.heap x.1 x.2.1) ∧ xs.length = vs.length ∧ ∀ (i : Nat) (v : V), vs[i]? = some v → ∃ x, xs[i]? = some x ∧ RelV v x.2.2
  | _, _, _, _, .nil, _ => ⟨[], rfl, rfl, by simp, rfl, by simp⟩
  | _, _, _, _, .cons (k := k) (y := y) (ku := ku) (v := v) (u := u) (hs := hs) a ry d h r t, hr => by
    obtain ⟨xs, e1, e2, e3, e4, e5⟩ := Ents.trip I t fun x hx => hr x (List.mem_cons_of_mem _ hx)
    obtain ⟨b, rfl⟩ := hr y (List.mem_cons_self)
    obtain rfl : ku = Value.ref b := ry
    refine ⟨(k, b, u) :: xs, ?_, by simp [e2], fun x hx => ?_, by simp [e4], fun i w hw => ?_⟩
    · rw [List.map_cons, ← e1]
      congr 1
      show (⟨hs, .ref b, u⟩ : DictEntry) = ⟨k.hash X.w, .ref b, u⟩
      rw [h X.w]
    · rcases List.mem_cons.mp hx with rfl | hx
      · exact ⟨KeyV.is I k _ _ a rfl, d⟩
      · exact e3 x hx
    · cases i with
      | zero =>
        have : v = w := by simpa using hw
        subst this
        exact ⟨(k, b, u), rfl, r⟩
      | succ i =>
        obtain ⟨x, hx, rx⟩ := e5 i w (by simpa using hw)
        exact ⟨x, by simpa using hx, rx⟩
theorem ExD.of (I : Inv X pins σ H s) {a : Addr} {nks : List NestedKey} {ks vs : List V} (h : ExD X.K H a nks ks vs) (hrf : AllRef ks) :
    ∃ xs : List (NestedKey × Addr × Value), s.heap.DictOfH (NK X) a xs ∧ xs.map (·.1) = nks ∧ xs.length = vs.length ∧ ∀ (i : Nat) (v : V), vs[i]? = some v → ∃ x, xs[i]? = some x ∧ RelV v x.2.2 := by
  obtain ⟨es, ep, h1, h2, h3, h4, h5⟩ := h
  obtain ⟨xs, e1, e2, e3, e4, e5⟩ := Ents.trip I h5 hrf
  obtain ⟨⟨o, ho, hx, hd⟩, _, _⟩ := I.hok a _ h1
  exact ⟨xs, ⟨o, es, ep, ho, hx, hd, e1, e3, by rw [e2]; exact h4⟩, e2, e4, e5⟩
theorem atKey_at {xs : List (NestedKey × Addr × Value)} (hn : (xs.map (·.1)).Nodup) {i : Nat} {x : NestedKey × Addr × Value} (h : xs[i]? = some x) : atKey xs x.1 = some x.2 := by
  induction xs generalizing i with
  | nil => simp at h
  | cons y ys ih =>
    rw [List.map_cons, List.nodup_cons] at hn
    unfold atKey
    rw [List.find?_cons]
    cases i with
    | zero =>
      have : y = x := by simpa using h
      subst this
      simp
    | succ i =>
      have h' : ys[i]? = some x := by simpa using h
      have ne : y.1 ≠ x.1 := fun e => hn.1 (by rw [e]; exact List.mem_map.mpr ⟨x, List.mem_of_getElem? h', rfl⟩)
      simp only [decide_eq_false ne]
      exact ih hn.2 h'
theorem atKey_none {xs : List (NestedKey × Addr × Value)} {k : NestedKey} (h : k ∉ xs.map (·.1)) : atKey xs k = none := by
  unfold atKey
  rw [Option.map_eq_none_iff, List.find?_eq_none]
  intro x hx
  simp only [decide_eq_true_eq]
  exact fun e => h (e ▸ List.mem_map.mpr ⟨x, hx, rfl⟩)
end
theorem Ents.keys {K : PySem.W.Frag} {Z : Hp} : ∀ {nks : List NestedKey} {ks vs : List V} {es : List DictEntry}, Ents K Z nks ks vs es → KeyVs K Z nks ks ∧ ∃ us, Vals ks us
  | _, _, _, _, .nil => ⟨.nil, [], .nil⟩
  | _, _, _, _, .cons (ku := ku) a ry d h r t => by
    obtain ⟨h1, us, h2⟩ := Ents.keys t
    exact ⟨.cons a h1, ku :: us, .cons ry h2⟩
theorem ExD.keys {X : Cx} {pins : List (Addr × Obj)} {σ : L2.St} {H : Hp} {s : Shared} (I : Inv X pins σ H s) {a : Addr} {nks nks' : List NestedKey} {ks vs : List V} (h : ExD X.K H a nks ks vs) (h' : KeyVs X.K H nks' ks) : nks = nks' := by
  obtain ⟨es, ep, h1, h2, h3, h4, h5⟩ := h
  obtain ⟨k1, us, k2⟩ := h5.keys
  exact NestedAll.inj _ _ _ (KeyVs.is I _ _ _ k1 k2) (KeyVs.is I _ _ _ h' k2)
def posK (k : NestedKey) : List NestedKey → Option Nat
  | [] => none
  | x :: xs => if x = k then some 0 else (posK k xs).map (· + 1)
theorem posK_at {k : NestedKey} : ∀ {xs : List NestedKey} {i : Nat}, posK k xs = some i → xs[i]? = some k
  | [], _, h => by cases h
  | x :: xs, i, h => by
    unfold posK at h
    by_cases e : x = k
    · rw [if_pos e] at h
      cases h
      rw [e]
      rfl
    · rw [if_neg e] at h
      cases p : posK k xs with
      | none => rw [p] at h; cases h
      | some j =>
        rw [p] at h
        cases h
        simpa using posK_at p
theorem posK_none {k : NestedKey} : ∀ {xs : List NestedKey}, posK k xs = none → k ∉ xs
  | [], _ => by simp
  | x :: xs, h => by
    unfold posK at h
    by_cases e : x = k
    · rw [if_pos e] at h; cases h
    · rw [if_neg e] at h
      cases p : posK k xs with
      | some j => rw [p] at h; cases h
      | none =>
        intro m
        rcases List.mem_cons.mp m with z | z
        · exact e z.symm
        · exact posK_none p z
/-! ### d[k] -/
def rIxN (K : PySem.W.Frag) : R2 := fun x y H Q => ∃ (a b : Addr) (nks nks' : List NestedKey) (ks vs : List V) (k : NestedKey) (i : Nat) (v : V), x = .ref a ∧ y = .ref b ∧ AllRef ks ∧ ExD K H a nks ks vs ∧ KeyVs K H nks' ks ∧ KeyV K H k (.ref b) ∧ k.depth ≤ 8 ∧ nks'[i]? = some k ∧ vs[i]? = some v ∧ Q v H
theorem room8 {k : Nat} {A : Around} (hr : Room k A) : A.units + 1 + 8 < cLine := by have := hr.un; omega
theorem ix_nkey {X : Cx} (hu : X.A.units + 1 + 8 < cLine) : IxR X (rIxN X.K) := by
  intro value slice pins s σ H x y v u Q I rx ry h hs
  obtain ⟨a, b, nks, nks', ks, vs, k, i, w, rfl, rfl, hrf, hd, hks, hk, hdp, hi, hv, q⟩ := h
  obtain rfl : v = Value.ref a := rx
  obtain rfl : u = Value.ref b := ry
  have en := hd.keys I hks
  subst en
  obtain ⟨xs, dd, e2, e4, e5⟩ := hd.of I hrf
  obtain ⟨x, hx, rx⟩ := e5 i w hv
  have n : xs.map (·.1) = nks := e2
  have kx : x.1 = k := by
    have : (xs.map (·.1))[i]? = some x.1 := by rw [List.getElem?_map, hx]; rfl
    rw [n, hi] at this
    exact (Option.some.inj this).symm
  have nd : (xs.map (·.1)).Nodup := by
    obtain ⟨_, _, _, _, _, _, _, _, z⟩ := dd
    exact z
  have ak := atKey_at nd hx
  rw [kx] at ak
  have hkey : (NK X).is s.heap k b := ⟨KeyV.is I k _ _ hk rfl, hdp⟩
  exact tail_any dd.typeIs slot_dict_getitem.lookup (wpAny_getItem_heap (show (NK X).room X.A.in1 from hu) hkey dd ak ⟨w, H, I.tok _, rx, q⟩) hs
def isTup : D → Bool
  | .tup _ => true
  | .ptu _ => true
  | _ => false
/-- the place of a key, and the value there -/
def lookD (ks vs : List D) (y : D) : Option (Option D) := match keysD ks, keyD y with
  | some nks, some k => if (ks.all isTup && isTup y && decide (k.depth ≤ 8)) = true then some ((posK k nks).bind fun i => vs[i]?) else none
  | _, _ => none
/-- a dict, frozen or ours -/
def dctD (M : List MO) : D → Option (List D × List D)
  | .dct ks vs => some (ks, vs)
  | .ref k => match M[k]? with
    | some (.dct ks vs) => some (ks, vs)
    | _ => none
  | _ => none
def dIxN (M : List MO) (x y : D) : Option D := match dctD M x with
  | some p => (lookD p.1 p.2 y).bind id
  | none => dIx M x y
section
variable {X : Cx}
theorem dctD_run {H Z : Hp} {ι : Nat → Addr} {M : List MO} {d : D} {v : V} {p : List D × List D} (hr : HR X.K H Z ι M) (r : Rp X.K Z ι M.length d v) (e : dctD M d = some p) :
    ∃ (a : Addr) (nks : List NestedKey) (kx xs : List V), v = .ref a ∧ ExD X.K H a nks kx xs ∧ Rps X.K Z ι M.length p.1 kx ∧ Rps X.K Z ι M.length p.2 xs := by
  cases r with
  | dct s rk rv =>
    cases e
    exact ⟨_, _, _, _, rfl, subD hr.sub s, rk, rv⟩
  | ref hk =>
    rename_i k
    have e' : (match M[k]? with
      | some (.dct ks vs) => some (ks, vs)
      | _ => none) = some p := e
    cases e1 : M[k]? with
    | none => rw [e1] at e'; cases e'
    | some o =>
      rw [e1] at e'
      cases o with
      | dct ks vs =>
        cases e'
        obtain ⟨nks, kx, xs, ⟨es, ep, h1, h2, h3, h4, h5⟩, rk, rv⟩ := hr.obj k _ e1
        exact ⟨_, nks, kx, xs, rfl, ⟨es, ep, h1, h2, h3, h4, h5.sub hr.sub⟩, rk, rv⟩
      | _ => cases e'
  | _ => cases e
theorem tups_ref {Z : Hp} {ι : Nat → Addr} {n : Nat} : ∀ {ks : List D} {kx : List V}, Rps X.K Z ι n ks kx → ks.all isTup = true → AllRef kx
  | [], _, h, _ => by cases h; intro x hx; cases hx
  | d :: ks, _, h, e => by
    cases h with
    | cons r s =>
      rw [List.all_cons, Bool.and_eq_true] at e
      intro x hx
      rcases List.mem_cons.mp hx with rfl | hx
      · cases r with
        | tup _ _ => exact ⟨_, rfl⟩
        | ptu _ _ => exact ⟨_, rfl⟩
        | _ => cases e.1
      · exact tups_ref s e.2 x hx
theorem look_run {H Z : Hp} {ι : Nat → Addr} {M : List MO} {d dy : D} {x y : V} {p : List D × List D} {o : Option D} (hr : HR X.K H Z ι M) (rx : Rp X.K Z ι M.length d x) (ry : Rp X.K Z ι M.length dy y) (ed : dctD M d = some p) (e : lookD p.1 p.2 dy = some o) :
    ∃ (a b : Addr) (nks nks' : List NestedKey) (kx xs : List V) (k : NestedKey), x = .ref a ∧ y = .ref b ∧ AllRef kx ∧ ExD X.K H a nks kx xs ∧ KeyVs X.K H nks' kx ∧ KeyV X.K H k (.ref b) ∧ k.depth ≤ 8 ∧ Rps X.K Z ι M.length p.2 xs ∧ o = (posK k nks').bind fun i => p.2[i]? := by
  obtain ⟨a, nks, kx, xs, h1, h2, h3, h4⟩ := dctD_run hr rx ed
  unfold lookD at e
  cases e1 : keysD p.1 with
  | none => rw [e1] at e; cases e
  | some nks' =>
    cases e2 : keyD dy with
    | none => rw [e1, e2] at e; cases e
    | some k =>
      rw [e1, e2] at e
      simp only at e
      by_cases c : (p.1.all isTup && isTup dy && decide (k.depth ≤ 8)) = true
      · rw [if_pos c] at e
        cases e
        simp only [Bool.and_eq_true, decide_eq_true_eq] at c
        obtain ⟨⟨c1, c2⟩, c3⟩ := c
        have kv := keyD_run hr.sub _ _ _ ry e2
        have kvs := keysD_run hr.sub _ _ _ h3 e1
        cases dy with
        | tup ds =>
          cases ry with
          | tup sq r => exact ⟨_, _, _, nks', _, _, k, h1, rfl, tups_ref h3 c1, h2, kvs, kv, c3, h4, rfl⟩
        | ptu ds =>
          cases ry with
          | ptu sq r => exact ⟨_, _, _, nks', _, _, k, h1, rfl, tups_ref h3 c1, h2, kvs, kv, c3, h4, rfl⟩
        | _ => cases c2
      · rw [if_neg c] at e
        cases e
theorem ix_N (hu : X.A.units + 1 + 8 < cLine) : IxR X (fun x y H Q => rIxN X.K x y H Q ∨ rIxA X.K x y H Q) := (ix_nkey hu).or ix_A
theorem ok_ixN : Ok2 X (fun x y H Q => rIxN X.K x y H Q ∨ rIxA X.K x y H Q) dIxN := fun x y H Z ι M dx dy d Q hr rx ry e q => by
  unfold dIxN at e
  cases ed : dctD M dx with
  | some p =>
    rw [ed] at e
    simp only at e
    cases e1 : lookD p.1 p.2 dy with
    | none => rw [e1] at e; cases e
    | some o =>
      rw [e1] at e
      have e' : o = some d := e
      subst e'
      obtain ⟨a, b, nks, nks', kx, xs, k, h1, h2, h2', h3, h4, h5, h6, h7, h8⟩ := look_run hr rx ry ed e1
      cases p' : posK k nks' with
      | none => rw [p'] at h8; cases h8
      | some i =>
        rw [p'] at h8
        obtain ⟨v, hv, rv⟩ := h7.get (i := i) h8.symm
        exact .inl ⟨a, b, nks, nks', kx, xs, k, i, v, h1, h2, h2', h3, h4, h5, h6, posK_at p', hv, q.now hr rv⟩
  | none =>
    rw [ed] at e
    exact .inr (ok_ix x y H Z ι M dx dy d Q hr rx ry e q)
end
end Bk

set_option Elab.async false
set_option linter.all false
set_option maxRecDepth 100000
set_option maxHeartbeats 2000000
namespace Bk
open PySem PySem.Spec PyProof.Rows L2
/-! ### d[k] = v for a dict that is being made -/
section
variable {K : PySem.W.Frag} {Z Z' : Hp}
mutual
theorem KeyV.map (ht : ∀ (a : Addr) (xs : List V), SqT K Z a xs → SqT K Z' a xs) : ∀ (k : NestedKey) (v : V), KeyV K Z k v → KeyV K Z' k v
  | .none, _, h => by cases h; exact .non
  | .num i, _, h => by cases h; exact .int i
  | .text x, _, h => by cases h
  | .tup ks, _, h => by
    cases h with
    | tup s r => exact .tup (ht _ _ s) (KeyVs.map ht ks _ r)
theorem KeyVs.map (ht : ∀ (a : Addr) (xs : List V), SqT K Z a xs → SqT K Z' a xs) : ∀ (ks : List NestedKey) (vs : List V), KeyVs K Z ks vs → KeyVs K Z' ks vs
  | [], _, h => by cases h; exact .nil
  | k :: ks, _, h => by
    cases h with
    | cons r s => exact .cons (KeyV.map ht k _ r) (KeyVs.map ht ks _ s)
end
mutual
/-- no text in a key: its hash is the same in every world -/
theorem KeyV.free : ∀ (k : NestedKey) (v : V), KeyV K Z k v → ∀ w w' : World, k.hash w = k.hash w'
  | .none, _, _, _, _ => rfl
  | .num _, _, _, _, _ => rfl
  | .text _, _, h, _, _ => by cases h
  | .tup ks, _, h, w, w' => by
    cases h with
    | tup s r =>
      unfold NestedKey.hash
      rw [KeyVs.free ks _ r w w']
theorem KeyVs.free : ∀ (ks : List NestedKey) (vs : List V), KeyVs K Z ks vs → ∀ w w' : World, NestedKey.hashes w ks = NestedKey.hashes w' ks
  | [], _, _, _, _ => rfl
  | k :: ks, _, h, w, w' => by
    cases h with
    | cons r s =>
      unfold NestedKey.hashes
      rw [KeyV.free k _ r w w', KeyVs.free ks _ s w w']
end
theorem Ents.map (ht : ∀ (a : Addr) (xs : List V), SqT K Z a xs → SqT K Z' a xs) : ∀ {ks : List NestedKey} {kv vs : List V} {es : List DictEntry}, Ents K Z ks kv vs es → Ents K Z' ks kv vs es
  | _, _, _, _, .nil => .nil
  | _, _, _, _, .cons a y b c d e => .cons (KeyV.map ht _ _ a) y b c d (Ents.map ht e)
theorem Ents.snoc {k : NestedKey} {y : V} {ku : Value} {z : V} {r : Value} {hs : Int} (hk : KeyV K Z k y) (hy : RelV y ku) (hd : k.depth ≤ 8) (hh : ∀ w : World, hs = k.hash w) (hr : RelV z r) : ∀ {nks : List NestedKey} {ks vs : List V} {es : List DictEntry}, Ents K Z nks ks vs es →
    Ents K Z (nks ++ [k]) (ks ++ [y]) (vs ++ [z]) (es ++ [⟨hs, ku, r⟩])
  | _, _, _, _, .nil => .cons hk hy hd hh hr .nil
  | _, _, _, _, .cons a y b c d e => .cons a y b c d (Ents.snoc hk hy hd hh hr e)
/-- another value at a place -/
def setV (r : Value) : Nat → List DictEntry → List DictEntry
  | _, [] => []
  | 0, e :: es => ⟨e.hash, e.key, r⟩ :: es
  | i + 1, e :: es => e :: setV r i es
theorem Ents.setv {z : V} {r : Value} (hr : RelV z r) : ∀ (i : Nat) {nks : List NestedKey} {ks vs : List V} {es : List DictEntry}, Ents K Z nks ks vs es → Ents K Z nks ks (vs.set i z) (setV r i es)
  | i, _, _, _, _, .nil => by
    have : (([] : List V).set i z) = [] := rfl
    rw [this]
    cases i <;> exact .nil
  | 0, _, _, _, _, .cons a y b c d e => .cons a y b c hr e
  | i + 1, _, _, _, _, .cons a y b c d e => .cons a y b c d (Ents.setv hr i e)
end
theorem put_old {X : Cx} {k : NestedKey} {r : Value} : ∀ {xs : List (NestedKey × Addr × Value)} {i : Nat}, (xs.map (·.1)).Nodup → (xs.map (·.1))[i]? = some k → (xs.map (putAt k r)).map (entryOfKey (NK X)) = setV r i (xs.map (entryOfKey (NK X)))
  | [], i, _, h => by simp at h
  | x :: xs, 0, hn, h => by
    have e : x.1 = k := by simpa using h
    rw [List.map_cons, List.nodup_cons] at hn
    have rest : xs.map (putAt k r) = xs := by
      conv => rhs; rw [← List.map_id xs]
      apply List.map_congr_left
      intro y hy
      have : y.1 ≠ k := fun z => hn.1 (by rw [e, ← z]; exact List.mem_map.mpr ⟨y, hy, rfl⟩)
      unfold putAt
      rw [if_neg this]
      rfl
    rw [List.map_cons, rest, List.map_cons, List.map_cons]
    unfold putAt setV
    rw [if_pos e]
    rfl
  | x :: xs, i + 1, hn, h => by
    rw [List.map_cons, List.nodup_cons] at hn
    have h' : (xs.map (·.1))[i]? = some k := by simpa using h
    have ne : x.1 ≠ k := fun z => hn.1 (by rw [z]; exact List.mem_of_getElem? h')
    have ih := put_old (X := X) (r := r) hn.2 h'
    rw [List.map_cons, List.map_cons, ih]
    unfold putAt
    rw [if_neg ne]
    rfl
section
variable {X : Cx} {pins : List (Addr × Obj)} {σ : L2.St} {H : Hp} {s : Shared}
theorem sqt_upd {D a : Addr} {φ : Heap → Prop} {o : HO} {xs : List V} (hD : H D = some (.ext φ)) (h : SqT X.K H a xs) : SqT X.K (upd H D o) a xs := by
  have ne : ∀ {b : Addr} {u : HO}, H b = some u → (∀ ψ, u ≠ .ext ψ) → upd H D o b = some u := fun {b u} e q => by
    rw [upd_ne (fun z => by rw [z, hD] at e; exact q φ (Option.some.inj e).symm)]
    exact e
  rcases h with (e | ⟨ob, e⟩) | q
  · exact .inl (.inl (ne e (fun _ z => by cases z)))
  · exact .inl (.inr ⟨ob, ne e (fun _ z => by cases z)⟩)
  · exact .inr q
theorem dn_set {E : Value → Shared → Prop} {D b : Addr} {es : Array DictEntry} {ep : Nat} {nks : List NestedKey} {ks vs : List V} {k : NestedKey} {z : V} {r : Value} {Q : Unit → Shared → Prop} (hu : X.A.units + 8 < cLine) (I : Inv X pins σ H s) (hD : H D = some (dnO D es ep)) (hs : (D == sysModules) = false) (hrf : AllRef ks)
    (he : Ents X.K H nks ks vs es.toList) (hn : nks.Nodup) (hz : vs.length < sizeLine) (hk : KeyV X.K H k (.ref b)) (hd : k.depth ≤ 8) (hr : RelV z r)
    (h : ∀ (s' : Shared) (es' : Array DictEntry) (ep' : Nat), Inv X pins σ (upd H D (dnO D es' ep')) s' →
      (match posK k nks with
        | some i => es'.toList = setV r i es.toList
        | none => es'.toList = es.toList ++ [⟨k.hash X.w, .ref b, r⟩]) → Q () s') : wpAny (model X.prog X.w) X.A (dictSet D (.ref b) r) Q E s := by
  obtain ⟨xs, e1, e2, e3, e4, e5⟩ := Ents.trip I he hrf
  obtain ⟨⟨o, ho, hx, hdat⟩, _, _⟩ := I.hok D _ hD
  have nd : (xs.map (·.1)).Nodup := by rw [e2]; exact hn
  have dd : s.heap.DictOfH (NK X) D xs := ⟨o, es, ep, ho, hx, hdat, e1, e3, nd⟩
  have hkey : (NK X).is s.heap k b := ⟨KeyV.is I k _ _ hk rfl, hd⟩
  refine wpAny_dictSet_heap (show (NK X).room X.A from hu) hkey dd (fun h' dd' sb => ?_) (by omega)
  obtain ⟨o', es', ep', ho', hx', hdat', e1', _, _⟩ := dd'
  have ok : ObjOk X.prog X.w (upd H D (dnO D es' ep')) h' D (dnO D es' ep') := ⟨⟨o', ho', hx', hdat'⟩, ⟨o', ho'⟩, fun h1 h2 ⟨u, hu1, hu2, hu3⟩ hk => ⟨u, hk u hu1, hu2, hu3⟩⟩
  refine h _ es' ep' (d_write I (by rw [hD]; exact True.intro) sb ⟨o', ho'⟩ ok) ?_
  cases p : posK k nks with
  | none =>
    have nk : k ∉ xs.map (·.1) := by rw [e2]; exact posK_none p
    rw [storedH_new (atKey_none nk), List.map_append, ← e1] at e1'
    exact e1'
  | some i =>
    have hi := posK_at p
    rw [← e2] at hi
    obtain ⟨x, hx1⟩ : ∃ x, xs[i]? = some x := by
      rw [List.getElem?_map] at hi
      cases hxx : xs[i]? with
      | none => rw [hxx] at hi; cases hi
      | some x => exact ⟨x, rfl⟩
    have kx : x.1 = k := by rw [List.getElem?_map, hx1] at hi; exact Option.some.inj hi
    have ak := atKey_at nd hx1
    rw [kx] at ak
    rw [storedH_old ak, put_old nd hi, ← e1] at e1'
    exact e1'
end
end Bk

set_option Elab.async false
set_option linter.all false
set_option maxRecDepth 100000
set_option maxHeartbeats 2000000
namespace Bk
open PySem PySem.Spec PyProof.Rows L2
/-! ### {k: v for t in it}, keys nested tuples: the dict in the making is an object of its own -/
/-- what one store asks: the dict as it stands, a key, and what holds behind it -/
def StepN (K : PySem.W.Frag) (H : Hp) (D : Addr) (y z : V) (Nx : Hp → Prop) : Prop :=
  ∃ (b : Addr) (es : Array DictEntry) (ep : Nat) (nks : List NestedKey) (ks vs : List V) (k : NestedKey), y = .ref b ∧ H D = some (dnO D es ep) ∧ AllRef ks ∧ Ents K H nks ks vs es.toList ∧ nks.Nodup ∧ vs.length < sizeLine ∧ KeyV K H k (.ref b) ∧ k.depth ≤ 8 ∧
    ∀ (es' : Array DictEntry) (ep' : Nat) (r : Value) (hs : Int), RelV z r → (∀ w : World, hs = k.hash w) → (match posK k nks with
      | some i => es'.toList = setV r i es.toList
      | none => es'.toList = es.toList ++ [⟨hs, .ref b, r⟩]) → Nx (upd H D (dnO D es' ep'))
def tDcN (K : PySem.W.Frag) (wi : TI) (g : TG) (tt : TT) (tk tv : TE) (vs : List Nat) : TE := fun σ H Q => wi σ H fun J H1 => ∀ D, H1 D = none → (D == sysModules) = false → ∃ Wv : Nat → Nat → Hp → Prop, (∃ m, Wv 0 m (upd H1 D (dnO D #[] 0))) ∧ ∀ i m H, Wv i m H →
  (J.stop i H ∧ Q (.ref D) H) ∨ (J.go i H ∧ ∃ Nx : Hp → Prop, (∀ H', Nx H' → ∃ m', m' < m ∧ Wv (i + 1) m' H') ∧ ∀ x H', J.yld i H x H' → g x (wipe σ vs) H' fun σ2 H2 => wipe σ2 vs = wipe σ vs ∧ tt σ2 H2 fun b H3 =>
    if b = true then tk σ2 H3 fun y H4 => tv σ2 H4 fun z H5 => StepN K H5 D y z Nx else Nx H3)
section
variable {X : Cx} {kx vx tg iter : Expr} {ifs : List Expr} {scope : Scope} {own : List (Str × Nat)} {pos : Pos} {wi : TI} {g : TG} {tt : TT} {tk tv : TE}
theorem dcN_core {pins : List (Addr × Obj)} {s : Shared} {σ : L2.St} {H : Hp} {Q : VK} {pos' : Pos} {use : Option (Value → Sem Unit)} {Qf : Value → Shared → Prop} (hu : X.A.units + 8 < cLine) (hc : X.calm = true) (hN : X.N.Nodup) (I : Inv X pins σ H s) (hi : PI X tg iter wi) (ok : BlkOk X.N X.env.scope scope own) (hg : Blk X scope fun Y => PG Y tg g) (ht : Blk X scope fun Y => PTs Y ifs tt) (hk : Blk X scope fun Y => PE Y kx tk) (he : Blk X scope fun Y => PE Y vx tv)
    (hs : ∀ x, foldedSetIterable iter X.env x = pure x) (h : tDcN X.K wi g tt tk tv (own.map (·.2)) σ H Q)
    (hRR : ∀ D C s' m H', Inv X pins σ H' s' → Q (.ref D) H' → s'.heap.Ns C m → FpOk X pins H' C → compPost (model X.prog X.w) X.A X.xe use Qf (.ref D) C (.ok .next) s') :
    wpAny (model X.prog X.w) X.A (comprehension (.DictComp kx vx [⟨tg, iter, ifs, 0⟩] scope pos) scope X.env pos' newDict false (eval iter X.env) use) Qf X.xe s := by
  have hfree : ∀ y ∈ scope.names, y.2 = .free → ∃ c, X.env.cells.lookup y.1 = some c := fun y hy e => (ok.free y hy e).elim (fun k => I.ok.has _ (.inl k)) fun k => I.ok.has _ (.inr k)
  refine wpAny_comprehension_free (use := use) rfl hs (closure_ok hfree) ok.kind (fun y hy e => by rw [ok.uniq y hy, e]) (thn (hi.run pins s σ H _ I h) fun xv s1 hx => thn hx fun itv s2 h2 => ?_)
  obtain ⟨it, fp, tn, J, H2, e, I2, T, st2, f2, q⟩ := h2
  subst e
  refine wpAny_newObj_type (newEnv_comp ?_)
  -- the dict
  have sm : (s2.heap.objs.size == sysModules) = false := (dk_empty (P := X.prog) (w := X.w) (H := H2) s2.heap I2.big).2.1
  generalize hD : s2.heap.objs.size = D at sm ⊢
  have hDn : H2 D = none := I2.hok.fresh (Nat.le_of_eq hD)
  obtain ⟨Wv, ⟨m0, w0⟩, turn⟩ := q D hDn sm
  have hnew : (s2.heap.push { cls := .type "dict", data := .dict #[] }).get? D = some { cls := .type "dict", data := .dict #[] } := by rw [← hD]; exact Heap.get?_push_size _ rfl
  generalize hs3 : ({ s2 with heap := s2.heap.push { cls := .type "dict", data := .dict #[] } } : Shared) = s3
  have e3 : s3.heap = s2.heap.push { cls := .type "dict", data := .dict #[] } := by rw [← hs3]
  have kp3 : ∀ b o, s2.heap.get? b = some o → s3.heap.get? b = some o := fun b o e => by rw [e3]; exact Heap.get?_push_of_some _ e
  have I3 : Inv X pins σ (upd H2 D (dnO D #[] 0)) s3 := by
    rw [← hs3]
    refine I2.laid (t' := s2.toks) (fun b o e => Heap.get?_push_of_some _ e) (Nat.le_of_eq hD) ?_
    exact ⟨⟨_, hnew, ⟨rfl, rfl, rfl⟩, rfl⟩, ⟨_, hnew⟩, fun h1 h2 ⟨u, a1, a2, a3⟩ hh => ⟨u, hh u a1, a2, a3⟩⟩
  have inside : ∀ b ∈ fp, b < s2.heap.objs.size := fun b hb => let ⟨_, e, _⟩ := T.obj _ _ st2 b hb; Heap.lt_size e
  have f3 : ∀ b ∈ fp, FpOk X pins (upd H2 D (dnO D #[] 0)) b ∧ b < s3.heap.objs.size := fun b hb => by
    have lt := inside b hb
    refine ⟨⟨?_, (f2 b hb).2⟩, by rw [e3, Heap.size_push]; exact Nat.lt_succ_of_lt lt⟩
    rw [upd_ne (show b ≠ D from Nat.ne_of_lt (by rw [← hD]; exact lt))]
    exact (f2 b hb).1
  have st3 : tn 0 s3.heap := T.keep _ _ _ st2 fun b _ o e => kp3 b o e
  generalize upd H2 D (dnO D #[] 0) = H3 at *
  have I4 := block_start I3 ok hN f3
  have pg := hg s3 H3 s3.heap.objs.size (cellsFrom (s3.heap.objs.size + 1) scope.names (cloFrom X.env.cells scope.names [])) fp
  have pt := ht s3 H3 s3.heap.objs.size (cellsFrom (s3.heap.objs.size + 1) scope.names (cloFrom X.env.cells scope.names [])) fp
  have pk := hk s3 H3 s3.heap.objs.size (cellsFrom (s3.heap.objs.size + 1) scope.names (cloFrom X.env.cells scope.names [])) fp
  have pv := he s3 H3 s3.heap.objs.size (cellsFrom (s3.heap.objs.size + 1) scope.names (cloFrom X.env.cells scope.names [])) fp
  show codeAny _ _ (.compStart (.DictComp kx vx [⟨tg, iter, ifs, 0⟩] scope pos) 0 (.ref it) (.ref D) (compEnvC scope (cellsFrom (s3.heap.objs.size + 1) scope.names (cloFrom X.env.cells scope.names [])) s3.heap.objs.size X.env)) (compPost (model X.prog X.w) X.A X.xe use Qf (.ref D) s3.heap.objs.size) { s3 with heap := pushCells (s3.heap.push { cls := .type "dict", data := .dict #[] }) scope.names }
  generalize hce : compEnvC scope (cellsFrom (s3.heap.objs.size + 1) scope.names (cloFrom X.env.cells scope.names [])) s3.heap.objs.size X.env = ce at I4 pg pt pk pv ⊢
  have hloc : ce.locals = s3.heap.objs.size := by subst hce; rfl
  have n3 : ∀ b ∈ fp, H3 b = none := fun b hb => (f3 b hb).1.1
  generalize hs4 : ({ s3 with heap := pushCells (s3.heap.push { cls := .type "dict", data := .dict #[] }) scope.names } : Shared) = s4 at I4 ⊢
  have st4 : tn 0 s4.heap := T.keep _ _ _ st3 fun b _ o e => by rw [← hs4]; exact pushCells_keeps _ _ _ _ (Heap.get?_push_of_some _ e)
  -- what stays true of the walked things inside the block
  have fps : ∀ {σ' : L2.St} {H' : Hp} {s' : Shared}, Inv (X.blk s3 H3 scope ce fp) [] σ' H' s' → (∀ b ∈ fp, H' b = none) → ∀ b ∈ fp, FpOk (X.blk s3 H3 scope ce fp) [] H' b := fun {σ' H' s'} J' nn b hb =>
    ⟨nn b hb, (J'.ok.exf b hb).1, J'.ok.exfs b hb, .inl hb, fun x c e => (J'.ok.exf b hb).2 x c e, fun p hp => absurd (show p ∈ ([] : List (Addr × Obj)) ++ [] from hp) (by simp)⟩
  have loop : codeAny (model X.prog X.w) X.A (.compLoop (.DictComp kx vx [⟨tg, iter, ifs, 0⟩] scope pos) 0 (.ref it) (.ref D) ce) (compPost (model X.prog X.w) X.A X.xe use Qf (.ref D) s3.heap.objs.size) s4 := by
    refine compLoop_anyD (fun n s' => ∃ i H', Inv (X.blk s3 H3 scope ce fp) [] (wipe σ (own.map (·.2))) H' s' ∧ tn i s'.heap ∧ (∀ b ∈ fp, H' b = none) ∧ Wv i n H') ?_ m0 ⟨0, H3, I4, st4, n3, w0⟩
    rintro n s5 ⟨i, H5, I5, st5, n5, w5⟩
    rcases turn i n H5 w5 with ⟨stop, qq⟩ | ⟨go, Nx, hNx, step⟩
    · refine thnF (T.done (X.blk s3 H3 scope ce fp) rfl rfl rfl hc i [] s5 _ H5 (fun _ _ => False) I5 (fps I5 n5) st5 stop) fun r s6 hr6 => ?_
      obtain ⟨hr, I6⟩ := hr6
      subst hr
      have nC : H5 s3.heap.objs.size = none := by rw [← hloc]; exact I6.free
      obtain ⟨m, hn, _⟩ := I6.loc
      have hn' : s6.heap.Ns s3.heap.objs.size m := by rw [← hloc]; exact hn
      have I7 : Inv X pins σ H5 s6 := I3.call' (ch := fp) I6.os I6.base I6.hok I6.bare fun b hb => ⟨(f3 b hb).1.2.2.2.1, (f3 b hb).1.2.1, (f3 b hb).1.2.2.2.2.1, (f3 b hb).1.2.2.2.2.2⟩
      exact hRR D s3.heap.objs.size s6 m H5 I7 qq hn' (I3.fpOk (Nat.le_refl _) nC)
    · refine thnF (T.item (X.blk s3 H3 scope ce fp) rfl rfl rfl hc i [] s5 _ H5 (fun _ _ => False) I5 (fps I5 n5) st5 go) fun r s6 hr6 => ?_
      obtain ⟨u, hr, h6⟩ := hr6
      subst hr
      refine thnF h6 fun _ s7 h7 => ?_
      obtain ⟨x, H7, I7, r7, y7, st7, n7⟩ := h7
      have I7p := I7.pinned (fps I7 n7) (T.obj _ _ st7)
      refine thnF (pg.run _ s7 _ H7 x u _ I7p r7 (step x H7 y7)) fun _ s8 h8 => ?_
      obtain ⟨σ8, H8, I8, hw8, q8⟩ := h8
      refine thnF (pt.run _ s8 σ8 H8 _ I8 q8) fun b s9 h9 => ?_
      obtain ⟨H9, I9, q9⟩ := h9
      -- the turn's end
      have again : ∀ {s' : Shared} {H' : Hp}, Inv (X.blk s3 H3 scope ce fp) ([] ++ pinsAt fp s7.heap) σ8 H' s' → Nx H' → ∃ m, m < n ∧ ∃ i H', Inv (X.blk s3 H3 scope ce fp) [] (wipe σ (own.map (·.2))) H' s' ∧ tn i s'.heap ∧ (∀ b ∈ fp, H' b = none) ∧ Wv i m H' := fun {s' H'} J' nx => by
        obtain ⟨m', hm, w'⟩ := hNx H' nx
        have pin' : ∀ b ∈ fp, ∀ o, s7.heap.get? b = some o → s'.heap.get? b = some o ∧ H' b = none := fun b hb o e =>
          ⟨(J'.pin (b, o) (List.mem_append_right _ (List.mem_append_right _ (mem_pinsAt hb e)))).1, (J'.pin (b, o) (List.mem_append_right _ (List.mem_append_right _ (mem_pinsAt hb e)))).2.1⟩
        have hl : (wipe σ (own.map (·.2))).length = σ8.length := by rw [← hw8, wipe_length]
        refine ⟨m', hm, i + 1, H', (J'.unpinned (pins := [])).weak hl (fun j v e => ?_), T.keep _ _ _ st7 fun b hb o e => (pin' b hb o e).1, fun b hb => ?_, w'⟩
        · rw [← hw8] at e
          exact (wipe_some e).1
        · obtain ⟨o, e, _⟩ := T.obj _ _ st7 b hb
          exact (pin' b hb o e).2
      cases b with
      | false => exact again I9 (by simpa using q9)
      | true =>
        simp only [if_true] at q9 ⊢
        refine thnF (pk.run _ s9 σ8 H9 _ I9 q9) fun y s10 h10 => ?_
        obtain ⟨yv, H10, I10, r10, q10⟩ := h10
        refine thnF (pv.run _ s10 σ8 H10 _ I10 q10) fun z s11 h11 => ?_
        obtain ⟨zv, H11, I11, r11, b, es, ep, nks, ks, vs, k, ey, d1, d1', d2, d3, d4, d5, d6, d7⟩ := h11
        subst ey
        obtain rfl : y = Value.ref b := r10
        exact dn_set (X := X.blk s3 H3 scope ce fp) hu I11 d1 sm d1' d2 d3 d4 d5 d6 r11 fun s12 es' ep' I12 hE => again I12 (d7 es' ep' _ _ r11 (fun w => KeyV.free k _ d5 X.w w) hE)
  exact codeAny_compStart_dict loop (T.self X.A 0 _ _ _ st4 loop)
theorem pe_dcN (hu : X.A.units + 8 < cLine) (hc : X.calm = true) (hN : X.N.Nodup) (hi : PI X tg iter wi) (ok : BlkOk X.N X.env.scope scope own) (hg : Blk X scope fun Y => PG Y tg g) (ht : Blk X scope fun Y => PTs Y ifs tt) (hk : Blk X scope fun Y => PE Y kx tk) (he : Blk X scope fun Y => PE Y vx tv)
    (hs : ∀ x, foldedSetIterable iter X.env x = pure x := by intro _; rfl) : PE X (.DictComp kx vx [⟨tg, iter, ifs, 0⟩] scope pos) (tDcN X.K wi g tt tk tv (own.map (·.2))) := by
  refine ⟨fun pins s σ H Q I h => ?_⟩
  rw [arm_eval_DictComp]
  refine dcN_core hu hc hN I hi ok hg ht hk he hs h fun D C s' m H' I' q hn f => ⟨m, hn, fun h'' sb => ?_⟩
  obtain ⟨g0, g1, g2, g3, g4, g5⟩ := f
  exact ⟨.ref D, H', I'.turned (t' := s'.toks) (fun b o hb e => (sb.2 b hb).trans e) g0 g1 g3 g4 g5, rfl, q⟩
theorem ps_setDcN {i : Nat} {y : Str} {py spos : Pos} (hu : X.A.units + 8 < cLine) (hc : X.calm = true) (hN : X.N.Nodup) (hy : X.N[i]? = some y) (hyl : X.env.scope.names.lookup y = some .local) (hsw : swapsWith (.DictComp kx vx [⟨tg, iter, ifs, 0⟩] scope pos) (some (.Name y py)) spos.line X.env = pure true)
    (hi : PI X tg iter wi) (ok : BlkOk X.N X.env.scope scope own) (hg : Blk X scope fun Y => PG Y tg g) (ht : Blk X scope fun Y => PTs Y ifs tt) (hk : Blk X scope fun Y => PE Y kx tk) (he : Blk X scope fun Y => PE Y vx tv)
    (hs : ∀ x, foldedSetIterable iter X.env x = pure x := by intro _; rfl) : PS X (.Assign [.Name y py] (.DictComp kx vx [⟨tg, iter, ifs, 0⟩] scope pos) spos) (tAsg (tDcN X.K wi g tt tk tv (own.map (·.2))) (gName i)) := by
  refine ⟨fun pins s σ H D I h => ?_⟩
  rw [exec_Assign_Name_used _ _ _ _ hsw]
  refine wpAny_bind (wpAny_standAt (wpAny_bind ?_))
  show wpAny _ X.A (do let _ ← comprehension (.DictComp kx vx [⟨tg, iter, ifs, 0⟩] scope pos) scope X.env (firstIterPos [⟨tg, iter, ifs, 0⟩] pos) newDict false (eval iter X.env) (some (assign (.Name y py) X.env))) _ _ s
  have hq : tDcN X.K wi g tt tk tv (own.map (·.2)) σ H (fun x H1 => gName i x σ H1 D.nx) := h
  refine wpAny_bind (thn (dcN_core (Qf := fun _ s' => SP X pins D .next s') hu hc hN I hi ok hg ht hk he hs hq fun L C s' m H' I' q hn f => ?_) fun _ s' hp => wpAny_pure (wpAny_pure hp))
  show wpAny _ _ (assign (.Name y py) X.env (.ref L)) _ _ _
  refine wpAny_assign_Name (store_ok2 (v := V.ref L) I' hN hy (.inl hyl) rfl (fun s2 I2 hh => ?_) (.inr hyl))
  obtain ⟨a, sb, ha⟩ := hh
  obtain ⟨g0, g1, g2, g3, g4, g5⟩ := f
  have hne : C ≠ a := by
    rcases ha with z | z
    · rw [z]; exact g1
    · exact fun e => g4 y a z e.symm
  exact ⟨m, hn.sameBut sb hne, fun h3 sb3 => ⟨_, H', I2.turned (t' := s2.toks) (fun b o hb e => (sb3.2 b hb).trans e) g0 g1 g3 g4 g5, q⟩⟩
end
end Bk

set_option Elab.async false
set_option linter.all false
set_option maxRecDepth 100000
set_option maxHeartbeats 2000000
namespace Bk
open PySem PySem.Spec PyProof.Rows L2
/-! ### dict comprehensions, as trees -/
/-- d[k] = v -/
def putKV (ks vs : List D) (k v : D) : Option (List D × List D) := match keysD ks, keyD k with
  | some nks, some nk => if (isTup k && decide (nk.depth ≤ 8) && decide (vs.length < sizeLine)) = true then (match posK nk nks with
    | some i => some (ks, vs.set i v)
    | none => some (ks ++ [k], vs ++ [v])) else none
  | _, _ => none
def gDcL (gg : GG) (gt : GT) (gk gv : GE) (Γ : Env) : List D → List D → List D → List MO → R D
  | [], ks, vs, M => .ok (.dct ks vs) M
  | d :: ds, ks, vs, M => match gg d Γ with
    | none => .bad
    | some Γ1 => (gt Γ1 M).only fun b M1 => if b = true then (gk Γ1 M1).only fun k M2 => (gv Γ1 M2).only fun v M3 => match putKV ks vs k v with
        | some r => gDcL gg gt gk gv Γ ds r.1 r.2 M3
        | none => .bad
      else gDcL gg gt gk gv Γ ds ks vs M1
def gDc (gi : GI) (gg : GG) (gt : GT) (gk gv : GE) (own : List Nat) : GE := fun Γ M => (gi Γ M).bind fun ds M1 => gDcL gg gt gk gv (forget Γ own) ds [] [] M1
theorem keysD_snoc {k : D} {nk : NestedKey} (h : keyD k = some nk) : ∀ {ks : List D} {nks : List NestedKey}, keysD ks = some nks → keysD (ks ++ [k]) = some (nks ++ [nk])
  | [], nks, e => by
    cases e
    show (match keyD k, keysD [] with
      | some k, some ks => some (k :: ks)
      | _, _ => none) = _
    rw [h]
    rfl
  | d :: ks, nks, e => by
    have e' : (match keyD d, keysD ks with
      | some k, some ks => some (k :: ks)
      | _, _ => none) = some nks := e
    cases e1 : keyD d with
    | none => rw [e1] at e'; cases e'
    | some a =>
      cases e2 : keysD ks with
      | none => rw [e1, e2] at e'; cases e'
      | some as =>
        rw [e1, e2] at e'
        cases e'
        have ih := keysD_snoc h e2
        show (match keyD d, keysD (ks ++ [k]) with
          | some k, some ks => some (k :: ks)
          | _, _ => none) = _
        rw [e1, ih]
        rfl
/-- a dict that is being made, as it stands -/
def DI (K : PySem.W.Frag) (H Z : Hp) (ι : Nat → Addr) (n : Nat) (p : Addr) (ks vs : List D) : Prop :=
  ∃ (es : Array DictEntry) (ep : Nat) (nks : List NestedKey) (kx xs : List V), H p = some (dnO p es ep) ∧ Ents K Z nks kx xs es.toList ∧ nks.Nodup ∧ Rps K Z ι n ks kx ∧ Rps K Z ι n vs xs ∧ keysD ks = some nks ∧ kx.length ≤ sizeLine ∧ kx.length = xs.length ∧ AllRef kx
theorem DI.ext {K : PySem.W.Frag} {H Z H1 Z1 : Hp} {ι ι1 : Nat → Addr} {n n1 : Nat} {p : Addr} {ks vs : List D} (h : DI K H Z ι n p ks vs) (od : Odd Z ι n p) (e : Ext H Z ι n H1 Z1 ι1 n1) : DI K H1 Z1 ι1 n1 p ks vs := by
  obtain ⟨es, ep, nks, kx, xs, h1, h2, h3, h4, h5, h6, h7, h8, h9⟩ := h
  exact ⟨es, ep, nks, kx, xs, (od.ext h1 e).2, h2.sub e.zz, h3, h4.ext e, h5.ext e, h6, h7, h8, h9⟩
section
variable {X : Cx} {C : CT} {W : WX}
theorem put_step {H Z : Hp} {ι : Nat → Addr} {n : Nat} {p : Addr} {ks vs : List D} {k v : D} {yk yv : V} {r : List D × List D} {Nx : Hp → Prop} (hs : Sub Z H) (h : DI X.K H Z ι n p ks vs) (rk : Rp X.K Z ι n k yk) (rv : Rp X.K Z ι n v yv) (e : putKV ks vs k v = some r)
    (hN : ∀ o, DI X.K (upd H p o) Z ι n p r.1 r.2 → Nx (upd H p o)) : StepN X.K H p yk yv Nx := by
  obtain ⟨es, ep, nks, kx, xs, h1, h2, h3, h4, h5, h6, h7, h8, h9⟩ := h
  unfold putKV at e
  rw [h6] at e
  cases ek : keyD k with
  | none => rw [ek] at e; cases e
  | some nk =>
    rw [ek] at e
    simp only at e
    by_cases c : (isTup k && decide (nk.depth ≤ 8) && decide (vs.length < sizeLine)) = true
    · rw [if_pos c] at e
      simp only [Bool.and_eq_true, decide_eq_true_eq] at c
      obtain ⟨⟨c1, c2⟩, c3⟩ := c
      cases k with
      | tup ds =>
        have kz := keyD_run (fun _ _ z => z) _ _ _ rk ek
        have kh := keyD_run hs _ _ _ rk ek
        cases rk with
        | tup sq rr =>
          refine ⟨_, es, ep, nks, kx, xs, nk, rfl, h1, h9, h2.sub hs, h3, by rw [← h5.length]; exact c3, kh, c2, fun es' ep' rr' hs' hr' hf hm => hN _ ?_⟩
          cases q : posK nk nks with
          | some i =>
            rw [q] at e hm
            cases e
            have hm' : es'.toList = setV rr' i es.toList := hm
            refine ⟨es', ep', nks, kx, xs.set i yv, upd_same, by rw [hm']; exact h2.setv hr' i, h3, h4, h5.set i rv, h6, h7, by rw [List.length_set]; exact h8, h9⟩
          | none =>
            rw [q] at e hm
            cases e
            have hm' : es'.toList = es.toList ++ [⟨hs', _, rr'⟩] := hm
            refine ⟨es', ep', nks ++ [nk], kx ++ [_], xs ++ [yv], upd_same, by rw [hm']; exact h2.snoc kz rfl c2 hf hr', ?_, h4.append (.cons (.tup sq rr) .nil), h5.append (.cons rv .nil), keysD_snoc ek h6, ?_, by simp [h8], fun x hx => by
              rcases List.mem_append.mp hx with hx | hx
              · exact h9 x hx
              · exact ⟨_, by simpa using hx⟩⟩
            · rw [List.nodup_append]
              refine ⟨h3, by simp, fun x hx y hy => ?_⟩
              have : y = nk := by simpa using hy
              rw [this]
              exact fun z => posK_none q (z ▸ hx)
            · rw [List.length_append, List.length_singleton, h8, ← h5.length]
              omega
      | ptu ds =>
        have kz := keyD_run (fun _ _ z => z) _ _ _ rk ek
        have kh := keyD_run hs _ _ _ rk ek
        cases rk with
        | ptu sq rr =>
          refine ⟨_, es, ep, nks, kx, xs, nk, rfl, h1, h9, h2.sub hs, h3, by rw [← h5.length]; exact c3, kh, c2, fun es' ep' rr' hs' hr' hf hm => hN _ ?_⟩
          cases q : posK nk nks with
          | some i =>
            rw [q] at e hm
            cases e
            have hm' : es'.toList = setV rr' i es.toList := hm
            refine ⟨es', ep', nks, kx, xs.set i yv, upd_same, by rw [hm']; exact h2.setv hr' i, h3, h4, h5.set i rv, h6, h7, by rw [List.length_set]; exact h8, h9⟩
          | none =>
            rw [q] at e hm
            cases e
            have hm' : es'.toList = es.toList ++ [⟨hs', _, rr'⟩] := hm
            refine ⟨es', ep', nks ++ [nk], kx ++ [_], xs ++ [yv], upd_same, by rw [hm']; exact h2.snoc kz rfl c2 hf hr', ?_, h4.append (.cons (.ptu sq rr) .nil), h5.append (.cons rv .nil), keysD_snoc ek h6, ?_, by simp [h8], fun x hx => by
              rcases List.mem_append.mp hx with hx | hx
              · exact h9 x hx
              · exact ⟨_, by simpa using hx⟩⟩
            · rw [List.nodup_append]
              refine ⟨h3, by simp, fun x hx y hy => ?_⟩
              have : y = nk := by simpa using hy
              rw [this]
              exact fun z => posK_none q (z ▸ hx)
            · rw [List.length_append, List.length_singleton, h8, ← h5.length]
              omega
      | _ => cases c1
    · rw [if_neg c] at e
      cases e
theorem gDcL_run {gg : GG} {gt : GT} {gk gv : GE} {is own : List Nat} {σ : St} {Γ0 : Env} {Q : VK} {J : It} {p : Addr} {ds : List D} {H0 Z0 : Hp} {ι0 : Nat → Addr} {M0 : List MO} (hsub : ∀ i ∈ is, i ∈ own) (sl : Slots X.K Z0 ι0 M0.length Γ0 (wipe σ own)) (rJ : ItC anyM X.K J ds Z0 ι0 M0.length)
    (hp0 : H0 p = none) (hsm : (p == sysModules) = false) (hr0 : HR X.K H0 Z0 ι0 M0) (h : Post X C W (rpE X.K) σ H0 Z0 ι0 M0 (gDcL gg gt gk gv Γ0 ds [] [] M0) Q) :
    ∃ Wv : Nat → Nat → Hp → Prop, (∃ m, Wv 0 m (upd H0 p (dnO p #[] 0))) ∧ ∀ i m H, Wv i m H →
      (J.stop i H ∧ Q (.ref p) H) ∨ (J.go i H ∧ ∃ Nx : Hp → Prop, (∀ H', Nx H' → ∃ m', m' < m ∧ Wv (i + 1) m' H') ∧ ∀ x H', J.yld i H x H' → liftG X.K gg is x (wipe σ own) H' fun σ2 H2 => wipe σ2 own = wipe σ own ∧ liftT X.K X C noW gt σ2 H2 fun b H3 =>
        if b = true then liftE X.K X C noW gk σ2 H3 fun y H4 => liftE X.K X C noW gv σ2 H4 fun z H5 => StepN X.K H5 p y z Nx else Nx H3) := by
  let Inv' : Nat → Hp → Prop := fun i H => ∃ (Z : Hp) (ι : Nat → Addr) (M : List MO) (ks vs : List D), Ext H0 Z0 ι0 M0.length H Z ι M.length ∧ HR X.K H Z ι M ∧ Odd Z ι M.length p ∧ DI X.K H Z ι M.length p ks vs ∧ Post X C W (rpE X.K) σ H0 Z0 ι0 M0 (gDcL gg gt gk gv Γ0 (ds.drop i) ks vs M) Q
  have q0 : Odd Z0 ι0 M0.length p := .new hr0 hp0
  have d0 : DI X.K (upd H0 p (dnO p #[] 0)) Z0 ι0 M0.length p [] [] := ⟨#[], 0, [], [], [], upd_same, .nil, .nil, .nil, .nil, rfl, Nat.zero_le _, rfl, fun x hx => by cases hx⟩
  refine ⟨fun i m H => m = ds.length - i ∧ i ≤ ds.length ∧ Inv' i H, ⟨ds.length, rfl, Nat.zero_le _, Z0, ι0, M0, [], [], (Ext.refl).touch hp0, hr0.odd q0, q0, d0, h⟩, ?_⟩
  rintro i m H ⟨em, hle, Z, ι, M, ks, vs, e1, hr1, od, di, hpost⟩
  obtain ⟨hstop, hgo⟩ := rJ i H Z ι M e1.zz e1.ii e1.ln hr1 trivial
  by_cases hi : i < ds.length
  · refine .inr ?_
    have ed : ds.drop i = ds[i] :: ds.drop (i + 1) := List.drop_eq_getElem_cons hi
    obtain ⟨go, yl⟩ := hgo ds[i] (List.getElem?_eq_getElem hi)
    refine ⟨go, Inv' (i + 1), fun H' hN => ⟨ds.length - (i + 1), by omega, rfl, by omega, hN⟩, fun x H2 hy => ?_⟩
    obtain ⟨Z2, e2, hr2, rx⟩ := yl x H2 hy
    have hp1 : ∃ u, H p = some u := let ⟨es, ep, _, _, _, q, _⟩ := di; ⟨_, q⟩
    obtain ⟨u1, hp1⟩ := hp1
    obtain ⟨od2, hp2⟩ := od.ext hp1 e2
    have di2 := di.ext od e2
    have e12 := e1.trans e2 hr1.ali
    rw [ed] at hpost
    cases eg : gg ds[i] Γ0 with
    | none =>
      have z : gDcL gg gt gk gv Γ0 (ds[i] :: ds.drop (i + 1)) ks vs M = .bad := by
        unfold gDcL
        rw [eg]
      rw [z] at hpost
      exact hpost.elim
    | some Γ1 =>
      have z : gDcL gg gt gk gv Γ0 (ds[i] :: ds.drop (i + 1)) ks vs M = ((gt Γ1 M).only fun b M1 => if b = true then (gk Γ1 M1).only fun k M2 => (gv Γ1 M2).only fun v M3 => match putKV ks vs k v with
          | some r => gDcL gg gt gk gv Γ0 (ds.drop (i + 1)) r.1 r.2 M3
          | none => .bad
        else gDcL gg gt gk gv Γ0 (ds.drop (i + 1)) ks vs M1) := by
        conv => lhs; unfold gDcL
        rw [eg]
      rw [z] at hpost
      refine ⟨Z2, ι, M.length, ds[i], Γ0, Γ1, hr2.sub, sl.ext e12, rx, eg, fun σ2 s2 w2 => ⟨(w2 own hsub).trans (wipe_wipe own), Z2, ι, Γ1, M, s2, hr2, ?_⟩⟩
      cases et : gt Γ1 M with
      | bad => rw [et] at hpost; exact hpost.elim
      | exc c d M' => rw [et] at hpost; exact hpost.elim
      | ok b M3 =>
        rw [et] at hpost
        intro b' H3 Z3 ι3 e3 hr3 hb
        have hb' : b = b' := hb
        subst hb'
        obtain ⟨od3, hp3⟩ := od2.ext hp2 e3
        have di3 := di2.ext od2 e3
        have e13 := e12.trans e3 hr2.ali
        cases b with
        | false => exact ⟨Z3, ι3, M3, ks, vs, e13, hr3, od3, di3, hpost⟩
        | true =>
          rw [if_pos rfl]
          refine ⟨Z3, ι3, Γ1, M3, s2.ext e3, hr3, ?_⟩
          have hpost2 : Post X C W (rpE X.K) σ H0 Z0 ι0 M0 ((gk Γ1 M3).only fun k M2 => (gv Γ1 M2).only fun v M3 => match putKV ks vs k v with
            | some r => gDcL gg gt gk gv Γ0 (ds.drop (i + 1)) r.1 r.2 M3
            | none => .bad) Q := hpost
          cases ek : gk Γ1 M3 with
          | bad => rw [ek] at hpost2; exact hpost2.elim
          | exc c d M' => rw [ek] at hpost2; exact hpost2.elim
          | ok k M4 =>
            rw [ek] at hpost2
            intro yk H4 Z4 ι4 e4 hr4 rk
            obtain ⟨od4, hp4⟩ := od3.ext hp3 e4
            have di4 := di3.ext od3 e4
            have e14 := e13.trans e4 hr3.ali
            refine ⟨Z4, ι4, Γ1, M4, (s2.ext e3).ext e4, hr4, ?_⟩
            have hpost3 : Post X C W (rpE X.K) σ H0 Z0 ι0 M0 ((gv Γ1 M4).only fun v M3 => match putKV ks vs k v with
              | some r => gDcL gg gt gk gv Γ0 (ds.drop (i + 1)) r.1 r.2 M3
              | none => .bad) Q := hpost2
            cases ev : gv Γ1 M4 with
            | bad => rw [ev] at hpost3; exact hpost3.elim
            | exc c d M' => rw [ev] at hpost3; exact hpost3.elim
            | ok v M5 =>
              rw [ev] at hpost3
              intro yv H5 Z5 ι5 e5 hr5 rv
              obtain ⟨od5, hp5⟩ := od4.ext hp4 e5
              have di5 := di4.ext od4 e5
              have e15 := e14.trans e5 hr4.ali
              have hpost4 : Post X C W (rpE X.K) σ H0 Z0 ι0 M0 (match putKV ks vs k v with
                | some r => gDcL gg gt gk gv Γ0 (ds.drop (i + 1)) r.1 r.2 M5
                | none => .bad) Q := hpost3
              cases ep : putKV ks vs k v with
              | none => rw [ep] at hpost4; exact hpost4.elim
              | some r =>
                rw [ep] at hpost4
                exact put_step hr5.sub di5 (rk.ext e5) rv ep fun o di' => ⟨Z5, ι5, M5, r.1, r.2, e15.touch hp0, hr5.odd od5, od5, di', hpost4⟩
  · refine .inl ⟨hstop (by omega), ?_⟩
    rw [List.drop_eq_nil_of_le (Nat.le_of_not_lt hi)] at hpost
    obtain ⟨es, ep, nks, kx, xs, h1, h2, h3, h4, h5, h6, h7, h8, h9⟩ := di
    have s1 : Sub Z (upd Z p (dnO p es ep)) := fun a u q => by rw [upd_ne (ne_of_none q od.z)]; exact q
    have up : ∀ {as : List D} {ws : List V}, Rps X.K Z ι M.length as ws → Rps X.K (upd Z p (dnO p es ep)) ι M.length as ws := fun r => Rps.mono s1 (fun _ _ => rfl) (Nat.le_refl _) _ _ r
    exact hpost _ H _ ι (e1.adoptZ od.z hp0) (hr1.adoptZ od h1) (.dct ⟨es, ep, upd_same, hsm, h7, h3, h2.sub s1⟩ (up h4) (up h5))
theorem dc_post {σ : St} {H Z : Hp} {ι : Nat → Addr} {M : List MO} {Q : VK} {wi : TI} {gi : GI} {gg : GG} {gt : GT} {gk gv : GE} {is own : List Nat} {Γ : Env}
    (qi : ∀ (σ : St) (H Z : Hp) (ι : Nat → Addr) (Γ : Env) (M : List MO) (Q : It → Hp → Prop), Slots X.K Z ι M.length Γ σ → HR X.K H Z ι M → Post X C W (rpI X.K) σ H Z ι M (gi Γ M) Q → wi σ H Q) (hsub : ∀ i ∈ is, i ∈ own)
    (sl : Slots X.K Z ι M.length Γ σ) (hr : HR X.K H Z ι M) (h : Post X C W (rpE X.K) σ H Z ι M (gDc gi gg gt gk gv own Γ M) Q) :
    tDcN X.K wi (liftG X.K gg is) (liftT X.K X C noW gt) (liftE X.K X C noW gk) (liftE X.K X C noW gv) own σ H Q :=
  qi σ H Z ι Γ M _ sl hr (Post.bind h fun ds M1 J H1 Z1 ι1 e1 hr1 rJ h1 => fun p hp hsm =>
    gDcL_run hsub (slots_wipe _ (sl.ext e1)) rJ hp hsm hr1 h1)
theorem qe_dc {kx vx tg iter : Expr} {ifs : List Expr} {scope : Scope} {own : List (Str × Nat)} {pos : Pos} {gi : GI} {gg : GG} {gt : GT} {gk gv : GE} {is ixs : List Nat} (hu : X.A.units + 8 < cLine) (hc : X.calm = true) (hN : X.N.Nodup) (hi : QI X C W tg iter gi) (ok : BlkOk X.N X.env.scope scope own)
    (hg : Blk X scope fun Y => QG Y tg gg is) (ht : Blk X scope fun Y => QTs Y C noW ifs gt) (hk : Blk X scope fun Y => QE Y C noW kx gk) (he : Blk X scope fun Y => QE Y C noW vx gv) (hix : ixs = own.map (·.2) := by rfl) (hsub : ∀ i ∈ is, i ∈ own.map (·.2) := by decide) (hs : ∀ x, foldedSetIterable iter X.env x = pure x := by intro _; rfl) :
    QE X C W (.DictComp kx vx [⟨tg, iter, ifs, 0⟩] scope pos) (gDc gi gg gt gk gv ixs) := by
  subst hix
  obtain ⟨wi, pi, qi⟩ := hi
  exact ⟨_, pe_dcN hu hc hN pi ok (blk_g hg) (blk_t ht) (blk_e hk) (blk_e he) hs, fun σ H Z ι Γ M Q sl hr h => dc_post qi hsub sl hr h⟩
/-- y = {..} -/
theorem qs_dc {i : Nat} {y : Str} {kx vx tg iter : Expr} {ifs : List Expr} {scope : Scope} {own : List (Str × Nat)} {pos spos py : Pos} {gi : GI} {gg : GG} {gt : GT} {gk gv : GE} {is ixs : List Nat} (hu : X.A.units + 8 < cLine) (hc : X.calm = true) (hN : X.N.Nodup) (hy : X.N[i]? = some y) (hyl : X.env.scope.names.lookup y = some .local) (hsw : swapsWith (.DictComp kx vx [⟨tg, iter, ifs, 0⟩] scope pos) (some (.Name y py)) spos.line X.env = pure true)
    (hi : QI X C W tg iter gi) (ok : BlkOk X.N X.env.scope scope own)
    (hg : Blk X scope fun Y => QG Y tg gg is) (ht : Blk X scope fun Y => QTs Y C noW ifs gt) (hk : Blk X scope fun Y => QE Y C noW kx gk) (he : Blk X scope fun Y => QE Y C noW vx gv) (hix : ixs = own.map (·.2) := by rfl) (hsub : ∀ i ∈ is, i ∈ own.map (·.2) := by decide) (hs : ∀ x, foldedSetIterable iter X.env x = pure x := by intro _; rfl) :
    QS X C W (.Assign [.Name y py] (.DictComp kx vx [⟨tg, iter, ifs, 0⟩] scope pos) spos) (gAsg (gDc gi gg gt gk gv ixs) (gTo i)) := by
  subst hix
  obtain ⟨wi, pi, qi⟩ := hi
  refine ⟨_, ps_setDcN hu hc hN hy hyl hsw pi ok (blk_g hg) (blk_t ht) (blk_e hk) (blk_e he) hs, fun Dd σ H Z ι Γ M sl hr h => ?_⟩
  refine dc_post qi hsub sl hr (PostS.bind (Γ := Γ) h sl fun x M1 v H1 Z1 ι1 e1 hr1 r1 h1 => ?_)
  exact h1 _ H1 Z1 ι1 .refl hr1 ((sl.ext e1).set i r1)
end
end Bk

set_option Elab.async false
set_option linter.all false
set_option maxRecDepth 100000
set_option maxHeartbeats 2000000
namespace Bk
open PySem PySem.Spec PyProof.Rows L2
/-! ### for k in d -/
def Itn (d : Addr) (es : Array DictEntry) (ep : Nat) (kx : List V) : It :=
  ⟨fun i H => H d = some (dnO d es ep) ∧ i < kx.length, fun i H x H' => H' = H ∧ kx[i]? = some x, fun i H => H d = some (dnO d es ep) ∧ kx.length ≤ i⟩
def KeyAt (es : Array DictEntry) (kx : List V) : Prop := es.size = kx.length ∧ ∀ (i : Nat) (x : V), kx[i]? = some x → ∃ en, es[i]? = some en ∧ RelV x en.key
theorem Ents.keyAt {K : PySem.W.Frag} {Z : Hp} : ∀ {nks : List NestedKey} {ks vs : List V} {es : List DictEntry}, Ents K Z nks ks vs es → es.length = ks.length ∧ ∀ (i : Nat) (x : V), ks[i]? = some x → ∃ en, es[i]? = some en ∧ RelV x en.key
  | _, _, _, _, .nil => ⟨rfl, by simp⟩
  | _, _, _, _, .cons (y := y) (ku := ku) a ry d h r t => by
    obtain ⟨h1, h2⟩ := Ents.keyAt t
    refine ⟨by simp [h1], fun i x hx => ?_⟩
    cases i with
    | zero =>
      have : y = x := by simpa using hx
      subst this
      exact ⟨_, rfl, ry⟩
    | succ i =>
      obtain ⟨en, e1, e2⟩ := h2 i x (by simpa using hx)
      exact ⟨en, by simpa using e1, e2⟩
section
variable {P : Program} {w : World} {K : PySem.W.Frag} {tg : Expr} {d : Addr} {es : Array DictEntry} {ep : Nat} {kx : List V}
theorem turn_keysN (it : Addr) (hk : KeyAt es kx) : Turn P w K tg (Itn d es ep kx) [it] it (fun i h => h.IsKeyIter it d i kx.length ep) where
  mem := by simp
  obj := fun i h st b hb => by
    have e : b = it := by simpa using hb
    subst e
    obtain ⟨oi, e, c, dd⟩ := st
    exact ⟨oi, e, fun v z => by rw [dd] at z; cases z⟩
  keep := fun i h h' st k => st.at fun oi e => k it (by simp) oi e
  item := by
    intro X hP hw hK hc i pins s σ H E I hf st hg
    subst hP hw hK
    obtain ⟨hd, hi⟩ := hg
    obtain ⟨f0, f1, f2, f3, f4, f5⟩ := hf it (by simp)
    obtain ⟨⟨o, ho, hx, hdt⟩, _, _⟩ := I.hok d _ hd
    have hx1 : kx[i]? = some kx[i] := List.getElem?_eq_getElem hi
    obtain ⟨en, he, hr⟩ := hk.2 i _ hx1
    refine next_key_item st ho hdt hk.1 he fun h' st' sb => ?_
    have I1 : Inv X pins σ H { s with heap := h' } := I.turned (t' := s.toks) (fun b ob hb e => (sb.2 b hb).trans e) f0 f1 f3 f4 f5
    obtain ⟨oi, e, c, dd⟩ := id st'
    exact ⟨en.key, rfl, go_of (s := { s with heap := h' }) e c dd (by decide) ⟨_, H, I1, hr, ⟨rfl, hx1⟩, st', fun b hb => (hf b hb).1⟩⟩
  done := by
    intro X hP hw hK hc i pins s σ H E I hf st hg
    subst hP hw hK
    obtain ⟨hd, hi⟩ := hg
    obtain ⟨f0, f1, f2, f3, f4, f5⟩ := hf it (by simp)
    obtain ⟨⟨o, ho, hx, hdt⟩, _, _⟩ := I.hok d _ hd
    exact next_key_end (I.ok.hd hc) st ho hdt hk.1 hi fun h' eb => ⟨rfl, I.turned (t' := s.toks) (fun b ob hb e => eb b ob hb e) f0 f1 f3 f4 f5⟩
  self := fun A i s Q E st h => wpAny_pyIter_keyiter st h
end
def iKeysN (td : TE) : TI := fun σ H R => td σ H fun x H1 => ∃ (d : Addr) (es : Array DictEntry) (ep : Nat) (kx : List V), x = .ref d ∧ (d == sysModules) = false ∧ H1 d = some (dnO d es ep) ∧ KeyAt es kx ∧ R (Itn d es ep kx) H1
theorem pi_keysN {X : Cx} {tg e : Expr} {td : TE} (he : PE X e td) : PI X tg e (iKeysN td) := by
  refine ⟨fun pins s σ H R I h => ?_⟩
  refine thn (he.run pins s σ H _ I h) fun u s1 ⟨x, H1, I1, rx, d, es, ep, kx, ex, hs, hd, hk, q⟩ => ?_
  subst ex
  obtain rfl : u = Value.ref d := rx
  obtain ⟨⟨o, ho, hx, hdt⟩, _, _⟩ := I1.hok d _ hd
  refine iter_keys hs ho hx hdt (pi_one (tk := s1.toks) I1 _ (turn_keysN _ hk) ⟨_, Heap.get?_push_size _ rfl, rfl, ?_⟩ q)
  rw [hk.1] <;> rfl
def dKeys : D → Option (List D)
  | .dct ks _ => some ks
  | _ => none
def gKeysI (ge : GE) : GI := fun Γ M => (ge Γ M).bind fun d M1 => opR (dKeys d) M1
theorem itr_keys {K : PySem.W.Frag} {Z : Hp} {ι : Nat → Addr} {n : Nat} {a : Addr} {es : Array DictEntry} {ep : Nat} {kx : List V} {ks : List D} (h : Z a = some (dnO a es ep)) (r : Rps K Z ι n ks kx) : ItR K (Itn a es ep kx) ks Z ι n := by
  intro i H' Z' ι' M' hz hi hn hr _
  have h' : H' a = some (dnO a es ep) := hr.sub _ _ (hz _ _ h)
  have l := r.length
  refine ⟨fun hl => ⟨h', by rw [← l]; exact Nat.le_of_eq hl⟩, fun d hd => ?_⟩
  obtain ⟨v, hv, rv⟩ := r.get hd
  refine ⟨⟨h', (List.getElem?_eq_some_iff.mp hv).1⟩, fun x H2 hy => ?_⟩
  obtain ⟨rfl, hx⟩ := hy
  rw [hv] at hx
  cases hx
  exact ⟨Z', .refl, hr, Rp.mono hz hi hn _ _ rv⟩
theorem qi_keys {X : Cx} {C : CT} {W : WX} {tg e : Expr} {g : GE} (ha : QE X C W e g) : QI X C W tg e (gKeysI g) := by
  obtain ⟨ta, pa, qa⟩ := ha
  refine ⟨_, pi_keysN pa, fun σ H Z ι Γ M Q sl hr h => qa σ H Z ι Γ M _ sl hr (h.bind fun x M1 v H1 Z1 ι1 e1 hr1 r1 h1 => ?_)⟩
  obtain ⟨ds, hd, h2⟩ := Post.of_opR (γ := D) (δ := V) h1
  cases r1 with
  | dct s rk rv =>
    cases hd
    obtain ⟨es, ep, s1, s2, s3, s4, s5⟩ := s
    obtain ⟨k1, k2⟩ := s5.keyAt
    exact ⟨_, es, ep, _, rfl, s2, hr1.sub _ _ s1, ⟨by simpa using k1, fun i x hx => by
      obtain ⟨en, a1, a2⟩ := k2 i x hx
      exact ⟨en, by simpa using a1, a2⟩⟩, h2 _ H1 Z1 ι1 .refl hr1 (itr_keys s1 rk)⟩
  | _ => cases hd
@[simp] theorem u_gKeysI (ge : GE) (Γ : Env) (M : List MO) : gKeysI ge Γ M = (ge Γ M).bind fun d M1 => opR (dKeys d) M1 := Eq.trans rfl rfl
@[simp] theorem e_keys (ks vs : List D) : dKeys (.dct ks vs) = some ks := Eq.trans rfl rfl
end Bk

set_option Elab.async false
set_option linter.all false
set_option maxRecDepth 100000
set_option maxHeartbeats 2000000
namespace Bk
open PySem PySem.Spec PyProof.Rows L2
/-! ### len(d) -/
def rLenN (K : PySem.W.Frag) : List V → Hp → VK → Prop := fun xs H Q => ∃ (a : Addr) (nks : List NestedKey) (ks vs : List V), xs = [.ref a] ∧ ExD K H a nks ks vs ∧ Q (.int (vs.length : Nat)) H
theorem ents_len {K : PySem.W.Frag} {Z : Hp} : ∀ {nks : List NestedKey} {ks vs : List V} {es : List DictEntry}, Ents K Z nks ks vs es → ks.length = vs.length
  | _, _, _, _, .nil => rfl
  | _, _, _, _, .cons _ _ _ _ _ t => by rw [List.length_cons, List.length_cons, ents_len t]
theorem len_body_raw {prog : Program} {w : World} {A : Around} {E : Value → Shared → Prop} {s : Shared} {d : Addr} {es : Array DictEntry} {ep : Nat} {Q : Value → Shared → Prop} (hd : (d == sysModules) = false) (hm : s.heap.DictRaw d es ep) (hfit : (es.size : Int) < 2 ^ 63)
    (h : Q (.int es.size (s.toks + 1)) { s with toks := s.toks + 1 + 1 }) : wpAny (model prog w) A (call (.builtin "len") [.ref d]) Q E s := by
  refine Calls.call_function_entry kind_len plain_len entry_len (args_len1 _) ?_
  unfold Builtin.«len»
  refine wpAny_bind (m := oneArg "len" _) (wpAny_pure ?_)
  refine wpAny_bind (m := callSpecial? (.ref d) (Str.ofString "__len__")) (wpAny_callSpecial?_slot (name := Str.ofString "__len__") hm.typeIs F.slot_dict_len
    (call_meetsIn F.slot_dict_len hm.typeIs F.entry_dict_len (F.args_dict_len_1 _) (meets_dict_len_raw d hd) ⟨es, ep, hm, ?_⟩))
  show wpAny _ _ _ _ _ { s with toks := s.toks + 1 }
  refine wpAny_bind (wpAny_holding (wpAny_pure ?_))
  refine wpAny_bind (wpAny_letGo ?_)
  show wpAny _ _ (if ((es.size : Nat) : Int) < 0 then _ else _) _ _ _
  rw [if_neg (by omega)]
  show wpAny _ _ (if ((es.size : Nat) : Int) ≥ 2 ^ 63 then _ else _) _ _ _
  rw [if_neg (by omega)]
  exact wpAny_bind (wpAny_mkInt (wpAny_pure ⟨_, rfl, h⟩))
theorem ents_sz {K : PySem.W.Frag} {Z : Hp} : ∀ {nks : List NestedKey} {ks vs : List V} {es : List DictEntry}, Ents K Z nks ks vs es → es.length = vs.length
  | _, _, _, _, .nil => rfl
  | _, _, _, _, .cons _ _ _ _ _ t => by rw [List.length_cons, List.length_cons, ents_sz t]
theorem cr_lenN {X : Cx} : CallR X (.builtin "len") (rLenN X.K) := by
  intro pins s σ H xs us Q I r h
  obtain ⟨a, nks, ks, vs, rfl, hd, q⟩ := h
  obtain ⟨u, rfl, rx⟩ := vals1 r
  obtain rfl : u = Value.ref a := rx
  obtain ⟨es, ep, h1, h2, h3, h4, h5⟩ := hd
  have l := ents_len h5
  have l2 := ents_sz h5
  obtain ⟨hm, _, _⟩ := I.hok a _ h1
  have hm' : s.heap.DictRaw a es ep := hm
  have hs : sizeLine = 16777216 := sizeLine_eq
  have l3 : es.size = vs.length := by rw [← l2, Array.length_toList]
  exact len_body_raw h2 hm' (by omega) ⟨.int (vs.length : Nat), H, I.tok _, ⟨_, by rw [l3]⟩, q⟩
theorem cr_lenA {X : Cx} : CallR X (.builtin "len") (fun xs H Q => rLenN X.K xs H Q ∨ ∃ x n, xs = [x] ∧ LenV X.K x H n ∧ Q (.int n) H) := by
  intro pins s σ H xs us Q I r h
  rcases h with h | h
  · exact cr_lenN pins s σ H xs us Q I r h
  · exact call_len pins s σ H xs us Q I r h
def dLenN (M : List MO) (x : D) : Option D := match dctD M x with
  | some p => some (.int (p.2.length : Nat))
  | none => dLen M x
theorem ok_lenN {X : Cx} : Ok1 X (fun x H Q => rLenN X.K [x] H Q ∨ ∃ y n, [x] = [y] ∧ LenV X.K y H n ∧ Q (.int n) H) dLenN := fun x H Z ι M dx d Q hr rx e q => by
  unfold dLenN at e
  cases ed : dctD M dx with
  | some p =>
    rw [ed] at e
    cases e
    obtain ⟨a, nks, kx, xs, h1, h2, h3, h4⟩ := dctD_run hr rx ed
    subst h1
    exact .inl ⟨_, _, _, _, rfl, h2, by rw [← h4.length]; exact q.now hr (.int _)⟩
  | none =>
    rw [ed] at e
    exact .inr (ok_len x H Z ι M dx d Q hr rx e q)
@[simp] theorem e_lenN (M : List MO) (ks vs : List D) : dLenN M (.dct ks vs) = some (.int (vs.length : Nat)) := Eq.trans rfl rfl
end Bk

set_option Elab.async false
set_option linter.all false
set_option maxRecDepth 100000
set_option maxHeartbeats 2000000
namespace Bk
open PySem PySem.Spec PyProof.Rows L2
/-! ### for v in d.values() -/
def ValAt (es : Array DictEntry) (xs : List V) : Prop := es.size = xs.length ∧ ∀ (i : Nat) (x : V), xs[i]? = some x → ∃ en, es[i]? = some en ∧ RelV x en.val
theorem Ents.valAt {K : PySem.W.Frag} {Z : Hp} : ∀ {nks : List NestedKey} {ks vs : List V} {es : List DictEntry}, Ents K Z nks ks vs es → es.length = vs.length ∧ ∀ (i : Nat) (x : V), vs[i]? = some x → ∃ en, es[i]? = some en ∧ RelV x en.val
  | _, _, _, _, .nil => ⟨rfl, by simp⟩
  | _, _, _, _, .cons (v := v) a ry d h r t => by
    obtain ⟨h1, h2⟩ := Ents.valAt t
    refine ⟨by simp [h1], fun i x hx => ?_⟩
    cases i with
    | zero =>
      have : v = x := by simpa using hx
      subst this
      exact ⟨_, rfl, r⟩
    | succ i =>
      obtain ⟨en, e1, e2⟩ := h2 i x (by simpa using hx)
      exact ⟨en, by simpa using e1, e2⟩
section
variable {P : Program} {w : World} {K : PySem.W.Frag} {tg : Expr} {d : Addr} {es : Array DictEntry} {ep : Nat} {xs : List V}
theorem turn_valsN (it : Addr) (hk : ValAt es xs) : Turn P w K tg (Itn d es ep xs) [it] it (fun i h => h.IsValIter it d i es.size ep) where
  mem := by simp
  obj := fun i h st b hb => by
    have e : b = it := by simpa using hb
    subst e
    obtain ⟨oi, e, c, dd⟩ := st
    exact ⟨oi, e, fun v z => by rw [dd] at z; cases z⟩
  keep := fun i h h' st k => st.at fun oi e => k it (by simp) oi e
  item := by
    intro X hP hw hK hc i pins s σ H E I hf st hg
    subst hP hw hK
    obtain ⟨hd, hi⟩ := hg
    obtain ⟨f0, f1, f2, f3, f4, f5⟩ := hf it (by simp)
    obtain ⟨hm, _, _⟩ := I.hok d _ hd
    have hx1 : xs[i]? = some xs[i] := List.getElem?_eq_getElem hi
    obtain ⟨en, he, hr⟩ := hk.2 i _ hx1
    refine wpAny_pyNext_values_item_raw st hm (by rw [hk.1]; exact hi) fun h' st' sb => ?_
    have I1 : Inv X pins σ H { s with heap := h' } := I.turned (t' := s.toks) (fun b ob hb e => (sb.2 b hb).trans e) f0 f1 f3 f4 f5
    obtain ⟨oi, e, c, dd⟩ := id st'
    have hen : es[i]'(by rw [hk.1]; exact hi) = en := by
      rw [Array.getElem?_eq_getElem (by rw [hk.1]; exact hi)] at he
      exact Option.some.inj he
    exact ⟨_, rfl, go_of (s := { s with heap := h' }) e c dd (by decide) ⟨_, H, I1, by rw [hen]; exact hr, ⟨rfl, hx1⟩, st', fun b hb => (hf b hb).1⟩⟩
  done := by
    intro X hP hw hK hc i pins s σ H E I hf st hg
    subst hP hw hK
    obtain ⟨hd, hi⟩ := hg
    obtain ⟨f0, f1, f2, f3, f4, f5⟩ := hf it (by simp)
    obtain ⟨hm, _, _⟩ := I.hok d _ hd
    exact wpAny_pyNext_values_end_raw (I.ok.hd hc) st hm (by rw [hk.1]; exact hi) fun h' eb => ⟨rfl, I.turned (t' := s.toks) (fun b ob hb e => eb b ob hb e) f0 f1 f3 f4 f5⟩
  self := fun A i s Q E st h => wpAny_pyIter_valiter st h
end
def iValsN (td : TE) : TI := fun σ H R => td σ H fun x H1 => ∃ (d : Addr) (es : Array DictEntry) (ep : Nat) (xs : List V), x = .ref d ∧ (d == sysModules) = false ∧ H1 d = some (dnO d es ep) ∧ ValAt es xs ∧ R (Itn d es ep xs) H1
theorem pi_valuesN {X : Cx} {tg e : Expr} {td : TE} {apos cpos : Pos} (he : PE X e td) (hbase : attributeBase e "values" X.env (eval e X.env) = eval e X.env := by rfl) (hline : (apos.endLine == cpos.line) = true := by rfl) : PI X tg (.Call (.Attribute e "values" apos) [] [] cpos) (iValsN td) := by
  refine ⟨fun pins s σ H R I h => ?_⟩
  refine wpAny_Call_method (T := "dict") (id := "dict.values") hbase rfl hline F.plainAttrs_dict F.slot_dict_values F.type_dict_values (thn (he.run pins s σ H _ I h) fun u s1 ⟨x, H1, I1, rx, d, es, ep, xs, ex, hs, hd, hk, q⟩ => ?_)
  subst ex
  obtain rfl : u = Value.ref d := rx
  obtain ⟨hm, _, _⟩ := I1.hok d _ hd
  have hm' : s1.heap.DictRaw d es ep := hm
  obtain ⟨o, ho, hx, hdt⟩ := id hm
  refine ⟨hm'.typeIs, ?_, ?_⟩
  · exact fun a e => by cases e; exact ⟨o, ho, hx.2.1⟩
  have I2 : Inv X pins σ H1 { s1 with heap := s1.heap.push { cls := .type "dict_values", data := .fields #[.ref d] } } := I1.kept (t' := s1.toks) fun b ob q => Heap.get?_push_of_some _ q
  have hm2 : (s1.heap.push { cls := .type "dict_values", data := .fields #[.ref d] }).DictRaw d es ep := hm'.at fun o e => Heap.get?_push_of_some _ e
  have fin : wpAny (model X.prog X.w) X.A (pyIter (.ref s1.heap.objs.size)) (PIE X pins σ tg R) X.xe { s1 with heap := s1.heap.push { cls := .type "dict_values", data := .fields #[.ref d] } } :=
    wpAny_pyIter_values_raw (d := d) ⟨_, Heap.get?_push_size _ rfl, rfl, rfl⟩ hm2 (pi_one (tk := s1.toks) I2 _ (turn_valsN _ hk) ⟨_, Heap.get?_push_size _ rfl, rfl, rfl⟩ q)
  show wpAny _ _ (callWith cpos (.builtin "dict.values") [.ref d] [] []) _ X.xe s1
  exact method_meetsIn F.slot_dict_values F.entry_dict_values rfl (PySem.evalArgs_none ⟨rfl, hm'.typeIs, F.args_dict_values_1 _, _, meets_dict_values_raw d hs, ⟨⟨es, ep, hm'⟩, fin⟩⟩)
def dVals : D → Option (List D)
  | .dct _ vs => some vs
  | _ => none
def gValsI (ge : GE) : GI := fun Γ M => (ge Γ M).bind fun d M1 => opR (dVals d) M1
theorem qi_values {X : Cx} {C : CT} {W : WX} {tg e : Expr} {g : GE} {apos cpos : Pos} (ha : QE X C W e g) (hbase : attributeBase e "values" X.env (eval e X.env) = eval e X.env := by rfl) (hline : (apos.endLine == cpos.line) = true := by rfl) : QI X C W tg (.Call (.Attribute e "values" apos) [] [] cpos) (gValsI g) := by
  obtain ⟨ta, pa, qa⟩ := ha
  refine ⟨_, pi_valuesN pa hbase hline, fun σ H Z ι Γ M Q sl hr h => qa σ H Z ι Γ M _ sl hr (h.bind fun x M1 v H1 Z1 ι1 e1 hr1 r1 h1 => ?_)⟩
  obtain ⟨ds, hd, h2⟩ := Post.of_opR (γ := D) (δ := V) h1
  cases r1 with
  | dct s rk rv =>
    cases hd
    obtain ⟨es, ep, s1, s2, s3, s4, s5⟩ := s
    obtain ⟨k1, k2⟩ := s5.valAt
    exact ⟨_, es, ep, _, rfl, s2, hr1.sub _ _ s1, ⟨by simpa using k1, fun i x hx => by
      obtain ⟨en, a1, a2⟩ := k2 i x hx
      exact ⟨en, by simpa using a1, a2⟩⟩, h2 _ H1 Z1 ι1 .refl hr1 (itr_keys s1 rv)⟩
  | _ => cases hd
@[simp] theorem u_gValsI (ge : GE) (Γ : Env) (M : List MO) : gValsI ge Γ M = (ge Γ M).bind fun d M1 => opR (dVals d) M1 := Eq.trans rfl rfl
@[simp] theorem e_vals (ks vs : List D) : dVals (.dct ks vs) = some vs := Eq.trans rfl rfl
end Bk

set_option Elab.async false
set_option linter.all false
set_option maxRecDepth 100000
set_option maxHeartbeats 2000000
namespace Bk
open PySem PySem.Spec PyProof.Rows L2
/-! ### for k, v in d.items() -/
def Itm (d : Addr) (es : Array DictEntry) (ep : Nat) (kx xs : List V) : It :=
  ⟨fun i H => H d = some (dnO d es ep) ∧ i < xs.length, fun i H x H' => ∃ T k v, kx[i]? = some k ∧ xs[i]? = some v ∧ x = .ref T ∧ H T = none ∧ H' = upd H T (.tup [k, v]), fun i H => H d = some (dnO d es ep) ∧ xs.length ≤ i⟩
section
variable {P : Program} {w : World} {K : PySem.W.Frag} {d : Addr} {es : Array DictEntry} {ep : Nat} {kx xs : List V}
theorem turn_itemsN {elts : List Expr} {kk : Nat} {tpos : Pos} (it : Addr) (hk : KeyAt es kx) (hv : ValAt es xs) :
    Turn P w K (.Tuple elts kk tpos) (Itm d es ep kx xs) [it] it (fun i h => ∃ ok ov, IsItemIter h it d i es.size ep ok ov) where
  mem := by simp
  obj := fun i h st b hb => by
    have e : b = it := by simpa using hb
    subst e
    obtain ⟨ok, ov, e⟩ := st
    exact ⟨_, e, fun v z => nomatch z⟩
  keep := fun i h h' st k => let ⟨ok, ov, e⟩ := st; ⟨ok, ov, k it (by simp) _ e⟩
  item := by
    intro X hP hw hK hc i pins s σ H E I hf st hg
    subst hP hw hK
    obtain ⟨hd, hi⟩ := hg
    obtain ⟨hm, _, _⟩ := I.hok d _ hd
    have hz : i < es.size := by rw [hv.1]; exact hi
    have hkx : i < kx.length := by rw [← hk.1]; exact hz
    obtain ⟨e1, he1, rk⟩ := hk.2 i _ (List.getElem?_eq_getElem hkx)
    obtain ⟨e2, he2, rv⟩ := hv.2 i _ (List.getElem?_eq_getElem hi)
    rw [Array.getElem?_eq_getElem hz] at he1 he2
    cases he1
    cases he2
    obtain ⟨ok, ov, he⟩ := st
    have hlt : it < s.heap.objs.size := Heap.lt_size he
    refine wpAny_pyNext_items_item_raw he hm hz fun h' ho hT hsz hkeep => ?_
    refine ⟨_, rfl, wpAny_letOwnedTupleGo_items (s := { s with heap := h' }) ho fun h'' he' sb => ?_⟩
    have hT2 : h''.get? s.heap.objs.size = some { cls := .type "tuple", data := .seq #[es[i].key, es[i].val] } := (sb.2 _ (Nat.ne_of_gt hlt)).trans hT
    have new : ObjOk X.prog X.w (upd H s.heap.objs.size (.tup [kx[i], xs[i]])) h'' s.heap.objs.size (.tup [kx[i], xs[i]]) :=
      ⟨by show 2 ≤ sizeLine; decide, [es[i].key, es[i].val], .cons rk (.cons rv .nil), ⟨_, hT2, rfl, _, rfl⟩⟩
    have I1 : Inv X pins σ (upd H s.heap.objs.size (.tup [kx[i], xs[i]])) { s with heap := h'' } :=
      I.turnedNew (t' := s.toks) (ch := [it]) (fun b ob hb e => (sb.2 b (by simpa using hb)).trans (hkeep b ob (by simpa using hb) e)) hf (Nat.le_refl _) new
    refine ⟨.ref s.heap.objs.size, _, I1, rfl, ⟨_, _, _, List.getElem?_eq_getElem hkx, List.getElem?_eq_getElem hi, rfl, I.hok.fresh (Nat.le_refl _), rfl⟩, ⟨_, _, he'⟩, fun b hb => ?_⟩
    have e : b = it := by simpa using hb
    rw [e, upd_ne (Nat.ne_of_lt hlt)]
    exact (hf it (by simp)).1
  done := by
    intro X hP hw hK hc i pins s σ H E I hf st hg
    subst hP hw hK
    obtain ⟨hd, hi⟩ := hg
    obtain ⟨f0, f1, f2, f3, f4, f5⟩ := hf it (by simp)
    obtain ⟨hm, _, _⟩ := I.hok d _ hd
    obtain ⟨ok, ov, he⟩ := st
    exact wpAny_pyNext_items_end_raw (I.ok.hd hc) he hm (by rw [hv.1]; exact hi) fun h' eb => ⟨rfl, I.turned (t' := s.toks) (fun b ob hb e => eb b ob hb e) f0 f1 f3 f4 f5⟩
  self := fun A i s Q E st h => let ⟨_, _, e⟩ := st; PySem.W.kcp_self e h
end
def iItemsN (td : TE) : TI := fun σ H R => td σ H fun x H1 => ∃ (d : Addr) (es : Array DictEntry) (ep : Nat) (kx xs : List V), x = .ref d ∧ (d == sysModules) = false ∧ H1 d = some (dnO d es ep) ∧ KeyAt es kx ∧ ValAt es xs ∧ R (Itm d es ep kx xs) H1
theorem pi_itemsN {X : Cx} {e : Expr} {td : TE} {elts : List Expr} {kk : Nat} {tpos apos cpos : Pos} (he : PE X e td) (hbase : attributeBase e "items" X.env (eval e X.env) = eval e X.env := by rfl) (hline : (apos.endLine == cpos.line) = true := by rfl) :
    PI X (.Tuple elts kk tpos) (.Call (.Attribute e "items" apos) [] [] cpos) (iItemsN td) := by
  refine ⟨fun pins s σ H R I h => ?_⟩
  refine wpAny_Call_method (T := "dict") (id := "dict.items") hbase rfl hline F.plainAttrs_dict F.slot_dict_items F.type_dict_items (thn (he.run pins s σ H _ I h) fun u s1 ⟨x, H1, I1, rx, d, es, ep, kx, xs, ex, hs, hd, hk, hv, q⟩ => ?_)
  subst ex
  obtain rfl : u = Value.ref d := rx
  obtain ⟨hm, _, _⟩ := I1.hok d _ hd
  have hm' : s1.heap.DictRaw d es ep := hm
  obtain ⟨o, ho, hx, hdt⟩ := id hm
  refine ⟨hm'.typeIs, ?_, ?_⟩
  · exact fun a e => by cases e; exact ⟨o, ho, hx.2.1⟩
  have I2 : Inv X pins σ H1 { s1 with heap := s1.heap.push { cls := .type "dict_items", data := .fields #[.ref d] } } := I1.kept (t' := s1.toks) fun b ob q => Heap.get?_push_of_some _ q
  have hm2 : (s1.heap.push { cls := .type "dict_items", data := .fields #[.ref d] }).DictRaw d es ep := hm'.at fun o e => Heap.get?_push_of_some _ e
  have fin : wpAny (model X.prog X.w) X.A (pyIter (.ref s1.heap.objs.size)) (PIE X pins σ (.Tuple elts kk tpos) R) X.xe { s1 with heap := s1.heap.push { cls := .type "dict_items", data := .fields #[.ref d] } } :=
    wpAny_pyIter_items_raw (d := d) ⟨_, Heap.get?_push_size _ rfl, rfl, rfl⟩ hm2 (pi_one (tk := s1.toks) I2 _ (turn_itemsN _ hk hv) ⟨.none, .none, Heap.get?_push_size _ rfl⟩ q)
  show wpAny _ _ (callWith cpos (.builtin "dict.items") [.ref d] [] []) _ X.xe s1
  exact method_meetsIn F.slot_dict_items F.entry_dict_items rfl (PySem.evalArgs_none ⟨rfl, hm'.typeIs, F.args_dict_items_1 _, _, meets_dict_items_raw d hs, ⟨⟨es, ep, hm'⟩, fin⟩⟩)
def pairsD (ks vs : List D) : List D := (ks.zip vs).map fun p => .tup [p.1, p.2]
def dItems : D → Option (List D)
  | .dct ks vs => some (pairsD ks vs)
  | _ => none
def gItemsI (ge : GE) : GI := fun Γ M => (ge Γ M).bind fun d M1 => opR (dItems d) M1
theorem itr_items {K : PySem.W.Frag} {Z : Hp} {ι : Nat → Addr} {n : Nat} {a : Addr} {es : Array DictEntry} {ep : Nat} {kx xs : List V} {ks vs : List D} (h : Z a = some (dnO a es ep)) (r : Rps K Z ι n ks kx) (r' : Rps K Z ι n vs xs) (hl : kx.length = xs.length) : ItR K (Itm a es ep kx xs) (pairsD ks vs) Z ι n := by
  intro i H' Z' ι' M' hz hi hn hr _
  have h' : H' a = some (dnO a es ep) := hr.sub _ _ (hz _ _ h)
  have l := r.length
  have l' := r'.length
  have lp : (pairsD ks vs).length = xs.length := by unfold pairsD; rw [List.length_map, List.length_zip]; omega
  refine ⟨fun hh => ⟨h', by rw [← lp]; exact Nat.le_of_eq hh⟩, fun d hd => ?_⟩
  have lt : i < xs.length := by rw [← lp]; exact (List.getElem?_eq_some_iff.mp hd).1
  obtain ⟨dk, hk1⟩ : ∃ x, ks[i]? = some x := ⟨_, List.getElem?_eq_getElem (by omega)⟩
  obtain ⟨dv, hv1⟩ : ∃ x, vs[i]? = some x := ⟨_, List.getElem?_eq_getElem (by omega)⟩
  have ed : d = .tup [dk, dv] := by
    unfold pairsD at hd
    rw [List.getElem?_map, show (ks.zip vs)[i]? = some (dk, dv) from List.getElem?_zip_eq_some.mpr ⟨hk1, hv1⟩] at hd
    exact (Option.some.inj hd).symm
  subst ed
  obtain ⟨vk, hk2, rk⟩ := r.get hk1
  obtain ⟨vv, hv2, rv⟩ := r'.get hv1
  refine ⟨⟨h', lt⟩, fun x H2 hy => ?_⟩
  obtain ⟨T, k, v, a1, a2, rfl, hT, rfl⟩ := hy
  rw [hk2] at a1
  rw [hv2] at a2
  cases a1
  cases a2
  obtain ⟨q1, q2⟩ := hr.frozen (o := .tup [vk, vv]) hT
  exact ⟨_, q2, q1, .tup (.inl (.inl upd_same)) (.cons (Rp.ext (Rp.mono hz hi hn _ _ rk) q2) (.cons (Rp.ext (Rp.mono hz hi hn _ _ rv) q2) .nil))⟩
theorem qi_items {X : Cx} {C : CT} {W : WX} {e : Expr} {g : GE} {elts : List Expr} {kk : Nat} {tpos apos cpos : Pos} (ha : QE X C W e g) (hbase : attributeBase e "items" X.env (eval e X.env) = eval e X.env := by rfl) (hline : (apos.endLine == cpos.line) = true := by rfl) :
    QI X C W (.Tuple elts kk tpos) (.Call (.Attribute e "items" apos) [] [] cpos) (gItemsI g) := by
  obtain ⟨ta, pa, qa⟩ := ha
  refine ⟨_, pi_itemsN pa hbase hline, fun σ H Z ι Γ M Q sl hr h => qa σ H Z ι Γ M _ sl hr (h.bind fun x M1 v H1 Z1 ι1 e1 hr1 r1 h1 => ?_)⟩
  obtain ⟨ds, hd, h2⟩ := Post.of_opR (γ := D) (δ := V) h1
  cases r1 with
  | dct s rk rv =>
    cases hd
    obtain ⟨es, ep, s1, s2, s3, s4, s5⟩ := s
    obtain ⟨k1, k2⟩ := s5.keyAt
    obtain ⟨v1, v2⟩ := s5.valAt
    exact ⟨_, es, ep, _, _, rfl, s2, hr1.sub _ _ s1, ⟨by simpa using k1, fun i x hx => by
      obtain ⟨en, a1, a2⟩ := k2 i x hx
      exact ⟨en, by simpa using a1, a2⟩⟩, ⟨by simpa using v1, fun i x hx => by
      obtain ⟨en, a1, a2⟩ := v2 i x hx
      exact ⟨en, by simpa using a1, a2⟩⟩, h2 _ H1 Z1 ι1 .refl hr1 (itr_items s1 rk rv (ents_len s5))⟩
  | _ => cases hd
@[simp] theorem u_gItemsI (ge : GE) (Γ : Env) (M : List MO) : gItemsI ge Γ M = (ge Γ M).bind fun d M1 => opR (dItems d) M1 := Eq.trans rfl rfl
@[simp] theorem e_items (ks vs : List D) : dItems (.dct ks vs) = some (pairsD ks vs) := Eq.trans rfl rfl
end Bk

set_option Elab.async false
set_option linter.all false
set_option maxRecDepth 100000
set_option maxHeartbeats 2000000
namespace Bk
open PySem PySem.Spec PyProof.Rows L2
/-! ### d.get(k, x) -/
def rGetN (K : PySem.W.Frag) : V → List V → Hp → VK → Prop := fun x xs H Q => ∃ (a b : Addr) (nks nks' : List NestedKey) (ks vs : List V) (k : NestedKey) (z : V), x = .ref a ∧ xs = [.ref b, z] ∧ AllRef ks ∧ ExD K H a nks ks vs ∧ KeyVs K H nks' ks ∧ KeyV K H k (.ref b) ∧ k.depth ≤ 8 ∧
  (match (posK k nks').bind fun i => vs[i]? with
    | some v => Q v H
    | none => posK k nks' = none ∧ Q z H)
theorem mt_getN {X : Cx} (hu : X.A.units + 1 + 8 < cLine) : MtR X "dict.get" (rGetN X.K) := by
  intro pins s σ H x xs v us Q I rx rxs h
  obtain ⟨a, b, nks, nks', ks, vs, k, z, rfl, rfl, hrf, hd, hks, hk, hdp, q⟩ := h
  have en := hd.keys I hks
  subst en
  obtain rfl : v = Value.ref a := rx
  cases rxs with
  | cons rb rt =>
    rename_i ub ut
    obtain rfl : ub = Value.ref b := rb
    obtain ⟨uz, rfl, rz⟩ := Vals.one rt
    obtain ⟨ys, dd, e2, e4, e5⟩ := hd.of I hrf
    have nd : (ys.map (·.1)).Nodup := by
      obtain ⟨_, _, _, _, _, _, _, _, w⟩ := dd
      exact w
    have hkey : (NK X).is s.heap k b := ⟨KeyV.is I k _ _ hk rfl, hdp⟩
    have hsm : (a == sysModules) = false := by obtain ⟨_, _, _, w, _⟩ := hd; exact w
    have hq : EP X pins σ Q (((atKey ys k).map (·.2)).getD uz) { s with toks := s.toks + (NK X).draws k } := by
      cases p : posK k nks with
      | none =>
        rw [p] at q
        have q' : (none : Option Nat) = none ∧ Q z H := q
        rw [atKey_none (by rw [e2]; exact posK_none p)]
        exact ⟨z, H, I.tok _, rz, q'.2⟩
      | some i =>
        have hi := posK_at p
        rw [← e2, List.getElem?_map] at hi
        cases hy : ys[i]? with
        | none => rw [hy] at hi; cases hi
        | some y =>
          rw [hy] at hi
          have ky : y.1 = k := Option.some.inj hi
          have lt : i < vs.length := by rw [← e4]; exact (List.getElem?_eq_some_iff.mp hy).1
          obtain ⟨y', hy', ry⟩ := e5 i _ (List.getElem?_eq_getElem lt)
          rw [hy] at hy'
          cases hy'
          have ak := atKey_at nd hy
          rw [ky] at ak
          rw [ak]
          rw [p, Option.bind_some, List.getElem?_eq_getElem lt] at q
          exact ⟨_, H, I.tok _, ry, q⟩
    exact call_meetsIn F.slot_dict_get dd.typeIs F.entry_dict_get (F.args_dict_get_3 _ _ _) (meetsH_dict_get_default (NK X) a b hsm uz) ⟨(show (NK X).room X.A.in1 from hu), k, ys, hkey, dd, hq⟩
def tGetN (X : Cx) (to : TE) (t : TA) : TE := fun σ H Q => to σ H fun x H1 => (∃ (a : Addr) (nks : List NestedKey) (ks vs : List V), x = .ref a ∧ AllRef ks ∧ ExD X.K H1 a nks ks vs) ∧ t σ H1 fun vs H2 => rGetN X.K x vs H2 Q
theorem pe_getN {X : Cx} {o e : Expr} {es : List Expr} {to : TE} {t : TA} {apos cpos : Pos} (hu : X.A.units + 1 + 8 < cLine) (ho : PE X o to) (ha : PA X (e :: es) t)
    (hbase : attributeBase o "get" X.env (eval o X.env) = eval o X.env := by rfl)
    (hfew : ((backTo cpos (starEach (e :: es) X.env)).all (fun x => !x.1) && (backToKw cpos (keywordEach [] X.env)).all (fun x => x.1.isSome) && decide ((e :: es).length + ([] : List Keyword).length + (if ([] : List Keyword).isEmpty then 0 else 1) < 30)) = true := by rfl)
    (hline : (apos.endLine == cpos.line) = true := by rfl) (hs : starEach (e :: es) X.env = (false, eval e X.env) :: starEach es X.env := by rfl) (hplain : (backTo cpos (starEach es X.env)).any (·.1) = false := by rfl) :
    PE X (.Call (.Attribute o "get" apos) (e :: es) [] cpos) (tGetN X to t) := by
  refine ⟨fun pins s σ H Q I h => ?_⟩
  refine wpAny_Call_method_late hbase hfew hline rfl (thn (ho.run pins s σ H _ I h) fun v s1 ⟨x, H1, I1, r1, q1⟩ => ?_)
  obtain ⟨⟨a, nks, ks, vs, rfl, hrf, hd⟩, q2⟩ := q1
  obtain rfl : v = Value.ref a := r1
  obtain ⟨ys, dd, _, _, _⟩ := hd.of I1 hrf
  obtain ⟨od, es', ep', hod, hcd, _⟩ := id dd
  refine ⟨"dict", "dict.get", F.plainAttrs_dict, F.slot_dict_get, F.type_dict_get, dd.typeIs, fun b e => by cases e; exact ⟨od, hod, hcd.2.1⟩, ?_⟩
  have hA := ha.run cpos pins s1 σ H1 _ I1 q2
  rw [hs] at hA ⊢
  refine Calls.callWith_builtin (by show (false || (backTo cpos (starEach es X.env)).any (·.1)) = false; rw [hplain] <;> rfl) (Calls.evalArgs_plain ?_)
  exact thn hA fun us s2 ⟨vs2, H2, I2, r2, q3⟩ => mt_getN hu pins s2 σ H2 (.ref a) vs2 (.ref a) us Q I2 rfl r2 q3
def dGetN (M : List MO) (x y z : D) : Option D := match dctD M x with
  | some p => (lookD p.1 p.2 y).map fun o => o.getD z
  | none => none
def isDct (M : List MO) (d : D) : Bool := match dctD M d with
  | some p => p.1.all isTup
  | none => false
def gGetN (go gk gx : GE) : GE := fun Γ M => (go Γ M).bind fun x M1 => if isDct M1 x = true then (gk Γ M1).bind fun y M2 => (gx Γ M2).bind fun z M3 => opR (dGetN M3 x y z) M3 else .bad
theorem posK_lt {k : NestedKey} : ∀ {xs : List NestedKey} {i : Nat}, posK k xs = some i → i < xs.length := fun h => (List.getElem?_eq_some_iff.mp (posK_at h)).1
theorem qe_getN {X : Cx} {C : CT} {W : WX} {o e e2 : Expr} {go gk gx : GE} {apos cpos : Pos} (hu : X.A.units + 1 + 8 < cLine) (ho : QE X C W o go) (hk : QE X C W e gk) (hx : QE X C W e2 gx)
    (hbase : attributeBase o "get" X.env (eval o X.env) = eval o X.env := by rfl)
    (hfew : ((backTo cpos (starEach [e, e2] X.env)).all (fun x => !x.1) && (backToKw cpos (keywordEach [] X.env)).all (fun x => x.1.isSome) && decide ([e, e2].length + ([] : List Keyword).length + (if ([] : List Keyword).isEmpty then 0 else 1) < 30)) = true := by rfl)
    (hline : (apos.endLine == cpos.line) = true := by rfl) (hs : starEach [e, e2] X.env = (false, eval e X.env) :: starEach [e2] X.env := by rfl) (hs2 : starEach [e2] X.env = (false, eval e2 X.env) :: starEach [] X.env := by rfl) (hplain : (backTo cpos (starEach [e2] X.env)).any (·.1) = false := by rfl) :
    QE X C W (.Call (.Attribute o "get" apos) [e, e2] [] cpos) (gGetN go gk gx) := by
  obtain ⟨ta, pa, qa⟩ := ho
  obtain ⟨tb, pb, qb⟩ := hk
  obtain ⟨tc, pc, qc⟩ := hx
  refine ⟨_, pe_getN hu pa (pa_cons pb (pa_cons pc pa_nil hs2) hs) hbase hfew hline hs hplain, fun σ H Z ι Γ M Q sl hr h => qa σ H Z ι Γ M _ sl hr (h.bind fun x M1 v H1 Z1 ι1 e1 hr1 r1 h1 => ?_)⟩
  by_cases c : isDct M1 x = true
  · rw [if_pos c] at h1
    unfold isDct at c
    cases ed : dctD M1 x with
    | none => rw [ed] at c; cases c
    | some p =>
      rw [ed] at c
      have c : p.1.all isTup = true := c
      refine ⟨?_, qb σ H1 Z1 ι1 Γ M1 _ (sl.ext e1) hr1 (h1.bind fun y M2 u H2 Z2 ι2 e2 hr2 r2 h2 => qc σ H2 Z2 ι2 Γ M2 _ ((sl.ext e1).ext e2) hr2 (h2.bind fun z M3 uz H3 Z3 ι3 e3 hr3 r3 h3 => ?_))⟩
      · obtain ⟨a, nks, kx, xs, b1, b2, b3, b4⟩ := dctD_run hr1 r1 ed
        exact ⟨_, _, _, _, b1, tups_ref b3 c, b2⟩
      · obtain ⟨d, hd, h4⟩ := Post.of_opR (γ := D) (δ := V) h3
        unfold dGetN at hd
        cases ed3 : dctD M3 x with
        | none => rw [ed3] at hd; cases hd
        | some p3 =>
          rw [ed3] at hd
          simp only at hd
          cases e5 : lookD p3.1 p3.2 y with
          | none => rw [e5] at hd; cases hd
          | some oo =>
            rw [e5] at hd
            cases hd
            obtain ⟨a, b, nks, nks', kx, xs, k, a1, a2, a2', a3, a4, a5, a6, a7, a8⟩ := look_run hr3 ((r1.ext e2).ext e3) (r2.ext e3) ed3 e5
            subst a1 a2
            refine ⟨a, b, nks, nks', kx, xs, k, uz, rfl, rfl, a2', a3, a4, a5, a6, ?_⟩
            cases p : posK k nks' with
            | none =>
              rw [p] at a8
              have a9 : oo = none := a8
              subst a9
              exact ⟨rfl, h4 _ H3 Z3 ι3 .refl hr3 r3⟩
            | some i =>
              rw [p, Option.bind_some] at a8
              rw [Option.bind_some]
              have lt : i < p3.2.length := by
                obtain ⟨_, _, _, _, _, _, hE⟩ := a3
                have l1 := ents_len hE
                have l2 := a7.length
                have l3 := posK_lt p
                have l4 : ∀ {nk : List NestedKey} {kv : List V}, KeyVs X.K H3 nk kv → nk.length = kv.length := fun {nk} => by
                  induction nk with
                  | nil => intro kv hh; cases hh; rfl
                  | cons n nk ih =>
                    intro kv hh
                    cases hh with
                    | cons q1 q2 => rw [List.length_cons, List.length_cons, ih q2]
                have := l4 a4
                omega
              rw [List.getElem?_eq_getElem lt] at a8
              subst a8
              obtain ⟨vv, hv, rv⟩ := a7.get (List.getElem?_eq_getElem lt)
              rw [hv]
              exact h4 _ H3 Z3 ι3 .refl hr3 rv
  · rw [if_neg c] at h1
    exact h1.elim
@[simp] theorem u_gGetN (go gk gx : GE) (Γ : Env) (M : List MO) : gGetN go gk gx Γ M = (go Γ M).bind fun x M1 => if isDct M1 x = true then (gk Γ M1).bind fun y M2 => (gx Γ M2).bind fun z M3 => opR (dGetN M3 x y z) M3 else .bad := Eq.trans rfl rfl
end Bk

set_option Elab.async false
set_option linter.all false
set_option maxRecDepth 100000
set_option maxHeartbeats 4000000
namespace Bk
open PySem PySem.Spec PyProof.Rows L2
/-! ### {k: v for t in it for t1 in it1} -/
section
variable {prog : Program} {w : World} {A : Around} {R : Result → Shared → Prop} {s : Shared} {kx vx t0 i0 t1 i1 : Expr} {ifs0 ifs1 : List Expr} {scope : Scope} {pos : Pos} {it : Value} {D : Addr} {env : PySem.Env}
abbrev dcE (kx vx t0 i0 t1 i1 : Expr) (ifs0 ifs1 : List Expr) (scope : Scope) (pos : Pos) : Expr := .DictComp kx vx [⟨t0, i0, ifs0, 0⟩, ⟨t1, i1, ifs1, 0⟩] scope pos
theorem dc2_out : compTurn (dcE kx vx t0 i0 t1 i1 ifs0 ifs1 scope pos) 0 it (.ref D) env = (do
      standAt i0.pos
      match ← pyNext it with
      | none => pure (.done .next)
      | some v =>
        letOwnedTupleGo t0 it v
        assign t0 env v
        let mut ok := true
        for c in ifs0 do
          if ok then ok ← PySem.isTrue c env (eval c env)
        if ok then
          let x ← eval i1 env
          standAt i1.pos
          let x ← foldedSetIterable i1 env x
          let _ ← runOwn (.compStart (dcE kx vx t0 i0 t1 i1 ifs0 ifs1 scope pos) 1 (← holding [x] (pyIter x)) (.ref D) env) env
        again (.compLoop (dcE kx vx t0 i0 t1 i1 ifs0 ifs1 scope pos) 0 it (.ref D) env)) := by rfl
theorem dc2_in : compTurn (dcE kx vx t0 i0 t1 i1 ifs0 ifs1 scope pos) 1 it (.ref D) env = (do
      standAt i1.pos
      match ← pyNext it with
      | none => pure (.done .next)
      | some v =>
        letOwnedTupleGo t1 it v
        assign t1 env v
        let mut ok := true
        for c in ifs1 do
          if ok then ok ← PySem.isTrue c env (eval c env)
        if ok then
          (do
            let kv ← eval kx env
            let vv ← holding [kv] (eval vx env)
            standAt { kx.pos with endLine := vx.pos.endLine, endCol := vx.pos.endCol }
            holding [kv, vv] (dictSet D kv vv))
        again (.compLoop (dcE kx vx t0 i0 t1 i1 ifs0 ifs1 scope pos) 1 it (.ref D) env)) := by rfl
abbrev nB (prog : Program) (w : World) (A : Around) (env : PySem.Env) (R : Result → Shared → Prop) : Value → Shared → Prop := notedBy (model prog w) A env fun e s' => R (.error e) s'
/-- the first clause's loop -/
theorem dc2_loop0 (hs : ∀ x, foldedSetIterable i1 env x = pure x) (I : Nat → Shared → Prop)
    (turn : ∀ n s, I n s → wpAny (model prog w) A (pyNext it) (fun r s1 => match r with
      | none => R (.ok .next) s1
      | some v => wpAny (model prog w) A (letOwnedTupleGo t0 it v) (fun _ s2 => wpAny (model prog w) A (assign t0 env v) (fun _ s3 =>
          wpAny (model prog w) A (forIn ifs0 true fun c r => if r = true then do let ok ← PySem.isTrue c env (eval c env); pure (ForInStep.yield ok) else pure (ForInStep.yield r)) (fun ok s4 =>
            if ok = true then wpAny (model prog w) A (eval i1 env) (fun x s5 => wpAny (model prog w) A (pyIter x) (fun it1 s6 =>
              codeAny (model prog w) A (.compStart (dcE kx vx t0 i0 t1 i1 ifs0 ifs1 scope pos) 1 it1 (.ref D) env) (fun r s' => match r with
                | .ok _ => ∃ m, m < n ∧ I m s'
                | .error _ => False) s6) (nB prog w A env R) s5) (nB prog w A env R) s4
            else ∃ m, m < n ∧ I m s4) (nB prog w A env R) s3) (nB prog w A env R) s2) (nB prog w A env R) s1) (nB prog w A env R) s)
    (n : Nat) (h : I n s) : codeAny (model prog w) A (.compLoop (dcE kx vx t0 i0 t1 i1 ifs0 ifs1 scope pos) 0 it (.ref D) env) R s := by
  refine codeAny_loop rfl I (fun n s hI => ?_) n h
  show wpAny _ A ((compTurn (dcE kx vx t0 i0 t1 i1 ifs0 ifs1 scope pos) 0 it (.ref D) env).onRaise (fun x => do noteFrame x env; theTreesLotGoes x)) _ _ s
  refine wpAny_noted ?_
  rw [dc2_out]
  refine wpAny_bind (wpAny_standAt (wpAny_bind (wpAny_mono (turn n s hI) (fun r s1 h1 => ?_) fun _ _ q => q)))
  cases r with
  | none => exact wpAny_pure h1
  | some v =>
    refine wpAny_bind (wpAny_mono h1 (fun _ s2 h2 => ?_) fun _ _ q => q)
    refine wpAny_bind (wpAny_mono h2 (fun _ s3 h3 => wpAny_bind (wpAny_mono h3 (fun ok s4 h4 => ?_) fun _ _ q => q)) fun _ _ q => q)
    cases ok with
    | false => exact wpAny_pure ⟨rfl, h4⟩
    | true =>
      refine wpAny_bind (wpAny_mono h4 (fun x s5 h5 => ?_) fun _ _ q => q)
      refine wpAny_bind (wpAny_standAt (wpAny_bind (wpAny_of_eq (hs x) (wpAny_bind (wpAny_holding (wpAny_mono h5 (fun it1 s6 h6 => ?_) fun _ _ q => q))))))
      refine wpAny_bind (wpAny_runOwn ?_)
      rw [Around.mark_none]
      refine codeAny_mono h6 fun r s' hr => ?_
      cases r with
      | ok f =>
        first
          | exact wpAny_pure ⟨rfl, hr⟩
          | exact wpAny_bind (wpAny_pure (wpAny_pure ⟨rfl, hr⟩))
      | error e => exact hr.elim
/-- the second clause's loop -/
theorem dc2_loop1 (I : Nat → Shared → Prop)
    (turn : ∀ n s, I n s → wpAny (model prog w) A (pyNext it) (fun r s1 => match r with
      | none => R (.ok .next) s1
      | some v => wpAny (model prog w) A (letOwnedTupleGo t1 it v) (fun _ s2 => wpAny (model prog w) A (assign t1 env v) (fun _ s3 =>
          wpAny (model prog w) A (forIn ifs1 true fun c r => if r = true then do let ok ← PySem.isTrue c env (eval c env); pure (ForInStep.yield ok) else pure (ForInStep.yield r)) (fun ok s4 =>
            if ok = true then wpAny (model prog w) A (eval kx env) (fun kv s5 => wpAny (model prog w) A (eval vx env) (fun vv s6 =>
              wpAny (model prog w) A (dictSet D kv vv) (fun _ s7 => ∃ m, m < n ∧ I m s7) (nB prog w A env R) s6) (nB prog w A env R) s5) (nB prog w A env R) s4
            else ∃ m, m < n ∧ I m s4) (nB prog w A env R) s3) (nB prog w A env R) s2) (nB prog w A env R) s1) (nB prog w A env R) s)
    (n : Nat) (h : I n s) : codeAny (model prog w) A (.compLoop (dcE kx vx t0 i0 t1 i1 ifs0 ifs1 scope pos) 1 it (.ref D) env) R s := by
  refine codeAny_loop rfl I (fun n s hI => ?_) n h
  show wpAny _ A ((compTurn (dcE kx vx t0 i0 t1 i1 ifs0 ifs1 scope pos) 1 it (.ref D) env).onRaise (fun x => do noteFrame x env; theTreesLotGoes x)) _ _ s
  refine wpAny_noted ?_
  rw [dc2_in]
  refine wpAny_bind (wpAny_standAt (wpAny_bind (wpAny_mono (turn n s hI) (fun r s1 h1 => ?_) fun _ _ q => q)))
  cases r with
  | none => exact wpAny_pure h1
  | some v =>
    refine wpAny_bind (wpAny_mono h1 (fun _ s2 h2 => ?_) fun _ _ q => q)
    refine wpAny_bind (wpAny_mono h2 (fun _ s3 h3 => wpAny_bind (wpAny_mono h3 (fun ok s4 h4 => ?_) fun _ _ q => q)) fun _ _ q => q)
    cases ok with
    | false => exact wpAny_pure ⟨rfl, h4⟩
    | true =>
      exact wpAny_bind (wpAny_bind (wpAny_mono h4 (fun kv s5 h5 => wpAny_bind (wpAny_holding (wpAny_mono h5 (fun vv s6 h6 => wpAny_bind (wpAny_standAt (wpAny_holding (wpAny_mono h6 (fun _ s7 h7 => wpAny_pure ⟨rfl, h7⟩) fun _ _ q => q)))) fun _ _ q => q))) fun _ _ q => q))
theorem dc2_start (h0 : codeAny (model prog w) A (.compLoop (dcE kx vx t0 i0 t1 i1 ifs0 ifs1 scope pos) 1 it (.ref D) env) R s)
    (h : wpAny (model prog w) A (pyIter it) (fun it' s' => codeAny (model prog w) A (.compLoop (dcE kx vx t0 i0 t1 i1 ifs0 ifs1 scope pos) 1 it' (.ref D) env) R s') (nB prog w A env R) s) :
    codeAny (model prog w) A (.compStart (dcE kx vx t0 i0 t1 i1 ifs0 ifs1 scope pos) 1 it (.ref D) env) R s := by
  refine codeAny_of_tree ?_
  show wpAny _ _ ((compStart (dcE kx vx t0 i0 t1 i1 ifs0 ifs1 scope pos) 1 it (.ref D) env).onRaise (fun x => do noteFrame x env; standAt theWindowsPlace)) _ _ s
  refine wpAny_notedAt ?_
  unfold compStart
  show wpAny _ _ (ask >>= _) _ _ s
  refine wpAny_bind (wpAny_askSetting (wpAny_ite ?_))
  split
  · first
      | exact wpAny_bind (wpAny_pure (wpAny_pure (And.intro rfl h0)))
      | exact wpAny_pure (And.intro rfl h0)
  · first
      | exact wpAny_bind (wpAny_rule (wpAny_bind (wpAny_standAt (wpAny_bind (wpAny_mono h (fun it' s' q => wpAny_pure (And.intro rfl q)) fun _ _ x => x)))))
      | (refine wpAny_bind (wpAny_rule ?_); show wpAny _ _ (standAt i1.pos >>= _) _ _ s; exact wpAny_bind (wpAny_standAt (wpAny_bind (wpAny_mono h (fun it' s' q => wpAny_pure (And.intro rfl q)) fun _ _ x => x))))
end
/-- what the second clause's walk asks -/
def tDcI (K : PySem.W.Frag) (D : Addr) (wi1 : TI) (g1 : TG) (tt1 : TT) (tk tv : TE) (vs1 : List Nat) (Nx : Hp → Prop) : L2.St → Hp → Prop := fun σ2 H3 => wi1 σ2 H3 fun J1 H4 => ∃ W1 : Nat → Nat → Hp → Prop, (∃ m, W1 0 m H4) ∧ ∀ j k H, W1 j k H →
      (J1.stop j H ∧ Nx H) ∨ (J1.go j H ∧ ∃ Nx1 : Hp → Prop, (∀ H', Nx1 H' → ∃ k', k' < k ∧ W1 (j + 1) k' H') ∧ ∀ x H', J1.yld j H x H' → g1 x (wipe σ2 vs1) H' fun σ3 H5 => wipe σ3 vs1 = wipe σ2 vs1 ∧ tt1 σ3 H5 fun b H6 =>
        if b = true then tk σ3 H6 fun y H7 => tv σ3 H7 fun z H8 => StepN K H8 D y z Nx1 else Nx1 H6)
def tDc2 (K : PySem.W.Frag) (wi : TI) (g : TG) (tt : TT) (wi1 : TI) (g1 : TG) (tt1 : TT) (tk tv : TE) (vs vs1 : List Nat) : TE := fun σ H Q => wi σ H fun J H1 => ∀ D, H1 D = none → (D == sysModules) = false → ∃ Wv : Nat → Nat → Hp → Prop, (∃ m, Wv 0 m (upd H1 D (dnO D #[] 0))) ∧ ∀ i m H, Wv i m H →
  (J.stop i H ∧ Q (.ref D) H) ∨ (J.go i H ∧ ∃ Nx : Hp → Prop, (∀ H', Nx H' → ∃ m', m' < m ∧ Wv (i + 1) m' H') ∧ ∀ x H', J.yld i H x H' → g x (wipe σ vs) H' fun σ2 H2 => wipe σ2 vs = wipe σ vs ∧ tt σ2 H2 fun b H3 =>
    if b = true then tDcI K D wi1 g1 tt1 tk tv vs1 Nx σ2 H3 else Nx H3)
section
variable {X : Cx} {kx vx tg iter tg1 iter1 : Expr} {ifs ifs1 : List Expr} {scope : Scope} {own : List (Str × Nat)} {vs1 : List Nat} {pos : Pos} {wi wi1 : TI} {g g1 : TG} {tt tt1 : TT} {tk tv : TE}
theorem dc2_core {pins : List (Addr × Obj)} {s : Shared} {σ : L2.St} {H : Hp} {Q : VK} {pos' : Pos} {use : Option (Value → Sem Unit)} {Qf : Value → Shared → Prop} (hu : X.A.units + 8 < cLine) (hc : X.calm = true) (hN : X.N.Nodup) (I : Inv X pins σ H s) (hi : PI X tg iter wi) (ok : BlkOk X.N X.env.scope scope own) (hg : Blk X scope fun Y => PG Y tg g) (ht : Blk X scope fun Y => PTs Y ifs tt) (hk : Blk X scope fun Y => PE Y kx tk) (he : Blk X scope fun Y => PE Y vx tv)
    (hv : ∀ i ∈ vs1, i ∈ own.map (·.2)) (hi1 : Blk X scope fun Y => PI Y tg1 iter1 wi1) (hg1 : Blk X scope fun Y => PG Y tg1 g1) (ht1 : Blk X scope fun Y => PTs Y ifs1 tt1) (hs1 : ∀ env x, foldedSetIterable iter1 env x = pure x)
    (hs : ∀ x, foldedSetIterable iter X.env x = pure x) (h : tDc2 X.K wi g tt wi1 g1 tt1 tk tv (own.map (·.2)) vs1 σ H Q)
    (hRR : ∀ D C s' m H', Inv X pins σ H' s' → Q (.ref D) H' → s'.heap.Ns C m → FpOk X pins H' C → compPost (model X.prog X.w) X.A X.xe use Qf (.ref D) C (.ok .next) s') :
    wpAny (model X.prog X.w) X.A (comprehension (dcE kx vx tg iter tg1 iter1 ifs ifs1 scope pos) scope X.env pos' newDict false (eval iter X.env) use) Qf X.xe s := by
  have hfree : ∀ y ∈ scope.names, y.2 = .free → ∃ c, X.env.cells.lookup y.1 = some c := fun y hy e => (ok.free y hy e).elim (fun k => I.ok.has _ (.inl k)) fun k => I.ok.has _ (.inr k)
  refine wpAny_comprehension_free (use := use) rfl hs (closure_ok hfree) ok.kind (fun y hy e => by rw [ok.uniq y hy, e]) (thn (hi.run pins s σ H _ I h) fun xv s1 hx => thn hx fun itv s2 h2 => ?_)
  obtain ⟨it, fp, tn, J, H2, e, I2, T, st2, f2, q⟩ := h2
  subst e
  refine wpAny_newObj_type (newEnv_comp ?_)
  -- the dict
  have sm : (s2.heap.objs.size == sysModules) = false := (dk_empty (P := X.prog) (w := X.w) (H := H2) s2.heap I2.big).2.1
  generalize hD : s2.heap.objs.size = D at sm ⊢
  have hDn : H2 D = none := I2.hok.fresh (Nat.le_of_eq hD)
  obtain ⟨Wv, ⟨m0, w0⟩, turn⟩ := q D hDn sm
  have hnew : (s2.heap.push { cls := .type "dict", data := .dict #[] }).get? D = some { cls := .type "dict", data := .dict #[] } := by rw [← hD]; exact Heap.get?_push_size _ rfl
  generalize hs3 : ({ s2 with heap := s2.heap.push { cls := .type "dict", data := .dict #[] } } : Shared) = s3
  have e3 : s3.heap = s2.heap.push { cls := .type "dict", data := .dict #[] } := by rw [← hs3]
  have kp3 : ∀ b o, s2.heap.get? b = some o → s3.heap.get? b = some o := fun b o e => by rw [e3]; exact Heap.get?_push_of_some _ e
  have I3 : Inv X pins σ (upd H2 D (dnO D #[] 0)) s3 := by
    rw [← hs3]
    refine I2.laid (t' := s2.toks) (fun b o e => Heap.get?_push_of_some _ e) (Nat.le_of_eq hD) ?_
    exact ⟨⟨_, hnew, ⟨rfl, rfl, rfl⟩, rfl⟩, ⟨_, hnew⟩, fun h1 h2 ⟨u, a1, a2, a3⟩ hh => ⟨u, hh u a1, a2, a3⟩⟩
  have inside : ∀ b ∈ fp, b < s2.heap.objs.size := fun b hb => let ⟨_, e, _⟩ := T.obj _ _ st2 b hb; Heap.lt_size e
  have f3 : ∀ b ∈ fp, FpOk X pins (upd H2 D (dnO D #[] 0)) b ∧ b < s3.heap.objs.size := fun b hb => by
    have lt := inside b hb
    refine ⟨⟨?_, (f2 b hb).2⟩, by rw [e3, Heap.size_push]; exact Nat.lt_succ_of_lt lt⟩
    rw [upd_ne (show b ≠ D from Nat.ne_of_lt (by rw [← hD]; exact lt))]
    exact (f2 b hb).1
  have st3 : tn 0 s3.heap := T.keep _ _ _ st2 fun b _ o e => kp3 b o e
  generalize upd H2 D (dnO D #[] 0) = H3 at *
  have I4 := block_start I3 ok hN f3
  have pg := hg s3 H3 s3.heap.objs.size (cellsFrom (s3.heap.objs.size + 1) scope.names (cloFrom X.env.cells scope.names [])) fp
  have pt := ht s3 H3 s3.heap.objs.size (cellsFrom (s3.heap.objs.size + 1) scope.names (cloFrom X.env.cells scope.names [])) fp
  have pk := hk s3 H3 s3.heap.objs.size (cellsFrom (s3.heap.objs.size + 1) scope.names (cloFrom X.env.cells scope.names [])) fp
  have pi1 := hi1 s3 H3 s3.heap.objs.size (cellsFrom (s3.heap.objs.size + 1) scope.names (cloFrom X.env.cells scope.names [])) fp
  have pg1 := hg1 s3 H3 s3.heap.objs.size (cellsFrom (s3.heap.objs.size + 1) scope.names (cloFrom X.env.cells scope.names [])) fp
  have pt1 := ht1 s3 H3 s3.heap.objs.size (cellsFrom (s3.heap.objs.size + 1) scope.names (cloFrom X.env.cells scope.names [])) fp
  have pv := he s3 H3 s3.heap.objs.size (cellsFrom (s3.heap.objs.size + 1) scope.names (cloFrom X.env.cells scope.names [])) fp
  show codeAny _ _ (.compStart (dcE kx vx tg iter tg1 iter1 ifs ifs1 scope pos) 0 (.ref it) (.ref D) (compEnvC scope (cellsFrom (s3.heap.objs.size + 1) scope.names (cloFrom X.env.cells scope.names [])) s3.heap.objs.size X.env)) (compPost (model X.prog X.w) X.A X.xe use Qf (.ref D) s3.heap.objs.size) { s3 with heap := pushCells (s3.heap.push { cls := .type "dict", data := .dict #[] }) scope.names }
  generalize hce : compEnvC scope (cellsFrom (s3.heap.objs.size + 1) scope.names (cloFrom X.env.cells scope.names [])) s3.heap.objs.size X.env = ce at I4 pg pt pk pv pi1 pg1 pt1 ⊢
  have hloc : ce.locals = s3.heap.objs.size := by subst hce; rfl
  have n3 : ∀ b ∈ fp, H3 b = none := fun b hb => (f3 b hb).1.1
  generalize hs4 : ({ s3 with heap := pushCells (s3.heap.push { cls := .type "dict", data := .dict #[] }) scope.names } : Shared) = s4 at I4 ⊢
  have st4 : tn 0 s4.heap := T.keep _ _ _ st3 fun b _ o e => by rw [← hs4]; exact pushCells_keeps _ _ _ _ (Heap.get?_push_of_some _ e)
  -- what stays true of the walked things inside the block
  have fps : ∀ {σ' : L2.St} {H' : Hp} {s' : Shared}, Inv (X.blk s3 H3 scope ce fp) [] σ' H' s' → (∀ b ∈ fp, H' b = none) → ∀ b ∈ fp, FpOk (X.blk s3 H3 scope ce fp) [] H' b := fun {σ' H' s'} J' nn b hb =>
    ⟨nn b hb, (J'.ok.exf b hb).1, J'.ok.exfs b hb, .inl hb, fun x c e => (J'.ok.exf b hb).2 x c e, fun p hp => absurd (show p ∈ ([] : List (Addr × Obj)) ++ [] from hp) (by simp)⟩
  have loop : codeAny (model X.prog X.w) X.A (.compLoop (dcE kx vx tg iter tg1 iter1 ifs ifs1 scope pos) 0 (.ref it) (.ref D) ce) (compPost (model X.prog X.w) X.A X.xe use Qf (.ref D) s3.heap.objs.size) s4 := by
    refine dc2_loop0 (hs1 ce) (fun n s' => ∃ i H', Inv (X.blk s3 H3 scope ce fp) [] (wipe σ (own.map (·.2))) H' s' ∧ tn i s'.heap ∧ (∀ b ∈ fp, H' b = none) ∧ Wv i n H') ?_ m0 ⟨0, H3, I4, st4, n3, w0⟩
    rintro n s5 ⟨i, H5, I5, st5, n5, w5⟩
    rcases turn i n H5 w5 with ⟨stop, qq⟩ | ⟨go, Nx, hNx, step⟩
    · refine thnF (T.done (X.blk s3 H3 scope ce fp) rfl rfl rfl hc i [] s5 _ H5 (fun _ _ => False) I5 (fps I5 n5) st5 stop) fun r s6 hr6 => ?_
      obtain ⟨hr, I6⟩ := hr6
      subst hr
      have nC : H5 s3.heap.objs.size = none := by rw [← hloc]; exact I6.free
      obtain ⟨m, hn, _⟩ := I6.loc
      have hn' : s6.heap.Ns s3.heap.objs.size m := by rw [← hloc]; exact hn
      have I7 : Inv X pins σ H5 s6 := I3.call' (ch := fp) I6.os I6.base I6.hok I6.bare fun b hb => ⟨(f3 b hb).1.2.2.2.1, (f3 b hb).1.2.1, (f3 b hb).1.2.2.2.2.1, (f3 b hb).1.2.2.2.2.2⟩
      exact hRR D s3.heap.objs.size s6 m H5 I7 qq hn' (I3.fpOk (Nat.le_refl _) nC)
    · refine thnF (T.item (X.blk s3 H3 scope ce fp) rfl rfl rfl hc i [] s5 _ H5 (fun _ _ => False) I5 (fps I5 n5) st5 go) fun r s6 hr6 => ?_
      obtain ⟨u, hr, h6⟩ := hr6
      subst hr
      refine thnF h6 fun _ s7 h7 => ?_
      obtain ⟨x, H7, I7, r7, y7, st7, n7⟩ := h7
      have I7p := I7.pinned (fps I7 n7) (T.obj _ _ st7)
      refine thnF (pg.run _ s7 _ H7 x u _ I7p r7 (step x H7 y7)) fun _ s8 h8 => ?_
      obtain ⟨σ8, H8, I8, hw8, q8⟩ := h8
      refine thnF (pt.run _ s8 σ8 H8 _ I8 q8) fun b s9 h9 => ?_
      obtain ⟨H9, I9, q9⟩ := h9
      -- the turn's end, from any slots that know what the block knew
      have again : ∀ {σ9 : L2.St} {s' : Shared} {H' : Hp}, Inv (X.blk s3 H3 scope ce fp) ([] ++ pinsAt fp s7.heap) σ9 H' s' → (wipe σ (own.map (·.2))).length = σ9.length → (∀ (j : Nat) v, (wipe σ (own.map (·.2)))[j]? = some (some v) → σ9[j]? = some (some v)) → Nx H' →
          ∃ m, m < n ∧ ∃ i H', Inv (X.blk s3 H3 scope ce fp) [] (wipe σ (own.map (·.2))) H' s' ∧ tn i s'.heap ∧ (∀ b ∈ fp, H' b = none) ∧ Wv i m H' := fun {σ9 s' H'} J' hl hkn nx => by
        obtain ⟨m', hm, w'⟩ := hNx H' nx
        have pin' : ∀ b ∈ fp, ∀ o, s7.heap.get? b = some o → s'.heap.get? b = some o ∧ H' b = none := fun b hb o e =>
          ⟨(J'.pin (b, o) (List.mem_append_right _ (List.mem_append_right _ (mem_pinsAt hb e)))).1, (J'.pin (b, o) (List.mem_append_right _ (List.mem_append_right _ (mem_pinsAt hb e)))).2.1⟩
        refine ⟨m', hm, i + 1, H', (J'.unpinned (pins := [])).weak hl hkn, T.keep _ _ _ st7 fun b hb o e => (pin' b hb o e).1, fun b hb => ?_, w'⟩
        obtain ⟨o, e, _⟩ := T.obj _ _ st7 b hb
        exact (pin' b hb o e).2
      have l8 : (wipe σ (own.map (·.2))).length = σ8.length := by rw [← hw8, wipe_length]
      have k8 : ∀ (j : Nat) v, (wipe σ (own.map (·.2)))[j]? = some (some v) → σ8[j]? = some (some v) := fun j v e => by
        rw [← hw8] at e
        exact (wipe_some e).1
      have k9 : ∀ (j : Nat) v, (wipe σ (own.map (·.2)))[j]? = some (some v) → (wipe σ8 vs1)[j]? = some (some v) := fun j v e => by
        rw [← hw8] at e
        obtain ⟨e1, e2⟩ := wipe_some e
        rw [wipe_out fun z => e2 (hv j z)]
        exact e1
      cases b with
      | false => exact again I9 l8 k8 (by simpa using q9)
      | true =>
        simp only [if_true] at q9 ⊢
        refine thnF (pi1.run _ s9 σ8 H9 _ I9 q9) fun xv s10 hx => thnF hx fun itv s11 h11 => ?_
        obtain ⟨it1, fp1, tn1, J1, H11, e1, I11, T1, st11, f11, W1, ⟨m1, w1⟩, turn1⟩ := h11
        subst e1
        have fps1 : ∀ {H' : Hp}, (∀ b ∈ fp1, H' b = none) → ∀ b ∈ fp1, FpOk (X.blk s3 H3 scope ce fp) ([] ++ pinsAt fp s7.heap) H' b := fun nn b hb => ⟨nn b hb, (f11 b hb).2⟩
        have loop1 : codeAny (model X.prog X.w) X.A (.compLoop (dcE kx vx tg iter tg1 iter1 ifs ifs1 scope pos) 1 (.ref it1) (.ref D) ce)
            (fun r s' => match r with
              | .ok _ => ∃ m, m < n ∧ ∃ i H', Inv (X.blk s3 H3 scope ce fp) [] (wipe σ (own.map (·.2))) H' s' ∧ tn i s'.heap ∧ (∀ b ∈ fp, H' b = none) ∧ Wv i m H'
              | .error _ => False) s11 := by
          refine dc2_loop1 (fun k s' => ∃ j H', Inv (X.blk s3 H3 scope ce fp) ([] ++ pinsAt fp s7.heap) (wipe σ8 vs1) H' s' ∧ tn1 j s'.heap ∧ (∀ b ∈ fp1, H' b = none) ∧ W1 j k H') ?_ m1 ⟨0, H11, I11.weak (wipe_length _ _) (fun j v e => (wipe_some e).1), st11, fun b hb => (f11 b hb).1, w1⟩
          rintro k s12 ⟨j, H12, I12, st12, n12, w12⟩
          rcases turn1 j k H12 w12 with ⟨stop1, nx1⟩ | ⟨go1, Nx1, hNx1, step1⟩
          · refine thnF (T1.done (X.blk s3 H3 scope ce fp) rfl rfl rfl hc j _ s12 (wipe σ8 vs1) H12 (fun _ _ => False) I12 (fps1 n12) st12 stop1) fun r s13 h13 => ?_
            obtain ⟨hr, I13⟩ := h13
            subst hr
            exact again I13 (l8.trans (wipe_length σ8 vs1).symm) k9 nx1
          · refine thnF (T1.item (X.blk s3 H3 scope ce fp) rfl rfl rfl hc j _ s12 (wipe σ8 vs1) H12 (fun _ _ => False) I12 (fps1 n12) st12 go1) fun r s13 h13 => ?_
            obtain ⟨u1, hr, h13⟩ := h13
            subst hr
            refine thnF h13 fun _ s14 h14 => ?_
            obtain ⟨x1, H14, I14, r14, y14, st14, n14⟩ := h14
            have I14p := I14.pinned (fps1 n14) (T1.obj _ _ st14)
            refine thnF (pg1.run _ s14 (wipe σ8 vs1) H14 x1 u1 _ I14p r14 (step1 x1 H14 y14)) fun _ s15 h15 => ?_
            obtain ⟨σ15, H15, I15, hw15, q15⟩ := h15
            refine thnF (pt1.run _ s15 σ15 H15 _ I15 q15) fun b1 s16 h16 => ?_
            obtain ⟨H16, I16, q16⟩ := h16
            have again1 : ∀ {s' : Shared} {H' : Hp}, Inv (X.blk s3 H3 scope ce fp) (([] ++ pinsAt fp s7.heap) ++ pinsAt fp1 s14.heap) σ15 H' s' → Nx1 H' → ∃ m, m < k ∧ ∃ j H', Inv (X.blk s3 H3 scope ce fp) ([] ++ pinsAt fp s7.heap) (wipe σ8 vs1) H' s' ∧ tn1 j s'.heap ∧ (∀ b ∈ fp1, H' b = none) ∧ W1 j m H' := fun {s' H'} J' nx => by
              obtain ⟨m', hm, w'⟩ := hNx1 H' nx
              have pin' : ∀ b ∈ fp1, ∀ o, s14.heap.get? b = some o → s'.heap.get? b = some o ∧ H' b = none := fun b hb o e =>
                ⟨(J'.pin (b, o) (List.mem_append_right _ (List.mem_append_right _ (mem_pinsAt hb e)))).1, (J'.pin (b, o) (List.mem_append_right _ (List.mem_append_right _ (mem_pinsAt hb e)))).2.1⟩
              refine ⟨m', hm, j + 1, H', J'.unpinned.weak (by rw [← hw15, wipe_length]) (fun j v e => by rw [← hw15] at e; exact (wipe_some e).1), T1.keep _ _ _ st14 fun b hb o e => (pin' b hb o e).1, fun b hb => ?_, w'⟩
              obtain ⟨o, e, _⟩ := T1.obj _ _ st14 b hb
              exact (pin' b hb o e).2
            cases b1 with
            | false => exact again1 I16 (by simpa using q16)
            | true =>
              simp only [if_true] at q16 ⊢
              refine thnF (pk.run _ s16 σ15 H16 _ I16 q16) fun y s17 h17 => ?_
              obtain ⟨yv, H17, I17, r17, q17⟩ := h17
              refine thnF (pv.run _ s17 σ15 H17 _ I17 q17) fun z s18 h18 => ?_
              obtain ⟨zv, H18, I18, r18, b, es, ep, nks, ks, vs, k, ey, d1, d1', d2, d3, d4, d5, d6, d7⟩ := h18
              subst ey
              obtain rfl : y = Value.ref b := r17
              exact dn_set (X := X.blk s3 H3 scope ce fp) hu I18 d1 sm d1' d2 d3 d4 d5 d6 r18 fun s19 es' ep' I19 hE => again1 I19 (d7 es' ep' _ _ r18 (fun w => KeyV.free k _ d5 X.w w) hE)
        exact dc2_start loop1 (T1.self X.A 0 _ _ _ st11 loop1)
  exact codeAny_compStart_dict loop (T.self X.A 0 _ _ _ st4 loop)
theorem pe_dc2 (hu : X.A.units + 8 < cLine) (hc : X.calm = true) (hN : X.N.Nodup) (hi : PI X tg iter wi) (ok : BlkOk X.N X.env.scope scope own) (hg : Blk X scope fun Y => PG Y tg g) (ht : Blk X scope fun Y => PTs Y ifs tt) (hk : Blk X scope fun Y => PE Y kx tk) (he : Blk X scope fun Y => PE Y vx tv)
    (hv : ∀ i ∈ vs1, i ∈ own.map (·.2)) (hi1 : Blk X scope fun Y => PI Y tg1 iter1 wi1) (hg1 : Blk X scope fun Y => PG Y tg1 g1) (ht1 : Blk X scope fun Y => PTs Y ifs1 tt1) (hs1 : ∀ env x, foldedSetIterable iter1 env x = pure x := by intro _ _; rfl)
    (hs : ∀ x, foldedSetIterable iter X.env x = pure x := by intro _; rfl) : PE X (dcE kx vx tg iter tg1 iter1 ifs ifs1 scope pos) (tDc2 X.K wi g tt wi1 g1 tt1 tk tv (own.map (·.2)) vs1) := by
  refine ⟨fun pins s σ H Q I h => ?_⟩
  unfold dcE
  rw [arm_eval_DictComp]
  refine dc2_core hu hc hN I hi ok hg ht hk he hv hi1 hg1 ht1 hs1 hs h fun D C s' m H' I' q hn f => ⟨m, hn, fun h'' sb => ?_⟩
  obtain ⟨g0, g1, g2, g3, g4, g5⟩ := f
  exact ⟨.ref D, H', I'.turned (t' := s'.toks) (fun b o hb e => (sb.2 b hb).trans e) g0 g1 g3 g4 g5, rfl, q⟩
theorem ps_setDc2 {i : Nat} {y : Str} {py spos : Pos} (hu : X.A.units + 8 < cLine) (hc : X.calm = true) (hN : X.N.Nodup) (hy : X.N[i]? = some y) (hyl : X.env.scope.names.lookup y = some .local) (hsw : swapsWith (dcE kx vx tg iter tg1 iter1 ifs ifs1 scope pos) (some (.Name y py)) spos.line X.env = pure true)
    (hi : PI X tg iter wi) (ok : BlkOk X.N X.env.scope scope own) (hg : Blk X scope fun Y => PG Y tg g) (ht : Blk X scope fun Y => PTs Y ifs tt) (hk : Blk X scope fun Y => PE Y kx tk) (he : Blk X scope fun Y => PE Y vx tv)
    (hv : ∀ i ∈ vs1, i ∈ own.map (·.2)) (hi1 : Blk X scope fun Y => PI Y tg1 iter1 wi1) (hg1 : Blk X scope fun Y => PG Y tg1 g1) (ht1 : Blk X scope fun Y => PTs Y ifs1 tt1) (hs1 : ∀ env x, foldedSetIterable iter1 env x = pure x := by intro _ _; rfl)
    (hs : ∀ x, foldedSetIterable iter X.env x = pure x := by intro _; rfl) : PS X (.Assign [.Name y py] (dcE kx vx tg iter tg1 iter1 ifs ifs1 scope pos) spos) (tAsg (tDc2 X.K wi g tt wi1 g1 tt1 tk tv (own.map (·.2)) vs1) (gName i)) := by
  refine ⟨fun pins s σ H D I h => ?_⟩
  rw [exec_Assign_Name_used _ _ _ _ hsw]
  refine wpAny_bind (wpAny_standAt (wpAny_bind ?_))
  show wpAny _ X.A (do let _ ← comprehension (dcE kx vx tg iter tg1 iter1 ifs ifs1 scope pos) scope X.env (firstIterPos [⟨tg, iter, ifs, 0⟩, ⟨tg1, iter1, ifs1, 0⟩] pos) newDict false (eval iter X.env) (some (assign (.Name y py) X.env))) _ _ s
  have hq : tDc2 X.K wi g tt wi1 g1 tt1 tk tv (own.map (·.2)) vs1 σ H (fun x H1 => gName i x σ H1 D.nx) := h
  refine wpAny_bind (thn (dc2_core (Qf := fun _ s' => SP X pins D .next s') hu hc hN I hi ok hg ht hk he hv hi1 hg1 ht1 hs1 hs hq fun L C s' m H' I' q hn f => ?_) fun _ s' hp => wpAny_pure (wpAny_pure hp))
  show wpAny _ _ (assign (.Name y py) X.env (.ref L)) _ _ _
  refine wpAny_assign_Name (store_ok2 (v := V.ref L) I' hN hy (.inl hyl) rfl (fun s2 I2 hh => ?_) (.inr hyl))
  obtain ⟨a, sb, ha⟩ := hh
  obtain ⟨g0, g1, g2, g3, g4, g5⟩ := f
  have hne : C ≠ a := by
    rcases ha with z | z
    · rw [z]; exact g1
    · exact fun e => g4 y a z e.symm
  exact ⟨m, hn.sameBut sb hne, fun h3 sb3 => ⟨_, H', I2.turned (t' := s2.toks) (fun b o hb e => (sb3.2 b hb).trans e) g0 g1 g3 g4 g5, q⟩⟩
end
end Bk

set_option Elab.async false
set_option linter.all false
set_option maxRecDepth 100000
set_option maxHeartbeats 4000000
namespace Bk
open PySem PySem.Spec PyProof.Rows L2
/-! ### {k: v for t in it for t1 in it1}, as trees -/
def gDcI (gg : GG) (gt : GT) (gk gv : GE) (Γ : Env) : List D → List D → List D → List MO → R (List D × List D)
  | [], ks, vs, M => .ok (ks, vs) M
  | d :: ds, ks, vs, M => match gg d Γ with
    | none => .bad
    | some Γ1 => (gt Γ1 M).only fun b M1 => if b = true then (gk Γ1 M1).only fun k M2 => (gv Γ1 M2).only fun v M3 => match putKV ks vs k v with
        | some r => gDcI gg gt gk gv Γ ds r.1 r.2 M3
        | none => .bad
      else gDcI gg gt gk gv Γ ds ks vs M1
def gDcO (gg : GG) (gt : GT) (gi1 : GI) (gg1 : GG) (gt1 : GT) (gk gv : GE) (vs1 : List Nat) (Γ : Env) : List D → List D → List D → List MO → R D
  | [], ks, vs, M => .ok (.dct ks vs) M
  | d :: ds, ks, vs, M => match gg d Γ with
    | none => .bad
    | some Γ1 => (gt Γ1 M).only fun b M1 => if b = true then (gi1 Γ1 M1).only fun ds1 M2 => (gDcI gg1 gt1 gk gv (forget Γ1 vs1) ds1 ks vs M2).only fun r M3 => gDcO gg gt gi1 gg1 gt1 gk gv vs1 Γ ds r.1 r.2 M3
      else gDcO gg gt gi1 gg1 gt1 gk gv vs1 Γ ds ks vs M1
def gDc2 (gi : GI) (gg : GG) (gt : GT) (gi1 : GI) (gg1 : GG) (gt1 : GT) (gk gv : GE) (own vs1 : List Nat) : GE := fun Γ M => (gi Γ M).bind fun ds M1 => gDcO gg gt gi1 gg1 gt1 gk gv vs1 (forget Γ own) ds [] [] M1
def liftI (K : PySem.W.Frag) (X : Cx) (C : CT) (W : WX) (g : GI) : TI := fun σ H Q => ∃ (Z : Hp) (ι : Nat → Addr) (Γ : Env) (M : List MO), Slots K Z ι M.length Γ σ ∧ HR K H Z ι M ∧ Post X C W (rpI K) σ H Z ι M (g Γ M) Q
section
variable {X : Cx} {C : CT} {W : WX}
theorem blk_i {tg e : Expr} {scope : Scope} {gi : GI} (hi : Blk X scope fun Y => QI Y C noW tg e gi) : Blk X scope fun Y => PI Y tg e (liftI X.K X C noW gi) := fun s H c cl fp => by
  obtain ⟨t, p, q⟩ := hi s H c cl fp
  exact ⟨fun pins s σ H Q I h => p.run pins s σ H Q I (let ⟨Z, ι, Γ, M, h1, h2, h3⟩ := h; q σ H Z ι Γ M Q h1 h2 (h3.blk rfl))⟩
theorem gDcI_run {gg : GG} {gt : GT} {gk gv : GE} {is vs1 : List Nat} {σ σ2 : St} {Γ1 : Env} {Q : VK} {Nx : Hp → Prop} {J : It} {p : Addr} {ds ks0 vs0 : List D} {H0 Z0 H4 Z4 : Hp} {ι0 ι4 : Nat → Addr} {M0 M4 : List MO} {fin : List D × List D → List MO → R D} (hsub : ∀ i ∈ is, i ∈ vs1)
    (e04 : Ext H0 Z0 ι0 M0.length H4 Z4 ι4 M4.length) (hr4 : HR X.K H4 Z4 ι4 M4) (sl : Slots X.K Z4 ι4 M4.length Γ1 (wipe σ2 vs1)) (rJ : ItC anyM X.K J ds Z4 ι4 M4.length) (hp0 : H0 p = none) (od4 : Odd Z4 ι4 M4.length p) (di4 : DI X.K H4 Z4 ι4 M4.length p ks0 vs0)
    (h : Post X C W (rpE X.K) σ H0 Z0 ι0 M0 ((gDcI gg gt gk gv Γ1 ds ks0 vs0 M4).only fin) Q)
    (hfin : ∀ (r : List D × List D) (M : List MO) (H Z : Hp) (ι : Nat → Addr), Ext H0 Z0 ι0 M0.length H Z ι M.length → HR X.K H Z ι M → Odd Z ι M.length p → DI X.K H Z ι M.length p r.1 r.2 → Post X C W (rpE X.K) σ H0 Z0 ι0 M0 (fin r M) Q → Nx H) :
    ∃ W1 : Nat → Nat → Hp → Prop, (∃ m, W1 0 m H4) ∧ ∀ j k H, W1 j k H →
      (J.stop j H ∧ Nx H) ∨ (J.go j H ∧ ∃ Nx1 : Hp → Prop, (∀ H', Nx1 H' → ∃ k', k' < k ∧ W1 (j + 1) k' H') ∧ ∀ x H', J.yld j H x H' → liftG X.K gg is x (wipe σ2 vs1) H' fun σ3 H5 => wipe σ3 vs1 = wipe σ2 vs1 ∧ liftT X.K X C noW gt σ3 H5 fun b H6 =>
        if b = true then liftE X.K X C noW gk σ3 H6 fun y H7 => liftE X.K X C noW gv σ3 H7 fun z H8 => StepN X.K H8 p y z Nx1 else Nx1 H6) := by
  let Inv' : Nat → Hp → Prop := fun i H => ∃ (Z : Hp) (ι : Nat → Addr) (M : List MO) (ks vs : List D), Ext H4 Z4 ι4 M4.length H Z ι M.length ∧ Ext H0 Z0 ι0 M0.length H Z ι M.length ∧ HR X.K H Z ι M ∧ Odd Z ι M.length p ∧ DI X.K H Z ι M.length p ks vs ∧ Post X C W (rpE X.K) σ H0 Z0 ι0 M0 ((gDcI gg gt gk gv Γ1 (ds.drop i) ks vs M).only fin) Q
  have hp4 : ∃ u, H4 p = some u := let ⟨es, ep, _, _, _, q, _⟩ := di4; ⟨_, q⟩
  have touch4 : ∀ {H Z : Hp} {ι : Nat → Addr} {n : Nat} {o : HO}, Ext H4 Z4 ι4 M4.length H Z ι n → True := fun _ => trivial
  refine ⟨fun i m H => m = ds.length - i ∧ i ≤ ds.length ∧ (∃ (Z : Hp) (ι : Nat → Addr) (M : List MO) (ks vs : List D), Sub Z4 Z ∧ (∀ k, k < M4.length → ι k = ι4 k) ∧ M4.length ≤ M.length ∧ Ext H0 Z0 ι0 M0.length H Z ι M.length ∧ HR X.K H Z ι M ∧ Odd Z ι M.length p ∧ DI X.K H Z ι M.length p ks vs ∧ Post X C W (rpE X.K) σ H0 Z0 ι0 M0 ((gDcI gg gt gk gv Γ1 (ds.drop i) ks vs M).only fin) Q),
    ⟨ds.length, rfl, Nat.zero_le _, Z4, ι4, M4, ks0, vs0, fun _ _ q => q, fun _ _ => rfl, Nat.le_refl _, e04, hr4, od4, di4, h⟩, ?_⟩
  rintro i m H ⟨em, hle, Z, ι, M, ks, vs, z1, i1, n1, e1, hr1, od, di, hpost⟩
  obtain ⟨hstop, hgo⟩ := rJ i H Z ι M z1 i1 n1 hr1 trivial
  have slM : Slots X.K Z ι M.length Γ1 (wipe σ2 vs1) := ⟨sl.1, fun i d hd => let ⟨v, a, b⟩ := sl.2 i d hd; ⟨v, a, Rp.mono z1 i1 n1 _ _ b⟩⟩
  by_cases hi : i < ds.length
  · refine .inr ?_
    have ed : ds.drop i = ds[i] :: ds.drop (i + 1) := List.drop_eq_getElem_cons hi
    obtain ⟨go, yl⟩ := hgo ds[i] (List.getElem?_eq_getElem hi)
    refine ⟨go, fun H => ∃ (Z : Hp) (ι : Nat → Addr) (M : List MO) (ks vs : List D), Sub Z4 Z ∧ (∀ k, k < M4.length → ι k = ι4 k) ∧ M4.length ≤ M.length ∧ Ext H0 Z0 ι0 M0.length H Z ι M.length ∧ HR X.K H Z ι M ∧ Odd Z ι M.length p ∧ DI X.K H Z ι M.length p ks vs ∧ Post X C W (rpE X.K) σ H0 Z0 ι0 M0 ((gDcI gg gt gk gv Γ1 (ds.drop (i + 1)) ks vs M).only fin) Q,
      fun H' hN => ⟨ds.length - (i + 1), by omega, rfl, by omega, hN⟩, fun x H2 hy => ?_⟩
    obtain ⟨Z2, e2, hr2, rx⟩ := yl x H2 hy
    have hp1 : ∃ u, H p = some u := let ⟨es, ep, _, _, _, q, _⟩ := di; ⟨_, q⟩
    obtain ⟨u1, hp1⟩ := hp1
    obtain ⟨od2, hp2⟩ := od.ext hp1 e2
    have di2 := di.ext od e2
    have e12 := e1.trans e2 hr1.ali
    rw [ed] at hpost
    cases eg : gg ds[i] Γ1 with
    | none =>
      have z : gDcI gg gt gk gv Γ1 (ds[i] :: ds.drop (i + 1)) ks vs M = .bad := by
        unfold gDcI
        rw [eg]
      rw [z] at hpost
      exact hpost.elim
    | some Γ2 =>
      have z : gDcI gg gt gk gv Γ1 (ds[i] :: ds.drop (i + 1)) ks vs M = ((gt Γ2 M).only fun b M1 => if b = true then (gk Γ2 M1).only fun k M2 => (gv Γ2 M2).only fun v M3 => match putKV ks vs k v with
          | some r => gDcI gg gt gk gv Γ1 (ds.drop (i + 1)) r.1 r.2 M3
          | none => .bad
        else gDcI gg gt gk gv Γ1 (ds.drop (i + 1)) ks vs M1) := by
        conv => lhs; unfold gDcI
        rw [eg]
      rw [z] at hpost
      refine ⟨Z2, ι, M.length, ds[i], Γ1, Γ2, hr2.sub, slM.ext e2, rx, eg, fun σ3 s3 w3 => ⟨(w3 vs1 hsub).trans (wipe_wipe vs1), Z2, ι, Γ2, M, s3, hr2, ?_⟩⟩
      cases et : gt Γ2 M with
      | bad => rw [et] at hpost; exact hpost.elim
      | exc c d M' => rw [et] at hpost; exact hpost.elim
      | ok b M3 =>
        rw [et] at hpost
        intro b' H3 Z3 ι3 e3 hr3 hb
        have hb' : b = b' := hb
        subst hb'
        obtain ⟨od3, hp3⟩ := od2.ext hp2 e3
        have di3 := di2.ext od2 e3
        have e13 := e12.trans e3 hr2.ali
        have z3 : Sub Z4 Z3 := fun a o q => e3.zz _ _ (e2.zz _ _ (z1 _ _ q))
        have i3 : ∀ k, k < M4.length → ι3 k = ι4 k := fun k hk => (e3.ii k (Nat.lt_of_lt_of_le hk n1)).trans (i1 k hk)
        have n3 : M4.length ≤ M3.length := Nat.le_trans n1 e3.ln
        cases b with
        | false => exact ⟨Z3, ι3, M3, ks, vs, z3, i3, n3, e13, hr3, od3, di3, hpost⟩
        | true =>
          rw [if_pos rfl]
          refine ⟨Z3, ι3, Γ2, M3, s3.ext e3, hr3, ?_⟩
          have hpost2 : Post X C W (rpE X.K) σ H0 Z0 ι0 M0 (((gk Γ2 M3).only fun k M2 => (gv Γ2 M2).only fun v M3 => match putKV ks vs k v with
            | some r => gDcI gg gt gk gv Γ1 (ds.drop (i + 1)) r.1 r.2 M3
            | none => .bad).only fin) Q := hpost
          cases ek : gk Γ2 M3 with
          | bad => rw [ek] at hpost2; exact hpost2.elim
          | exc c d M' => rw [ek] at hpost2; exact hpost2.elim
          | ok k M5 =>
            rw [ek] at hpost2
            intro yk H5 Z5 ι5 e5 hr5 rk
            obtain ⟨od5, hp5⟩ := od3.ext hp3 e5
            have di5 := di3.ext od3 e5
            have e15 := e13.trans e5 hr3.ali
            refine ⟨Z5, ι5, Γ2, M5, (s3.ext e3).ext e5, hr5, ?_⟩
            have hpost3 : Post X C W (rpE X.K) σ H0 Z0 ι0 M0 (((gv Γ2 M5).only fun v M3 => match putKV ks vs k v with
              | some r => gDcI gg gt gk gv Γ1 (ds.drop (i + 1)) r.1 r.2 M3
              | none => .bad).only fin) Q := hpost2
            cases ev : gv Γ2 M5 with
            | bad => rw [ev] at hpost3; exact hpost3.elim
            | exc c d M' => rw [ev] at hpost3; exact hpost3.elim
            | ok v M6 =>
              rw [ev] at hpost3
              intro yv H6 Z6 ι6 e6 hr6 rv
              obtain ⟨od6, hp6⟩ := od5.ext hp5 e6
              have di6 := di5.ext od5 e6
              have e16 := e15.trans e6 hr5.ali
              have hpost4 : Post X C W (rpE X.K) σ H0 Z0 ι0 M0 ((match putKV ks vs k v with
                | some r => gDcI gg gt gk gv Γ1 (ds.drop (i + 1)) r.1 r.2 M6
                | none => .bad).only fin) Q := hpost3
              cases ep : putKV ks vs k v with
              | none => rw [ep] at hpost4; exact hpost4.elim
              | some r =>
                rw [ep] at hpost4
                refine put_step hr6.sub di6 (rk.ext e6) rv ep fun o di' => ⟨Z6, ι6, M6, r.1, r.2, fun a o q => e6.zz _ _ (e5.zz _ _ (z3 _ _ q)), fun k hk => (e6.ii k (Nat.lt_of_lt_of_le hk (Nat.le_trans n3 e5.ln))).trans ((e5.ii k (Nat.lt_of_lt_of_le hk n3)).trans (i3 k hk)), Nat.le_trans n3 (Nat.le_trans e5.ln e6.ln), e16.touch hp0, hr6.odd od6, od6, di', hpost4⟩
  · refine .inl ⟨hstop (by omega), ?_⟩
    rw [List.drop_eq_nil_of_le (Nat.le_of_not_lt hi)] at hpost
    exact hfin (ks, vs) M H Z ι e1 hr1 od di hpost
theorem gDcO_run {gg gg1 : GG} {gt gt1 : GT} {gi1 : GI} {gk gv : GE} {is is1 own vs1 : List Nat} {σ : St} {Γ0 : Env} {Q : VK} {J : It} {p : Addr} {ds : List D} {H0 Z0 : Hp} {ι0 : Nat → Addr} {M0 : List MO} (hsub : ∀ i ∈ is, i ∈ own) (hsub1 : ∀ i ∈ is1, i ∈ vs1) (sl : Slots X.K Z0 ι0 M0.length Γ0 (wipe σ own)) (rJ : ItC anyM X.K J ds Z0 ι0 M0.length)
    (hp0 : H0 p = none) (hsm : (p == sysModules) = false) (hr0 : HR X.K H0 Z0 ι0 M0) (h : Post X C W (rpE X.K) σ H0 Z0 ι0 M0 (gDcO gg gt gi1 gg1 gt1 gk gv vs1 Γ0 ds [] [] M0) Q) :
    ∃ Wv : Nat → Nat → Hp → Prop, (∃ m, Wv 0 m (upd H0 p (dnO p #[] 0))) ∧ ∀ i m H, Wv i m H →
      (J.stop i H ∧ Q (.ref p) H) ∨ (J.go i H ∧ ∃ Nx : Hp → Prop, (∀ H', Nx H' → ∃ m', m' < m ∧ Wv (i + 1) m' H') ∧ ∀ x H', J.yld i H x H' → liftG X.K gg is x (wipe σ own) H' fun σ2 H2 => wipe σ2 own = wipe σ own ∧ liftT X.K X C noW gt σ2 H2 fun b H3 =>
        if b = true then tDcI X.K p (liftI X.K X C noW gi1) (liftG X.K gg1 is1) (liftT X.K X C noW gt1) (liftE X.K X C noW gk) (liftE X.K X C noW gv) vs1 Nx σ2 H3 else Nx H3) := by
  let Inv' : Nat → Hp → Prop := fun i H => ∃ (Z : Hp) (ι : Nat → Addr) (M : List MO) (ks vs : List D), Ext H0 Z0 ι0 M0.length H Z ι M.length ∧ HR X.K H Z ι M ∧ Odd Z ι M.length p ∧ DI X.K H Z ι M.length p ks vs ∧ Post X C W (rpE X.K) σ H0 Z0 ι0 M0 (gDcO gg gt gi1 gg1 gt1 gk gv vs1 Γ0 (ds.drop i) ks vs M) Q
  have q0 : Odd Z0 ι0 M0.length p := .new hr0 hp0
  have d0 : DI X.K (upd H0 p (dnO p #[] 0)) Z0 ι0 M0.length p [] [] := ⟨#[], 0, [], [], [], upd_same, .nil, .nil, .nil, .nil, rfl, Nat.zero_le _, rfl, fun x hx => by cases hx⟩
  refine ⟨fun i m H => m = ds.length - i ∧ i ≤ ds.length ∧ Inv' i H, ⟨ds.length, rfl, Nat.zero_le _, Z0, ι0, M0, [], [], (Ext.refl).touch hp0, hr0.odd q0, q0, d0, h⟩, ?_⟩
  rintro i m H ⟨em, hle, Z, ι, M, ks, vs, e1, hr1, od, di, hpost⟩
  obtain ⟨hstop, hgo⟩ := rJ i H Z ι M e1.zz e1.ii e1.ln hr1 trivial
  by_cases hi : i < ds.length
  · refine .inr ?_
    have ed : ds.drop i = ds[i] :: ds.drop (i + 1) := List.drop_eq_getElem_cons hi
    obtain ⟨go, yl⟩ := hgo ds[i] (List.getElem?_eq_getElem hi)
    refine ⟨go, Inv' (i + 1), fun H' hN => ⟨ds.length - (i + 1), by omega, rfl, by omega, hN⟩, fun x H2 hy => ?_⟩
    obtain ⟨Z2, e2, hr2, rx⟩ := yl x H2 hy
    have hp1 : ∃ u, H p = some u := let ⟨es, ep, _, _, _, q, _⟩ := di; ⟨_, q⟩
    obtain ⟨u1, hp1⟩ := hp1
    obtain ⟨od2, hp2⟩ := od.ext hp1 e2
    have di2 := di.ext od e2
    have e12 := e1.trans e2 hr1.ali
    rw [ed] at hpost
    cases eg : gg ds[i] Γ0 with
    | none =>
      have z : gDcO gg gt gi1 gg1 gt1 gk gv vs1 Γ0 (ds[i] :: ds.drop (i + 1)) ks vs M = .bad := by
        unfold gDcO
        rw [eg]
      rw [z] at hpost
      exact hpost.elim
    | some Γ1 =>
      have z : gDcO gg gt gi1 gg1 gt1 gk gv vs1 Γ0 (ds[i] :: ds.drop (i + 1)) ks vs M = ((gt Γ1 M).only fun b M1 => if b = true then (gi1 Γ1 M1).only fun ds1 M2 => (gDcI gg1 gt1 gk gv (forget Γ1 vs1) ds1 ks vs M2).only fun r M3 => gDcO gg gt gi1 gg1 gt1 gk gv vs1 Γ0 (ds.drop (i + 1)) r.1 r.2 M3
        else gDcO gg gt gi1 gg1 gt1 gk gv vs1 Γ0 (ds.drop (i + 1)) ks vs M1) := by
        conv => lhs; unfold gDcO
        rw [eg]
      rw [z] at hpost
      refine ⟨Z2, ι, M.length, ds[i], Γ0, Γ1, hr2.sub, sl.ext e12, rx, eg, fun σ2 s2 w2 => ⟨(w2 own hsub).trans (wipe_wipe own), Z2, ι, Γ1, M, s2, hr2, ?_⟩⟩
      cases et : gt Γ1 M with
      | bad => rw [et] at hpost; exact hpost.elim
      | exc c d M' => rw [et] at hpost; exact hpost.elim
      | ok b M3 =>
        rw [et] at hpost
        intro b' H3 Z3 ι3 e3 hr3 hb
        have hb' : b = b' := hb
        subst hb'
        obtain ⟨od3, hp3⟩ := od2.ext hp2 e3
        have di3 := di2.ext od2 e3
        have e13 := e12.trans e3 hr2.ali
        cases b with
        | false => exact ⟨Z3, ι3, M3, ks, vs, e13, hr3, od3, di3, hpost⟩
        | true =>
          rw [if_pos rfl]
          have hpost2 : Post X C W (rpE X.K) σ H0 Z0 ι0 M0 ((gi1 Γ1 M3).only fun ds1 M2 => (gDcI gg1 gt1 gk gv (forget Γ1 vs1) ds1 ks vs M2).only fun r M3 => gDcO gg gt gi1 gg1 gt1 gk gv vs1 Γ0 (ds.drop (i + 1)) r.1 r.2 M3) Q := hpost
          refine ⟨Z3, ι3, Γ1, M3, s2.ext e3, hr3, ?_⟩
          cases ei : gi1 Γ1 M3 with
          | bad => rw [ei] at hpost2; exact hpost2.elim
          | exc c d M' => rw [ei] at hpost2; exact hpost2.elim
          | ok ds1 M4 =>
            rw [ei] at hpost2
            intro J1 H4 Z4 ι4 e4 hr4 rJ1
            obtain ⟨od4, hp4⟩ := od3.ext hp3 e4
            have di4 := di3.ext od3 e4
            have e14 := e13.trans e4 hr3.ali
            exact gDcI_run hsub1 e14 hr4 (slots_wipe _ ((s2.ext e3).ext e4)) rJ1 hp0 od4 di4 hpost2 fun r M H Z ι a1 a2 a3 a4 a5 => ⟨Z, ι, M, r.1, r.2, a1, a2, a3, a4, a5⟩
  · refine .inl ⟨hstop (by omega), ?_⟩
    rw [List.drop_eq_nil_of_le (Nat.le_of_not_lt hi)] at hpost
    obtain ⟨es, ep, nks, kx, xs, h1, h2, h3, h4, h5, h6, h7, h8, h9⟩ := di
    have s1 : Sub Z (upd Z p (dnO p es ep)) := fun a u q => by rw [upd_ne (ne_of_none q od.z)]; exact q
    have up : ∀ {as : List D} {ws : List V}, Rps X.K Z ι M.length as ws → Rps X.K (upd Z p (dnO p es ep)) ι M.length as ws := fun r => Rps.mono s1 (fun _ _ => rfl) (Nat.le_refl _) _ _ r
    exact hpost _ H _ ι (e1.adoptZ od.z hp0) (hr1.adoptZ od h1) (.dct ⟨es, ep, upd_same, hsm, h7, h3, h2.sub s1⟩ (up h4) (up h5))
theorem dc2_post {σ : St} {H Z : Hp} {ι : Nat → Addr} {M : List MO} {Q : VK} {wi : TI} {gi gi1 : GI} {gg gg1 : GG} {gt gt1 : GT} {gk gv : GE} {is is1 own vs1 : List Nat} {Γ : Env}
    (qi : ∀ (σ : St) (H Z : Hp) (ι : Nat → Addr) (Γ : Env) (M : List MO) (Q : It → Hp → Prop), Slots X.K Z ι M.length Γ σ → HR X.K H Z ι M → Post X C W (rpI X.K) σ H Z ι M (gi Γ M) Q → wi σ H Q) (hsub : ∀ i ∈ is, i ∈ own) (hsub1 : ∀ i ∈ is1, i ∈ vs1)
    (sl : Slots X.K Z ι M.length Γ σ) (hr : HR X.K H Z ι M) (h : Post X C W (rpE X.K) σ H Z ι M (gDc2 gi gg gt gi1 gg1 gt1 gk gv own vs1 Γ M) Q) :
    tDc2 X.K wi (liftG X.K gg is) (liftT X.K X C noW gt) (liftI X.K X C noW gi1) (liftG X.K gg1 is1) (liftT X.K X C noW gt1) (liftE X.K X C noW gk) (liftE X.K X C noW gv) own vs1 σ H Q :=
  qi σ H Z ι Γ M _ sl hr (Post.bind h fun ds M1 J H1 Z1 ι1 e1 hr1 rJ h1 => fun p hp hsm =>
    gDcO_run hsub hsub1 (slots_wipe _ (sl.ext e1)) rJ hp hsm hr1 h1)
section
variable {kx vx tg iter tg1 iter1 : Expr} {ifs ifs1 : List Expr} {scope : Scope} {own : List (Str × Nat)} {pos spos py : Pos} {gi gi1 : GI} {gg gg1 : GG} {gt gt1 : GT} {gk gv : GE} {is is1 ixs vs1 : List Nat}
theorem qe_dc2 (hu : X.A.units + 8 < cLine) (hc : X.calm = true) (hN : X.N.Nodup) (hi : QI X C W tg iter gi) (ok : BlkOk X.N X.env.scope scope own)
    (hg : Blk X scope fun Y => QG Y tg gg is) (ht : Blk X scope fun Y => QTs Y C noW ifs gt) (hi1 : Blk X scope fun Y => QI Y C noW tg1 iter1 gi1) (hg1 : Blk X scope fun Y => QG Y tg1 gg1 is1) (ht1 : Blk X scope fun Y => QTs Y C noW ifs1 gt1) (hk : Blk X scope fun Y => QE Y C noW kx gk) (he : Blk X scope fun Y => QE Y C noW vx gv)
    (hix : ixs = own.map (·.2) := by rfl) (hsub : ∀ i ∈ is, i ∈ own.map (·.2) := by decide) (hsub1 : ∀ i ∈ is1, i ∈ vs1 := by decide) (hv : ∀ i ∈ vs1, i ∈ own.map (·.2) := by decide) (hs1 : ∀ env x, foldedSetIterable iter1 env x = pure x := by intro _ _; rfl) (hs : ∀ x, foldedSetIterable iter X.env x = pure x := by intro _; rfl) :
    QE X C W (.DictComp kx vx [⟨tg, iter, ifs, 0⟩, ⟨tg1, iter1, ifs1, 0⟩] scope pos) (gDc2 gi gg gt gi1 gg1 gt1 gk gv ixs vs1) := by
  subst hix
  obtain ⟨wi, pi, qi⟩ := hi
  exact ⟨_, pe_dc2 hu hc hN pi ok (blk_g hg) (blk_t ht) (blk_e hk) (blk_e he) hv (blk_i hi1) (blk_g hg1) (blk_t ht1) hs1 hs, fun σ H Z ι Γ M Q sl hr h => dc2_post qi hsub hsub1 sl hr h⟩
theorem qs_dc2 {i : Nat} {y : Str} (hu : X.A.units + 8 < cLine) (hc : X.calm = true) (hN : X.N.Nodup) (hy : X.N[i]? = some y) (hyl : X.env.scope.names.lookup y = some .local) (hsw : swapsWith (.DictComp kx vx [⟨tg, iter, ifs, 0⟩, ⟨tg1, iter1, ifs1, 0⟩] scope pos) (some (.Name y py)) spos.line X.env = pure true) (hi : QI X C W tg iter gi) (ok : BlkOk X.N X.env.scope scope own)
    (hg : Blk X scope fun Y => QG Y tg gg is) (ht : Blk X scope fun Y => QTs Y C noW ifs gt) (hi1 : Blk X scope fun Y => QI Y C noW tg1 iter1 gi1) (hg1 : Blk X scope fun Y => QG Y tg1 gg1 is1) (ht1 : Blk X scope fun Y => QTs Y C noW ifs1 gt1) (hk : Blk X scope fun Y => QE Y C noW kx gk) (he : Blk X scope fun Y => QE Y C noW vx gv)
    (hix : ixs = own.map (·.2) := by rfl) (hsub : ∀ i ∈ is, i ∈ own.map (·.2) := by decide) (hsub1 : ∀ i ∈ is1, i ∈ vs1 := by decide) (hv : ∀ i ∈ vs1, i ∈ own.map (·.2) := by decide) (hs1 : ∀ env x, foldedSetIterable iter1 env x = pure x := by intro _ _; rfl) (hs : ∀ x, foldedSetIterable iter X.env x = pure x := by intro _; rfl) :
    QS X C W (.Assign [.Name y py] (.DictComp kx vx [⟨tg, iter, ifs, 0⟩, ⟨tg1, iter1, ifs1, 0⟩] scope pos) spos) (gAsg (gDc2 gi gg gt gi1 gg1 gt1 gk gv ixs vs1) (gTo i)) := by
  subst hix
  obtain ⟨wi, pi, qi⟩ := hi
  refine ⟨_, ps_setDc2 hu hc hN hy hyl hsw pi ok (blk_g hg) (blk_t ht) (blk_e hk) (blk_e he) hv (blk_i hi1) (blk_g hg1) (blk_t ht1) hs1 hs, fun Dd σ H Z ι Γ M sl hr h => ?_⟩
  refine dc2_post qi hsub hsub1 sl hr (PostS.bind (Γ := Γ) h sl fun x M1 v H1 Z1 ι1 e1 hr1 r1 h1 => ?_)
  exact h1 _ H1 Z1 ι1 .refl hr1 ((sl.ext e1).set i r1)
end
end
@[simp] theorem u_gDc2 (gi : GI) (gg : GG) (gt : GT) (gi1 : GI) (gg1 : GG) (gt1 : GT) (gk gv : GE) (own vs1 : List Nat) (Γ : Env) (M : List MO) : gDc2 gi gg gt gi1 gg1 gt1 gk gv own vs1 Γ M = (gi Γ M).bind fun ds M1 => gDcO gg gt gi1 gg1 gt1 gk gv vs1 (forget Γ own) ds [] [] M1 := Eq.trans rfl rfl
@[simp] theorem u_gDc (gi : GI) (gg : GG) (gt : GT) (gk gv : GE) (own : List Nat) (Γ : Env) (M : List MO) : gDc gi gg gt gk gv own Γ M = (gi Γ M).bind fun ds M1 => gDcL gg gt gk gv (forget Γ own) ds [] [] M1 := Eq.trans rfl rfl
end Bk

set_option Elab.async false
set_option linter.all false
set_option maxRecDepth 100000
set_option maxHeartbeats 4000000
namespace Bk
open PySem PySem.Spec PyProof.Rows L2
/-! ### sum(d.values()) -/
theorem preSum_list (xs : List Int) (f : Nat → Int) (hf : ∀ (i : Nat) x, xs[i]? = some x → f i = x) : ∀ n, n ≤ xs.length → preSum f n = (xs.take n).sum
  | 0, _ => by simp [preSum]
  | n + 1, h => by
    have lt : n < xs.length := h
    have := preSum_list xs f hf n (Nat.le_of_lt lt)
    have e : (xs.take (n + 1)).sum = (xs.take n).sum + xs[n] := by
      rw [List.take_succ, List.getElem?_eq_getElem lt, List.sum_append]
      simp
    rw [e]
    show preSum f n + f n = _
    rw [this, hf n _ (List.getElem?_eq_getElem lt)]
theorem sum_vals {prog : Program} {w : World} {A : Around} {E : Value → Shared → Prop} {s : Shared} {r d : Addr} {es : Array DictEntry} {ep : Nat} {Q : Value → Shared → Prop} {xs : List Int} (hh : A.handled = none) (hv : s.heap.IsValuesView r d) (hm : s.heap.DictRaw d es ep)
    (hz : es.size = xs.length) (hx : ∀ (i : Nat) (x : Int), xs[i]? = some x → ∃ en t, es[i]? = some en ∧ en.val = Value.int x t)
    (h : ∀ (h' : Heap) (tk : Nat) (t' : Tok), (∀ b o, s.heap.get? b = some o → h'.get? b = some o) → Q (.int xs.sum t') { s with heap := h', toks := tk }) :
    wpAny (model prog w) A (call (.builtin "sum") [.ref r]) Q E s := by
  have K := KdlSrc.rawValues (prog := prog) (w := w) (r := r) (d := d) (es := es) (ep := ep)
  refine PySem.call_sum_walkAnyS ?_
  obtain ⟨oI, St, hit, Wk, st⟩ := K.iter A.in1 s hh ⟨hv, hm⟩
  refine hit _ _ ⟨s.heap.objs.size, _, _, _, es.size, _, _, fun i => xs.getD i 0, rfl, Wk.toS, st, fun b hb => ?_, fun i v hi => ?_, fun s' t' hmv => ?_⟩
  · show b < (s.heap.push oI).objs.size
    rw [Heap.size_push]
    rcases List.mem_cons.mp hb with e | hb
    · rw [e]; exact Nat.lt_succ_self _
    · rw [List.mem_singleton.mp hb]; exact Nat.lt_succ_of_lt (K.there _ ⟨hv, hm⟩).2
  · obtain ⟨lt, rfl⟩ := hi
    have lt2 : i < xs.length := by rw [← hz]; exact lt
    obtain ⟨en, t, e1, e2⟩ := hx i _ (List.getElem?_eq_getElem lt2)
    rw [Array.getElem?_eq_getElem lt] at e1
    cases e1
    exact ⟨t, by rw [e2]; simp [List.getD_eq_getElem?_getD, List.getElem?_eq_getElem lt2]⟩
  · have hk : ∀ b o, s.heap.get? b = some o → s'.heap.get? b = some o := fun b o e =>
      hmv.heap b o (fun hI => absurd (Heap.lt_size e) (by rw [List.mem_singleton.mp hI]; exact Nat.lt_irrefl _)) (Heap.get?_push_of_some _ e)
    have es' : preSum (fun i => xs.getD i 0) es.size = xs.sum := by
      rw [preSum_list xs _ (fun i x e => by simp [List.getD_eq_getElem?_getD, e]) _ (Nat.le_of_eq hz), hz, List.take_length]
    rw [PySem.Moved.eq_with hmv, es']
    exact h s'.heap s'.toks t' hk
/-- a view of a dict's values -/
def VwO (r d : Addr) : HO := .ext fun h => h.IsValuesView r d
def tVw (te : TE) : TA := fun σ H Q => te σ H fun x H1 => ∃ (d : Addr) (es : Array DictEntry) (ep : Nat), x = .ref d ∧ (d == sysModules) = false ∧ H1 d = some (dnO d es ep) ∧ ∀ r, H1 r = none → Q [.ref r] (upd H1 r (VwO r d))
def rSumV : List V → Hp → VK → Prop := fun vs H Q => ∃ (r d : Addr) (es : Array DictEntry) (ep : Nat) (is : List Int), vs = [.ref r] ∧ H r = some (VwO r d) ∧ H d = some (dnO d es ep) ∧ ValAt es (is.map V.int) ∧ Q (.int is.sum) H
theorem cr_sumV {X : Cx} (hc : X.calm = true) : CallR X (.builtin "sum") rSumV := by
  intro pins s σ H vs us Q I r h
  obtain ⟨a, d, es, ep, is, rfl, hr, hd, hv, q⟩ := h
  obtain ⟨u, rfl, rx⟩ := vals1 r
  obtain rfl : u = Value.ref a := rx
  obtain ⟨hw, _, _⟩ := I.hok a _ hr
  obtain ⟨hm, _, _⟩ := I.hok d _ hd
  have hm' : s.heap.DictRaw d es ep := hm
  refine sum_vals (I.ok.hd hc) hw hm' (xs := is) (by have := hv.1; simpa using this) (fun i x hx => ?_) fun h' tk t' hk => ⟨.int _, H, I.kept hk, ⟨_, rfl⟩, q⟩
  obtain ⟨en, e1, rv⟩ := hv.2 i (.int x) (by simp [hx])
  obtain ⟨t, e2⟩ := rv
  exact ⟨en, t, e1, e2⟩
theorem pa_vw {X : Cx} {e : Expr} {te : TE} {apos cpos : Pos} (he : PE X e te) (hbase : attributeBase e "values" X.env (eval e X.env) = eval e X.env := by rfl) (hline : (apos.endLine == cpos.line) = true := by rfl) (hs : starEach [(.Call (.Attribute e "values" apos) [] [] cpos : Expr)] X.env = (false, eval (.Call (.Attribute e "values" apos) [] [] cpos) X.env) :: starEach [] X.env := by rfl) : PA X [.Call (.Attribute e "values" apos) [] [] cpos] (tVw te) := by
  have pv : PE X (.Call (.Attribute e "values" apos) [] [] cpos) (fun σ H Q => te σ H fun x H1 => ∃ (d : Addr) (es : Array DictEntry) (ep : Nat), x = .ref d ∧ (d == sysModules) = false ∧ H1 d = some (dnO d es ep) ∧ ∀ r, H1 r = none → Q (.ref r) (upd H1 r (VwO r d))) := by
    refine ⟨fun pins s σ H Q I h => ?_⟩
    refine wpAny_Call_method (T := "dict") (id := "dict.values") hbase rfl hline F.plainAttrs_dict F.slot_dict_values F.type_dict_values (thn (he.run pins s σ H _ I h) fun u s1 ⟨x, H1, I1, rx, d, es, ep, ex, hs, hd, q⟩ => ?_)
    subst ex
    obtain rfl : u = Value.ref d := rx
    obtain ⟨hm, _, _⟩ := I1.hok d _ hd
    have hm' : s1.heap.DictRaw d es ep := hm
    obtain ⟨o, ho, hx, hdt⟩ := id hm
    refine ⟨hm'.typeIs, ?_, ?_⟩
    · exact fun a e => by cases e; exact ⟨o, ho, hx.2.1⟩
    have lf : H1 s1.heap.objs.size = none := I1.hok.fresh (Nat.le_refl _)
    have I2 : Inv X pins σ (upd H1 s1.heap.objs.size (VwO s1.heap.objs.size d)) { s1 with heap := s1.heap.push { cls := .type "dict_values", data := .fields #[.ref d] } } :=
      I1.laid (t' := s1.toks) (fun b ob q => Heap.get?_push_of_some _ q) (Nat.le_refl _) ⟨⟨_, Heap.get?_push_size _ rfl, rfl, rfl⟩, ⟨_, Heap.get?_push_size _ rfl⟩, fun h1 h2 hv hh => let ⟨o, a1, a2⟩ := hv; ⟨o, hh o a1, a2⟩⟩
    show wpAny _ _ (callWith cpos (.builtin "dict.values") [.ref d] [] []) _ X.xe s1
    exact method_meetsIn F.slot_dict_values F.entry_dict_values rfl (PySem.evalArgs_none ⟨rfl, hm'.typeIs, F.args_dict_values_1 _, _, meets_dict_values_raw d hs, ⟨⟨es, ep, hm'⟩, ⟨V.ref s1.heap.objs.size, _, I2, rfl, q _ lf⟩⟩⟩)
  have pc := pa_cons pv pa_nil hs
  refine ⟨fun pos pins s σ H Q I h => pc.run pos pins s σ H Q I ?_⟩
  exact h
def gSumV (ge : GE) : GE := fun Γ M => (ge Γ M).bind fun d M1 => opR (match d with
  | .dct _ vs => (intsD vs).map fun is => .int is.sum
  | _ => none) M1
theorem qe_sumV {X : Cx} {C : CT} {W : WX} {e : Expr} {g : GE} {p apos cpos pos : Pos} (hc : X.calm = true) (hg : Gl X "sum") (hm : X.mg "sum" = none) (ha : QE X C W e g)
    (hbase : attributeBase e "values" X.env (eval e X.env) = eval e X.env := by rfl) (hline : (apos.endLine == cpos.line) = true := by rfl) (hs : starEach [(.Call (.Attribute e "values" apos) [] [] cpos : Expr)] X.env = (false, eval (.Call (.Attribute e "values" apos) [] [] cpos) X.env) :: starEach [] X.env := by rfl)
    (hpl : (backTo pos (starEach [] X.env)).any (·.1) = false := by rfl) : QE X C W (.Call (.Name "sum" p) [.Call (.Attribute e "values" apos) [] [] cpos] [] pos) (gSumV g) := by
  obtain ⟨ta, pa, qa⟩ := ha
  refine ⟨_, pe_callB (cr_sumV hc) hg hm (by decide +kernel) (pa_vw pa hbase hline hs) (by decide) (by decide) hs hpl, fun σ H Z ι Γ M Q sl hr h => qa σ H Z ι Γ M _ sl hr (h.bind fun x M1 v H1 Z1 ι1 e1 hr1 r1 h1 => ?_)⟩
  obtain ⟨d, hd, h3⟩ := Post.of_opR (γ := D) (δ := V) h1
  cases r1 with
  | dct s rk rv =>
    rename_i ks vs a nks kx xs
    have hd' : (intsD vs).map (fun is => D.int is.sum) = some d := hd
    cases ei : intsD vs with
    | none => rw [ei] at hd'; cases hd'
    | some is =>
      rw [ei] at hd'
      cases hd'
      obtain ⟨es, ep, s1, s2, s3, s4, s5⟩ := s
      obtain ⟨k1, k2⟩ := s5.valAt
      have hda : H1 a = some (dnO a es ep) := hr1.sub _ _ s1
      refine ⟨a, es, ep, rfl, s2, hda, fun r hrn => ?_⟩
      have ev := intsD_is rv ei
      subst ev
      have ne : a ≠ r := fun z => by rw [z, hrn] at hda; cases hda
      refine ⟨r, a, es, ep, is, rfl, upd_same, by rw [upd_ne ne]; exact hda, ⟨by simpa using k1, fun i x hx => ?_⟩, ?_⟩
      · obtain ⟨en, a1, a2⟩ := k2 i x hx
        exact ⟨en, by simpa using a1, a2⟩
      · exact h3 _ _ Z1 ι1 (Ext.touch .refl hrn) (hr1.odd (Odd.new hr1 hrn)) (.int _)
  | _ => cases hd
@[simp] theorem u_gSumV (ge : GE) (Γ : Env) (M : List MO) : gSumV ge Γ M = (ge Γ M).bind fun d M1 => opR (match d with
  | .dct _ vs => (intsD vs).map fun is => .int is.sum
  | _ => none) M1 := Eq.trans rfl rfl
end Bk

set_option Elab.async false
set_option linter.all false
set_option maxRecDepth 100000
set_option maxHeartbeats 4000000
namespace Bk
open PySem PySem.Spec PyProof.Rows L2
/-! ### a new thing of ours, from a thing that is neither frozen nor ours -/
section
variable {K : PySem.W.Frag} {H Z : Hp} {ι : Nat → Addr} {M : List MO} {p : Addr}
theorem HR.adoptG (h : HR K H Z ι M) (q : Odd Z ι M.length p) {o' : MO} {ho : HO} (hp : H p = some ho) (hd' : o' ≠ .dead) (r : OR K H Z (put ι M.length p) (M.length + 1) o' p) : HR K H Z (put ι M.length p) (M ++ [o']) := by
  have ln : (M ++ [o']).length = M.length + 1 := by simp
  have cs : ∀ {k : Nat} {u : MO}, (M ++ [o'])[k]? = some u → (k < M.length ∧ M[k]? = some u) ∨ (k = M.length ∧ u = o') := fun {k u} e => by
    by_cases hk : k < M.length
    · rw [List.getElem?_append_left hk] at e
      exact .inl ⟨hk, e⟩
    · rw [List.getElem?_append_right (Nat.le_of_not_lt hk)] at e
      by_cases hz : k - M.length = 0
      · rw [hz] at e
        exact .inr ⟨by omega, (Option.some.inj e).symm⟩
      · rw [List.getElem?_eq_none (by simp; omega)] at e
        cases e
  refine ⟨h.sub, fun k hk => ?_, fun k u e d => ?_, fun j k o u e1 e2 d1 d2 e => ?_, fun k u e => ?_, fun k e => ?_⟩
  · rw [ln] at hk
    by_cases hk' : k < M.length
    · rw [put_lt hk']
      exact h.ali k hk'
    · have : k = M.length := by omega
      subst this
      exact ⟨_, by rw [put_at]; exact hp⟩
  · rcases cs e with ⟨hk, e⟩ | ⟨rfl, rfl⟩
    · rw [put_lt hk]
      exact h.sep k u e d
    · rw [put_at]
      exact q.z
  · rcases cs e1 with ⟨hj, e1⟩ | ⟨rfl, rfl⟩ <;> rcases cs e2 with ⟨hk, e2⟩ | ⟨rfl, rfl⟩
    · rw [put_lt hj, put_lt hk] at e
      exact h.inj j k o u e1 e2 d1 d2 e
    · rw [put_lt hj, put_at] at e
      exact absurd e (q.i j hj)
    · rw [put_lt hk, put_at] at e
      exact absurd e.symm (q.i k hk)
    · rfl
  · rcases cs e with ⟨hk, e⟩ | ⟨rfl, rfl⟩
    · rw [put_lt hk]
      exact OR.mono (fun _ _ z => z) (fun _ z => put_lt z) (by rw [ln]; omega) (fun _ z => z) (h.obj k u e)
    · rw [put_at, ln]
      exact r
  · rcases cs e with ⟨hk, e⟩ | ⟨_, e⟩
    · rw [put_lt hk]
      exact h.ded k e
    · exact absurd e.symm hd'
end
/-! ### dict displays -/
section
variable {X : Cx} {C : CT} {W : WX} {pos : Pos}
theorem pe_dnewN : PE X (.Dict [] [] pos) (fun _ H Q => ∀ p, H p = none → (p == sysModules) = false → Q (.ref p) (upd H p (dnO p #[] 0))) := ⟨fun pins s σ H Q I h => by
  have sm : (s.heap.objs.size == sysModules) = false := (dk_empty (P := X.prog) (w := X.w) (H := H) s.heap I.big).2.1
  have hnew : (s.heap.push { cls := .type "dict", data := .dict #[] }).get? s.heap.objs.size = some { cls := .type "dict", data := .dict #[] } := Heap.get?_push_size _ rfl
  refine wpAny_Dict_empty ⟨.ref s.heap.objs.size, _, I.laid (a := s.heap.objs.size) (o := dnO s.heap.objs.size #[] 0) (t' := s.toks) (fun _ _ q => Heap.get?_push_of_some _ q) (Nat.le_refl _) ?_, rfl, h _ (I.hok.fresh (Nat.le_refl _)) sm⟩
  exact ⟨⟨_, hnew, ⟨rfl, rfl, rfl⟩, rfl⟩, ⟨_, hnew⟩, fun h1 h2 ⟨u, a1, a2, a3⟩ hh => ⟨u, hh u a1, a2, a3⟩⟩⟩
def gDct0 : GE := fun _ M => .ok (.dct [] []) M
def gDct0O : GE := fun _ M => .ok (.ref M.length) (M ++ [.dct [] []])
def gDki0O : GE := fun _ M => .ok (.ref M.length) (M ++ [.dki []])
theorem qe_dct0 : QE X C W (.Dict [] [] pos) gDct0 := ⟨_, pe_dnewN, fun σ H Z ι Γ M Q sl hr h p hp hs => by
  obtain ⟨hr1, e1⟩ := hr.frozen (o := dnO p #[] 0) hp
  exact h _ _ _ ι e1 hr1 (.dct ⟨#[], 0, upd_same, hs, Nat.zero_le _, List.nodup_nil, .nil⟩ .nil .nil)⟩
theorem ref_new {K : PySem.W.Frag} {Z : Hp} {ι : Nat → Addr} {M : List MO} {p : Addr} {o : MO} : Rp K Z (put ι M.length p) (M ++ [o]).length (.ref M.length) (.ref p) := by
  have q : Rp K Z (put ι M.length p) (M ++ [o]).length (.ref M.length) (.ref (put ι M.length p M.length)) := .ref (by simp)
  rw [put_at] at q
  exact q
theorem qe_dct0O : QE X C W (.Dict [] [] pos) gDct0O := ⟨_, pe_dnewN, fun σ H Z ι Γ M Q sl hr h p hp hs => by
  obtain ⟨hr1, e1⟩ := hr.ownedG (o' := .dct [] []) (ho := dnO p #[] 0) hp (by simp) ⟨[], [], [], ⟨#[], 0, upd_same, hs, Nat.zero_le _, List.nodup_nil, .nil⟩, .nil, .nil⟩
  exact h _ _ _ _ e1 hr1 ref_new⟩
theorem qe_dki0O : QE X C W (.Dict [] [] pos) gDki0O := ⟨_, pe_dnewK, fun σ H Z ι Γ M Q sl hr h p hp => by
  obtain ⟨hr1, e1⟩ := hr.ownedG (o' := .dki []) (ho := .dK []) hp (by simp) ⟨[], upd_same, rfl, .nil⟩
  exact h _ _ _ _ e1 hr1 ref_new⟩
/-- {k: v} -/
def tDisp1 (K : PySem.W.Frag) (tk tv : TE) : TE := fun σ H Q => ∀ p, H p = none → (p == sysModules) = false → tk σ (upd H p (dnO p #[] 0)) fun y H1 => tv σ H1 fun z H2 => ∃ (b : Addr) (k : NestedKey), y = .ref b ∧ H2 p = some (dnO p #[] 0) ∧ KeyV K H2 k (.ref b) ∧ k.depth ≤ 8 ∧
  ∀ (es : Array DictEntry) (ep : Nat) (r : Value) (hs : Int), RelV z r → (∀ w : World, hs = k.hash w) → es.toList = [⟨hs, .ref b, r⟩] → Q (.ref p) (upd H2 p (dnO p es ep))
theorem pe_disp1 {ke ve : Expr} {tk tv : TE} (hu : X.A.units + 8 < cLine) (hk : PE X ke tk) (hv : PE X ve tv) : PE X (.Dict [some ke] [ve] pos) (tDisp1 X.K tk tv) := by
  refine ⟨fun pins s σ H Q I h => ?_⟩
  have hshape := zip_pairTrees [some ke] [ve] X.env pos rfl rfl
  have sm : (s.heap.objs.size == sysModules) = false := (dk_empty (P := X.prog) (w := X.w) (H := H) s.heap I.big).2.1
  have lf : H s.heap.objs.size = none := I.hok.fresh (Nat.le_refl _)
  have hnew : (s.heap.push { cls := .type "dict", data := .dict #[] }).get? s.heap.objs.size = some { cls := .type "dict", data := .dict #[] } := Heap.get?_push_size _ rfl
  have I1 : Inv X pins σ (upd H s.heap.objs.size (dnO s.heap.objs.size #[] 0)) { s with heap := s.heap.push { cls := .type "dict", data := .dict #[] } } :=
    I.laid (t' := s.toks) (fun _ _ q => Heap.get?_push_of_some _ q) (Nat.le_refl _) ⟨⟨_, hnew, ⟨rfl, rfl, rfl⟩, rfl⟩, ⟨_, hnew⟩, fun h1 h2 ⟨u, a1, a2, a3⟩ hh => ⟨u, hh u a1, a2, a3⟩⟩
  rw [arm_eval_Dict, hshape, dictDisplay_pairs (pairTrees [some ke] [ve] X.env pos) (by simp [pairTrees]) (by simp [pairTrees])]
  refine wpAny_bind (wpAny_standAt (wpAny_bind (wpAny_subDictH (knd := NK X) (Q := fun d s' => wpAny (model X.prog X.w) X.A (pure (Value.ref d)) (EP X pins σ Q) X.xe s') (show (NK X).room X.A from hu) (by simp [pairTrees]) ?_)))
  generalize hp : s.heap.objs.size = p at *
  refine pairTrees_cons_walk (thn (hk.run pins _ σ _ _ I1 (h p lf sm)) fun u s1 h1 => ?_)
  obtain ⟨y, H1, I2, ry, q1⟩ := h1
  refine thn (hv.run pins s1 σ H1 _ I2 q1) fun w2 s2 h2 => pairTrees_nil_walk ?_
  obtain ⟨z, H2, I3, rz, b, k, ey, hp2, kv, kd, q2⟩ := h2
  subst ey
  obtain rfl : u = Value.ref b := ry
  have hkey : (NK X).is s2.heap k b := ⟨KeyV.is I3 k _ _ kv rfl, kd⟩
  obtain ⟨⟨o, ho, hx, hdat⟩, _, _⟩ := I3.hok p _ hp2
  refine ⟨[(k, b, w2)], ⟨rfl, rfl, hkey, trivial⟩, ⟨o, #[], 0, ho, hx, hdat, rfl, by simp, by simp⟩, fun h' tk' dd sb => wpAny_pure ?_⟩
  have est : storedAllH [] [(k, b, w2)] = [(k, b, w2)] := rfl
  rw [est] at dd
  obtain ⟨o', es', ep', ho', hx', hdat', e1', _, _⟩ := dd
  have ok : ObjOk X.prog X.w (upd H2 p (dnO p es' ep')) h' p (dnO p es' ep') := ⟨⟨o', ho', hx', hdat'⟩, ⟨o', ho'⟩, fun h1 h2 ⟨u, hu1, hu2, hu3⟩ hk => ⟨u, hk u hu1, hu2, hu3⟩⟩
  refine ⟨.ref p, _, ?_, rfl, q2 es' ep' w2 (k.hash X.w) rz (fun w => KeyV.free k _ kv X.w w) (by rw [e1']; rfl)⟩
  have := d_write (t' := tk') I3 (by rw [hp2]; exact True.intro) sb ⟨o', ho'⟩ ok
  exact this
def okKey (k : D) : Bool := isTup k && match keyD k with
  | some nk => decide (nk.depth ≤ 8)
  | none => false
def gDisp1 (ga gb : GE) : GE := fun Γ M => (ga Γ M).bind fun k M1 => (gb Γ M1).bind fun v M2 => if okKey k = true then .ok (.dct [k] [v]) M2 else .bad
def gDisp1O (ga gb : GE) : GE := fun Γ M => (ga Γ M).bind fun k M1 => (gb Γ M1).bind fun v M2 => if okKey k = true then .ok (.ref M2.length) (M2 ++ [.dct [k] [v]]) else .bad
theorem disp_read {ga gb : GE} {ta tb : TE} {fin : D → D → List MO → R D} (qa : Rd1 X C W ga ta) (qb : Rd1 X C W gb tb)
    (hfin : ∀ (σ : St) (H0 Z0 : Hp) (ι0 : Nat → Addr) (M0 : List MO) (p : Addr) (Q : VK) (k v : D) (M : List MO) (H Z : Hp) (ι : Nat → Addr) (ho : HO) (nks : List NestedKey) (kx xs : List V), H0 p = none → (p == sysModules) = false → Ext H0 Z0 ι0 M0.length H Z ι M.length → HR X.K H Z ι M → Odd Z ι M.length p → (∃ es ep, ho = dnO p es ep ∧ Ents X.K Z nks kx xs es.toList) → kx.length ≤ sizeLine → nks.Nodup →
      Rps X.K Z ι M.length [k] kx → Rps X.K Z ι M.length [v] xs → Post X C W (rpE X.K) σ H0 Z0 ι0 M0 (fin k v M) Q → Q (.ref p) (upd H p ho)) :
    Rd1 X C W (fun Γ M => (ga Γ M).bind fun k M1 => (gb Γ M1).bind fun v M2 => if okKey k = true then fin k v M2 else .bad) (tDisp1 X.K ta tb) := by
  intro σ H Z ι Γ M Q sl hr h p hp hs
  have h : Post X C W (rpE X.K) σ H Z ι M ((ga Γ M).bind fun k M1 => (gb Γ M1).bind fun v M2 => if okKey k = true then fin k v M2 else .bad) Q := h
  have od0 : Odd Z ι M.length p := .new hr hp
  have hr0 : HR X.K (upd H p (dnO p #[] 0)) Z ι M := hr.odd od0
  have x0 : Ext H Z ι M.length (upd H p (dnO p #[] 0)) Z ι M.length := Ext.touch .refl hp
  refine qa σ _ Z ι Γ M _ sl hr0 ?_
  cases ea : ga Γ M with
  | bad => rw [ea] at h; exact h.elim
  | exc c d M' =>
    rw [ea] at h
    exact Post.shift (r := (.exc c d M' : R D)) (rp := rpE X.K) (Q := Q) h x0 hr0
  | ok k M1 =>
    rw [ea] at h
    have h : Post X C W (rpE X.K) σ H Z ι M ((gb Γ M1).bind fun v M2 => if okKey k = true then fin k v M2 else .bad) Q := h
    intro y H1 Z1 ι1 e1 hr1 r1
    have e01 := x0.trans e1 hr0.ali
    refine qb σ H1 Z1 ι1 Γ M1 _ (sl.ext e1) hr1 ?_
    cases eb : gb Γ M1 with
    | bad => rw [eb] at h; exact h.elim
    | exc c d M' =>
      rw [eb] at h
      exact Post.shift (r := (.exc c d M' : R D)) (rp := rpE X.K) (Q := Q) h e01 hr1
    | ok v M2 =>
      rw [eb] at h
      have h2 : Post X C W (rpE X.K) σ H Z ι M (if okKey k = true then fin k v M2 else .bad) Q := h
      intro z H2 Z2 ι2 e2 hr2 r2
      obtain ⟨od1, hp1⟩ := od0.ext upd_same e1
      obtain ⟨od2, hp2⟩ := od1.ext hp1 e2
      have e02 := e01.trans e2 hr1.ali
      by_cases c : okKey k = true
      · rw [if_pos c] at h2
        have c' : (isTup k && match keyD k with
          | some nk => decide (nk.depth ≤ 8)
          | none => false) = true := c
        rw [Bool.and_eq_true] at c'
        obtain ⟨c1, c2⟩ := c'
        cases ek : keyD k with
        | none => rw [ek] at c2; cases c2
        | some nk =>
          rw [ek] at c2
          have c2 : nk.depth ≤ 8 := by simpa using c2
          have rk := r1.ext e2
          have kz := keyD_run (fun _ _ z => z) _ _ _ rk ek
          have kh := keyD_run hr2.sub _ _ _ rk ek
          cases k with
          | tup ds =>
            cases rk with
            | tup sq rr =>
              refine ⟨_, nk, rfl, hp2, kh, c2, fun es ep r hsh rz hh he => ?_⟩
              exact hfin σ H Z ι M p Q (.tup ds) v M2 H2 Z2 ι2 _ [nk] _ _ hp hs e02 hr2 od2 ⟨es, ep, rfl, by rw [he]; exact .cons kz rfl c2 hh rz .nil⟩ (by show 1 ≤ sizeLine; decide) (by simp) (.cons (.tup sq rr) .nil) (.cons r2 .nil) h2
          | ptu ds =>
            cases rk with
            | ptu sq rr =>
              refine ⟨_, nk, rfl, hp2, kh, c2, fun es ep r hsh rz hh he => ?_⟩
              exact hfin σ H Z ι M p Q (.ptu ds) v M2 H2 Z2 ι2 _ [nk] _ _ hp hs e02 hr2 od2 ⟨es, ep, rfl, by rw [he]; exact .cons kz rfl c2 hh rz .nil⟩ (by show 1 ≤ sizeLine; decide) (by simp) (.cons (.ptu sq rr) .nil) (.cons r2 .nil) h2
          | _ => cases c1
      · rw [if_neg c] at h2
        exact h2.elim
theorem qe_disp1 {ke ve : Expr} {ga gb : GE} (hu : X.A.units + 8 < cLine) (ha : QE X C W ke ga) (hb : QE X C W ve gb) : QE X C W (.Dict [some ke] [ve] pos) (gDisp1 ga gb) := by
  obtain ⟨ta, pa, qa⟩ := ha
  obtain ⟨tb, pb, qb⟩ := hb
  refine ⟨_, pe_disp1 hu pa pb, disp_read (fin := fun k v M => .ok (.dct [k] [v]) M) qa qb ?_⟩
  intro σ H0 Z0 ι0 M0 p Q k v M H Z ι ho nks kx xs h0 hs e hr od hE hl hn rk rv h
  obtain ⟨es, ep, rfl, hE⟩ := hE
  have s1 : Sub Z (upd Z p (dnO p es ep)) := fun a u q => by rw [upd_ne (ne_of_none q od.z)]; exact q
  have hr1 : HR X.K (upd H p (dnO p es ep)) Z ι M := hr.odd od
  exact h _ _ _ ι ((e.touch h0).adoptZ od.z h0) (hr1.adoptZ od upd_same) (.dct ⟨es, ep, upd_same, hs, hl, hn, hE.sub s1⟩ (Rps.mono s1 (fun _ _ => rfl) (Nat.le_refl _) _ _ rk) (Rps.mono s1 (fun _ _ => rfl) (Nat.le_refl _) _ _ rv))
theorem qe_disp1O {ke ve : Expr} {ga gb : GE} (hu : X.A.units + 8 < cLine) (ha : QE X C W ke ga) (hb : QE X C W ve gb) : QE X C W (.Dict [some ke] [ve] pos) (gDisp1O ga gb) := by
  obtain ⟨ta, pa, qa⟩ := ha
  obtain ⟨tb, pb, qb⟩ := hb
  refine ⟨_, pe_disp1 hu pa pb, disp_read (fin := fun k v M => R.ok (D.ref M.length) (M ++ [MO.dct [k] [v]])) qa qb ?_⟩
  intro σ H0 Z0 ι0 M0 p Q k v M H Z ι ho nks kx xs h0 hs e hr od hE hl hn rk rv h
  obtain ⟨es, ep, rfl, hE⟩ := hE
  have hr1 : HR X.K (upd H p (dnO p es ep)) Z ι M := hr.odd od
  have up : ∀ {as : List D} {ws : List V}, Rps X.K Z ι M.length as ws → Rps X.K Z (put ι M.length p) (M.length + 1) as ws := fun r => Rps.mono (fun _ _ z => z) (fun _ z => put_lt z) (Nat.le_succ _) _ _ r
  have ln : (M ++ [MO.dct [k] [v]]).length = (M ++ [MO.lst []]).length := by simp
  refine h _ _ _ _ ?_ (hr1.adoptG (o' := .dct [k] [v]) od upd_same (by simp) ⟨nks, kx, xs, ⟨es, ep, upd_same, hs, hl, hn, hE⟩, up rk, up rv⟩) ref_new
  rw [ln]
  exact (e.touch h0).adoptM h0
@[simp] theorem u_gDct0 (Γ : Env) (M : List MO) : gDct0 Γ M = .ok (.dct [] []) M := Eq.trans rfl rfl
@[simp] theorem u_gDct0O (Γ : Env) (M : List MO) : gDct0O Γ M = .ok (.ref M.length) (M ++ [.dct [] []]) := Eq.trans rfl rfl
@[simp] theorem u_gDki0O (Γ : Env) (M : List MO) : gDki0O Γ M = .ok (.ref M.length) (M ++ [.dki []]) := Eq.trans rfl rfl
@[simp] theorem u_gDisp1 (ga gb : GE) (Γ : Env) (M : List MO) : gDisp1 ga gb Γ M = (ga Γ M).bind fun k M1 => (gb Γ M1).bind fun v M2 => if okKey k = true then .ok (.dct [k] [v]) M2 else .bad := Eq.trans rfl rfl
@[simp] theorem u_gDisp1O (ga gb : GE) (Γ : Env) (M : List MO) : gDisp1O ga gb Γ M = (ga Γ M).bind fun k M1 => (gb Γ M1).bind fun v M2 => if okKey k = true then .ok (.ref M2.length) (M2 ++ [.dct [k] [v]]) else .bad := Eq.trans rfl rfl
end
end Bk

set_option Elab.async false
set_option linter.all false
set_option maxRecDepth 100000
set_option maxHeartbeats 4000000
namespace Bk
open PySem PySem.Spec PyProof.Rows L2
/-! ### tuples that are known to have no dict -/
section
variable {X : Cx} {C : CT} {W : WX} {pos : Pos}
theorem pe_tup0P {x1} : PE X (.Tuple [] x1 pos) (fun σ H Q => ∀ (p : Addr) (o : Obj), H p = none → o.dict = none → Q (.ref p) (upd H p (.frz o (.tup [])))) := by
  refine ⟨fun pins s σ H Q I hq => ?_⟩
  have pa := (pa_nil (X := X)).run pos pins s σ H (fun xs H1 => xs = [] ∧ H1 = H) I ⟨rfl, rfl⟩
  refine wpAny_Tuple_spliced (thn pa fun us s1 hh => ?_)
  obtain ⟨xs, H1, I1, r, e1, e2⟩ := hh
  subst e1 e2
  cases r
  have hf : H1 s1.heap.objs.size = none := I1.hok.fresh (Nat.le_refl _)
  have hnew : (s1.heap.push { cls := .type "tuple", data := .seq #[] }).get? s1.heap.objs.size = some { cls := .type "tuple", data := .seq #[] } := Heap.get?_push_size _ rfl
  refine ⟨Nat.zero_le _, .ref s1.heap.objs.size, upd H1 s1.heap.objs.size (.frz { cls := .type "tuple", data := .seq #[] } (.tup [])), I1.laid (t' := s1.toks) (fun b u e => Heap.get?_push_of_some _ e) (Nat.le_refl _) ?_, rfl, hq _ _ hf rfl⟩
  exact ⟨hnew, Nat.zero_le _, [], .nil, ⟨_, hnew, rfl, _, rfl⟩⟩
def gTup0P : GE := fun _ M => .ok (.ptu []) M
theorem After.ptu {H Z : Hp} {ι : Nat → Addr} {M : List MO} {ds : List D} {Q : VK} {xs : List V} (h : After X H Z ι M (.ptu ds) Q) (hr : HR X.K H Z ι M) (r : Rps X.K Z ι M.length ds xs) : ∀ (p : Addr) (o : Obj), H p = none → o.dict = none → Q (.ref p) (upd H p (.frz o (.tup xs))) := fun p o hp ho => by
  obtain ⟨h1, e1⟩ := hr.frozen (o := .frz o (.tup xs)) hp
  exact h _ _ _ e1 h1 (.ptu ⟨o, upd_same, ho⟩ (r.ext e1))
theorem qe_tup0P {x1} : QE X C W (.Tuple [] x1 pos) gTup0P := ⟨_, pe_tup0P, fun σ H Z ι Γ M Q sl hr h p o hp ho => h.after.ptu hr .nil p o hp ho⟩
theorem call_tupleP : CallR X (.type "tuple") (fun xs H Q => ∃ p ys, xs = [.ref p] ∧ SqL X.K H p ys ∧ ∀ (l : Addr) (o : Obj), H l = none → o.dict = none → Q (.ref l) (upd H l (.frz o (.tup ys)))) := by
  intro pins s σ H xs us Q I r h
  obtain ⟨p, ys, rfl, hq, q⟩ := h
  obtain ⟨u, rfl, rx⟩ := vals1 r
  cases rx
  obtain ⟨its, r', pl, hz⟩ := I.list hq
  have hlen := r'.length
  refine call_tuple_list pl.isList (fun h' kp => ?_) (by simp only [List.size_toArray] <;> omega)
  have I1 : Inv X pins σ H { s with heap := h' } := I.kept (t' := s.toks) kp
  have hnew : (h'.push { cls := .type "tuple", data := .seq its.toArray }).get? h'.objs.size = some { cls := .type "tuple", data := .seq its.toArray } := Heap.get?_push_size _ rfl
  have I2 : Inv X pins σ (upd H h'.objs.size (.frz { cls := .type "tuple", data := .seq its.toArray } (.tup ys))) { s with heap := h'.push { cls := .type "tuple", data := .seq its.toArray } } :=
    I1.laid (t' := s.toks) (fun b o e => Heap.get?_push_of_some _ e) (Nat.le_refl _) ⟨hnew, hz, its, r', IsTup.new _ _⟩
  exact ⟨.ref h'.objs.size, _, I2, rfl, q _ _ (I1.hok.fresh (Nat.le_refl _)) rfl⟩
def dTupleP (M : List MO) (d : D) : Option D := (listD M d).map .ptu
theorem ok_tupleP : Ok1 X (fun x H Q => ∃ p ys, [x] = [.ref p] ∧ SqL X.K H p ys ∧ ∀ (l : Addr) (o : Obj), H l = none → o.dict = none → Q (.ref l) (upd H l (.frz o (.tup ys)))) dTupleP := fun x H Z ι M dx d Q hr rx e q => by
  unfold dTupleP at e
  cases e1 : listD M dx with
  | none => rw [e1] at e; cases e
  | some ds =>
    rw [e1] at e
    cases e
    obtain ⟨a, xs, rfl, s, r⟩ := listD_run hr rx e1
    exact ⟨_, _, rfl, s.sq, q.ptu hr r⟩
end
/-! ### sorted, pairs of ints -/
def leP (p q : Int × Int) : Bool := decide (p.1 < q.1) || (decide (p.1 = q.1) && decide (p.2 ≤ q.2))
def insP (x : Int × Int) : List (Int × Int) → List (Int × Int)
  | [] => [x]
  | y :: ys => if leP x y = true then x :: y :: ys else y :: insP x ys
def srtP : List (Int × Int) → List (Int × Int)
  | [] => []
  | x :: xs => insP x (srtP xs)
theorem insP_perm (x : Int × Int) : ∀ l, (insP x l).Perm (x :: l)
  | [] => .refl _
  | y :: ys => by
    unfold insP
    split
    · exact .refl _
    · exact ((insP_perm x ys).cons y).trans (.swap x y ys)
theorem srtP_perm : ∀ l, (srtP l).Perm l
  | [] => .refl _
  | x :: xs => (insP_perm x _).trans ((srtP_perm xs).cons x)
theorem leP_iff {p q : Int × Int} : leP p q = true ↔ p.1 < q.1 ∨ (p.1 = q.1 ∧ p.2 ≤ q.2) := by simp [leP]
abbrev LeP (p q : Int × Int) : Prop := p.1 < q.1 ∨ (p.1 = q.1 ∧ p.2 ≤ q.2)
theorem insP_ord {x : Int × Int} : ∀ {l : List (Int × Int)}, l.Pairwise LeP → (insP x l).Pairwise LeP
  | [], _ => by simp [insP]
  | y :: ys, h => by
    obtain ⟨h1, h2⟩ := List.pairwise_cons.mp h
    unfold insP
    split
    · rename_i c
      have c := leP_iff.mp c
      refine List.pairwise_cons.mpr ⟨fun z hz => ?_, h⟩
      rcases List.mem_cons.mp hz with rfl | hz
      · exact c
      · have := h1 z hz
        unfold LeP at *
        omega
    · rename_i c
      have c : ¬ LeP x y := fun z => c (leP_iff.mpr z)
      refine List.pairwise_cons.mpr ⟨fun z hz => ?_, insP_ord h2⟩
      rcases List.mem_cons.mp ((insP_perm x ys).mem_iff.mp hz) with rfl | hz
      · unfold LeP at *
        omega
      · exact h1 z hz
theorem srtP_ord : ∀ l, (srtP l).Pairwise LeP
  | [] => .nil
  | x :: xs => insP_ord (srtP_ord xs)
theorem ordP_one : ∀ {l m : List (Int × Int)}, l.Perm m → l.Pairwise LeP → m.Pairwise LeP → l = m
  | [], m, p, _, _ => (List.perm_nil.mp p.symm).symm
  | x :: l, [], p, _, _ => absurd (List.perm_nil.mp p) (by simp)
  | x :: l, y :: m, p, h, h' => by
    obtain ⟨a1, a2⟩ := List.pairwise_cons.mp h
    obtain ⟨b1, b2⟩ := List.pairwise_cons.mp h'
    have e : x = y := by
      rcases List.mem_cons.mp (p.mem_iff.mp (List.mem_cons_self ..)) with q | q
      · exact q
      · rcases List.mem_cons.mp (p.mem_iff.mpr (List.mem_cons_self ..)) with r | r
        · exact r.symm
        · have h1 := a1 y r
          have h2 := b1 x q
          unfold LeP at h1 h2
          exact Prod.ext (by omega) (by omega)
    subst e
    rw [ordP_one (List.Perm.cons_inv p) a2 b2]
def duoD (p : Int × Int) : D := .tup [.int p.1, .int p.2]
def pairsOf : List D → Option (List (Int × Int))
  | [] => some []
  | .tup [.int a, .int b] :: ds => (pairsOf ds).map ((a, b) :: ·)
  | _ => none
@[simp] theorem pairsOf_map (ps : List (Int × Int)) : pairsOf (ps.map duoD) = some ps := by
  induction ps with
  | nil => rfl
  | cons p ps ih => simp [pairsOf, duoD] at ih ⊢; exact ih
theorem pairsOf_is : ∀ {ds : List D} {ps : List (Int × Int)}, pairsOf ds = some ps → ds = ps.map duoD
  | [], ps, h => by cases h; rfl
  | d :: ds, ps, h => by
    unfold pairsOf at h
    split at h
    · rename_i e
      cases e
    · rename_i a b ds' e
      cases e
      cases e1 : pairsOf ds with
      | none => rw [e1] at h; cases h
      | some qs =>
        rw [e1] at h
        cases h
        rw [List.map_cons, ← pairsOf_is e1]
        rfl
    · cases h
def pairAt (h : Heap) : Value → Int × Int
  | .ref t => match h.get? t with
    | some o => match o.data with
      | .seq xs _ => match xs.toList with
        | [.int a _, .int b _] => (a, b)
        | _ => (0, 0)
      | _ => (0, 0)
    | none => (0, 0)
  | _ => (0, 0)
section
variable {X : Cx}
theorem pair_there {pins : List (Addr × Obj)} {σ : St} {H Z : Hp} {ι : Nat → Addr} {n : Nat} {s : Shared} (I : Inv X pins σ H s) (hz : Sub Z H) {p : Int × Int} {x : V} {u : Value} (r : Rp X.K Z ι n (duoD p) x) (rv : RelV x u) : Srt.IsPair s.heap u p.1 p.2 ∧ pairAt s.heap u = p ∧ (∃ a, x = .ref a) := by
  cases r with
  | tup sq rr =>
    rename_i a xs
    obtain rfl : u = Value.ref a := rv
    obtain ⟨its, rv2, ⟨o, ho, hc, m, hd⟩, _⟩ := I.tuple (subT hz sq)
    cases rr with
    | cons r1 rr =>
      cases rr with
      | cons r2 rr =>
        cases rr
        cases r1
        cases r2
        obtain ⟨u1, u2, rfl, ri, rj⟩ := vals2 rv2
        obtain ⟨t1, rfl⟩ := ri
        obtain ⟨t2, rfl⟩ := rj
        refine ⟨⟨a, o, t1, t2, m, rfl, ho, hc, by rw [hd]⟩, ?_, _, rfl⟩
        simp [pairAt, ho, hd]
def rSrtP (K : PySem.W.Frag) : List V → Hp → VK → Prop := fun vs H Q => ∃ (a : Addr) (Z : Hp) (ι : Nat → Addr) (n : Nat) (ps : List (Int × Int)) (xs : List V), vs = [.ref a] ∧ SqL K H a xs ∧ Sub Z H ∧ Rps K Z ι n (ps.map duoD) xs ∧
  ∀ ys p, Rps K Z ι n ((srtP ps).map duoD) ys → H p = none → Q (.ref p) (upd H p (.lst ys))
theorem pairs_there {pins : List (Addr × Obj)} {σ : St} {H Z : Hp} {ι : Nat → Addr} {n : Nat} {s : Shared} (I : Inv X pins σ H s) (hz : Sub Z H) : ∀ {ps : List (Int × Int)} {xs : List V} {us : List Value}, Rps X.K Z ι n (ps.map duoD) xs → Vals xs us →
    us.map (pairAt s.heap) = ps ∧ (∀ u ∈ us, Srt.IsPair s.heap u (pairAt s.heap u).1 (pairAt s.heap u).2 ∧ Rp X.K Z ι n (duoD (pairAt s.heap u)) (backV u)) ∧ (∀ x ∈ xs, ∃ a, x = V.ref a)
  | [], _, _, h, r => by
    cases h
    cases r
    exact ⟨rfl, by simp, by simp⟩
  | p :: ps, _, _, h, r => by
    cases h with
    | cons h1 h2 =>
      cases r with
      | cons r1 r2 =>
        obtain ⟨a1, a2, a3⟩ := pairs_there I hz h2 r2
        obtain ⟨b1, b2, a, b3⟩ := pair_there I hz h1 r1
        refine ⟨by rw [List.map_cons, a1, b2], fun u hu => ?_, fun x hx => ?_⟩
        · rcases List.mem_cons.mp hu with rfl | hu
          · rw [b2]
            refine ⟨b1, ?_⟩
            subst b3
            obtain rfl : u = Value.ref a := r1
            exact h1
          · exact a2 u hu
        · rcases List.mem_cons.mp hx with rfl | hx
          · exact ⟨a, b3⟩
          · exact a3 x hx
theorem cr_srtP : CallR X (.builtin "sorted") (rSrtP X.K) := by
  intro pins s σ H vs us Q I r h
  obtain ⟨a, Z, ι, n, ps, xs, rfl, hs, hz, hp, q⟩ := h
  obtain ⟨its, rv, hl, hsz⟩ := I.list hs
  obtain ⟨u, rfl, ru⟩ := vals1 r
  obtain rfl : u = Value.ref a := ru
  obtain ⟨e1, e2, e3⟩ := pairs_there I hz hp rv
  obtain ⟨e4, e5⟩ := refs_back rv e3
  refine SrtO.sorted_pairsO (k := pairAt s.heap) hl.isList (by rw [← rv.length]; exact hsz) (fun v hv => (e2 v hv).1) fun h' d out h1 h2 kp hd hn => ?_
  have hperm := h2.perm
  have h3 : ∀ u ∈ out, ∃ a, u = Value.ref a := fun u hu => e5 u (hperm.mem_iff.mp hu)
  obtain ⟨m, hn⟩ := hn
  have ho : out.map (pairAt s.heap) = srtP ps := by
    refine ordP_one ((hperm.map _).trans (by rw [e1]; exact (srtP_perm ps).symm)) ?_ (srtP_ord ps)
    refine List.pairwise_map.mpr (h1.imp fun {x y} z => ?_)
    have z : SrtO.lexB (pairAt s.heap y) (pairAt s.heap x) = false := z
    have z' : ¬ (SrtO.lexB (pairAt s.heap y) (pairAt s.heap x) = true) := by rw [z]; simp
    rw [SrtO.lexB_iff] at z'
    unfold LeP
    omega
  have rys : ∀ l : List Value, (∀ u ∈ l, u ∈ its) → Rps X.K Z ι n ((l.map (pairAt s.heap)).map duoD) (l.map backV) := fun l => by
    induction l with
    | nil => intro _; exact .nil
    | cons v l ih =>
      intro hl
      exact .cons (e2 v (hl v (List.mem_cons_self))).2 (ih fun u hu => hl u (List.mem_cons_of_mem _ hu))
  have ry := rys out fun u hu => hperm.mem_iff.mp hu
  rw [ho] at ry
  have lo : out.length = its.length := hperm.length_eq
  refine ⟨.ref d, upd H d (.lst (out.map backV)), I.laid (t' := s.toks) kp hd ⟨?_, out, m, vals_back h3, hn⟩, rfl, q _ d ry (I.hok.fresh hd)⟩
  rw [List.length_map, lo, ← rv.length]
  exact hsz
def dSortP (M : List MO) (d : D) : Option D := ((listD M d).bind pairsOf).map fun ps => .lst ((srtP ps).map duoD)
theorem ok_srtP : Ok1 X (fun x H Q => rSrtP X.K [x] H Q) dSortP := fun x H Z ι M dx d Q hr rx e q => by
  unfold dSortP at e
  cases e1 : listD M dx with
  | none => rw [e1] at e; cases e
  | some ds =>
    rw [e1, Option.bind_some] at e
    cases e2 : pairsOf ds with
    | none => rw [e2] at e; cases e
    | some ps =>
      rw [e2] at e
      cases e
      obtain ⟨a, xs, rfl, s, r⟩ := listD_run hr rx e1
      rw [pairsOf_is e2] at r
      exact ⟨a, Z, ι, M.length, ps, xs, rfl, s.sq, hr.sub, r, fun ys p ry hp => q.lst hr ry p hp⟩
def dSortA (M : List MO) (d : D) : Option D := match dSort M d with
  | some r => some r
  | none => dSortP M d
theorem cr_srtA (hc : X.calm = true) : CallR X (.builtin "sorted") (fun xs H Q => rSortedI X.K xs H Q ∨ rSrtP X.K xs H Q) := CallR.or cr_sortedI cr_srtP
theorem ok_srtA : Ok1 X (fun x H Q => rSortedI X.K [x] H Q ∨ rSrtP X.K [x] H Q) dSortA := fun x H Z ι M dx d Q hr rx e q => by
  unfold dSortA at e
  cases e1 : dSort M dx with
  | some r =>
    rw [e1] at e
    cases e
    exact .inl (ok_sort x H Z ι M dx _ Q hr rx e1 q)
  | none =>
    rw [e1] at e
    exact .inr (ok_srtP x H Z ι M dx d Q hr rx e q)
end
theorem e_srtP (M : List MO) (ps : List (Int × Int)) : dSortP M (.lst (ps.map duoD)) = some (.lst ((srtP ps).map duoD)) := by
  simp [dSortP, listD]
@[simp] theorem u_gTup0P (Γ : Env) (M : List MO) : gTup0P Γ M = .ok (.ptu []) M := Eq.trans rfl rfl
end Bk

set_option Elab.async false
set_option linter.all false
set_option maxRecDepth 100000
set_option maxHeartbeats 4000000
namespace Bk
open PySem PySem.Spec PyProof.Rows L2
/-! ### dicts of ours with whole numbers as keys -/
def kiGet : List (Int × D) → Int → Option D
  | [], _ => none
  | p :: r, i => if p.1 = i then some p.2 else kiGet r i
def kiHas : List (Int × D) → Int → Bool
  | [], _ => false
  | p :: r, i => decide (p.1 = i) || kiHas r i
def kiRep : List (Int × D) → Int → D → List (Int × D)
  | [], _, _ => []
  | p :: r, i, d => (if p.1 = i then (p.1, d) else p) :: kiRep r i d
def kiPut (kvs : List (Int × D)) (i : Int) (d : D) : List (Int × D) := if kiHas kvs i = true then kiRep kvs i d else kvs ++ [(i, d)]
/-- the entries as they stand -/
inductive KiR (K : PySem.W.Frag) (Z : Hp) (ι : Nat → Addr) (n : Nat) : List (Int × D) → List (L2.Key × V) → Prop
  | nil : KiR K Z ι n [] []
  | cons {i : Int} {d : D} {v : V} {ks : List (Int × D)} {gs : List (L2.Key × V)} : Rp K Z ι n d v → KiR K Z ι n ks gs → KiR K Z ι n ((i, d) :: ks) ((Sum.inl i, v) :: gs)
section
variable {K : PySem.W.Frag} {Z : Hp} {ι : Nat → Addr} {n : Nat}
theorem KiR.of : ∀ {ks : List (Int × D)} {gs : List (L2.Key × V)}, gs.map (·.1) = ks.map (fun p => Sum.inl p.1) → Rps K Z ι n (ks.map (·.2)) (gs.map (·.2)) → KiR K Z ι n ks gs
  | [], [], _, _ => .nil
  | [], g :: gs, h, _ => by simp at h
  | k :: ks, [], h, _ => by simp at h
  | (i, d) :: ks, (j, v) :: gs, h, r => by
    simp only [List.map_cons, List.cons.injEq] at h
    obtain ⟨rfl, h2⟩ := h
    simp only [List.map_cons] at r
    cases r with
    | cons r1 r2 => exact .cons r1 (KiR.of h2 r2)
theorem KiR.back : ∀ {ks : List (Int × D)} {gs : List (L2.Key × V)}, KiR K Z ι n ks gs → gs.map (·.1) = ks.map (fun p => Sum.inl p.1) ∧ Rps K Z ι n (ks.map (·.2)) (gs.map (·.2)) ∧ Rps K Z ι n (ks.map fun p => .int p.1) (gs.map fun p => kV p.1) ∧ ks.length = gs.length
  | _, _, .nil => ⟨rfl, .nil, .nil, rfl⟩
  | _, _, .cons r s => by
    obtain ⟨a, b, c, d⟩ := s.back
    exact ⟨by simp [a], .cons r b, .cons (.int _) c, by simp [d]⟩
theorem KiR.get (i : Int) : ∀ {ks : List (Int × D)} {gs : List (L2.Key × V)}, KiR K Z ι n ks gs → (match kiGet ks i with
    | some d => ∃ v, valV gs (Sum.inl i) = some v ∧ Rp K Z ι n d v
    | none => valV gs (Sum.inl i) = none)
  | _, _, .nil => rfl
  | _, _, .cons (i := j) (d := d) (v := v) r s => by
    by_cases e : j = i
    · subst e
      simp only [kiGet, if_true]
      exact ⟨v, valV_pos rfl, r⟩
    · have ne : ¬ ((Sum.inl j : L2.Key) = Sum.inl i) := fun z => e (Sum.inl.inj z)
      simp only [kiGet, if_neg e]
      have ih := s.get i
      rw [valV_neg (p := ((Sum.inl j : L2.Key), v)) ne]
      exact ih
theorem KiR.has (i : Int) : ∀ {ks : List (Int × D)} {gs : List (L2.Key × V)}, KiR K Z ι n ks gs → (gs.any fun kv => decide (kv.1 = Sum.inl i)) = kiHas ks i
  | _, _, .nil => rfl
  | _, _, .cons (i := j) r s => by
    rw [List.any_cons, s.has i]
    have : (decide ((Sum.inl j : L2.Key) = Sum.inl i)) = decide (j = i) := by
      rw [decide_eq_decide]
      exact ⟨fun z => Sum.inl.inj z, fun z => by rw [z]⟩
    rw [this]
    rfl
theorem KiR.rep (i : Int) {d : D} {v : V} (rv : Rp K Z ι n d v) : ∀ {ks : List (Int × D)} {gs : List (L2.Key × V)}, KiR K Z ι n ks gs → KiR K Z ι n (kiRep ks i d) (gs.map fun kv => if kv.1 = Sum.inl i then (kv.1, v) else kv)
  | _, _, .nil => .nil
  | _, _, .cons (i := j) (v := w) r s => by
    have ih := s.rep i rv
    by_cases e : j = i
    · subst e
      simp only [kiRep, List.map_cons, if_true]
      exact .cons rv ih
    · have ne : ¬ ((Sum.inl j : L2.Key) = Sum.inl i) := fun z => e (Sum.inl.inj z)
      simp only [kiRep, List.map_cons, if_neg e, if_neg ne]
      exact .cons r ih
theorem KiR.snoc {i : Int} {d : D} {v : V} (rv : Rp K Z ι n d v) : ∀ {ks : List (Int × D)} {gs : List (L2.Key × V)}, KiR K Z ι n ks gs → KiR K Z ι n (ks ++ [(i, d)]) (gs ++ [(Sum.inl i, v)])
  | _, _, .nil => .cons rv .nil
  | _, _, .cons r s => .cons r (s.snoc rv)
theorem KiR.put (i : Int) {d : D} {v : V} (rv : Rp K Z ι n d v) {ks : List (Int × D)} {gs : List (L2.Key × V)} (h : KiR K Z ι n ks gs) : KiR K Z ι n (kiPut ks i d) (putK gs (Sum.inl i) v) := by
  unfold kiPut putK
  rw [h.has i]
  by_cases c : kiHas ks i = true
  · rw [if_pos c, if_pos c]
    exact h.rep i rv
  · rw [if_neg c, if_neg c]
    exact h.snoc rv
def kiMerge (kvs more : List (Int × D)) : List (Int × D) := more.foldl (fun acc p => kiPut acc p.1 p.2) kvs
theorem KiR.merge : ∀ {more : List (Int × D)} {gm : List (L2.Key × V)} {ks : List (Int × D)} {gs : List (L2.Key × V)}, KiR K Z ι n more gm → KiR K Z ι n ks gs → KiR K Z ι n (kiMerge ks more) (mergeK gs gm)
  | _, _, _, _, .nil, h => h
  | _, _, _, _, .cons r s, h => s.merge (h.put _ r)
theorem KiR.mono {Z' : Hp} {ι' : Nat → Addr} {n' : Nat} (hz : Sub Z Z') (hi : ∀ k, k < n → ι' k = ι k) (hn : n ≤ n') : ∀ {ks : List (Int × D)} {gs : List (L2.Key × V)}, KiR K Z ι n ks gs → KiR K Z' ι' n' ks gs
  | _, _, .nil => .nil
  | _, _, .cons r s => .cons (Rp.mono hz hi hn _ _ r) (s.mono hz hi hn)
end
/-! ### dict(t), t a tuple of pairs -/
section
variable {X : Cx}
def rDictT (K : PySem.W.Frag) : List V → Hp → VK → Prop := fun xs H Q => ∃ (a : Addr) (ps : List Addr) (kvs : List (L2.Key × V)), xs = [.ref a] ∧ PlT H a (ps.map V.ref) ∧ Paired (fun p kv => SqT K H p [kV kv.1, kv.2]) ps kvs ∧
    ∀ p, H p = none → Q (.ref p) (upd H p (.dK (mergeK [] kvs)))
theorem call_dictT (hcalm : X.calm = true) : CallR X (.type "dict") (rDictT X.K) := by
  intro pins s σ H xs us Q I r q
  obtain ⟨a, ps, kvs, ex, hq, hp, q⟩ := q
  subst ex
  obtain ⟨u, eu, rx⟩ := vals1 r
  subst eu
  cases rx
  obtain ⟨its, rv, pl, hz⟩ := I.tuple (hq.sq (K := X.K))
  obtain ⟨o, ho, hdn⟩ := hq
  obtain ⟨hob, _⟩ := I.hok a _ ho
  have ei := refs_at rv
  subst ei
  obtain ⟨o', ho', hc', m', hd'⟩ := pl
  rw [hob] at ho'
  cases ho'
  rw [List.length_map] at hz
  obtain ⟨prs, rel, hl, hpr⟩ := pairs_of I hp
  have get2 : ∀ (j : Nat) (w : L2.Key × Value), prs[j]? = some w → ∃ u, (∃ b, ps[j]? = some b ∧ IsTup s.heap b #[u, w.2]) ∧ keyIs w.1 u = true := fun j w e =>
    let ⟨b, u, e1, e2, e3⟩ := hpr j w e
    ⟨u, ⟨b, e1, e2⟩, e3⟩
  classical
  let us' : List (Value × Value) := (List.range prs.length).map fun j => if h : ∃ (u : Value) (w : L2.Key × Value), prs[j]? = some w ∧ (∃ b, ps[j]? = some b ∧ IsTup s.heap b #[u, w.2]) ∧ keyIs w.1 u = true then (h.choose, h.choose_spec.choose.2) else (.none, .none)
  have hus : us'.length = prs.length := by simp [us']
  have hat : ∀ (j : Nat) (k v : Value), us'[j]? = some (k, v) → ∃ w b, prs[j]? = some w ∧ w.2 = v ∧ ps[j]? = some b ∧ IsTup s.heap b #[k, v] ∧ keyIs w.1 k = true := fun j k v e => by
    have lt : j < prs.length := by rw [← hus]; exact (List.getElem?_eq_some_iff.mp e).1
    have hw : prs[j]? = some prs[j] := List.getElem?_eq_getElem lt
    have hx : ∃ (u : Value) (w : L2.Key × Value), prs[j]? = some w ∧ (∃ b, ps[j]? = some b ∧ IsTup s.heap b #[u, w.2]) ∧ keyIs w.1 u = true := let ⟨u, h1, h2⟩ := get2 j _ hw; ⟨u, _, hw, h1, h2⟩
    have e2 : us'[j]? = some (hx.choose, hx.choose_spec.choose.2) := by
      simp only [us', List.getElem?_map, List.getElem?_range lt, Option.map_some]
      rw [dif_pos hx]
    rw [e2] at e
    cases e
    obtain ⟨b1, ⟨b, b2, b3⟩, b4⟩ := hx.choose_spec.choose_spec
    exact ⟨_, b, b1, rfl, b2, b3, b4⟩
  have P := PySem.PairArg.tuple (prog := X.prog) (w := X.w) a (ps.map Value.ref).toArray (fun j => ps.getD j 0) us'
  have ok : PlainSeq "tuple" s.heap a (ps.map Value.ref).toArray ∧ PairItems s.heap (ps.map Value.ref).toArray (fun j => ps.getD j 0) us' := by
    refine ⟨⟨o, m', hob, hc', hdn, hd'⟩, by simp [hus, hl], fun j k v e => ?_⟩
    obtain ⟨w, b, b1, b2, b3, b4, b5⟩ := hat j k v e
    refine ⟨by simp [b3], .inl ?_⟩
    show s.heap.IsTuple (ps.getD j 0) #[k, v]
    rw [List.getD_eq_getElem?_getD, b3]
    obtain ⟨o2, c1, c2, m2, c3⟩ := b4
    exact ⟨o2, c1, c2, m2, c3⟩
  refine PySem.call_dict_pairs (knd := mixKind X.prog X.w) (kvs := prs) P (I.ok.hd hcalm) ok ⟨hus.symm, fun j k v e => ?_⟩ (by rw [hus, hl]; exact hz) fun h' tk hd' k => ?_
  · obtain ⟨w, b, b1, b2, b3, b4, b5⟩ := hat j k v e
    refine ⟨w.1, ?_, b5⟩
    rw [b1, ← b2]
  · have hm : (s.heap.objs.size == sysModules) = false := beq_eq_false_iff_ne.mpr (Nat.ne_of_gt I.big)
    have hlen : (mergeK [] kvs).length ≤ sizeLine := by
      refine Nat.le_trans (length_mergeK kvs []) ?_
      rw [List.length_nil, Nat.zero_add, rel.length, hl]
      exact hz
    exact ⟨.ref s.heap.objs.size, upd H s.heap.objs.size (.dK (mergeK [] kvs)), I.laid (t' := tk) (fun b o e => k b o (by simp) e) (Nat.le_refl _) (show ObjOk X.prog X.w _ _ _ (.dK (mergeK [] kvs)) from ⟨hlen, hm, merged [] prs, KV.merge rel .nil, hd'⟩), rfl, q _ (I.hok.fresh (Nat.le_refl _))⟩
end
end Bk

set_option Elab.async false
set_option linter.all false
set_option maxRecDepth 100000
set_option maxHeartbeats 4000000
namespace Bk
open PySem PySem.Spec PyProof.Rows L2
/-! ### dict(t) as a dict of ours -/
def kiOf : List D → Option (List (Int × D))
  | [] => some []
  | .tup [.int i, d] :: ds => (kiOf ds).map ((i, d) :: ·)
  | _ => none
theorem kiOf_is : ∀ {ds : List D} {ps : List (Int × D)}, kiOf ds = some ps → ds = ps.map fun p => .tup [.int p.1, p.2]
  | [], ps, h => by cases h; rfl
  | d :: ds, ps, h => by
    unfold kiOf at h
    split at h
    · rename_i e
      cases e
    · rename_i i d' ds' e
      cases e
      cases e1 : kiOf ds with
      | none => rw [e1] at h; cases h
      | some qs =>
        rw [e1] at h
        cases h
        rw [List.map_cons, ← kiOf_is e1]
    · cases h
@[simp] theorem kiOf_map (ps : List (Int × D)) : kiOf (ps.map fun p => .tup [.int p.1, p.2]) = some ps := by
  induction ps with
  | nil => rfl
  | cons p ps ih => simp [kiOf, ih]
def gDictT (ge : GE) : GE := fun Γ M => (ge Γ M).bind fun x M1 => match x with
  | .ptu ds => match kiOf ds with
    | some kvs => .ok (.ref M1.length) (M1 ++ [.dki (kiMerge [] kvs)])
    | none => .bad
  | _ => .bad
def gGetK (go gk gx : GE) : GE := fun Γ M => (go Γ M).bind fun x M1 => match x with
  | .ref k => match M1[k]? with
    | some (.dki _) => (gk Γ M1).bind fun y M2 => (gx Γ M2).bind fun z M3 => match y, M3[k]? with
      | .int i, some (.dki kvs) => .ok ((kiGet kvs i).getD z) M3
      | _, _ => .bad
    | _ => .bad
  | _ => .bad
section
variable {X : Cx} {C : CT} {W : WX}
theorem kis_paired {H Z : Hp} {ι : Nat → Addr} {n : Nat} (hz : Sub Z H) : ∀ {ps : List (Int × D)} {xs : List V}, Rps X.K Z ι n (ps.map fun p => .tup [.int p.1, p.2]) xs → ∃ (as : List Addr) (gs : List (L2.Key × V)), xs = as.map V.ref ∧ Paired (fun p kv => SqT X.K H p [kV kv.1, kv.2]) as gs ∧ KiR X.K Z ι n ps gs
  | [], _, h => by cases h; exact ⟨[], [], rfl, .nil, .nil⟩
  | p :: ps, _, h => by
    rw [List.map_cons] at h
    cases h with
    | cons h1 h2 =>
      obtain ⟨as, gs, e, q, r⟩ := kis_paired hz h2
      subst e
      cases h1 with
      | tup sq rr =>
        rename_i a xs
        cases rr with
        | cons r1 rr =>
          cases rr with
          | cons r2 rr =>
            cases rr
            cases r1
            exact ⟨a :: as, (Sum.inl p.1, _) :: gs, rfl, .cons (subT hz sq) q, .cons r2 r⟩
theorem qe_dictT {e : Expr} {g : GE} {p pos : Pos} (hc : X.calm = true) (hg : Gl X "dict") (hm : X.mg "dict" = none) (ha : QE X C W e g)
    (he : starEach [e] X.env = (false, eval e X.env) :: starEach [] X.env := by rfl) (hpl : (backTo pos (starEach [] X.env)).any (·.1) = false := by rfl) : QE X C W (.Call (.Name "dict" p) [e] [] pos) (gDictT g) := by
  obtain ⟨ta, pa, qa⟩ := ha
  refine ⟨_, pe_callTy (call_dictT hc) hg hm (by decide +kernel) (pa_cons pa pa_nil he) (by decide) (by decide) he hpl, fun σ H Z ι Γ M Q sl hr h => ?_⟩
  refine qa σ H Z ι Γ M _ sl hr (Post.bind h fun x M1 v H1 Z1 ι1 e1 hr1 r1 h1 => ?_)
  cases r1 with
  | ptu s r =>
    rename_i ds a xs
    simp only at h1
    cases e1 : kiOf ds with
    | none => rw [e1] at h1; exact h1.elim
    | some kvs =>
      rw [e1] at h1
      rw [kiOf_is e1] at r
      obtain ⟨as, gs, rfl, q, kr⟩ := kis_paired hr1.sub r
      obtain ⟨o, s1, s2⟩ := s
      refine ⟨a, as, gs, rfl, ⟨o, hr1.sub _ _ s1, s2⟩, q, fun p hp => ?_⟩
      have km : KiR X.K Z1 ι1 M1.length (kiMerge [] kvs) (mergeK [] gs) := kr.merge .nil
      have km2 := km.mono (Z' := Z1) (ι' := put ι1 M1.length p) (n' := M1.length + 1) (fun _ _ z => z) (fun _ z => put_lt z) (Nat.le_succ _)
      obtain ⟨b1, b2, b3, b4⟩ := km2.back
      obtain ⟨hr2, x2⟩ := hr1.ownedG (o' := .dki (kiMerge [] kvs)) (ho := .dK (mergeK [] gs)) hp (by simp) ⟨_, upd_same, b1, b2⟩
      exact h1 _ _ _ _ x2 hr2 ref_new
  | _ => exact h1.elim
theorem dki_there {H Z : Hp} {ι : Nat → Addr} {M : List MO} (hr : HR X.K H Z ι M) {k : Nat} {kvs : List (Int × D)} (h : M[k]? = some (.dki kvs)) : ∃ gs, H (ι k) = some (.dK gs) ∧ KiR X.K Z ι M.length kvs gs := by
  obtain ⟨gs, h1, h2, h3⟩ := hr.obj k _ h
  exact ⟨gs, h1, KiR.of h2 h3⟩
theorem qe_getK {o e e2 : Expr} {go gk gx : GE} {apos cpos : Pos} (hu : X.A.units + 1 < cLine) (ho : QE X C W o go) (hk : QE X C W e gk) (hx : QE X C W e2 gx) (m : M2 X o "get" apos e e2 cpos := by exact ⟨rfl, rfl, rfl, rfl⟩) :
    QE X C W (.Call (.Attribute o "get" apos) [e, e2] [] cpos) (gGetK go gk gx) := by
  obtain ⟨ta, pa, qa⟩ := ho
  obtain ⟨tb, pb, qb⟩ := hk
  obtain ⟨tc, pc, qc⟩ := hx
  refine ⟨_, pe_dget2 hu pa pb pc m, fun σ H Z ι Γ M Q sl hr h => qa σ H Z ι Γ M _ sl hr (h.bind fun x M1 v H1 Z1 ι1 e1 hr1 r1 h1 => ?_)⟩
  cases r1 with
  | ref hk =>
    rename_i k
    simp only at h1
    cases ek : M1[k]? with
    | none => rw [ek] at h1; exact h1.elim
    | some o =>
      rw [ek] at h1
      cases o with
      | dki kvs =>
        obtain ⟨gs, d1, d2⟩ := dki_there hr1 ek
        refine ⟨_, rfl, .inl ⟨gs, .inl d1⟩, qb σ H1 Z1 ι1 Γ M1 _ (sl.ext e1) hr1 (Post.bind h1 fun y M2 u H2 Z2 ι2 e2 hr2 r2 h2 => qc σ H2 Z2 ι2 Γ M2 _ ((sl.ext e1).ext e2) hr2 (h2.bind fun z M3 uz H3 Z3 ι3 e3 hr3 r3 h3 => ?_))⟩
        have r2' := r2.ext e3
        cases r2' with
        | int i =>
          have h3 : Post X C W (rpE X.K) σ H3 Z3 ι3 M3 (match M3[k]? with
            | some (.dki kvs) => .ok ((kiGet kvs i).getD z) M3
            | _ => .bad) Q := by
            cases ek3 : M3[k]? with
            | none => rw [ek3] at h3; exact h3
            | some o3 => rw [ek3] at h3; cases o3 <;> exact h3
          cases ek3 : M3[k]? with
          | none => rw [ek3] at h3; exact h3.elim
          | some o3 =>
            rw [ek3] at h3
            cases o3 with
            | dki kvs3 =>
              obtain ⟨gs3, f1, f2⟩ := dki_there hr3 ek3
              have ei : ι3 k = ι1 k := (e3.ii k (Nat.lt_of_lt_of_le hk e2.ln)).trans (e2.ii k hk)
              rw [ei] at f1
              refine ⟨_, DGet.k (k := Sum.inl i) f1, ?_⟩
              have g := f2.get i
              have h4 : Post X C W (rpE X.K) σ H3 Z3 ι3 M3 (.ok ((kiGet kvs3 i).getD z) M3) Q := h3
              generalize kiGet kvs3 i = og at g h4
              cases og with
              | none =>
                have g : valV gs3 (Sum.inl i) = none := g
                rw [g]
                exact h4 _ H3 Z3 ι3 .refl hr3 r3
              | some d =>
                obtain ⟨w, g1, g2⟩ := g
                rw [g1]
                exact h4 _ H3 Z3 ι3 .refl hr3 g2
            | _ => exact h3.elim
        | _ => exact h3.elim
      | _ => exact h1.elim
  | _ => exact h1.elim
/-! ### d[k] = v -/
theorem PSet.or {t t' : TSet} (h : PSet X t) (h' : PSet X t') : PSet X (fun o i v H Q => t o i v H Q ∨ t' o i v H Q) := by
  intro pins s σ H o i v ov iv u Q I ro ri rv q
  rcases q with q | q
  · exact h pins s σ H o i v ov iv u Q I ro ri rv q
  · exact h' pins s σ H o i v ov iv u Q I ro ri rv q
def rSetN (K : PySem.W.Frag) : TSet := fun o i v H Q => ∃ (D b : Addr) (es : Array DictEntry) (ep : Nat) (nks nks' : List NestedKey) (ks vs : List V) (k : NestedKey), o = .ref D ∧ (D == sysModules) = false ∧ i = .ref b ∧ H D = some (dnO D es ep) ∧ AllRef ks ∧ ks.length ≤ sizeLine ∧ Ents K H nks ks vs es.toList ∧ nks.Nodup ∧ KeyVs K H nks' ks ∧ vs.length < sizeLine ∧ KeyV K H k (.ref b) ∧ k.depth ≤ 8 ∧
    ∀ (es' : Array DictEntry) (ep' : Nat) (r : Value) (hs : Int), RelV v r → (∀ w : World, hs = k.hash w) → nks = nks' → (match posK k nks with
      | some i => es'.toList = setV r i es.toList
      | none => es'.toList = es.toList ++ [⟨hs, .ref b, r⟩]) → Q (upd H D (dnO D es' ep'))
theorem set_dctN (hu : X.A.units + 1 + 8 < cLine) : PSet X (rSetN X.K) := by
  intro pins s σ H o i v ov iv u Q I ro ri rv q
  obtain ⟨D, b, es, ep, nks, nks', ks, vs, k, rfl, hs, rfl, hD, hrf, hl, he, hn, hkv, hz, hk, hd, hq⟩ := q
  have en : nks = nks' := ExD.keys I (a := D) (vs := vs) ⟨es, ep, hD, hs, hl, hn, he⟩ hkv
  obtain rfl : ov = Value.ref D := ro
  obtain rfl : iv = Value.ref b := ri
  obtain ⟨xs, e1, e2, e3, e4, e5⟩ := Ents.trip I he hrf
  obtain ⟨⟨o, ho, hx, hdat⟩, _, _⟩ := I.hok D _ hD
  have nd : (xs.map (·.1)).Nodup := by rw [e2]; exact hn
  have dd : s.heap.DictOfH (NK X) D xs := ⟨o, es, ep, ho, hx, hdat, e1, e3, nd⟩
  have hkey : (NK X).is s.heap k b := ⟨KeyV.is I k _ _ hk rfl, hd⟩
  refine wpAny_setItem_heap (show (NK X).room X.A.in1 from hu) hkey dd (fun h' dd' sb => ?_) (by omega)
  obtain ⟨o', es', ep', ho', hx', hdat', e1', _, _⟩ := dd'
  have ok : ObjOk X.prog X.w (upd H D (dnO D es' ep')) h' D (dnO D es' ep') := ⟨⟨o', ho', hx', hdat'⟩, ⟨o', ho'⟩, fun h1 h2 ⟨u, hu1, hu2, hu3⟩ hk => ⟨u, hk u hu1, hu2, hu3⟩⟩
  refine ⟨_, d_write I (by rw [hD]; exact True.intro) sb ⟨o', ho'⟩ ok, hq es' ep' u (k.hash X.w) rv (fun w => KeyV.free k _ hk X.w w) en ?_⟩
  cases p : posK k nks with
  | none =>
    have nk : k ∉ xs.map (·.1) := by rw [e2]; exact posK_none p
    rw [storedH_new (atKey_none nk), List.map_append, ← e1] at e1'
    exact e1'
  | some i =>
    have hi := posK_at p
    rw [← e2] at hi
    obtain ⟨x, hx1⟩ : ∃ x, xs[i]? = some x := by
      rw [List.getElem?_map] at hi
      cases hxx : xs[i]? with
      | none => rw [hxx] at hi; cases hi
      | some x => exact ⟨x, rfl⟩
    have kx : x.1 = k := by rw [List.getElem?_map, hx1] at hi; exact Option.some.inj hi
    have ak := atKey_at nd hx1
    rw [kx] at ak
    rw [storedH_old ak, put_old nd hi, ← e1] at e1'
    exact e1'
def rSetK : TSet := fun o i v H Q => ∃ (a : Addr) (kvs : List (L2.Key × V)) (k : L2.Key), o = .ref a ∧ i = kV k ∧ H a = some (.dK kvs) ∧ kvs.length < sizeLine ∧ Q (upd H a (.dK (putK kvs k v)))
theorem set_dctK (hu : X.A.units + 1 < cLine) : PSet X rSetK := by
  intro pins s σ H o i v ov iv u Q I ro ri rv q
  obtain ⟨a, kvs, k, rfl, rfl, hD, hz, hq⟩ := q
  obtain rfl : ov = Value.ref a := ro
  exact d_setItem hu I (DPut.k hD hz) ri rv fun s' I' => ⟨_, I', hq⟩
def setX (M : List MO) (o i v : D) : Option (List MO) := match o with
  | .ref k => match M[k]? with
    | some (.dct ks vs) => (putKV ks vs i v).bind fun r => if ks.all isTup = true then some (M.set k (.dct r.1 r.2)) else none
    | some (.dki kvs) => match i with
      | .int j => if kvs.length < sizeLine then some (M.set k (.dki (kiPut kvs j v))) else none
      | _ => none
    | _ => setR M o i v
  | _ => none
def gSetX (ge go gi : GE) : GS := fun Γ M => (ge Γ M).thenS Γ fun v M1 => (go Γ M1).thenS Γ fun o M2 => (gi Γ M2).thenS Γ fun i M3 => match setX M3 o i v with
  | some M4 => .nx Γ M4
  | none => .bad
theorem qs_setX {o i e : Expr} {go gi ge : GE} {pos spos : Pos} (hu : X.A.units + 1 + 8 < cLine) (he : QE X C W e ge) (ho : QE X C W o go) (hi : QE X C W i gi) (hs : swapsWithSole [Expr.Subscript o i spos] e pos.line X.env = pure false := by rfl) (hp : swappedStores [Expr.Subscript o i spos] e X.env = pure none := by rfl)
    (h1 : (assignEach [Expr.Subscript o i spos] X.env).map (·.2) = [assign (Expr.Subscript o i spos) X.env] := by rfl)
    (ha : ∀ v, assign (.Subscript o i spos) X.env v = (do let ov ← holding [v] (eval o X.env); let iv ← holding [v, ov] (eval i X.env); standAt spos; holding [v, ov, iv] (setItem ov iv v); release [v, ov, iv] []) := by intro _; rfl) :
    QS X C W (.Assign [.Subscript o i spos] e pos) (gSetX ge go gi) := by
  obtain ⟨te, pe, qe⟩ := he
  obtain ⟨to, po, qo⟩ := ho
  obtain ⟨ti, pi, qi⟩ := hi
  refine ⟨_, ps_asg pe (pg_sub po pi (PSet.or set_list (PSet.or (set_dctN hu) (set_dctK (by omega)))) ha) hs hp h1, fun Dd σ H Z ι Γ M sl hr h => qe σ H Z ι Γ M _ sl hr (PostS.bind h sl fun v M1 v' H1 Z1 ι1 e1 hr1 r1 h1 => qo σ H1 Z1 ι1 Γ M1 _ (sl.ext e1) hr1 (PostS.bind h1 (sl.ext e1) fun o M2 o' H2 Z2 ι2 e2 hr2 r2 h2 =>
    qi σ H2 Z2 ι2 Γ M2 _ ((sl.ext e1).ext e2) hr2 (PostS.bind h2 ((sl.ext e1).ext e2) fun i M3 i' H3 Z3 ι3 e3 hr3 r3 h3 => ?_)))⟩
  have ro := r2.ext e3
  have rv := (r1.ext e2).ext e3
  have sl3 := ((sl.ext e1).ext e2).ext e3
  cases es : setX M3 o i v with
  | none => rw [es] at h3; exact h3.elim
  | some M4 =>
    rw [es] at h3
    cases ro with
    | ref hk =>
      rename_i k
      unfold setX at es
      simp only at es
      have lists : setR M3 (.ref k) i v = some M4 → rSetL (.ref (ι3 k)) i' v' H3 (fun H' => Dd.nx σ H') := fun es => by
        unfold setR at es
        cases r3 with
        | int j =>
          simp only at es
          cases ek : M3[k]? with
          | none => rw [ek] at es; cases es
          | some u =>
            rw [ek] at es
            cases u with
            | lst ds =>
              simp only at es
              cases em : ixN ds.length j with
              | none => rw [em] at es; cases es
              | some m =>
                rw [em] at es
                cases es
                obtain ⟨xs, a1, a2⟩ := hr3.obj k _ ek
                obtain ⟨b1, b2⟩ := hr3.change ek (a2.set m rv)
                exact ⟨_, xs, j, m, rfl, rfl, a1, by rw [← a2.length]; exact em, h3 σ _ Z3 ι3 b2 b1 (sl3.ext b2)⟩
            | _ => cases es
        | _ => cases es
      cases ek : M3[k]? with
      | none => rw [ek] at es; exact .inl (lists es)
      | some u =>
        rw [ek] at es
        cases u with
        | dead => exact .inl (lists es)
        | lst ds => exact .inl (lists es)
        | obj nm fs => exact .inl (lists es)
        | dct ks vs =>
          simp only at es
          cases ep : putKV ks vs i v with
          | none => rw [ep] at es; cases es
          | some r =>
            rw [ep, Option.bind_some] at es
            by_cases ct : ks.all isTup = true
            · rw [if_pos ct] at es
              cases es
              refine .inr (.inl ?_)
              obtain ⟨nks, kx, xs, ⟨ens, eph, g1, g2, g3, g4, g5⟩, rk, rv0⟩ := hr3.obj k _ ek
              have hE : Ents X.K H3 nks kx xs ens.toList := g5.sub hr3.sub
              unfold putKV at ep
              cases e1' : keysD ks with
              | none => rw [e1'] at ep; cases ep
              | some nks' =>
                cases e2' : keyD i with
                | none => rw [e1', e2'] at ep; cases ep
                | some nk =>
                  rw [e1', e2'] at ep
                  simp only at ep
                  by_cases c : (isTup i && decide (nk.depth ≤ 8) && decide (vs.length < sizeLine)) = true
                  · rw [if_pos c] at ep
                    simp only [Bool.and_eq_true, decide_eq_true_eq] at c
                    obtain ⟨⟨c1, c2⟩, c3⟩ := c
                    have kvs' := keysD_run hr3.sub _ _ _ rk e1'
                    have kz := keyD_run (fun _ _ z => z) _ _ _ r3 e2'
                    have kh := keyD_run hr3.sub _ _ _ r3 e2'
                    have hrf := tups_ref rk ct
                    have hb : ∃ b, i' = .ref b := by
                      have : AllRef [i'] := tups_ref (X := X) (ks := [i]) (.cons r3 .nil) (by simp [c1])
                      exact this i' (by simp)
                    obtain ⟨b, rfl⟩ := hb
                    have hzv : vs.length = xs.length := rv0.length
                    refine ⟨ι3 k, b, ens, eph, nks, nks', kx, xs, nk, rfl, g2, rfl, g1, hrf, g3, hE, g4, kvs', by rw [← hzv]; exact c3, kh, c2, fun es' ep' rr' hs' hr' hf hsame hm => ?_⟩
                    subst hsame
                    have lkx := ents_len g5
                    cases q : posK nk nks with
                    | some m =>
                      rw [q] at ep hm
                      cases ep
                      have hm' : es'.toList = setV rr' m ens.toList := hm
                      obtain ⟨hr4, x4⟩ := hr3.changeG (o' := .dct ks (vs.set m v)) (ho := dnO (ι3 k) es' ep') ek (by simp) (by simp) ⟨nks, kx, xs.set m v', ⟨es', ep', upd_same, g2, g3, g4, by rw [hm']; exact g5.setv hr' m⟩, rk, rv0.set m rv⟩
                      exact h3 σ _ Z3 ι3 x4 hr4 (sl3.ext x4)
                    | none =>
                      rw [q] at ep hm
                      cases ep
                      have hm' : es'.toList = ens.toList ++ [⟨hs', .ref b, rr'⟩] := hm
                      obtain ⟨hr4, x4⟩ := hr3.changeG (o' := .dct (ks ++ [i]) (vs ++ [v])) (ho := dnO (ι3 k) es' ep') ek (by simp) (by simp) ⟨nks ++ [nk], kx ++ [.ref b], xs ++ [v'], ⟨es', ep', upd_same, g2, by rw [List.length_append, List.length_singleton]; omega, by
                        rw [List.nodup_append]
                        refine ⟨g4, by simp, fun x hx y hy => ?_⟩
                        have : y = nk := by simpa using hy
                        rw [this]
                        exact fun z => posK_none q (z ▸ hx), by rw [hm']; exact g5.snoc kz rfl c2 hf hr'⟩, rk.append (.cons r3 .nil), rv0.append (.cons rv .nil)⟩
                      exact h3 σ _ Z3 ι3 x4 hr4 (sl3.ext x4)
                  · rw [if_neg c] at ep; cases ep
            · rw [if_neg ct] at es; cases es
        | dki kvs =>
          simp only at es
          cases r3 with
          | int j =>
            simp only at es
            by_cases c : kvs.length < sizeLine
            · rw [if_pos c] at es
              cases es
              obtain ⟨gs, g1, g2⟩ := dki_there hr3 ek
              have gp := g2.put j rv
              obtain ⟨b1, b2, b3, b4⟩ := gp.back
              obtain ⟨_, _, _, bl⟩ := g2.back
              obtain ⟨hr4, x4⟩ := hr3.changeG (o' := .dki (kiPut kvs j v)) (ho := .dK (putK gs (Sum.inl j) v')) ek (by simp) (by simp) ⟨_, upd_same, b1, b2⟩
              exact .inr (.inr ⟨_, gs, Sum.inl j, rfl, rfl, g1, by rw [← bl]; exact c, h3 σ _ Z3 ι3 x4 hr4 (sl3.ext x4)⟩)
            · rw [if_neg c] at es; cases es
          | _ => cases es
    | _ => cases es
end
end Bk

set_option Elab.async false
set_option linter.all false
set_option maxRecDepth 100000
set_option maxHeartbeats 4000000
namespace Bk
open PySem PySem.Spec PyProof.Rows L2
/-! ### methods on the whole store -/
def gMethW (nm m : Str) (n : Nat) (F : List D → List MO → R D) (go : GE) (ga : GA) : GE := fun Γ M => (go Γ M).bind fun x M1 => if isObj nm m M1 x = true then (ga Γ M1).bind fun ds M2 => if ds.length + 1 = n then callW F (x :: ds) M2 else .bad else .bad
section
variable {X : Cx} {C : CT} {W : WX} {e o : Expr} {nm f m x : Str} {ge go : GE} {gs : GA} {pos apos pos' p : Pos} {C0 : Addr} {es : List Expr}
variable {k n : Nat} {fa : Addr} {fd : FuncData} {ps : List Str} {F : List D → List MO → R D} {pl : Sem Bool}
/-- o.m(e, ..) of an own class -/
theorem qe_methW (hn0 : PySem.W.nsIn X.K mainGlobals nm = some (some (.ref C0))) (c : Cls X.K C0) (hm : Meth X.K C0 m fa) (F0 : FnQ X.prog X.w X.K X.mg X.base C k fa fd ps F) (hr : Room k X.A) (hgu : X.A.guards = some []) (tk : Takes X W) (hb : Binds X.K fd ps []) (ho : QE X C W o go) (ha : QA X C W (e :: es) gs) (hn : n = ps.length := by rfl)
    (hst : starEach (e :: es) X.env = (false, eval e X.env) :: starEach es X.env := by rfl) (hpl : (backTo pos (starEach es X.env)).any (·.1) = false := by rfl)
    (ht : eval (.Call (.Attribute o m apos) (e :: es) [] pos) X.env = (do
      let ov ← eval o X.env
      standAt apos.atName
      let (f, first) ← holding [ov] (getMethod ov m pl)
      callWith pos f first (backTo pos (starEach (e :: es) X.env)) (backToKw pos (keywordEach [] X.env))) := by rfl) :
    QE X C W (.Call (.Attribute o m apos) (e :: es) [] pos) (gMethW nm m n F go gs) := by
  subst hn
  obtain ⟨to, po, qo⟩ := ho
  obtain ⟨ta, pa, qa⟩ := ha
  refine ⟨fun σ H Q => to σ H fun x H1 => ∃ a dx fs, x = .ref a ∧ H1 a = some (.ins C0 dx fs) ∧ fs.lookup m = none ∧ ta σ H1 fun vs H2 => rCallQ X.K C ps F (WE W σ) (x :: vs) H2 Q, ⟨fun pins s σ H Q I h => ?_⟩,
    fun σ H Z ι Γ M Q sl hr h => qo σ H Z ι Γ M _ sl hr (h.bind fun x M1 v H1 Z1 ι1 e1 hr1 r1 h1 => ?_)⟩
  · refine PySem.W.methodCall_KW (pl := pl) (thn (po.run pins s σ H _ I h) fun u s1 ⟨x, H1, I1, rx, a, dx, fs, ex, ea, l, q⟩ => ?_) ht
    subst ex
    obtain rfl : u = Value.ref a := rx
    refine getmeth_ok I1 ea c hm l ?_
    refine PySem.W.callWith_K (first := [.ref a]) (h₀ := X.base) I.ok.mod.kin hm.kp (thn (pa.run pos pins s1 σ H1 _ I1 q) fun us s2 hh => ?_) hst hpl
    obtain ⟨vs, H2, I2, r, q2⟩ := hh
    have r2 : Vals (V.ref a :: vs) (Value.ref a :: us) := .cons rfl r
    have hl : (Value.ref a :: us).length = ps.length := r2.length.symm.trans q2.1
    have hbb := hb s2 (Value.ref a :: us) I2.kIn (by rw [List.append_nil]; exact hl)
    rw [List.append_nil] at hbb
    exact ⟨I2.kIn, run_call F0 hr hgu tk I2 hbb r2 q2⟩
  · by_cases z : isObj nm m M1 x = true
    · rw [if_pos z] at h1
      obtain ⟨a, dx, fs, b1, b2, b3⟩ := isObj_run hn0 hr1 r1 z
      subst b1
      refine ⟨a, dx, fs, rfl, b2, b3, qa σ H1 Z1 ι1 Γ M1 _ (sl.ext e1) hr1 (h1.bind fun ds M2 vs H2 Z2 ι2 e2 hr2 r2 h2 => ?_)⟩
      by_cases cc : ds.length + 1 = ps.length
      · rw [if_pos cc] at h2
        exact whole_post hr2 (.cons (r1.ext e2) r2) (by rw [List.length_cons, ← r2.length]; exact cc) h2
      · rw [if_neg cc] at h2
        exact h2.elim
    · rw [if_neg z] at h1
      exact h1.elim
theorem qe_methW0 (hn0 : PySem.W.nsIn X.K mainGlobals nm = some (some (.ref C0))) (c : Cls X.K C0) (hm : Meth X.K C0 m fa) (F0 : FnQ X.prog X.w X.K X.mg X.base C k fa fd ps F) (hr : Room k X.A) (hgu : X.A.guards = some []) (tk : Takes X W) (hb : Binds X.K fd ps []) (ho : QE X C W o go) (hn : n = ps.length := by rfl)
    (ht : eval (.Call (.Attribute o m apos) [] [] pos) X.env = (do
      let ov ← eval o X.env
      standAt apos.atName
      let (f, first) ← holding [ov] (getMethod ov m pl)
      callWith pos f first (backTo pos (starEach [] X.env)) (backToKw pos (keywordEach [] X.env))) := by rfl) :
    QE X C W (.Call (.Attribute o m apos) [] [] pos) (gMethW nm m n F go gNil) := by
  subst hn
  obtain ⟨to, po, qo⟩ := ho
  refine ⟨fun σ H Q => to σ H fun x H1 => ∃ a dx fs, x = .ref a ∧ H1 a = some (.ins C0 dx fs) ∧ fs.lookup m = none ∧ rCallQ X.K C ps F (WE W σ) [x] H1 Q, ⟨fun pins s σ H Q I h => ?_⟩,
    fun σ H Z ι Γ M Q sl hr h => qo σ H Z ι Γ M _ sl hr (h.bind fun x M1 v H1 Z1 ι1 e1 hr1 r1 h1 => ?_)⟩
  · refine PySem.W.methodCall_KW (pl := pl) (thn (po.run pins s σ H _ I h) fun u s1 ⟨x, H1, I1, rx, a, dx, fs, ex, ea, l, q⟩ => ?_) ht
    subst ex
    obtain rfl : u = Value.ref a := rx
    refine getmeth_ok I1 ea c hm l ?_
    have r2 : Vals [V.ref a] [Value.ref a] := .cons rfl .nil
    have hl : [Value.ref a].length = ps.length := r2.length.symm.trans q.1
    have hbb := hb s1 [Value.ref a] I1.kIn (by rw [List.append_nil]; exact hl)
    rw [List.append_nil] at hbb
    exact PySem.W.callWith_K0 (first := [.ref a]) I1.kIn hm.kp (run_call F0 hr hgu tk I1 hbb r2 q)
  · by_cases z : isObj nm m M1 x = true
    · rw [if_pos z] at h1
      obtain ⟨a, dx, fs, b1, b2, b3⟩ := isObj_run hn0 hr1 r1 z
      subst b1
      have h2 : Post X C W (rpE X.K) σ H1 Z1 ι1 M1 (if ([] : List D).length + 1 = ps.length then callW F [x] M1 else .bad) Q := h1
      by_cases cc : ([] : List D).length + 1 = ps.length
      · rw [if_pos cc] at h2
        exact ⟨a, dx, fs, rfl, b2, b3, whole_post hr1 (.cons r1 .nil) cc h2⟩
      · rw [if_neg cc] at h2
        exact h2.elim
    · rw [if_neg z] at h1
      exact h1.elim
end
@[simp] theorem u_gMethW (nm m : Str) (n : Nat) (F : List D → List MO → R D) (go : GE) (ga : GA) (Γ : Env) (M : List MO) : gMethW nm m n F go ga Γ M = (go Γ M).bind fun x M1 => if isObj nm m M1 x = true then (ga Γ M1).bind fun ds M2 => if ds.length + 1 = n then callW F (x :: ds) M2 else .bad else .bad := Eq.trans rfl rfl
/-! ### for k, v in d.items() of a dict of ours with whole numbers as keys; it is not used any more -/
theorem mixPairs {P : Program} {w : World} : ∀ {es : List DictEntry} {kvs : List (L2.Key × Value)}, Pairs (mixKind P w) es kvs → es.length = kvs.length ∧ ∀ (i : Nat) (kv : L2.Key × Value), kvs[i]? = some kv → ∃ en, es[i]? = some en ∧ keyIs kv.1 en.key = true ∧ en.val = kv.2
  | _, _, .nil => ⟨rfl, by simp⟩
  | _, _, .cons a b t => by
    obtain ⟨h1, h2⟩ := mixPairs t
    refine ⟨by simp [h1], fun i kv e => ?_⟩
    cases i with
    | zero =>
      simp only [List.getElem?_cons_zero, Option.some.injEq] at e
      subst e
      exact ⟨_, rfl, a, b⟩
    | succ i =>
      obtain ⟨en, e1, e2⟩ := h2 i kv (by simpa using e)
      exact ⟨en, by simpa using e1, e2⟩
theorem kvPaired : ∀ {gs : List (L2.Key × V)} {vs : List (L2.Key × Value)}, KV gs vs → gs.length = vs.length ∧ ∀ (i : Nat) (kv : L2.Key × V), gs[i]? = some kv → ∃ u, vs[i]? = some (kv.1, u) ∧ RelV kv.2 u
  | _, _, .nil => ⟨rfl, by simp⟩
  | _, _, .cons (a := a) (b := b) r t => by
    obtain ⟨h1, h2⟩ := kvPaired t
    refine ⟨by simp [h1], fun i kv e => ?_⟩
    cases i with
    | zero =>
      simp only [List.getElem?_cons_zero, Option.some.injEq] at e
      subst e
      obtain ⟨r1, r2⟩ := r
      exact ⟨b.2, by rw [r1]; rfl, r2⟩
    | succ i =>
      obtain ⟨u, e1, e2⟩ := h2 i kv (by simpa using e)
      exact ⟨u, by simpa using e1, e2⟩
def iItemsK (td : TE) : TI := fun σ H R => td σ H fun x H1 => ∃ (d : Addr) (gs : List (L2.Key × V)), x = .ref d ∧ H1 d = some (.dK gs) ∧ (∀ p ∈ gs, ∃ i : Int, p.1 = Sum.inl i) ∧
  ∀ es ep, KeyAt es (gs.map fun p => kV p.1) → ValAt es (gs.map (·.2)) → R (Itm d es ep (gs.map fun p => kV p.1) (gs.map (·.2))) (upd H1 d (dnO d es ep))
theorem pi_itemsK {X : Cx} {e : Expr} {td : TE} {elts : List Expr} {kk : Nat} {tpos apos cpos : Pos} (he : PE X e td) (hbase : attributeBase e "items" X.env (eval e X.env) = eval e X.env := by rfl) (hline : (apos.endLine == cpos.line) = true := by rfl) :
    PI X (.Tuple elts kk tpos) (.Call (.Attribute e "items" apos) [] [] cpos) (iItemsK td) := by
  refine ⟨fun pins s σ H R I h => ?_⟩
  refine wpAny_Call_method (T := "dict") (id := "dict.items") hbase rfl hline F.plainAttrs_dict F.slot_dict_items F.type_dict_items (thn (he.run pins s σ H _ I h) fun u s1 ⟨x, H1, I1, rx, d, gs, ex, hd, hi, q⟩ => ?_)
  subst ex
  obtain rfl : u = Value.ref d := rx
  obtain ⟨hz, hs, vs, rel, o, es, ep, ho, hx, hdt, hko, hpr, hnd⟩ := dk_of I1.hok hd
  obtain ⟨l1, f1⟩ := kvPaired rel
  obtain ⟨l2, f2⟩ := mixPairs hpr
  have hm' : s1.heap.DictRaw d es ep := ⟨o, ho, hx, hdt⟩
  have hk : KeyAt es (gs.map fun p => kV p.1) := by
    refine ⟨by simp [← Array.length_toList, l2, l1], fun i y hy => ?_⟩
    rw [List.getElem?_map] at hy
    cases eg : gs[i]? with
    | none => rw [eg] at hy; cases hy
    | some g =>
      rw [eg] at hy
      cases hy
      obtain ⟨u, u1, u2⟩ := f1 i g eg
      obtain ⟨en, v1, v2, v3⟩ := f2 i _ u1
      refine ⟨en, by simpa using v1, ?_⟩
      obtain ⟨j, hj⟩ := hi g (List.mem_of_getElem? eg)
      show RelV (kV g.1) en.key
      rw [hj] at v2 ⊢
      rcases keyIs_shape v2 with ⟨i', t, a1, a2⟩ | ⟨x', t, a1, a2⟩
      · cases a1
        exact ⟨t, a2⟩
      · cases a1
  have hv : ValAt es (gs.map (·.2)) := by
    refine ⟨by simp [← Array.length_toList, l2, l1], fun i y hy => ?_⟩
    rw [List.getElem?_map] at hy
    cases eg : gs[i]? with
    | none => rw [eg] at hy; cases hy
    | some g =>
      rw [eg] at hy
      cases hy
      obtain ⟨u, u1, u2⟩ := f1 i g eg
      obtain ⟨en, v1, v2, v3⟩ := f2 i _ u1
      exact ⟨en, by simpa using v1, by rw [v3]; exact u2⟩
  refine ⟨hm'.typeIs, fun a e => by cases e; exact ⟨o, ho, hx.2.1⟩, ?_⟩
  have ok : ObjOk X.prog X.w (upd H1 d (dnO d es ep)) s1.heap d (dnO d es ep) := ⟨⟨o, ho, hx, hdt⟩, ⟨o, ho⟩, fun h1 h2 ⟨u, hu1, hu2, hu3⟩ hk => ⟨u, hk u hu1, hu2, hu3⟩⟩
  have I1' : Inv X pins σ (upd H1 d (dnO d es ep)) s1 := d_write (t' := s1.toks) I1 (by rw [hd]; exact True.intro) (Heap.SameBut.refl d s1.heap) ⟨o, ho⟩ ok
  have I2 : Inv X pins σ (upd H1 d (dnO d es ep)) { s1 with heap := s1.heap.push { cls := .type "dict_items", data := .fields #[.ref d] } } := I1'.kept (t' := s1.toks) fun b ob q => Heap.get?_push_of_some _ q
  have hm2 : (s1.heap.push { cls := .type "dict_items", data := .fields #[.ref d] }).DictRaw d es ep := hm'.at fun o e => Heap.get?_push_of_some _ e
  have fin : wpAny (model X.prog X.w) X.A (pyIter (.ref s1.heap.objs.size)) (PIE X pins σ (.Tuple elts kk tpos) R) X.xe { s1 with heap := s1.heap.push { cls := .type "dict_items", data := .fields #[.ref d] } } :=
    wpAny_pyIter_items_raw (d := d) ⟨_, Heap.get?_push_size _ rfl, rfl, rfl⟩ hm2 (pi_one (tk := s1.toks) I2 _ (turn_itemsN _ hk hv) ⟨.none, .none, Heap.get?_push_size _ rfl⟩ (q es ep hk hv))
  show wpAny _ _ (callWith cpos (.builtin "dict.items") [.ref d] [] []) _ X.xe s1
  exact method_meetsIn F.slot_dict_items F.entry_dict_items rfl (PySem.evalArgs_none ⟨rfl, hm'.typeIs, F.args_dict_items_1 _, _, meets_dict_items_raw d hs, ⟨⟨es, ep, hm'⟩, fin⟩⟩)
/-- a thing of ours is frozen as another thing -/
theorem HR.retire {K : PySem.W.Frag} {H Z : Hp} {ι : Nat → Addr} {M : List MO} (h : HR K H Z ι M) {j : Nat} {o : MO} (ho : HO) (hj : M[j]? = some o) (hd : o ≠ .dead) :
    HR K (upd H (ι j) ho) (upd Z (ι j) ho) ι (M.set j .dead) ∧ Ext H Z ι M.length (upd H (ι j) ho) (upd Z (ι j) ho) ι (M.set j MO.dead).length ∧ Sub Z (upd Z (ι j) ho) := by
  have lt : j < M.length := (List.getElem?_eq_some_iff.mp hj).1
  have ln : (M.set j MO.dead).length = M.length := List.length_set
  have zj : Z (ι j) = none := h.sep j _ hj hd
  have s1 : Sub Z (upd Z (ι j) ho) := fun a u e => by rw [upd_ne (ne_of_none e zj)]; exact e
  have cs : ∀ {k : Nat} {u : MO}, (M.set j .dead)[k]? = some u → u ≠ .dead → k ≠ j ∧ M[k]? = some u := fun {k u} e d => by
    by_cases hk : k = j
    · subst hk
      rw [List.getElem?_set_self lt] at e
      exact absurd (Option.some.inj e).symm d
    · rw [List.getElem?_set_ne (Ne.symm hk)] at e
      exact ⟨hk, e⟩
  refine ⟨⟨fun a u e => ?_, fun k hk => ?_, fun k u e d => ?_, fun a b o u q1 q2 d1 d2 e => ?_, fun k u e => ?_, fun k e => ?_⟩, ⟨s1, fun _ _ => rfl, fun a u e z => ?_, fun k h1 h2 => absurd h2 (by rw [ln]; exact Nat.not_lt.mpr h1), by rw [ln]; exact Nat.le_refl _, fun a u e => ?_⟩, s1⟩
  · by_cases ha : a = ι j
    · rw [ha, upd_same] at e ⊢
      exact e
    · rw [upd_ne ha] at e ⊢
      exact h.sub _ _ e
  · rw [ln] at hk
    by_cases e : ι k = ι j
    · exact ⟨_, by rw [e, upd_same]⟩
    · rw [upd_ne e]
      exact h.ali k hk
  · obtain ⟨hk, e⟩ := cs e d
    rw [upd_ne fun z => hk (h.inj k j u _ e hj d hd z)]
    exact h.sep k u e d
  · exact h.inj a b o u (cs q1 d1).2 (cs q2 d2).2 d1 d2 e
  · rw [ln]
    by_cases du : u = .dead
    · subst du
      trivial
    · obtain ⟨hk, e⟩ := cs e du
      exact OR.mono s1 (fun _ _ => rfl) (Nat.le_refl _) (fun o z => by rw [upd_ne fun w => hk (h.inj k j u _ e hj du hd w)]; exact z) (h.obj k u e)
  · by_cases hk : k = j
    · subst hk
      exact ⟨_, upd_same⟩
    · rw [List.getElem?_set_ne (Ne.symm hk)] at e
      obtain ⟨u, hu⟩ := h.ded k e
      exact ⟨u, s1 _ _ hu⟩
  · rw [upd_ne (z j lt)]
    exact e
  · by_cases ha : a = ι j
    · exact .inr (.inr ⟨j, lt, ha⟩)
    · rw [upd_ne ha] at e
      exact .inl e
def gItemsK (ge : GE) : GI := fun Γ M => (ge Γ M).bind fun x M1 => match x with
  | .ref k => match M1[k]? with
    | some (.dki kvs) => .ok (kvs.map fun p => .tup [.int p.1, p.2]) (M1.set k .dead)
    | _ => .bad
  | _ => .bad
theorem kir_ints {K : PySem.W.Frag} {Z : Hp} {ι : Nat → Addr} {n : Nat} : ∀ {ks : List (Int × D)} {gs : List (L2.Key × V)}, KiR K Z ι n ks gs → ∀ p ∈ gs, ∃ i : Int, p.1 = Sum.inl i
  | _, _, .nil, _, h => by cases h
  | _, _, .cons r s, p, h => by
    rcases List.mem_cons.mp h with rfl | h
    · exact ⟨_, rfl⟩
    · exact kir_ints s p h
theorem qi_itemsK {X : Cx} {C : CT} {W : WX} {e : Expr} {g : GE} {elts : List Expr} {kk : Nat} {tpos apos cpos : Pos} (ha : QE X C W e g) (hbase : attributeBase e "items" X.env (eval e X.env) = eval e X.env := by rfl) (hline : (apos.endLine == cpos.line) = true := by rfl) :
    QI X C W (.Tuple elts kk tpos) (.Call (.Attribute e "items" apos) [] [] cpos) (gItemsK g) := by
  obtain ⟨ta, pa, qa⟩ := ha
  refine ⟨_, pi_itemsK pa hbase hline, fun σ H Z ι Γ M Q sl hr h => qa σ H Z ι Γ M _ sl hr (Post.bind h fun x M1 v H1 Z1 ι1 e1 hr1 r1 h1 => ?_)⟩
  cases r1 with
  | ref hk =>
    rename_i k
    simp only at h1
    cases ek : M1[k]? with
    | none => rw [ek] at h1; exact h1.elim
    | some o =>
      rw [ek] at h1
      cases o with
      | dki kvs =>
        obtain ⟨gs, d1, d2⟩ := dki_there hr1 ek
        refine ⟨ι1 k, gs, rfl, d1, kir_ints d2, fun es ep ke va => ?_⟩
        obtain ⟨hr2, x2, s2⟩ := hr1.retire (dnO (ι1 k) es ep) ek (by simp)
        obtain ⟨b1, b2, b3, b4⟩ := d2.back
        have it := itr_items (K := X.K) (n := M1.length) (ι := ι1) (es := es) (ep := ep) (Z := upd Z1 (ι1 k) (dnO (ι1 k) es ep)) upd_same (Rps.mono s2 (fun _ _ => rfl) (Nat.le_refl _) _ _ b3) (Rps.mono s2 (fun _ _ => rfl) (Nat.le_refl _) _ _ b2) (by simp)
        have ep' : pairsD (kvs.map fun p => .int p.1) (kvs.map (·.2)) = kvs.map fun p => .tup [.int p.1, p.2] := by
          unfold pairsD
          rw [List.zip_map', List.map_map]
          rfl
        rw [ep'] at it
        have ln : (M1.set k MO.dead).length = M1.length := List.length_set
        exact h1 _ _ _ ι1 x2 hr2 (by rw [ln]; exact it)
      | _ => exact h1.elim
  | _ => exact h1.elim
@[simp] theorem u_gItemsK (ge : GE) (Γ : Env) (M : List MO) : gItemsK ge Γ M = (ge Γ M).bind fun x M1 => match x with
  | .ref k => match M1[k]? with
    | some (.dki kvs) => .ok (kvs.map fun p => .tup [.int p.1, p.2]) (M1.set k .dead)
    | _ => .bad
  | _ => .bad := Eq.trans rfl rfl
@[simp] theorem u_gDictT (ge : GE) (Γ : Env) (M : List MO) : gDictT ge Γ M = (ge Γ M).bind fun x M1 => match x with
  | .ptu ds => match kiOf ds with
    | some kvs => .ok (.ref M1.length) (M1 ++ [.dki (kiMerge [] kvs)])
    | none => .bad
  | _ => .bad := Eq.trans rfl rfl
@[simp] theorem u_gGetK (go gk gx : GE) (Γ : Env) (M : List MO) : gGetK go gk gx Γ M = (go Γ M).bind fun x M1 => match x with
  | .ref k => match M1[k]? with
    | some (.dki _) => (gk Γ M1).bind fun y M2 => (gx Γ M2).bind fun z M3 => match y, M3[k]? with
      | .int i, some (.dki kvs) => .ok ((kiGet kvs i).getD z) M3
      | _, _ => .bad
    | _ => .bad
  | _ => .bad := Eq.trans rfl rfl
@[simp] theorem u_gSetX (ge go gi : GE) (Γ : Env) (M : List MO) : gSetX ge go gi Γ M = (ge Γ M).thenS Γ fun v M1 => (go Γ M1).thenS Γ fun o M2 => (gi Γ M2).thenS Γ fun i M3 => match setX M3 o i v with
  | some M4 => .nx Γ M4
  | none => .bad := Eq.trans rfl rfl
end Bk

set_option Elab.async false
set_option linter.all false
set_option maxRecDepth 100000
set_option maxHeartbeats 4000000
namespace Bk
open PySem PySem.Spec PyProof.Rows L2
theorem room7 {k : Nat} {A : Around} (hr : Room k A) : A.units + 8 < cLine := by have := hr.un; omega
theorem room6 {k : Nat} {A : Around} (hr : Room k A) : A.units + 1 < cLine := by have := hr.un; omega
theorem sw_trueD {kx vx : Expr} {gs : List Comprehension} {scope : Scope} {pos py : Pos} {y : Str} {l : Nat} {env : PySem.Env} (hk : env.scope.kind = .function) (hy : env.scope.names.lookup y = some .local) (hl : (py.line == pos.line) = true)
    (ha : (scope.names.any fun (n, k) => n == y && (k == .local || k == .cell)) = false) : swapsWith (.DictComp kx vx gs scope pos) (some (.Name y py)) l env = pure true := by
  have ky : env.kindOf y = some .local := hy
  have hb : env.blockKind = .function := by unfold PySem.Env.blockKind; rw [hk]; rfl
  unfold swapsWith
  simp only [hb, ky, ha, Expr.pos, hl]
  rfl
@[simp] theorem rr_ptu (m : Nat) (M : List MO) (ds : List D) : retR m M (.ptu ds) = if belows m ds = true then .ok (.ptu ds) (M.take m) else .bad := Eq.trans rfl rfl
@[simp] theorem rr_dct (m : Nat) (M : List MO) (ks vs : List D) : retR m M (.dct ks vs) = if (belows m ks && belows m vs) = true then .ok (.dct ks vs) (M.take m) else .bad := Eq.trans rfl rfl
@[simp] theorem bl_ptu (m : Nat) (ds : List D) : below m (.ptu ds) = belows m ds := Eq.trans rfl rfl
@[simp] theorem bl_dct (m : Nat) (ks vs : List D) : below m (.dct ks vs) = (belows m ks && belows m vs) := Eq.trans rfl rfl
@[simp] theorem blo_dct (m : Nat) (ks vs : List D) : belowO m (.dct ks vs) = (belows m ks && belows m vs) := Eq.trans rfl rfl
@[simp] theorem blo_dki (m : Nat) (kvs : List (Int × D)) : belowO m (.dki kvs) = belows m (kvs.map (·.2)) := Eq.trans rfl rfl
@[simp] theorem it_ptu (M : List MO) (ds : List D) : itemsD M (.ptu ds) = some ds := Eq.trans rfl rfl
@[simp] theorem e_lenNd (M : List MO) (ks vs : List D) : dLenN M (.dct ks vs) = some (.int (vs.length : Nat)) := Eq.trans rfl rfl
@[simp] theorem dn_dct (M : List MO) (ks vs : List D) : dctD M (.dct ks vs) = some (ks, vs) := Eq.trans rfl rfl
theorem dn_ref {M : List MO} {k : Nat} {ks vs : List D} (h : M[k]? = some (.dct ks vs)) : dctD M (.ref k) = some (ks, vs) := by simp [dctD, h]
@[simp] theorem u_runW (n : Nat) (g : GS) (ds : List D) (M : List MO) : runW n g ds M = finW (g (ds.map some ++ List.replicate (n - ds.length) none) M) := Eq.trans rfl rfl
@[simp] theorem u_callW (F : List D → List MO → R D) (ds : List D) (M : List MO) : callW F ds M = F ds M := Eq.trans rfl rfl
@[simp] theorem seqD_p (ds : List D) : seqD (.ptu ds) = some ds := Eq.trans rfl rfl
end Bk

set_option Elab.async false
set_option linter.all false
set_option maxRecDepth 100000
set_option maxHeartbeats 4000000
namespace Bk
open PySem PySem.Spec PyProof.Rows L2
/-! ### a, b = a list -/
def gToL (gs : GGs) : GG := fun d Γ => match d with
  | .lst ds => gs ds Γ
  | _ => none
section
variable {X : Cx} {es : List Expr} {gs : GGs} {is : List Nat} {pos : Pos}
theorem qg_lst {k : Nat} {n : Nat} (hc : X.calm = true) (h : QGs X es gs is) (hn : (assignEach es X.env).length = n := by rfl) (hst : (assignEach es X.env).findIdx? (·.1) = none := by rfl) (hlen : ∀ ds Γ Γ', gs ds Γ = some Γ' → ds.length = n) : QG X (.Tuple es k pos) (gToL gs) is := by
  obtain ⟨t, p, q⟩ := h
  refine ⟨_, pg_lst hc p hn (hst := hst), fun v σ H Z ι m d Γ Γ' Q hs sl r e h => ?_⟩
  cases r with
  | lst s r =>
    have e' : gs _ Γ = some Γ' := e
    exact ⟨_, _, rfl, (subL hs s).sq, by rw [← r.length]; exact hlen _ _ _ e', q _ σ H Z ι m _ Γ Γ' Q hs sl r e' h⟩
  | _ => cases e
end
@[simp] theorem u_gToL (gs : GGs) (ds : List D) (Γ : Env) : gToL gs (.lst ds) Γ = gs ds Γ := Eq.trans rfl rfl
end Bk

set_option Elab.async false
set_option linter.all false
set_option maxRecDepth 100000
set_option maxHeartbeats 4000000
namespace Bk
open PySem PySem.Spec PyProof.Rows L2
/-! ### {"a": "b", "c": "d"}[e] -/
def gStrM (a b c d : Str) (ge : GE) : GE := fun Γ M => (ge Γ M).bind fun x M1 => match x with
  | .str s => if s = a then .ok (.str b) M1 else if s = c then .ok (.str d) M1 else .bad
  | _ => .bad
section
variable {X : Cx} {C : CT} {W : WX} {e : Expr} {ge : GE} {pos dp p1 p2 p3 p4 : Pos}
theorem qe_strM {a b c d : Str} {j1 j2 j3 j4} (hu : X.A.units + 1 < cLine) (he : QE X C W e ge) (hac : a ≠ c) (hs : NoSl e := by exact fun _ _ => rfl) :
    QE X C W (.Subscript (.Dict [some (.Constant (.str a) j1 p1), some (.Constant (.str c) j2 p2)] [.Constant (.str b) j3 p3, .Constant (.str d) j4 p4] dp) e pos) (gStrM a b c d ge) := by
  obtain ⟨te, pe, qe⟩ := he
  refine ⟨_, pe_dget hu (pe_disp (pps_cons pe_str pe_str (pps_cons pe_str pe_str pps_nil)) rfl rfl (by simp) (by simp)) pe hs, fun σ H Z ι Γ M Q sl hr h => ?_⟩
  intro p hp
  refine ⟨upd_same, [(.inr a, .str b), (.inr c, .str d)], rfl, by simp, ?_⟩
  have od : Odd Z ι M.length p := .new hr hp
  have mk : mergeK [] [((.inr a : Key), V.str b), (.inr c, .str d)] = [((.inr a : Key), V.str b), (.inr c, .str d)] := by
    have : ¬ (Sum.inr a : Key) = Sum.inr c := fun z => hac (by injection z)
    simp [mergeK, putK, this]
  rw [mk]
  have hr1 : HR X.K (upd (upd H p (.dK [])) p (.dK [((.inr a : Key), V.str b), (.inr c, .str d)])) Z ι M := (hr.odd od).odd od
  have x0 : Ext H Z ι M.length (upd (upd H p (.dK [])) p (.dK [((.inr a : Key), V.str b), (.inr c, .str d)])) Z ι M.length := (Ext.touch .refl hp).touch hp
  refine qe σ _ Z ι Γ M _ sl hr1 ?_
  have h : Post X C W (rpE X.K) σ H Z ι M ((ge Γ M).bind fun x M1 => match x with
    | .str s => if s = a then .ok (.str b) M1 else if s = c then .ok (.str d) M1 else .bad
    | _ => .bad) Q := h
  cases ea : ge Γ M with
  | bad => rw [ea] at h; exact h.elim
  | exc cc dd M' =>
    rw [ea] at h
    exact Post.shift (r := (.exc cc dd M' : R D)) (rp := rpE X.K) (Q := Q) h x0 hr1
  | ok x M1 =>
    rw [ea] at h
    intro y H1 Z1 ι1 e1 hr2 r1
    obtain ⟨od1, hp1⟩ := od.ext upd_same e1
    have e01 := x0.trans e1 hr1.ali
    cases x with
    | str s =>
      cases r1
      have h3 : Post X C W (rpE X.K) σ H Z ι M (if s = a then .ok (.str b) M1 else if s = c then .ok (.str d) M1 else .bad : R D) Q := h
      have g : DGet H1 p (.str s) (valV [((.inr a : Key), V.str b), (.inr c, .str d)] (.inr s)) := DGet.k (k := .inr s) hp1
      by_cases q1 : s = a
      · rw [if_pos q1] at h3
        subst q1
        have v : valV [((.inr s : Key), V.str b), (.inr c, .str d)] (.inr s) = some (V.str b) := by simp [valV]
        rw [v] at g
        exact ⟨p, .str b, rfl, g, h3 _ H1 Z1 ι1 e01 hr2 (.str b)⟩
      · rw [if_neg q1] at h3
        by_cases q2 : s = c
        · rw [if_pos q2] at h3
          subst q2
          have na : ¬ (Sum.inr a : Key) = Sum.inr s := fun z => q1 (by injection z with z; exact z.symm)
          have v : valV [((.inr a : Key), V.str b), (.inr s, .str d)] (.inr s) = some (V.str d) := by simp [valV, na]
          rw [v] at g
          exact ⟨p, .str d, rfl, g, h3 _ H1 Z1 ι1 e01 hr2 (.str d)⟩
        · rw [if_neg q2] at h3
          exact h3.elim
    | _ => exact (h : False).elim
@[simp] theorem u_gStrM (a b c d : Str) (ge : GE) (Γ : Env) (M : List MO) : gStrM a b c d ge Γ M = (ge Γ M).bind fun x M1 => match x with
  | .str s => if s = a then .ok (.str b) M1 else if s = c then .ok (.str d) M1 else .bad
  | _ => .bad := Eq.trans rfl rfl
end
end Bk

set_option Elab.async false
set_option linter.all false
set_option maxRecDepth 100000
set_option maxHeartbeats 2000000
namespace Bk
open PySem PySem.Spec PyProof.Rows L2
/-! ### t < u, t > u of tuples of ints; sorted of a list of them -/
theorem canLay_ints : ∀ is : List Int, toPs (is.map D.int) = some (is.map PyData.int)
  | [] => rfl
  | i :: is => by simp [toPs, toP, canLay_ints is]
theorem toP_ints (is : List Int) : toP (.tup (is.map D.int)) = some (.tuple (is.map .int)) := by simp [toP, canLay_ints is]
theorem alike_tups (a b : List Int) : PySem.W.alike (.tuple (a.map .int)) (.tuple (b.map .int)) = true := by
  rw [PySem.W.alike]
  exact PySem.W.alike_ints a b
theorem depth_tups (a : List Int) : (PyData.tuple (a.map .int)).depth = 1 := by
  simp [PyData.depth, PySem.W.depth_ints a]
theorem lt_tups (a b : List Int) : PySem.W.dataLt (.tuple (a.map .int)) (.tuple (b.map .int)) = decide (a < b) := by
  rw [PySem.W.dataLt_tuple]
  exact PySem.W.dataLt_ints a b
theorem intsL_is : ∀ {ds : List D} {is : List Int}, intsL ds = some is → ds = is.map D.int
  | [], _, h => by cases h; rfl
  | d :: ds, is, h => by
    cases d with
    | int i =>
      have h' : (intsL ds).map (fun is => i :: is) = some is := h
      cases e : intsL ds with
      | none => rw [e] at h'; cases h'
      | some js =>
        rw [e] at h'
        cases h'
        rw [List.map_cons, ← intsL_is e]
    | _ => cases h
def dLtA (M : List MO) (x y : D) : Option D := match x, y with
  | .tup xs, .tup ys => match intsL xs, intsL ys with
    | some ns, some ms => some (.bl (decide (ns < ms)))
    | _, _ => none
  | x, y => dLt M x y
def dGtA (M : List MO) (x y : D) : Option D := match x, y with
  | .tup xs, .tup ys => match intsL xs, intsL ys with
    | some ns, some ms => some (.bl (decide (ms < ns)))
    | _, _ => none
  | x, y => dGt M x y
def rLtD (K : PySem.W.Frag) : R2 := fun x y H Q => ∃ ns ms : List Int, Dp K H x (.tuple (ns.map .int)) ∧ Dp K H y (.tuple (ms.map .int)) ∧ Q (.bl (decide (ns < ms))) H
def rGtD (K : PySem.W.Frag) : R2 := fun x y H Q => ∃ ns ms : List Int, Dp K H x (.tuple (ns.map .int)) ∧ Dp K H y (.tuple (ms.map .int)) ∧ Q (.bl (decide (ms < ns))) H
section
variable {X : Cx}
theorem op_ltD (hu : X.A.units + 65 < cLine) : OpR X (compareOp .Lt) (rLtD X.K) := by
  intro pins s σ H x y v u Q I rx ry h
  obtain ⟨ns, ms, h1, h2, q⟩ := h
  obtain ⟨as, r1⟩ := Dp.reads I _ _ _ h1 rx
  obtain ⟨bs, r2⟩ := Dp.reads I _ _ _ h2 ry
  refine PySem.W.lt_data r1 r2 (alike_tups ns ms) (by simp) (by rw [depth_tups, depth_tups]; omega) ?_
  rw [lt_tups]
  exact ⟨.bl _, H, I, rfl, q⟩
theorem op_gtD (hu : X.A.units + 65 < cLine) : OpR X (compareOp .Gt) (rGtD X.K) := by
  intro pins s σ H x y v u Q I rx ry h
  obtain ⟨ns, ms, h1, h2, q⟩ := h
  obtain ⟨as, r1⟩ := Dp.reads I _ _ _ h1 rx
  obtain ⟨bs, r2⟩ := Dp.reads I _ _ _ h2 ry
  refine PySem.W.gt_data r1 r2 (alike_tups ns ms) (by simp) (by rw [depth_tups, depth_tups]; omega) ?_
  rw [lt_tups]
  exact ⟨.bl _, H, I, rfl, q⟩
theorem op_ltA (hu : X.A.units + 65 < cLine) : OpR X (compareOp .Lt) (fun x y H Q => rLtD X.K x y H Q ∨ rI0 (fun i j => .bl (decide (i < j))) x y H Q) := (op_ltD hu).or op_lt
theorem op_gtA (hu : X.A.units + 65 < cLine) : OpR X (compareOp .Gt) (fun x y H Q => rGtD X.K x y H Q ∨ rI0 (fun i j => .bl (decide (j < i))) x y H Q) := (op_gtD hu).or op_gt
theorem ok_ltA : Ok2 X (fun x y H Q => rLtD X.K x y H Q ∨ rI0 (fun i j => .bl (decide (i < j))) x y H Q) dLtA := fun x y H Z ι M dx dy d Q hr rx ry e q => by
  unfold dLtA at e
  split at e
  · rename_i xs ys
    cases e1 : intsL xs with
    | none => rw [e1] at e; cases e
    | some ns =>
      cases e2 : intsL ys with
      | none => rw [e1, e2] at e; cases e
      | some ms =>
        rw [e1, e2] at e
        cases e
        have w1 := intsL_is e1
        have w2 := intsL_is e2
        subst w1 w2
        exact .inl ⟨ns, ms, toP_dp hr.sub _ _ _ rx (toP_ints ns), toP_dp hr.sub _ _ _ ry (toP_ints ms), q.now hr (.bl _)⟩
  · exact .inr (ok_lt x y H Z ι M dx dy d Q hr rx ry e q)
theorem ok_gtA : Ok2 X (fun x y H Q => rGtD X.K x y H Q ∨ rI0 (fun i j => .bl (decide (j < i))) x y H Q) dGtA := fun x y H Z ι M dx dy d Q hr rx ry e q => by
  unfold dGtA at e
  split at e
  · rename_i xs ys
    cases e1 : intsL xs with
    | none => rw [e1] at e; cases e
    | some ns =>
      cases e2 : intsL ys with
      | none => rw [e1, e2] at e; cases e
      | some ms =>
        rw [e1, e2] at e
        cases e
        have w1 := intsL_is e1
        have w2 := intsL_is e2
        subst w1 w2
        exact .inl ⟨ns, ms, toP_dp hr.sub _ _ _ rx (toP_ints ns), toP_dp hr.sub _ _ _ ry (toP_ints ms), q.now hr (.bl _)⟩
  · exact .inr (ok_gt x y H Z ι M dx dy d Q hr rx ry e q)
end
@[simp] theorem e_ltA_i (M : List MO) (i j : Int) : dLtA M (.int i) (.int j) = some (.bl (decide (i < j))) := Eq.trans rfl rfl
@[simp] theorem e_gtA_i (M : List MO) (i j : Int) : dGtA M (.int i) (.int j) = some (.bl (decide (j < i))) := Eq.trans rfl rfl
theorem e_ltA (M : List MO) (a b : List Int) : dLtA M (.tup (a.map D.int)) (.tup (b.map D.int)) = some (.bl (decide (a < b))) := by simp only [dLtA, intsL_map]
theorem e_gtA (M : List MO) (a b : List Int) : dGtA M (.tup (a.map D.int)) (.tup (b.map D.int)) = some (.bl (decide (b < a))) := by simp only [dGtA, intsL_map]
theorem room70 {k : Nat} {A : Around} (hr : Room k A) : A.units + 70 < cLine := by have := hr.un; omega
/-! sorted -/
abbrev tupI (is : List Int) : D := .tup (is.map D.int)
def rowsL : List D → Option (List (List Int))
  | [] => some []
  | .tup xs :: ds => match intsL xs with
    | some is => (rowsL ds).map fun rs => is :: rs
    | none => none
  | _ => none
theorem rowsL_map : ∀ rs : List (List Int), rowsL (rs.map tupI) = some rs
  | [] => rfl
  | r :: rs => by
    show (match intsL (r.map D.int) with
    | some is => (rowsL (rs.map tupI)).map fun rs => is :: rs
    | none => none) = _
    rw [intsL_map, rowsL_map rs]
    rfl
theorem rowsL_is : ∀ {ds : List D} {rs : List (List Int)}, rowsL ds = some rs → ds = rs.map tupI
  | [], _, h => by cases h; rfl
  | d :: ds, rs, h => by
    cases d with
    | tup xs =>
      have h' : (match intsL xs with
        | some is => (rowsL ds).map fun rs => is :: rs
        | none => none) = some rs := h
      cases e : intsL xs with
      | none => rw [e] at h'; cases h'
      | some is =>
        rw [e] at h'
        cases e2 : rowsL ds with
        | none => rw [e2] at h'; cases h'
        | some qs =>
          rw [e2] at h'
          cases h'
          rw [List.map_cons, ← rowsL_is e2]
          show D.tup xs :: ds = D.tup (is.map D.int) :: ds
          rw [← intsL_is e]
    | _ => cases h
def leR (p q : List Int) : Bool := decide (p ≤ q)
def srtR (rs : List (List Int)) : List (List Int) := rs.mergeSort leR
def srtOk (rs : List (List Int)) : Bool := decide (rs.length ≤ 1) || rs.all fun r => decide (r ≠ [])
def dSortT (M : List MO) (d : D) : Option D := ((listD M d).bind rowsL).bind fun rs => if srtOk rs = true then some (.lst ((srtR rs).map tupI)) else none
theorem leR_data : PySem.W.dataLe false (fun b : List Int => .tuple (b.map .int)) = leR := by
  funext p q
  show (!PySem.W.dataLt (.tuple (q.map .int)) (.tuple (p.map .int))) = _
  rw [lt_tups]
  unfold leR
  by_cases h : q < p
  · have h' : ¬ p ≤ q := fun r => List.not_lt.mpr r h
    simp [h, h']
  · have h' : p ≤ q := List.not_lt.mp h
    simp [h, h']
section
variable {X : Cx}
theorem one_sorts {prog : Program} {w : World} {A : Around} {s : Shared} {v : Value} {r : List Int} {as : List Addr} (rd : Reads s.heap v (.tuple (r.map .int)) as) (hu : A.units + 65 < cLine) : PySem.W.SortsAt prog w A s (PySem.W.dataKind s.heap [.tuple (r.map .int)]) [v] := by
  have hal : PySem.W.AllAlike [PyData.tuple (r.map .int)] := fun d hd d' hd' => by
    rw [List.mem_singleton.mp hd, List.mem_singleton.mp hd']
    exact alike_tups r r
  refine ⟨fun u hu => ?_, PyProof.Rows.general', ?_, fun h2 => absurd h2 (by simp)⟩
  · rw [List.mem_singleton.mp hu]
    exact ⟨_, PySem.W.dataKind_some hal (List.mem_singleton.mpr rfl) rd⟩
  · intro E x y a b Q ha hb hq
    obtain ⟨d, as, hd, ra, rfl⟩ := PySem.W.dataKind_inv ha
    obtain ⟨d', as', hd', rb, rfl⟩ := PySem.W.dataKind_inv hb
    rw [List.mem_singleton.mp hd] at ra hq
    rw [List.mem_singleton.mp hd'] at rb hq
    have e : keyLt' general' x y = oneLt' false x y := rfl
    rw [e]
    exact PySem.W.oneLt_alike (fun h => by cases h) ra rb (alike_tups r r) (by simp) (by rw [depth_tups]; omega) hq
theorem sorted_tupI {prog : Program} {w : World} {A : Around} {E : Value → Shared → Prop} {s : Shared} {R : Value → List Int → Prop} {l : Addr} {vs : List Value} {rs : List (List Int)} {Q : Value → Shared → Prop} (hl : s.heap.IsList l vs.toArray) (e : PySem.W.EachIs R vs rs) (er : PySem.W.EachIs (fun v (b : List Int) => ∃ as, Reads s.heap v (.tuple (b.map .int)) as) vs rs)
    (hk : srtOk rs = true) (hL : rs.length ≤ sizeLine) (hu : A.units + 70 < cLine) (h : ∀ out : List Value, out.length = rs.length → PySem.W.EachIs R out (srtR rs) → Q (.ref (s.heap.objs.size + 1)) { s with heap := sortedAll s.heap vs (List.toArray out) }) :
    wpAny (model prog w) A (call (.builtin "sorted") [.ref l]) Q E s := by
  have hal : PySem.W.AllAlike (rs.map fun b => PyData.tuple (b.map .int)) := PySem.W.AllAlike.of fun b b' => alike_tups b b'
  by_cases c : rs.all (fun r => decide (r ≠ [])) = true
  · have sb : PySem.W.Sortable (rs.map fun b => PyData.tuple (b.map .int)) := .inl fun d hd => by
      obtain ⟨b, hb, rfl⟩ := List.mem_map.mp hd
      have := List.all_eq_true.mp c b hb
      cases b with
      | nil => simp at this
      | cons x b => exact ⟨_, _, rfl⟩
    refine PySem.W.sorted_data (enc := fun b : List Int => .tuple (b.map .int)) hl e er hal sb hL (fun b _ => by rw [depth_tups]; omega) fun out ho eo => h out ho ?_
    rw [leR_data] at eo
    exact eo
  · have hz : rs.length ≤ 1 := by
      unfold srtOk at hk
      rw [Bool.or_eq_true] at hk
      rcases hk with hk | hk
      · simpa using hk
      · exact absurd hk c
    rcases rs with _ | ⟨r, _ | ⟨r2, rs⟩⟩
    · exact absurd (by simp) c
    · cases e with
      | @cons v _ vs' _ e1 e2 =>
        cases e2
        cases er with
        | cons r1 r2 =>
          obtain ⟨as, rd⟩ := r1
          have rd' : Reads (PySem.W.sortingHeap (PySem.W.copyHeap s.heap [v]) (s.heap.objs.size + 1) [v]) v (.tuple (r.map .int)) as := PyProof.Rows.Reads.keeps (fun _ _ => PySem.W.sorting_copy_old) rd
          have S := one_sorts (prog := prog) (w := w) (A := A.in1.in1) (s := { s with heap := PySem.W.sortingHeap (PySem.W.copyHeap s.heap [v]) (s.heap.objs.size + 1) [v] }) rd' (by show A.units + 2 + 65 < cLine; omega)
          refine PySem.W.sorted_vals hl S (by simpa using hL) ?_
          have sv := PySem.W.sortVals_data (h' := PySem.W.sortingHeap (PySem.W.copyHeap s.heap [v]) (s.heap.objs.size + 1) [v]) (R := R) (enc := fun b : List Int => PyData.tuple (b.map .int)) (vs := [v]) (bs := [r]) false (.cons e1 .nil) (.cons ⟨as, rd'⟩ .nil) hal
          rw [leR_data] at sv
          exact h _ (by rw [PySem.W.sortVals_length false rfl]; rfl) sv
    · simp at hz
def rSrtT (K : PySem.W.Frag) : List V → Hp → VK → Prop := fun vs H Q => ∃ (a : Addr) (Z : Hp) (ι : Nat → Addr) (n : Nat) (rs : List (List Int)) (xs : List V), vs = [.ref a] ∧ SqL K H a xs ∧ Sub Z H ∧ Rps K Z ι n (rs.map tupI) xs ∧ srtOk rs = true ∧
  ∀ ys p, Rps K Z ι n ((srtR rs).map tupI) ys → H p = none → Q (.ref p) (upd H p (.lst ys))
theorem tups_there {pins : List (Addr × Obj)} {σ : St} {H Z : Hp} {ι : Nat → Addr} {n : Nat} {s : Shared} (I : Inv X pins σ H s) (hz : Sub Z H) : ∀ {rs : List (List Int)} {xs : List V} {us : List Value}, Rps X.K Z ι n (rs.map tupI) xs → Vals xs us →
    PySem.W.EachIs (fun v (b : List Int) => Rp X.K Z ι n (tupI b) (backV v) ∧ ∃ a, v = Value.ref a) us rs ∧ PySem.W.EachIs (fun v (b : List Int) => ∃ as, Reads s.heap v (.tuple (b.map .int)) as) us rs
  | [], _, _, h, r => by
    cases h
    cases r
    exact ⟨.nil, .nil⟩
  | p :: rs, _, _, h, r => by
    cases h with
    | cons h1 h2 =>
      cases r with
      | cons r1 r2 =>
        obtain ⟨a1, a2⟩ := tups_there I hz h2 r2
        obtain ⟨as, rd⟩ := Dp.reads I _ _ _ (toP_dp hz _ _ _ h1 (toP_ints p)) r1
        cases h1 with
        | tup sq rr =>
          rename_i a ys
          cases (show _ = Value.ref a from r1)
          exact ⟨.cons ⟨.tup sq rr, a, rfl⟩ a1, .cons ⟨as, rd⟩ a2⟩
theorem each_rps {K : PySem.W.Frag} {Z : Hp} {ι : Nat → Addr} {n : Nat} : ∀ {us : List Value} {rs : List (List Int)}, PySem.W.EachIs (fun v (b : List Int) => Rp K Z ι n (tupI b) (backV v) ∧ ∃ a, v = Value.ref a) us rs → Rps K Z ι n (rs.map tupI) (us.map backV) ∧ ∀ u ∈ us, ∃ a, u = Value.ref a
  | _, _, .nil => ⟨.nil, fun u h => by cases h⟩
  | _, _, .cons ⟨h1, h2⟩ t => by
    obtain ⟨a, b⟩ := each_rps t
    exact ⟨.cons h1 a, fun u hu => by
      rcases List.mem_cons.mp hu with rfl | hu
      · exact h2
      · exact b u hu⟩
theorem cr_srtT (hu : X.A.units + 70 < cLine) : CallR X (.builtin "sorted") (rSrtT X.K) := by
  intro pins s σ H vs us Q I r h
  obtain ⟨a, Z, ι, n, rs, xs, rfl, hs, hz, hp, hk, q⟩ := h
  obtain ⟨its, rv, hl, hsz⟩ := I.list hs
  obtain ⟨u, rfl, ru⟩ := vals1 r
  obtain rfl : u = Value.ref a := ru
  obtain ⟨e1, e2⟩ := tups_there I hz hp rv
  have lr : its.length = rs.length := e1.length
  have lz : rs.length ≤ sizeLine := by rw [← lr, ← rv.length]; exact hsz
  refine sorted_tupI hl.isList e1 e2 hk lz hu fun out ho eo => ?_
  obtain ⟨ry, h3⟩ := each_rps eo
  have hn := sortedAll_at s.heap its out.toArray
  obtain ⟨m, hn⟩ := hn
  refine ⟨.ref (s.heap.objs.size + 1), upd H (s.heap.objs.size + 1) (.lst (out.map backV)), I.laid (t' := s.toks) (fun b o e => sortedAll_old e) (Nat.le_succ _) ⟨?_, out, m, vals_back h3, hn⟩, rfl, q _ _ ry (I.hok.fresh (Nat.le_succ _))⟩
  rw [List.length_map, ho]
  exact lz
theorem ok_srtT : Ok1 X (fun x H Q => rSrtT X.K [x] H Q) dSortT := fun x H Z ι M dx d Q hr rx e q => by
  unfold dSortT at e
  cases e1 : listD M dx with
  | none => rw [e1] at e; cases e
  | some ds =>
    rw [e1, Option.bind_some] at e
    cases e2 : rowsL ds with
    | none => rw [e2] at e; cases e
    | some rs =>
      rw [e2, Option.bind_some] at e
      by_cases c : srtOk rs = true
      · rw [if_pos c] at e
        cases e
        obtain ⟨a, xs, rfl, s, r⟩ := listD_run hr rx e1
        rw [rowsL_is e2] at r
        exact ⟨a, Z, ι, M.length, rs, xs, rfl, s.sq, hr.sub, r, c, fun ys p ry hp => q.lst hr ry p hp⟩
      · rw [if_neg c] at e
        cases e
def dSortB (M : List MO) (d : D) : Option D := match dSort M d with
  | some r => some r
  | none => dSortT M d
theorem cr_srtB (hc : X.calm = true) (hu : X.A.units + 70 < cLine) : CallR X (.builtin "sorted") (fun xs H Q => rSortedI X.K xs H Q ∨ rSrtT X.K xs H Q) := CallR.or cr_sortedI (cr_srtT hu)
theorem ok_srtB : Ok1 X (fun x H Q => rSortedI X.K [x] H Q ∨ rSrtT X.K [x] H Q) dSortB := fun x H Z ι M dx d Q hr rx e q => by
  unfold dSortB at e
  cases e1 : dSort M dx with
  | some r =>
    rw [e1] at e
    cases e
    exact .inl (ok_sort x H Z ι M dx _ Q hr rx e1 q)
  | none =>
    rw [e1] at e
    exact .inr (ok_srtT x H Z ι M dx d Q hr rx e q)
end
theorem srtR_sorted {rs : List (List Int)} (h : rs.Pairwise (· ≤ ·)) : srtR rs = rs := by
  unfold srtR
  refine List.mergeSort_of_pairwise ?_
  exact h.imp fun {a b} q => by simpa [leR] using q
/-- what is in order already -/
theorem e_srtB {rs : List (List Int)} (M : List MO) (h : rs.Pairwise (· ≤ ·)) (ok : srtOk rs = true) : dSortB M (.lst (rs.map tupI)) = some (.lst (rs.map tupI)) := by
  cases rs with
  | nil => rfl
  | cons r rs =>
    have n1 : dSort M (.lst ((r :: rs).map tupI)) = none := rfl
    unfold dSortB
    rw [n1]
    show ((listD M (.lst ((r :: rs).map tupI))).bind rowsL).bind _ = _
    rw [listD_l, Option.bind_some, rowsL_map, Option.bind_some, if_pos ok, srtR_sorted h]
end Bk

set_option Elab.async false
set_option linter.all false
set_option maxRecDepth 100000
set_option maxHeartbeats 2000000
namespace Bk
open PySem PySem.Spec PyProof.Rows L2
/-! ### sum of a tuple of ints -/
def rSumT (K : PySem.W.Frag) : List V → Hp → VK → Prop := fun vs H Q => ∃ (a : Addr) (ns : List Int), vs = [V.ref a] ∧ SqT K H a (ns.map V.int) ∧ Q (.int ns.sum) H
def dSumT (M : List MO) (d : D) : Option D := match d with
  | .tup xs => (intsL xs).map fun is => .int is.sum
  | d => dSum M d
section
variable {X : Cx}
theorem cr_sumT (hc : X.calm = true) : CallR X (.builtin "sum") (rSumT X.K) := by
  intro pins s σ H vs us Q I r h
  obtain ⟨a, ns, rfl, hs, q⟩ := h
  obtain ⟨its, rv, hl, _⟩ := I.tuple hs
  rw [Vals.ref1 r]
  have hi : IntsAre its ns := rv.ints
  obtain ⟨xs, e⟩ := hi.allInts.items
  have hn : numsOf (intItems xs).toList = ns := by rw [← e]; exact hi.numsOf
  rw [nums_intItems] at hn
  rw [e] at hl
  refine PySem.W.ktm_sumG (I.ok.hd hc) hl fun h' tk t' hk => ?_
  rw [preSum_eq, List.take_of_length_le (by simp), hn]
  exact ⟨.int _, H, I.kept hk, ⟨_, rfl⟩, q⟩
theorem cr_sumA (hc : X.calm = true) : CallR X (.builtin "sum") (fun xs H Q => rSumT X.K xs H Q ∨ rSum X.K xs H Q) := CallR.or (cr_sumT hc) (cr_sum hc)
theorem ok_sumA : Ok1 X (fun x H Q => rSumT X.K [x] H Q ∨ rSum X.K [x] H Q) dSumT := fun x H Z ι M dx d Q hr rx e q => by
  unfold dSumT at e
  split at e
  · rename_i xs
    cases e1 : intsL xs with
    | none => rw [e1] at e; cases e
    | some ns =>
      rw [e1] at e
      cases e
      cases rx with
      | tup s r =>
        have w := intsL_run r e1
        subst w
        exact .inl ⟨_, ns, rfl, subT hr.sub s, q.now hr (.int _)⟩
  · exact .inr (ok_sum x H Z ι M dx d Q hr rx e q)
end
@[simp] theorem e_sumT_l (M : List MO) (l : List D) : dSumT M (.lst l) = dSum M (.lst l) := Eq.trans rfl rfl
@[simp] theorem e_sumT_r (M : List MO) (k : Nat) : dSumT M (.ref k) = dSum M (.ref k) := Eq.trans rfl rfl
theorem e_sumT (M : List MO) (ns : List Int) : dSumT M (.tup (ns.map D.int)) = some (.int ns.sum) := by
  show (intsL (ns.map D.int)).map _ = _
  rw [intsL_map]
  rfl
end Bk

set_option Elab.async false
set_option linter.all false
set_option maxRecDepth 100000
set_option maxHeartbeats 2000000
namespace Bk
open PySem PySem.Spec PyProof.Rows L2
/-! ### a chain of three comparisons, as a test -/
def gChain3 (f f' f'' : List MO → D → D → Option D) (ga gb gc gd : GE) : GE := fun Γ M => (ga Γ M).bind fun x M1 => (gb Γ M1).bind fun y M2 => (opR (f M2 x y) M2).bind fun k M3 => match k with
  | .bl c => if c = true then (gc Γ M3).bind fun z M4 => (opR (f' M4 y z) M4).bind fun k' M5 => match k' with
      | .bl c' => if c' = true then (gd Γ M5).bind fun w M6 => opR (f'' M6 z w) M6 else .ok (.bl false) M5
      | _ => .bad
    else .ok (.bl false) M3
  | _ => .bad
@[simp] theorem u_gChain3 (f f' f'' : List MO → D → D → Option D) (ga gb gc gd : GE) (Γ : Env) (M : List MO) : gChain3 f f' f'' ga gb gc gd Γ M = ((ga Γ M).bind fun x M1 => (gb Γ M1).bind fun y M2 => (opR (f M2 x y) M2).bind fun k M3 => match k with
  | .bl c => if c = true then (gc Γ M3).bind fun z M4 => (opR (f' M4 y z) M4).bind fun k' M5 => match k' with
      | .bl c' => if c' = true then (gd Γ M5).bind fun w M6 => opR (f'' M6 z w) M6 else .ok (.bl false) M5
      | _ => .bad
    else .ok (.bl false) M3
  | _ => .bad) := Eq.trans rfl rfl
section
variable {X : Cx} {C : CT} {W : WX}
variable {a b c d : Expr} {ga gb gc gd : GE} {pos : Pos} {f f' f'' : List MO → D → D → Option D}
def tChain3 (r r' r'' : R2) (ta tb tc td : TE) : TE := fun σ H Q => ta σ H fun x H1 => tb σ H1 fun y H2 => r x y H2 fun z H3 => ∃ k, z = .bl k ∧
  (if k = true then tc σ H3 fun w' H4 => r' y w' H4 fun z' H5 => ∃ k', z' = .bl k' ∧ (if k' = true then td σ H5 fun u' H6 => r'' w' u' H6 Q else Q (.bl false) H5) else Q (.bl false) H3)
theorem pt_chain3 {op op' op'' : CmpOp} {r r' r'' : R2} {ta tb tc td : TE} (ho : OpR X (compareOp op) r) (ho' : OpR X (compareOp op') r') (ho'' : OpR X (compareOp op'') r'') (ha : PE X a ta) (hb : PE X b tb) (hc : PE X c tc) (hd : PE X d td)
    (hm : lastMarks [op, op', op''] [b, c, d] = false := by with_unfolding_all rfl) : PT X (.Compare a [op, op', op''] [b, c, d] pos) (tTest (tChain3 r r' r'' ta tb tc td)) := by
  refine ⟨fun pins s σ H Q I h => ?_⟩
  refine isTrue_chain (thn (ha.run pins s σ H _ I h) fun v s1 ⟨x, H1, I1, r1, q1⟩ => test_link (thn (hb.run pins s1 σ H1 _ I1 q1) fun u s2 ⟨y, H2, I2, r2, q2⟩ =>
    thn (ho pins s2 σ H2 x y v u _ I2 r1 r2 q2) fun d s3 ⟨z, H3, I3, r3, k, e, q3⟩ => ?_)) hm
  subst e
  cases r3
  refine wpAny_truthy_bool ?_
  cases k with
  | false =>
    obtain ⟨k', e', q'⟩ := q3
    cases e'
    exact ite_ff ⟨H3, I3, q'⟩
  | true =>
    refine ite_tt (test_link (thn (hc.run pins s3 σ H3 _ I3 q3) fun w' s4 ⟨z', H4, I4, r4, q4⟩ => thn (ho' pins s4 σ H4 y z' u w' _ I4 r2 r4 q4) fun d' s5 ⟨z2, H5, I5, r5, k2, e2, q5⟩ => ?_))
    subst e2
    cases r5
    refine wpAny_truthy_bool ?_
    cases k2 with
    | false =>
      obtain ⟨k', e', q'⟩ := q5
      cases e'
      exact ite_ff ⟨H5, I5, q'⟩
    | true =>
      refine ite_tt (test_last (thn (hd.run pins s5 σ H5 _ I5 q5) fun w2 s6 ⟨z6, H6, I6, r6, q6⟩ => thn (ho'' pins s6 σ H6 z' z6 w' w2 _ I6 r4 r6 q6) fun d'' s7 ⟨z7, H7, I7, r7, k7, e7, q7⟩ => ?_))
      subst e7
      cases r7
      exact wpAny_truthy_bool ⟨H7, I7, q7⟩
theorem chain3_read {r r' r'' : R2} {ta tb tc td : TE} (hf : Ok2 X r f) (hf' : Ok2 X r' f') (hf'' : Ok2 X r'' f'') (qa : Rd1 X C W ga ta) (qb : Rd1 X C W gb tb) (qc : Rd1 X C W gc tc) (qd : Rd1 X C W gd td) : Rd1 X C W (gChain3 f f' f'' ga gb gc gd) (tChain3 r r' r'' ta tb tc td) := by
  intro σ H Z ι Γ M Q sl hr h
  refine qa σ H Z ι Γ M _ sl hr (Post.bind h fun x M1 v H1 Z1 ι1 e1 hr1 r1 h1 => qb σ H1 Z1 ι1 Γ M1 _ (sl.ext e1) hr1 (h1.bind fun y M2 u H2 Z2 ι2 e2 hr2 r2 h2 => ?_))
  cases hd : f M2 x y with
  | none => rw [hd] at h2; exact h2.elim
  | some d =>
    rw [hd] at h2
    refine hf v u H2 Z2 ι2 M2 x y d _ hr2 (r1.ext e2) r2 hd fun w H3 Z3 e3 hr3 r3 => ?_
    have h3 := Post.shift h2 e3 hr3
    cases r3 with
    | bl k =>
      refine ⟨k, rfl, ?_⟩
      cases k with
      | false => exact h3 _ H3 Z3 ι2 .refl hr3 (.bl false)
      | true =>
        have h4 : Post X C W (rpE X.K) σ H3 Z3 ι2 M2 ((gc Γ M2).bind fun z M4 => (opR (f' M4 y z) M4).bind fun k' M5 => match k' with
          | .bl c' => if c' = true then (gd Γ M5).bind fun w M6 => opR (f'' M6 z w) M6 else .ok (.bl false) M5
          | _ => .bad) Q := h3
        refine qc σ H3 Z3 ι2 Γ M2 _ ((sl.ext e1).ext e2 |>.ext e3) hr3 (h4.bind fun z M4 w' H4 Z4 ι4 e4 hr4 r4 h5 => ?_)
        cases hd' : f' M4 y z with
        | none => rw [hd'] at h5; exact h5.elim
        | some d' =>
          rw [hd'] at h5
          refine hf' u w' H4 Z4 ι4 M4 y z d' _ hr4 ((r2.ext e3).ext e4) r4 hd' fun w5 H5 Z5 e5 hr5 r5 => ?_
          have h6 := Post.shift h5 e5 hr5
          cases r5 with
          | bl k2 =>
            refine ⟨k2, rfl, ?_⟩
            cases k2 with
            | false => exact h6 _ H5 Z5 ι4 .refl hr5 (.bl false)
            | true =>
              have h7 : Post X C W (rpE X.K) σ H5 Z5 ι4 M4 ((gd Γ M4).bind fun w M6 => opR (f'' M6 z w) M6) Q := h6
              refine qd σ H5 Z5 ι4 Γ M4 _ ((((sl.ext e1).ext e2 |>.ext e3).ext e4).ext e5) hr5 (h7.bind fun w6 M6 u6 H6 Z6 ι6 e6 hr6 r6 h8 => ?_)
              obtain ⟨d6, hd6, h9⟩ := Post.of_opR (γ := D) (δ := V) h8
              exact hf'' w' u6 H6 Z6 ι6 M6 z w6 d6 Q hr6 ((r4.ext e5).ext e6) r6 hd6 h9.after
          | _ => exact h6.elim
    | _ => exact h3.elim
theorem qt_chain3 {op op' op'' : CmpOp} {r r' r'' : R2} (ho : OpR X (compareOp op) r) (hf : Ok2 X r f) (ho' : OpR X (compareOp op') r') (hf' : Ok2 X r' f') (ho'' : OpR X (compareOp op'') r'') (hf'' : Ok2 X r'' f'') (ha : QE X C W a ga) (hb : QE X C W b gb) (hc : QE X C W c gc) (hd : QE X C W d gd) (hm : lastMarks [op, op', op''] [b, c, d] = false := by with_unfolding_all rfl) :
    QT X C W (.Compare a [op, op', op''] [b, c, d] pos) (gVal (gChain3 f f' f'' ga gb gc gd)) := by
  obtain ⟨ta, pa, qa⟩ := ha
  obtain ⟨tb, pb, qb⟩ := hb
  obtain ⟨tc, pc, qc⟩ := hc
  obtain ⟨td, pd, qd⟩ := hd
  exact ⟨_, pt_chain3 ho ho' ho'' pa pb pc pd (hm := hm), val_read (chain3_read hf hf' hf'' qa qb qc qd)⟩
end
end Bk

set_option Elab.async false
set_option linter.all false
set_option maxRecDepth 100000
set_option maxHeartbeats 2000000
namespace Bk
open PySem PySem.Spec PyProof.Rows L2 HT
/-! ### t[::-1] of a tuple -/
section
variable {prog : Program} {w : World} {A : Around} {E : Value → Shared → Prop} {s : Shared}
theorem places_rev (n : Nat) : Builtin.Slice.slicePlaces ((n : Int) - 1) (-1) (-1) = n := by
  unfold Builtin.Slice.slicePlaces
  have h1 : ¬ ((-1 : Int) > 0) := by decide
  have h2 : (-(-1) : Int) = 1 := rfl
  rw [if_neg h1, h2, Int.ediv_one]
  split <;> omega
theorem adjust_rev (n : Nat) : Builtin.Slice.sliceAdjust none none (-1) (n : Int) = ((n : Int) - 1, -1) := by
  unfold Builtin.Slice.sliceAdjust
  rfl
theorem applied_rev {sl : Addr} {vs : Value} {n : Nat} {Q : Int × Int × Nat → Shared → Prop} (hs : s.heap.IsSliceOf sl .none .none vs) (ps : IsPart vs (some (-1)))
    (h : Q ((n : Int) - 1, -1, n) s) : wpAny (model prog w) A (Builtin.Slice.sliceApplied (.ref sl) (pure (n : Int))) Q E s := by
  obtain ⟨os, hos, hcs, hds⟩ := id hs
  unfold Builtin.Slice.sliceApplied Builtin.Slice.sliceFields
  refine wpAny_bind (wpAny_bind (wpAny_field hos hds (x := .none) rfl (wpAny_bind (wpAny_field hos hds (x := .none) rfl (wpAny_bind (wpAny_field hos hds (x := vs) rfl (wpAny_pure ?_)))))))
  refine wpAny_bind (slicePart_ ps ?_)
  show wpAny _ _ (if ((-1 : Int) == 0) = true then _ else _) _ _ s
  rw [if_neg (by decide)]
  refine wpAny_bind (slicePart_ .none (wpAny_bind (slicePart_ .none (wpAny_bind (wpAny_pure ?_)))))
  show wpAny _ _ (match Builtin.Slice.sliceAdjust none none (-1) (n : Int) with | (lo, hi) => pure (lo, (-1 : Int), Builtin.Slice.slicePlaces lo hi (-1))) _ _ s
  rw [adjust_rev n]
  show wpAny _ _ (pure ((n : Int) - 1, (-1 : Int), Builtin.Slice.slicePlaces ((n : Int) - 1) (-1) (-1))) _ _ s
  rw [places_rev]
  exact wpAny_pure h
theorem pick_rev (xs : Array Value) : ((List.range xs.size).filterMap fun (m : Nat) => xs[((xs.size : Int) - 1 + (m : Int) * (-1)).toNat]?).toArray = xs.toList.reverse.toArray := by
  have e : ∀ n : Nat, n = xs.size → (List.range n).filterMap (fun (m : Nat) => xs[((n : Int) - 1 + (m : Int) * (-1)).toNat]?) = ((List.range n).map (fun k => n - 1 - k)).filterMap (xs[·]?) := fun n hn => by
    rw [List.filterMap_map]
    congr 1
    funext m
    have : ((n : Int) - 1 + (m : Int) * (-1)).toNat = n - 1 - m := by omega
    rw [this]
    rfl
  rw [e xs.size rfl, PySem.W.krv_range, List.filterMap_reverse, PySem.W.krv_all]
theorem getItem_tuple_rev {t sl : Addr} {items : Array Value} {vs : Value} {Q : Value → Shared → Prop} (ht : IsTup s.heap t items) (hs : s.heap.IsSliceOf sl .none .none vs) (ps : IsPart vs (some (-1)))
    (h : Q (.ref s.heap.objs.size) { s with heap := s.heap.push { cls := .type "tuple", data := .seq items.toList.reverse.toArray } })
    (hsz : items.size ≤ sizeLine) : wpAny (model prog w) A (getItem (.ref t) (.ref sl)) Q E s := by
  have htake : sizeOk (.seq items.toList.reverse.toArray) := by
    show items.toList.reverse.toArray.size ≤ sizeLine
    rw [List.size_toArray, List.length_reverse, Array.length_toList]
    exact hsz
  obtain ⟨os, hos, hcs, hds⟩ := id hs
  have hTs : s.TypeIs (.ref sl) "slice" := ⟨os, hos, hcs⟩
  unfold getItem
  try with_reducible refine wpAny_holding ?_
  first | refine wpAny_bind (wpAny_pure ?_) | skip
  refine wpAny_bind (wpAny_sequenceKey ht.typeIs (by decide) ?_)
  refine wpAny_bind (wpAny_callSpecial?_slot (name := Str.ofString "__getitem__") ht.typeIs PyProof.Rows.slot_tuple_getitem
    (wpAny_call_entry PyProof.Rows.slot_tuple_getitem ht.typeIs entry_tuple_getitem ?_ (args_tuple_getitem _ _)))
  show wpAny _ _ (Builtin.Tuple.tupleItemsOf (.ref t) >>= _) _ _ s
  refine wpAny_bind (tupleItemsOf_ ht ?_)
  refine wpAny_bind (wpAny_typeOf hTs ?_)
  rw [if_pos (by decide)]
  refine wpAny_bind (applied_rev hs ps ?_)
  have hno : ¬ ((((items.size : Int) - 1) == 0 && (-1 : Int) == 1 && items.size == items.size) = true) := by
    intro q
    rw [Bool.and_eq_true, Bool.and_eq_true] at q
    exact absurd q.1.2 (by decide)
  show wpAny _ _ (if (((items.size : Int) - 1) == 0 && (-1 : Int) == 1 && items.size == items.size) = true then _ else _) _ _ s
  rw [if_neg hno, pick_rev]
  first
    | exact wpAny_bind (m := Builtin.Tuple.tupleExact _) (wpAny_newObj_type (wpAny_pure ⟨_, rfl, wpAny_pure h⟩) htake)
    | exact wpAny_bind (m := Builtin.Tuple.tupleExact _) (wpAny_newObj_type (wpAny_bind (wpAny_pure (wpAny_pure ⟨_, rfl, wpAny_pure h⟩))) htake)
    | exact wpAny_bind (wpAny_bind (m := Builtin.Tuple.tupleExact _) (wpAny_newObj_type (wpAny_pure (wpAny_pure ⟨_, rfl, wpAny_pure h⟩)) htake))
    | exact wpAny_bind (wpAny_bind (m := Builtin.Tuple.tupleExact _) (wpAny_newObj_type (wpAny_pure ⟨_, rfl, wpAny_pure h⟩) htake))
end
def dRevA (M : List MO) (x : D) : Option D := match x with
  | .tup ds => some (.tup ds.reverse)
  | x => dRevL M x
def gRevA (ge : GE) : GE := fun Γ M => (ge Γ M).bind fun x M1 => opR (dRevA M1 x) M1
@[simp] theorem u_gRevA (ge : GE) (Γ : Env) (M : List MO) : gRevA ge Γ M = (ge Γ M).bind fun x M1 => opR (dRevA M1 x) M1 := Eq.trans rfl rfl
@[simp] theorem e_revAt (M : List MO) (ds : List D) : dRevA M (.tup ds) = some (.tup ds.reverse) := Eq.trans rfl rfl
@[simp] theorem e_revAl (M : List MO) (ds : List D) : dRevA M (.lst ds) = some (.lst ds.reverse) := Eq.trans rfl rfl
section
variable {X : Cx} {C : CT} {W : WX} {e : Expr} {g : GE}
def tRevA (K : PySem.W.Frag) (te : TE) : TE := fun σ H Q => te σ H fun x H1 => ∃ a xs, x = .ref a ∧
  ((SqL K H1 a xs ∧ ∀ p, H1 p = none → Q (.ref p) (upd H1 p (.lst xs.reverse))) ∨ (SqT K H1 a xs ∧ ∀ p, H1 p = none → Q (.ref p) (upd H1 p (.tup xs.reverse))))
theorem pe_revA2 {te : TE} {k : Nat} {p1 p2 p3 pos : Pos} (he : PE X e te) : PE X (.Subscript e (.Slice none none (some (.UnaryOp .USub (.Constant (.int 1) k p1) p2)) p3) pos) (tRevA X.K te) := by
  refine ⟨fun pins s σ H Q I h => ?_⟩
  refine Subscript_ (thn (he.run pins s σ H _ I h) fun v s1 ⟨x, H1, I1, r1, q1⟩ => ?_)
  obtain ⟨a, xs, ex, hx⟩ := q1
  subst ex
  cases r1
  have hst : PO X (some (.UnaryOp .USub (.Constant (.int 1) k p1) p2)) (tPart (tUn (rU fun i => .int (-i)) (tC (.int 1)))) := po_some (pe_un un_neg pe_int)
  refine wpAny_Slice (thn (po_none.run pins s1 σ H1 (fun o H2 => o = none ∧ H2 = H1) I1 ⟨rfl, rfl⟩) fun vl s2 ⟨l, H2, I2, pl, el, e2⟩ => ?_)
  subst el e2
  refine thn (po_none.run pins s2 σ H2 (fun o H3 => o = none ∧ H3 = H2) I2 ⟨rfl, rfl⟩) fun vu s3 ⟨u, H3, I3, pu, eu, e3⟩ => ?_
  subst eu e3
  refine thn (hst.run pins s3 σ H3 (fun o H4 => o = some (-1) ∧ H4 = H3) I3 ⟨1, rfl, -1, rfl, rfl, rfl⟩) fun vs s4 ⟨o, H4, I4, ps, eo, e4⟩ => ?_
  subst eo e4
  have I5 : Inv X pins σ H4 { s4 with heap := s4.heap.push { cls := .type "slice", data := .fields #[vl, vu, vs] } } := I4.kept (t' := s4.toks) fun b ob q => Heap.get?_push_of_some _ q
  show wpAny (model X.prog X.w) X.A (subscriptTail e (.Slice none none (some (.UnaryOp .USub (.Constant (.int 1) k p1) p2)) p3) (.ref a) (.ref s4.heap.objs.size)) (EP X pins σ Q) X.xe { s4 with heap := s4.heap.push { cls := .type "slice", data := .fields #[vl, vu, vs] } }
  rcases hx with ⟨hx, q⟩ | ⟨hx, q⟩
  · obtain ⟨its, r, ht, hz⟩ := I5.list hx
    have hlen := r.length
    refine tail_any (ops := [.ref a, .ref s4.heap.objs.size]) ht.isList.typeIs (PySem.slot_list_getitem.lookup) ?_ (by with_unfolding_all rfl)
    refine wpAny_getItem_list_slice ht.isList (Heap.IsSliceOf.new _ vl vu vs) pl pu ps (by decide) ?_ (by rw [List.size_toArray]; omega)
    rw [PySem.W.krv_pick]
    refine ⟨.ref _, _, I5.laid (t' := s4.toks) (o := .lst xs.reverse) (fun b ob q => Heap.get?_push_of_some _ q) (Nat.le_refl _) ?_, rfl, q _ (I5.hok.fresh (Nat.le_refl _))⟩
    exact ⟨by rw [List.length_reverse]; exact hz, _, 0, r.reverse, Heap.get?_push_size _ rfl⟩
  · obtain ⟨its, r, ht, hz⟩ := I5.tuple hx
    have hlen := r.length
    cases pl
    cases pu
    refine tail_any (ops := [.ref a, .ref s4.heap.objs.size]) ht.typeIs (PyProof.Rows.slot_tuple_getitem.lookup) ?_ (by with_unfolding_all rfl)
    refine getItem_tuple_rev ht (Heap.IsSliceOf.new _ .none .none vs) ps ?_ (by rw [List.size_toArray]; omega)
    refine ⟨.ref _, _, I5.laid (t' := s4.toks) (o := .tup xs.reverse) (fun b ob q => Heap.get?_push_of_some _ q) (Nat.le_refl _) ?_, rfl, q _ (I5.hok.fresh (Nat.le_refl _))⟩
    exact ⟨by rw [List.length_reverse]; exact hz, _, r.reverse, IsTup.new _ _⟩
theorem qe_revA {k : Nat} {p1 p2 p3 pos : Pos} (he : QE X C W e g) : QE X C W (.Subscript e (.Slice none none (some (.UnaryOp .USub (.Constant (.int 1) k p1) p2)) p3) pos) (gRevA g) := by
  obtain ⟨te, pe, qe⟩ := he
  refine ⟨_, pe_revA2 pe, fun σ H Z ι Γ M Q sl hr h => qe σ H Z ι Γ M _ sl hr (h.bind fun x M1 v H1 Z1 ι1 e1 hr1 r1 h1 => ?_)⟩
  obtain ⟨d, hd, h2⟩ := Post.of_opR (γ := D) (δ := V) h1
  have lst : dRevL M1 x = some d → ∃ a xs, v = .ref a ∧
      ((SqL X.K H1 a xs ∧ ∀ p, H1 p = none → Q (.ref p) (upd H1 p (.lst xs.reverse))) ∨ (SqT X.K H1 a xs ∧ ∀ p, H1 p = none → Q (.ref p) (upd H1 p (.tup xs.reverse)))) := fun hd => by
    unfold dRevL at hd
    cases e3 : listD M1 x with
    | none => rw [e3] at hd; cases hd
    | some ds =>
      rw [e3] at hd
      cases hd
      obtain ⟨a, xs, rfl, s, r3⟩ := listD_run hr1 r1 e3
      exact ⟨a, xs, rfl, .inl ⟨s.sq, After.lst (X := X) (M := M1) (Q := Q) (fun v H' Z' e' hr' r' => h2 v H' Z' ι1 e' hr' r') hr1 r3.rev⟩⟩
  unfold dRevA at hd
  split at hd
  · rename_i ds
    cases hd
    obtain ⟨a, xs, rfl, s, r3⟩ := tupD_run hr1 r1 (ds := ds) rfl
    exact ⟨a, xs, rfl, .inr ⟨s, After.tup (X := X) (M := M1) (Q := Q) (fun v H' Z' e' hr' r' => h2 v H' Z' ι1 e' hr' r') hr1 r3.rev⟩⟩
  · exact lst hd
end
end Bk

set_option Elab.async false
set_option linter.all false
set_option maxRecDepth 100000
set_option maxHeartbeats 2000000
namespace Bk
open PySem PySem.Spec PyProof.Rows L2
/-! ### the lists within a list are left as they are from now on -/
def frz1 : D → List MO → Option (D × List MO)
  | .ref k, M => match M[k]? with
    | some (.lst es) => some (.lst es, M.set k .dead)
    | _ => none
  | d, M => some (d, M)
def frzI : List D → List MO → Option (List D × List MO)
  | [], M => some ([], M)
  | d :: ds, M => (frz1 d M).bind fun p => (frzI ds p.2).map fun q => (p.1 :: q.1, q.2)
def gFzI (i : Nat) : GS := fun Γ M => match Γ[i]? with
  | some (some (.lst ds)) => match frzI ds M with
    | some p => .nx (Γ.set i (some (.lst p.1))) p.2
    | none => .bad
  | _ => .bad
@[simp] theorem u_gFzI (i : Nat) (Γ : Env) (M : List MO) : gFzI i Γ M = (match Γ[i]? with
  | some (some (.lst ds)) => match frzI ds M with
    | some p => .nx (Γ.set i (some (.lst p.1))) p.2
    | none => .bad
  | _ => .bad) := Eq.trans rfl rfl
section
variable {K : PySem.W.Frag} {H Z : Hp} {ι : Nat → Addr} {M M' : List MO}
theorem frz1_run {d d' : D} {v : V} (hr : HR K H Z ι M) (r : Rp K Z ι M.length d v) (e : frz1 d M = some (d', M')) :
    ∃ Z', HR K H Z' ι M' ∧ Ext H Z ι M.length H Z' ι M'.length ∧ Rp K Z' ι M'.length d' v := by
  cases d with
  | ref k =>
    cases r with
    | ref q =>
      simp only [frz1] at e
      cases e2 : M[k]? with
      | none => rw [e2] at e; cases e
      | some u =>
        rw [e2] at e
        cases u with
        | lst es =>
          simp only [Option.some.injEq, Prod.mk.injEq] at e
          obtain ⟨rfl, rfl⟩ := e
          obtain ⟨xs, r2, hr1, x1, rp⟩ := hr.freeze e2
          exact ⟨_, hr1, x1, rp⟩
        | _ => cases e
  | _ =>
    simp only [frz1, Option.some.injEq, Prod.mk.injEq] at e
    obtain ⟨rfl, rfl⟩ := e
    exact ⟨Z, hr, .refl, r⟩
end
theorem frzI_run {K : PySem.W.Frag} {H : Hp} {ι : Nat → Addr} : ∀ (ds : List D) {Z : Hp} {M M' : List MO} {ds' : List D} {vs : List V}, HR K H Z ι M → Rps K Z ι M.length ds vs → frzI ds M = some (ds', M') →
    ∃ Z', HR K H Z' ι M' ∧ Ext H Z ι M.length H Z' ι M'.length ∧ Rps K Z' ι M'.length ds' vs
  | [], Z, M, M', ds', vs, hr, r, e => by
    simp only [frzI, Option.some.injEq, Prod.mk.injEq] at e
    obtain ⟨rfl, rfl⟩ := e
    exact ⟨Z, hr, .refl, r⟩
  | d :: ds, Z, M, M', ds', vs, hr, r, e => by
    simp only [frzI] at e
    cases e1 : frz1 d M with
    | none => rw [e1] at e; cases e
    | some p =>
      obtain ⟨d1, M1⟩ := p
      rw [e1, Option.bind_some] at e
      cases e2 : frzI ds M1 with
      | none => rw [e2] at e; cases e
      | some q =>
        obtain ⟨ds2, M2⟩ := q
        rw [e2] at e
        simp only [Option.map_some, Option.some.injEq, Prod.mk.injEq] at e
        obtain ⟨rfl, rfl⟩ := e
        cases r with
        | cons r1 r2 =>
          obtain ⟨Z1, hr1, x1, p1⟩ := frz1_run hr r1 e1
          obtain ⟨Z2, hr2, x2, p2⟩ := frzI_run ds hr1 (Rps.mono x1.zz x1.ii x1.ln _ _ r2) e2
          exact ⟨Z2, hr2, x1.trans x2 hr1.ali, .cons (Rp.mono x2.zz x2.ii x2.ln _ _ p1) p2⟩
section
variable {X : Cx} {C : CT} {W : WX} {st : Stmt} {g : GS}
theorem qs_fzI (i : Nat) (h1 : QS X C W st g) : QS X C W st (gSeq g (gFzI i)) := qs_ghost h1 fun Dd σ H Z ι Γ M sl hr h => by
  unfold gFzI at h
  cases e : Γ[i]? with
  | none => rw [e] at h; exact h.elim
  | some o =>
    rw [e] at h
    cases o with
    | none => exact h.elim
    | some d =>
      cases d with
      | lst ds =>
        simp only at h
        cases e2 : frzI ds M with
        | none => rw [e2] at h; exact h.elim
        | some p =>
          obtain ⟨ds', M'⟩ := p
          rw [e2] at h
          obtain ⟨v, hv, rv⟩ := sl.2 i _ e
          cases rv with
          | lst ex rps =>
            obtain ⟨Z', hr1, x1, rp⟩ := frzI_run ds hr rps e2
            have q := (sl.ext x1).set i (Rp.lst (subL x1.zz ex) rp)
            have es : ∀ a : Addr, σ[i]? = some (some (V.ref a)) → σ.set i (some (V.ref a)) = σ := fun a hv => by
              have lt : i < σ.length := (List.getElem?_eq_some_iff.mp hv).1
              have ev : σ[i] = some (V.ref a) := (List.getElem?_eq_some_iff.mp hv).2
              rw [← ev, List.set_getElem_self]
            rw [es _ hv] at q
            exact h σ H _ ι x1 hr1 q
      | _ => exact h.elim
end
theorem frzI_cells : ∀ (cs : List (List D)) (pre : List MO), frzI ((List.range' pre.length cs.length).map D.ref) (pre ++ cs.map MO.lst) = some (cs.map D.lst, pre ++ List.replicate cs.length .dead)
  | [], pre => by simp [frzI]
  | c :: cs, pre => by
    have ih := frzI_cells cs (pre ++ [.dead])
    have e1 : (pre ++ MO.lst c :: cs.map MO.lst)[pre.length]? = some (.lst c) := by simp
    have e2 : (pre ++ MO.lst c :: cs.map MO.lst).set pre.length .dead = pre ++ [.dead] ++ cs.map MO.lst := by simp
    have e3 : (pre ++ [MO.dead]).length = pre.length + 1 := by simp
    rw [e3] at ih
    rw [List.length_cons, List.range'_succ, List.map_cons, List.map_cons, frzI, frz1, e1]
    simp only [Option.bind_some]
    rw [e2, ih]
    simp [List.replicate_succ]
end Bk

set_option Elab.async false
set_option linter.all false
set_option maxRecDepth 100000
set_option maxHeartbeats 2000000
namespace Bk
open PySem PySem.Spec PyProof.Rows L2
/-! ### xs * k as a list of ours -/
def repO (ds : Option (List D)) (y : D) (M : List MO) : R D := match ds, y with
  | some ds, .int k => if (decide (k < 2 ^ 63) && decide (-(2 ^ 63) ≤ k) && decide (ds.length * k.toNat ≤ sizeLine)) = true then .ok (.ref M.length) (M ++ [.lst (List.replicate k.toNat ds).flatten]) else .bad
  | _, _ => .bad
def gRepO (ga gb : GE) : GE := fun Γ M => (ga Γ M).bind fun x M1 => (gb Γ M1).bind fun y M2 => repO (listD M2 x) y M2
@[simp] theorem u_gRepO (ga gb : GE) (Γ : Env) (M : List MO) : gRepO ga gb Γ M = ((ga Γ M).bind fun x M1 => (gb Γ M1).bind fun y M2 => repO (listD M2 x) y M2) := Eq.trans rfl rfl
theorem repO_ok {ds : List D} {k : Int} (M : List MO) (h1 : -(2 ^ 63) ≤ k) (h2 : k < 2 ^ 63) (h3 : ds.length * k.toNat ≤ sizeLine) : repO (some ds) (.int k) M = .ok (.ref M.length) (M ++ [.lst (List.replicate k.toNat ds).flatten]) := by
  simp only [repO]
  rw [if_pos]
  simp only [Bool.and_eq_true, decide_eq_true_eq]
  exact ⟨⟨h2, h1⟩, h3⟩
section
variable {X : Cx} {C : CT} {W : WX} {a b : Expr} {ga gb : GE} {pos : Pos}
theorem qe_repO (ha : QE X C W a ga) (hb : QE X C W b gb) : QE X C W (.BinOp a .Mult b pos) (gRepO ga gb) := by
  obtain ⟨ta, pa, qa⟩ := ha
  obtain ⟨tb, pb, qb⟩ := hb
  refine ⟨_, pe_op op_repS pa pb, fun σ H Z ι Γ M Q sl hr h => qa σ H Z ι Γ M _ sl hr (Post.bind h fun x M1 v H1 Z1 ι1 e1 hr1 r1 h1 => qb σ H1 Z1 ι1 Γ M1 _ (sl.ext e1) hr1 (h1.bind fun y M2 u H2 Z2 ι2 e2 hr2 r2 h2 => ?_))⟩
  cases el : listD M2 x with
  | none => rw [el] at h2; exact h2.elim
  | some ds =>
    rw [el] at h2
    cases y with
    | int k =>
      cases r2
      by_cases c : (decide (k < 2 ^ 63) && decide (-(2 ^ 63) ≤ k) && decide (ds.length * k.toNat ≤ sizeLine)) = true
      · have h3 : Post X C W (rpE X.K) σ H2 Z2 ι2 M2 (.ok (.ref M2.length) (M2 ++ [.lst (List.replicate k.toNat ds).flatten])) Q := by
          have e : repO (some ds) (.int k) M2 = .ok (.ref M2.length) (M2 ++ [.lst (List.replicate k.toNat ds).flatten]) := by
            simp only [repO]
            rw [if_pos c]
          rw [e] at h2
          exact h2
        simp only [Bool.and_eq_true, decide_eq_true_eq] at c
        obtain ⟨⟨c1, c2⟩, c3⟩ := c
        obtain ⟨l, xs, rfl, ex, rs⟩ := listD_run hr2 (r1.ext e2) el
        refine ⟨l, k, xs, rfl, rfl, ex, c2, c1, by rw [← rs.length]; exact c3, fun p hp => ?_⟩
        obtain ⟨hr3, e3⟩ := hr2.owned hp (rs.rep k.toNat)
        refine h3 _ _ _ _ e3 hr3 ?_
        have q : Rp X.K Z2 (put ι2 M2.length p) (M2 ++ [MO.lst (List.replicate k.toNat ds).flatten]).length (.ref M2.length) (.ref (put ι2 M2.length p M2.length)) := .ref (by simp)
        rw [put_at] at q
        exact q
      · have e : repO (some ds) (.int k) M2 = .bad := by
          simp only [repO]
          rw [if_neg c]
        rw [e] at h2
        exact h2.elim
    | _ => exact h2.elim
end
end Bk

set_option Elab.async false
set_option linter.all false
set_option maxRecDepth 100000
set_option maxHeartbeats 4000000
namespace Bk
open PySem PySem.Spec PyProof.Rows L2 Srt SrtO SrtR
/-! ### sorted(t, reverse=True) of a tuple of ints -/
section
variable {prog : Program} {w : World} {A : Around} {E : Value → Shared → Prop} {s : Shared}
theorem collect_tup {l : Addr} {vs : List Value} {Q : List Value → Shared → Prop} (hl : IsTup s.heap l vs.toArray)
    (h : Q vs { s with heap := (s.heap.push (seqObj "list" #[] 0)).update s.heap.objs.size (Obj.mapSeq (· ++ vs.toArray)) }) (hsz : vs.length ≤ sizeLine) :
    wpAny (model prog w) A (collect (.ref l)) Q E s := by
  obtain ⟨o, ho, hc, n, hd⟩ := id hl
  unfold collect
  refine wpAny_bind (wpAny_runValue (codeAny_builtin entry_proto_collect' ?_))
  show wpAny _ _ (do again (.builtin "list.__iadd__" ⟨[← newList [], .ref l], []⟩)) _ _ s
  refine wpAny_bind (wpAny_newList (wpAny_pure ⟨Code.quiet_builtin _ (by decide +kernel), codeAny_builtin entry_list_iadd' ?_⟩))
  show wpAny _ _ (Builtin.List.listExtendWith (.ref s.heap.objs.size) (.ref l) (.ref s.heap.objs.size)) _ _ { s with heap := s.heap.push (seqObj "list" #[] 0) }
  unfold Builtin.List.listExtendWith
  have ho' : (s.heap.push (seqObj "list" #[] 0)).get? l = some o := Heap.get?_push_of_some _ ho
  refine wpAny_bind (wpAny_typeOf (T := "tuple") ⟨o, ho', hc⟩ ?_)
  have ht : (Value.type "tuple" == Value.type "tuple") = true := by rfl
  rw [if_pos (by rw [ht]; simp)]
  refine wpAny_bind (listItems_at ho' hd ?_)
  refine wpAny_bind (listItems_at (xs := #[]) (n := 0) (Heap.get?_push_size _ rfl) rfl ?_)
  rw [if_neg (by simp)]
  refine wpAny_bind (listUpdate_at (xs := #[]) (n := 0) (Heap.get?_push_size _ rfl) rfl ?_ (Nat.zero_le _) (by show (#[] ++ vs.toArray).size ≤ sizeLine + 1; simp only [Array.size_append, List.size_toArray, List.length_nil]; omega))
  refine wpAny_pure ?_
  show wpAny (model prog w) A (do
      let o ← load s.heap.objs.size
      match o.data with
      | .seq xs _ => pure xs.toList
      | _ => unsupported "internal:collect") Q E { s with heap := (s.heap.push (seqObj "list" #[] 0)).update s.heap.objs.size (Obj.mapSeq (· ++ vs.toArray)) }
  refine wpAny_bind (wpAny_load (get?_update_seq (Heap.get?_push_size _ rfl) _) ?_)
  show wpAny _ _ (pure ((#[] : Array Value) ++ vs.toArray).toList) Q E _
  rw [show ((#[] : Array Value) ++ vs.toArray).toList = vs by simp]
  exact wpAny_pure h
theorem sorted_ordT {l : Addr} {vs : List Value} {b : Bool} {kw : List (Str × Value)} {ltv : Value → Value → Bool} {Q : Value → Shared → Prop} (hk : ∀ a, Builtin.«list.sort» ⟨[.ref a], kw⟩ = Builtin.«list.sort» ⟨[.ref a], [(Str.ofString "reverse", .bool b)]⟩)
    (ha1 : argsOk "sorted" ⟨[.ref l], kw⟩) (ha2 : ∀ a, argsOk "list.sort" ⟨[a], kw⟩) (O : Swo ltv) (hl : IsTup s.heap l vs.toArray) (hz : vs.length ≤ sizeLine)
    (hS : 2 ≤ vs.length → ∀ (h₁ : Heap) (a : Addr), h₁.get? a = some (seqObj "list" vs.toArray 0) → (∀ b o, s.heap.get? b = some o → b ≠ a ∧ h₁.get? b = some o) → SortableO prog w A.in1.in1 { s with heap := h₁ } a vs ltv)
    (h : ∀ out : List Value, Srtd ltv out → Stb ltv out (if b = true then vs.reverse else vs) → Q (.ref (s.heap.objs.size + 1)) { s with heap := sortedAll s.heap vs (if b = true then out.toArray.reverse else out.toArray) }) :
    wpAny (model prog w) A (call (.builtin "sorted") [.ref l] kw) Q E s := by
  refine call_function_entry_kw kind_sorted plain_sorted entry_sorted ha1 ?_
  unfold Builtin.«sorted»
  refine wpAny_bind (m := checkCount "sorted" 1 1 _) (wpAny_pure ?_)
  refine wpAny_bind (collect_tup hl ?_ hz)
  refine wpAny_bind (wpAny_newList ?_ hz)
  have hsz : ((s.heap.push (seqObj "list" #[] 0)).update s.heap.objs.size (Obj.mapSeq (· ++ vs.toArray))).objs.size = s.heap.objs.size + 1 := by
    rw [Heap.size_update, size_push']
  have hoL : (((s.heap.push (seqObj "list" #[] 0)).update s.heap.objs.size (Obj.mapSeq (· ++ vs.toArray))).push (seqObj "list" vs.toArray 0)).get? (s.heap.objs.size + 1) = some (seqObj "list" vs.toArray 0) := by
    rw [← hsz]; exact Heap.get?_push_size _ rfl
  have keep : ∀ b o, s.heap.get? b = some o → b ≠ s.heap.objs.size + 1 ∧ (((s.heap.push (seqObj "list" #[] 0)).update s.heap.objs.size (Obj.mapSeq (· ++ vs.toArray))).push (seqObj "list" vs.toArray 0)).get? b = some o := fun b o q => by
    have hlt : b < s.heap.objs.size := Heap.lt_size q
    refine ⟨Nat.ne_of_lt (Nat.lt_succ_of_lt hlt), Heap.get?_push_of_some _ ?_⟩
    rw [Heap.get?_update_ne _ _ _ _ (Nat.ne_of_lt hlt)]
    exact Heap.get?_push_of_some _ q
  show wpAny _ _ _ _ _ { s with heap := ((s.heap.push (seqObj "list" #[] 0)).update s.heap.objs.size (Obj.mapSeq (· ++ vs.toArray))).push (seqObj "list" vs.toArray 0) }
  rw [hsz]
  refine wpAny_bind (wpAny_holding (wpAny_call_entry_kw slot_list_sort ⟨_, hoL, rfl⟩ entry_list_sort ?_ (ha2 _)))
  rw [hk]
  refine list_sort_ordR O hoL hz (fun h2 => hS h2 _ _ hoL keep) fun out hs hb => ⟨_, rfl, ?_⟩
  exact wpAny_pure ⟨_, rfl, h out hs hb⟩
end
section
variable {X : Cx}
def rSortedRT (K : PySem.W.Frag) : List V → List V → Hp → VK → Prop := fun vs zs H Q => ∃ (a : Addr) (ns : List Int), vs = [V.ref a] ∧ zs = [.bl true] ∧ (SqL K H a (ns.map V.int) ∨ SqT K H a (ns.map V.int)) ∧
  ∀ (ns' : List Int) (p : Addr), ns'.Perm ns → OrdB true ns' → H p = none → Q (.ref p) (upd H p (.lst (ns'.map V.int)))
theorem cr_sortedRT : CallRK X (.builtin "sorted") [Str.ofString "reverse"] (rSortedRT X.K) := by
  intro pins s σ H vs zs us ws Q I r rz h
  obtain ⟨a, ns, rfl, rfl, hs, q⟩ := h
  rcases hs with hs | hs
  · exact cr_sortedRev pins s σ H [.ref a] [.bl true] us ws Q I r rz ⟨a, ns, rfl, rfl, hs, q⟩
  · obtain rfl := Vals.ref1 r
    obtain ⟨w1, rfl, e1⟩ := vals1 rz
    obtain rfl : w1 = Value.bool true := e1
    obtain ⟨its, rv, hl, hz⟩ := I.tuple hs
    have hi := rv.ints
    refine sorted_ordT (b := true) (fun _ => rfl) (PyProof.Rows.args_sorted_rev _ _) (fun _ => PyProof.Rows.args_list_sort_rev _ _) SrtO.swo_int hl (by rw [← rv.length]; exact hz) (fun h2 h₁ a' _ _ => SrtO.ints_sortable hi h2) fun out h1 h2 => ?_
    obtain ⟨ns', k1, k2, k3⟩ := SrtR.ints_outR (b := true) hi h1 h2
    obtain ⟨ep, he'⟩ := PyProof.Rows.sortedAll_at s.heap its (if true = true then out.toArray.reverse else out.toArray)
    have hlen : (ns'.map V.int).length ≤ sizeLine := by
      rw [List.length_map, k2.length_eq]
      rw [List.length_map] at hz
      exact hz
    have e0 : ((if true = true then out.toArray.reverse else out.toArray).toList).toArray = (if true = true then out.toArray.reverse else out.toArray) := by rw [Array.toArray_toList]
    exact ⟨.ref _, upd H (s.heap.objs.size + 1) (.lst (ns'.map V.int)), I.laid (t' := s.toks) (fun _ _ => PyProof.Rows.sortedAll_old) (Nat.le_succ _) ⟨hlen, _, ep, vals_of_ints k1, by rw [e0]; exact he'⟩, rfl, q _ _ k2 k3 (I.hok.fresh (Nat.le_succ _))⟩
end
def dSortRT (M : List MO) : D → Option D
  | .tup ds => (intsD ds).map fun is => .lst ((srtI is).reverse.map D.int)
  | x => dSortR M x
def gSortRT (ge : GE) : GE := fun Γ M => (ge Γ M).bind fun x M1 => opR (dSortRT M1 x) M1
@[simp] theorem u_gSortRT (ge : GE) (Γ : Env) (M : List MO) : gSortRT ge Γ M = (ge Γ M).bind fun x M1 => opR (dSortRT M1 x) M1 := Eq.trans rfl rfl
theorem e_sortRTl (M : List MO) (is : List Int) : dSortRT M (.lst (is.map D.int)) = some (.lst ((srtI is).reverse.map D.int)) := e_sortR M is
theorem e_sortRTt (M : List MO) (is : List Int) : dSortRT M (.tup (is.map D.int)) = some (.lst ((srtI is).reverse.map D.int)) := by
  simp only [dSortRT, intsD_map, Option.map_some]
section
variable {X : Cx} {C : CT} {W : WX} {e : Expr} {g : GE}
theorem qe_sortRT {p cp pos kp : Pos} (hg : Gl X "sorted") (hm : X.mg "sorted" = none) (hv : bootBuiltins "sorted" = some (.builtin "sorted")) (he : QE X C W e g) (hs : starEach [e] X.env = (false, eval e X.env) :: starEach [] X.env := by rfl)
    (h1 : backTo pos (starEach [e] X.env) = (false, eval e X.env) :: backTo pos (starEach [] X.env) := by rfl) (h2 : (backTo pos (starEach [e] X.env)).any (·.1) = false := by rfl)
    (h3 : (backToKw pos (keywordEach [⟨some "reverse", .Constant (.bool true) 0 cp, kp⟩] X.env)).all (·.1.isSome) = true := by rfl) (h4 : (backToKw pos (keywordEach [⟨some "reverse", .Constant (.bool true) 0 cp, kp⟩] X.env)).any (·.1.isNone) = false := by rfl)
    (h5 : (backToKw pos (keywordEach [⟨some "reverse", .Constant (.bool true) 0 cp, kp⟩] X.env)).filterMap (·.1) = [Str.ofString "reverse"] := by rfl) :
    QE X C W (.Call (.Name "sorted" p) [e] [⟨some "reverse", .Constant (.bool true) 0 cp, kp⟩] pos) (gSortRT g) := by
  obtain ⟨te, pe, qe⟩ := he
  refine ⟨_, pe_callBK cr_sortedRT hg hm hv (pa_cons pe pa_nil hs) (pk_cons pe_bl pk_nil) (by decide) (by decide) h1 h2 h3 h4 h5, fun σ H Z ι Γ M Q sl hr h => qe σ H Z ι Γ M _ sl hr (h.bind fun x M1 v H1 Z1 ι1 e1 hr1 r1 h1 => ?_)⟩
  obtain ⟨d, hd, h2⟩ := Post.of_opR (γ := D) (δ := V) h1
  have fin : ∀ (a : Addr) (is : List Int), v = .ref a → (SqL X.K H1 a (is.map V.int) ∨ SqT X.K H1 a (is.map V.int)) → d = .lst ((srtI is).reverse.map D.int) → rSortedRT X.K [v] [.bl true] H1 Q := fun a is ev s ed => by
    subst ev
    subst ed
    refine ⟨a, is, rfl, rfl, s, fun ns' p h1 h2' hp => ?_⟩
    have o : ns'.Pairwise (· ≥ ·) := h2'
    have e : ns'.reverse = srtI is := ord_one ((List.reverse_perm ns').trans (h1.trans (srtI_perm is).symm)) (List.pairwise_reverse.mpr o) (srtI_ord is)
    have e' : ns' = (srtI is).reverse := by rw [← e, List.reverse_reverse]
    rw [e']
    exact After.lst (X := X) (M := M1) (Q := Q) (fun v H' Z' e' hr' r' => h2 v H' Z' ι1 e' hr' r') hr1 (rps_ints _) p hp
  unfold dSortRT at hd
  split at hd
  · rename_i ds
    cases r1 with
    | tup s r =>
      cases ei : intsD ds with
      | none => rw [ei] at hd; cases hd
      | some is =>
        rw [ei] at hd
        cases hd
        have := intsD_is r ei
        subst this
        exact fin _ is rfl (.inr (subT hr1.sub s)) rfl
  · obtain ⟨a, is, rfl, s, e2⟩ := ofInts_run hr1 r1 hd
    cases e2
    exact fin a is rfl (.inl s) rfl
end
end Bk

set_option Elab.async false
set_option linter.all false
set_option maxRecDepth 100000
set_option maxHeartbeats 2000000
namespace Bk
open PySem PySem.Spec PyProof.Rows L2
/-! ### a list of ours that comes back from a call, and will not be changed -/
def fzD (d : D) (M : List MO) : R D := match d with
  | .ref k => match M[k]? with
    | some (.lst ds) => .ok (.lst ds) (M.set k .dead)
    | _ => .bad
  | d => .ok d M
def gFzE (ge : GE) : GE := fun Γ M => (ge Γ M).bind fzD
@[simp] theorem u_gFzE (ge : GE) (Γ : Env) (M : List MO) : gFzE ge Γ M = (ge Γ M).bind fzD := Eq.trans rfl rfl
theorem fzD_ref {k : Nat} {M : List MO} {ds : List D} (h : M[k]? = some (.lst ds)) : fzD (.ref k) M = .ok (.lst ds) (M.set k .dead) := by simp only [fzD, h]
section
variable {X : Cx} {C : CT} {W : WX} {e : Expr} {ge : GE}
theorem qe_fz (ha : QE X C W e ge) : QE X C W e (gFzE ge) := by
  obtain ⟨ta, pa, qa⟩ := ha
  refine ⟨ta, pa, fun σ H Z ι Γ M Q sl hr h => qa σ H Z ι Γ M Q sl hr (Post.bind h fun x M1 v H1 Z1 ι1 e1 hr1 r1 h1 => ?_)⟩
  cases x with
  | ref k =>
    simp only [fzD] at h1
    cases e2 : M1[k]? with
    | none => rw [e2] at h1; exact h1.elim
    | some u =>
      rw [e2] at h1
      cases u with
      | lst ds =>
        obtain ⟨xs, r, hr2, x1, rp⟩ := hr1.freeze e2
        cases r1
        exact h1 _ H1 _ ι1 x1 hr2 rp
      | _ => exact h1.elim
  | _ => exact h1 v H1 Z1 ι1 .refl hr1 r1
end
end Bk

set_option Elab.async false
set_option linter.all false
set_option maxRecDepth 100000
set_option maxHeartbeats 2000000
namespace Bk
open PySem PySem.Spec PyProof.Rows L2
/-! ### a loop over a list of ours, read anew at each turn -/
def gForN (gg : GG) (body : GS) (k : Nat) : Nat → Nat → GS
  | 0, _ => gBad
  | n + 1, i => fun Γ M => match M[k]? with
    | some (.lst ds) => match ds[i]? with
      | some d => optS (gg d Γ) fun Γ1 => (body Γ1 M).turn (gForN gg body k n (i + 1))
      | none => .nx Γ M
    | _ => .bad
def gForO (ge : GE) (gg : GG) (body : GS) (n : Nat) : GS := fun Γ M => (ge Γ M).thenS Γ fun d M1 => match d with
  | .ref k => gForN gg body k n 0 Γ M1
  | _ => .bad
@[simp] theorem u_gForO (ge : GE) (gg : GG) (body : GS) (n : Nat) (Γ : Env) (M : List MO) : gForO ge gg body n Γ M = ((ge Γ M).thenS Γ fun d M1 => match d with
  | .ref k => gForN gg body k n 0 Γ M1
  | _ => .bad) := Eq.trans rfl rfl
theorem gForN_some {gg : GG} {body : GS} {k n i : Nat} {Γ : Env} {M : List MO} {ds : List D} {d : D} (h : M[k]? = some (.lst ds)) (h2 : ds[i]? = some d) : gForN gg body k (n + 1) i Γ M = optS (gg d Γ) fun Γ1 => (body Γ1 M).turn (gForN gg body k n (i + 1)) := by
  simp only [gForN, h, h2]
theorem gForN_none {gg : GG} {body : GS} {k n i : Nat} {Γ : Env} {M : List MO} {ds : List D} (h : M[k]? = some (.lst ds)) (h2 : ds.length ≤ i) : gForN gg body k (n + 1) i Γ M = .nx Γ M := by
  simp only [gForN, h, List.getElem?_eq_none h2]
section
variable {X : Cx} {C : CT} {W : WX} {tg : Expr} {ge : GE} {gg : GG} {g : GS} {pos : Pos}
theorem qs_forO {iter : Expr} {body : List Stmt} {is : List Nat} (n : Nat) (hp : PassesOwn (model X.prog X.w) X.A X.env X.xe) (hc : X.calm = true) (hi : QE X C W iter ge) (hg : QG X tg gg is) (hb : QSs X C W body g)
    (hs : ∀ x, foldedSetIterable iter X.env x = pure x := by intro _; rfl) : QS X C W (.For tg iter body [] pos) (gForO ge gg g n) := by
  obtain ⟨ti, pi, qi⟩ := hi
  obtain ⟨tg', pg, qg⟩ := hg
  obtain ⟨tb, pb, qb⟩ := hb
  refine ⟨_, ps_for hp hc (pi_seq pi) pg pb hs, fun Dd σ H Z ι Γ M sl hr h => qi σ H Z ι Γ M _ sl hr (PostS.bind h sl fun d M1 v H1 Z1 ι1 e1 hr1 r1 h1 => ?_)⟩
  cases d with
  | ref k =>
    have h2 : PostS X C W H1 Z1 ι1 M1 (gForN gg g k n 0 Γ M1) Dd := h1
    cases n with
    | zero => exact h2.elim
    | succ n =>
    have hk : k < M1.length := by cases r1; assumption
    cases ek : M1[k]? with
    | none => simp only [gForN, ek] at h2; exact h2.elim
    | some u =>
      cases u with
      | lst ds =>
        have el : listD M1 (.ref k) = some ds := by simp only [listD, ek]
        obtain ⟨a, xs, rfl, ex, rs⟩ := listD_run hr1 r1 el
        have ea : ι1 k = a := by cases r1; rfl
        refine ⟨a, rfl, .inl ⟨⟨xs, ex.sq⟩, ?_⟩⟩
        refine ⟨fun i m σ' H' => ∃ (Z' : Hp) (ι' : Nat → Addr) (Γ' : Env) (M' : List MO), (∀ k, k < M1.length → ι' k = ι1 k) ∧ M1.length ≤ M'.length ∧ HR X.K H' Z' ι' M' ∧ Slots X.K Z' ι' M'.length Γ' σ' ∧
          PostS X C W H' Z' ι' M' (gForN gg g k m i Γ' M') Dd, ⟨n + 1, Z1, ι1, Γ, M1, fun _ _ => rfl, Nat.le_refl _, hr1, sl.ext e1, h2⟩, ?_⟩
        rintro i m σ' H' ⟨Z', ι', Γ', M', hii, hn, hr', sl', hp'⟩
        cases m with
        | zero => exact hp'.elim
        | succ m =>
        cases ek' : M'[k]? with
        | none => simp only [gForN, ek'] at hp'; exact hp'.elim
        | some u =>
          cases u with
          | lst es =>
            have el' : listD M' (.ref k) = some es := by simp only [listD, ek']
            have rk : Rp X.K Z' ι' M'.length (.ref k) (.ref (ι' k)) := .ref (Nat.lt_of_lt_of_le hk hn)
            obtain ⟨a', ys, ea', ex', rs'⟩ := listD_run hr' rk el'
            have eaa : a' = a := by
              injection ea' with z
              rw [← z, hii k hk, ea]
            subst eaa
            by_cases hi : i < es.length
            · have eg0 : es[i]? = some es[i] := List.getElem?_eq_getElem hi
              rw [gForN_some ek' eg0] at hp'
              obtain ⟨x, hx, rx⟩ := rs'.get eg0
              refine .inr ⟨⟨ys, x, ex'.sq, hx⟩, fun σ2 H2 => ∃ (Z2 : Hp) (ι2 : Nat → Addr) (Γ2 : Env) (M2 : List MO), (∀ k, k < M1.length → ι2 k = ι1 k) ∧ M1.length ≤ M2.length ∧ HR X.K H2 Z2 ι2 M2 ∧ Slots X.K Z2 ι2 M2.length Γ2 σ2 ∧
                PostS X C W H2 Z2 ι2 M2 (gForN gg g k m (i + 1) Γ2 M2) Dd, fun σ2 H2 hN => ?_, fun x2 H2 hy => ?_⟩
              · obtain ⟨Z2, ι2, Γ2, M2, a2, a3, a4, a5, a6⟩ := hN
                exact ⟨m, Nat.lt_succ_self _, Z2, ι2, Γ2, M2, a2, a3, a4, a5, a6⟩
              · obtain ⟨rfl, hx2⟩ := hy
                have exx : ys[i]? = some x2 := hx2 _ ex'.sq
                rw [hx] at exx
                cases exx
                cases eg : gg es[i] Γ' with
                | none =>
                  rw [eg] at hp'
                  exact hp'.elim
                | some Γ1 =>
                  rw [eg] at hp'
                  exact qg x σ' H2 Z' ι' M'.length es[i] Γ' Γ1 _ hr'.sub sl' rx eg fun σ3 s3 _ => qb _ σ3 H2 Z' ι' Γ1 M' s3 hr' (PostS.turn hp' fun Γ4 M4 σ4 H4 Z4 ι4 e4 hr4 s4 h4 =>
                    ⟨Z4, ι4, Γ4, M4, fun k hk => (e4.ii k (Nat.lt_of_lt_of_le hk hn)).trans (hii k hk), Nat.le_trans hn e4.ln, hr4, s4, h4⟩)
            · refine .inl ⟨⟨ys, ex'.sq, by rw [← rs'.length]; exact Nat.le_of_not_lt hi⟩, ?_⟩
              rw [gForN_none ek' (Nat.le_of_not_lt hi)] at hp'
              exact hp' σ' H' Z' ι' .refl hr' sl'
          | _ => simp only [gForN, ek'] at hp'; exact hp'.elim
      | _ => simp only [gForN, ek] at h2; exact h2.elim
  | _ => exact h1.elim
/-! ### a slice as a list of ours -/
def slO (ds : Option (List D)) (lo hi : Option Int) (M : List MO) : R D := match ds with
  | some ds => .ok (.ref M.length) (M ++ [.lst (cutD ds lo hi)])
  | none => .bad
def gSlO (ge : GE) (lo hi : GO) : GE := fun Γ M => (ge Γ M).bind fun x M1 => (lo Γ M1).bind fun a M2 => (hi Γ M2).bind fun b M3 => slO (listD M3 x) a b M3
@[simp] theorem u_gSlO (ge : GE) (lo hi : GO) (Γ : Env) (M : List MO) : gSlO ge lo hi Γ M = ((ge Γ M).bind fun x M1 => (lo Γ M1).bind fun a M2 => (hi Γ M2).bind fun b M3 => slO (listD M3 x) a b M3) := Eq.trans rfl rfl
@[simp] theorem slO_some (ds : List D) (lo hi : Option Int) (M : List MO) : slO (some ds) lo hi M = .ok (.ref M.length) (M ++ [.lst (cutD ds lo hi)]) := Eq.trans rfl rfl
theorem qe_sliceO {e : Expr} {lo hi : Option Expr} {g : GE} {gl gh : GO} {pos p2 : Pos} (he : QE X C W e g) (hl : QO X C W lo gl) (hh : QO X C W hi gh) : QE X C W (.Subscript e (.Slice lo hi none p2) pos) (gSlO g gl gh) := by
  obtain ⟨t, p, q⟩ := he
  obtain ⟨tl, pl, ql⟩ := hl
  obtain ⟨th, ph, qh⟩ := hh
  refine ⟨_, pe_slice sl_list p pl ph, fun σ H Z ι Γ M Q sl hr h => q σ H Z ι Γ M _ sl hr (h.bind fun x M1 v H1 Z1 ι1 e1 hr1 r1 h1 => ql σ H1 Z1 ι1 Γ M1 _ (sl.ext e1) hr1 (h1.bind fun a M2 a' H2 Z2 ι2 e2 hr2 ra h2 =>
    qh σ H2 Z2 ι2 Γ M2 _ ((sl.ext e1).ext e2) hr2 (h2.bind fun b M3 b' H3 Z3 ι3 e3 hr3 rb h3 => ?_)))⟩
  have ra' : a = a' := ra
  have rb' : b = b' := rb
  subst ra' rb'
  have r3 := (r1.ext e2).ext e3
  cases el : listD M3 x with
  | none => rw [el] at h3; exact h3.elim
  | some ds =>
    rw [el, slO_some] at h3
    obtain ⟨l, xs, rfl, ex, rs⟩ := listD_run hr3 r3 el
    refine ⟨l, xs, rfl, ex.sq, fun p hp => ?_⟩
    obtain ⟨hr4, e4⟩ := hr3.owned hp (cut_rps rs a b)
    refine h3 _ _ _ _ e4 hr4 ?_
    have q : Rp X.K Z3 (put ι3 M3.length p) (M3 ++ [MO.lst (cutD ds a b)]).length (.ref M3.length) (.ref (put ι3 M3.length p M3.length)) := .ref (by simp)
    rw [put_at] at q
    exact q
end
end Bk

set_option Elab.async false
set_option linter.all false
set_option maxRecDepth 100000
set_option maxHeartbeats 4000000
namespace Bk
open PySem PySem.Spec PyProof.Rows L2
/-! ### sets of tuples of ints: sorted(set(xs)) -/
/-- each row once -/
def uniqR : List (List Int) → List (List Int)
  | [] => []
  | r :: rs => if r ∈ rs then uniqR rs else r :: uniqR rs
theorem mem_uniqR : ∀ {rs : List (List Int)} {r : List Int}, r ∈ uniqR rs ↔ r ∈ rs
  | [], r => Iff.rfl
  | q :: rs, r => by
    unfold uniqR
    by_cases h : q ∈ rs
    · rw [if_pos h, mem_uniqR, List.mem_cons]
      exact ⟨.inr, fun z => z.elim (fun e => e ▸ h) id⟩
    · rw [if_neg h, List.mem_cons, List.mem_cons, mem_uniqR]
theorem uniqR_nodup : ∀ rs : List (List Int), (uniqR rs).Nodup
  | [] => .nil
  | q :: rs => by
    unfold uniqR
    by_cases h : q ∈ rs
    · rw [if_pos h]; exact uniqR_nodup rs
    · rw [if_neg h]
      exact List.nodup_cons.mpr ⟨fun z => h (mem_uniqR.mp z), uniqR_nodup rs⟩
theorem leR_trans (a b c : List Int) (h1 : leR a b = true) (h2 : leR b c = true) : leR a c = true := by
  unfold leR at *
  simp only [decide_eq_true_eq] at *
  exact List.le_trans h1 h2
theorem leR_total (a b : List Int) : (leR a b || leR b a) = true := by
  unfold leR
  rcases List.le_total a b with h | h
  · simp [h]
  · simp [h]
theorem leR_anti {a b : List Int} (h1 : leR a b = true) (h2 : leR b a = true) : a = b := by
  unfold leR at *
  simp only [decide_eq_true_eq] at *
  exact List.le_antisymm h1 h2
theorem sorted_one : ∀ {xs ys : List (List Int)}, xs.Perm ys → xs.Pairwise (fun a b => leR a b = true) → ys.Pairwise (fun a b => leR a b = true) → xs = ys
  | [], ys, p, _, _ => by rw [List.nil_perm.mp p]
  | x :: xs, [], p, _, _ => by simp at p
  | x :: xs, y :: ys, p, h1, h2 => by
    have e : x = y := by
      have hx : x ∈ y :: ys := p.mem_iff.mp (by simp)
      have hy : y ∈ x :: xs := p.mem_iff.mpr (by simp)
      rcases List.mem_cons.mp hx with e | e
      · exact e
      · rcases List.mem_cons.mp hy with e' | e'
        · exact e'.symm
        · exact leR_anti ((List.pairwise_cons.mp h1).1 y e') ((List.pairwise_cons.mp h2).1 x e)
    subst e
    rw [sorted_one (List.Perm.cons_inv p) (List.pairwise_cons.mp h1).2 (List.pairwise_cons.mp h2).2]
theorem srtR_up (rs : List (List Int)) : (srtR rs).Pairwise (fun a b => leR a b = true) := List.pairwise_mergeSort leR_trans leR_total rs
theorem srtR_perm {rs qs : List (List Int)} (h : rs.Perm qs) : srtR rs = srtR qs :=
  sorted_one (((List.mergeSort_perm rs leR).trans h).trans (List.mergeSort_perm qs leR).symm) (srtR_up rs) (srtR_up qs)
theorem srtOk_perm {rs qs : List (List Int)} (h : rs.Perm qs) (hk : srtOk qs = true) : srtOk rs = true := by
  unfold srtOk at *
  rw [Bool.or_eq_true] at *
  rcases hk with z | z
  · left
    rw [h.length_eq]
    exact z
  · right
    rw [List.all_eq_true] at *
    exact fun r hr => z r (h.mem_iff.mp hr)
section
variable {prog : Program} {w : World} {A : Around} {E : Value → Shared → Prop} {s : Shared}
theorem sorts_tups {vs : List Value} {rs : List (List Int)} (er : PySem.W.EachIs (fun v (b : List Int) => ∃ as, Reads s.heap v (.tuple (b.map .int)) as) vs rs) (hk : srtOk rs = true) (hu : A.units + 65 < cLine) :
    PySem.W.SortsAt prog w A s (PySem.W.dataKind s.heap (rs.map fun b : List Int => PyData.tuple (b.map .int))) vs := by
  have hal : PySem.W.AllAlike (rs.map fun b => PyData.tuple (b.map .int)) := PySem.W.AllAlike.of fun b b' => alike_tups b b'
  by_cases c : rs.all (fun r => decide (r ≠ [])) = true
  · have sb : PySem.W.Sortable (rs.map fun b => PyData.tuple (b.map .int)) := .inl fun d hd => by
      obtain ⟨b, hb, rfl⟩ := List.mem_map.mp hd
      have := List.all_eq_true.mp c b hb
      cases b with
      | nil => simp at this
      | cons x b => exact ⟨_, _, rfl⟩
    refine PySem.W.SortsAt.data (PySem.W.each_map (R := fun v d => ∃ as, Reads s.heap v d as) (fun b : List Int => PyData.tuple (b.map .int)) er) hal sb fun d hd => ?_
    obtain ⟨b, hb, rfl⟩ := List.mem_map.mp hd
    rw [depth_tups]
    omega
  · have hz : rs.length ≤ 1 := by
      unfold srtOk at hk
      rw [Bool.or_eq_true] at hk
      rcases hk with hk | hk
      · simpa using hk
      · exact absurd hk c
    rcases rs with _ | ⟨r, _ | ⟨r2, rs⟩⟩
    · exact absurd (by simp) c
    · cases er with
      | cons r1 r2 =>
        cases r2
        obtain ⟨as, rd⟩ := r1
        exact one_sorts rd hu
    · simp at hz
variable {a : Addr} {L : List (Addr × List Int)} {es : Array (Int × Value)} {ep : Nat} {t : SetTable}
theorem sorted_setD {Q : Value → Shared → Prop} (R : SetTR prog w s.heap a L es ep t) (hh : A.handled = none) (hk : srtOk (L.map (·.2)) = true) (hu : A.units + 70 < cLine) (hrd : ∀ q ∈ L, ∃ as, Reads s.heap (.ref q.1) (.tuple (q.2.map .int)) as)
    (hQ : ∀ s' p (out : List Value) (c : Nat) (L1 : List (Addr × List Int)), (∀ b o, s.heap.get? b = some o → s'.heap.get? b = some o) → s'.gens = s.gens → s'.os = s.os → s.heap.objs.size ≤ p →
      s'.heap.get? p = some (seqObj "list" out.toArray c) → L1.Perm L → PySem.W.EachIs (fun v (b : List Int) => ∃ q ∈ L, v = Value.ref q.1 ∧ q.2 = b) out (srtR (L1.map (·.2))) → Q (.ref p) s') :
    wpAny (model prog w) A (call (.builtin "sorted") [.ref a]) Q E s := by
  obtain ⟨o, ho, hex, hd⟩ := R.ob
  have hsz := R.size
  have hfew := R.few
  refine Calls.call_function_entry kind_sorted plain_sorted entry_sorted (args_sorted1 _) ?_
  unfold Builtin.«sorted»
  refine wpAny_bind (m := checkCount "sorted" 1 1 _) (wpAny_pure ?_)
  refine wpAny_bind (collect_set (A := A.in1) hh ⟨o, ho, hex.1, hd⟩ R.fits (by unfold scanBound; omega) R.tab.ris R.led fun s1 vs k1 hz g1 o1 pm => ?_)
  have hes : es.toList.map (·.2) = L.map fun q => Value.ref q.1 := by
    rw [R.rows]
    unfold rowsOf
    rw [List.map_map] <;> rfl
  rw [hes] at pm
  have ord : ∀ vs : List Value, (∀ v ∈ vs, ∃ q ∈ L, v = Value.ref q.1) → ∃ L1 : List (Addr × List Int), vs = L1.map (fun q => Value.ref q.1) ∧ ∀ q ∈ L1, q ∈ L := by
    intro vs
    induction vs with
    | nil => intro _; exact ⟨[], rfl, fun q hq => (by cases hq)⟩
    | cons v vs ih =>
      intro hv
      obtain ⟨q, hq, e⟩ := hv v List.mem_cons_self
      obtain ⟨L1, e1, hs⟩ := ih fun u hu => hv u (List.mem_cons_of_mem _ hu)
      refine ⟨q :: L1, by rw [List.map_cons, e, e1], fun r hr => ?_⟩
      rcases List.mem_cons.mp hr with z | z
      · rw [z]; exact hq
      · exact hs r z
  have one : ∀ q ∈ L, ∀ r ∈ L, q.1 = r.1 → q = r := fun q hq r hr e => by
    have a1 := R.tup q hq
    have a2 := R.tup r hr
    rw [e] at a1
    have e2 : q.2 = r.2 := a1.inj a2
    exact Prod.ext e e2
  have perm_of : ∀ L1 : List (Addr × List Int), (∀ q ∈ L1, q ∈ L) → (L1.map (fun q => Value.ref q.1)).Perm (L.map fun q => Value.ref q.1) → L1.Perm L := by
    intro L1 hs pm1
    have nL : L.Nodup := nodup_of_map R.nd
    have nref : (L.map fun q => Value.ref q.1).Nodup := by
      refine List.pairwise_map.mpr (List.Pairwise.imp_of_mem (fun {q r} hq hr hne e => ?_) nL)
      injection e with e
      exact hne (one q hq r hr e)
    have n1 : L1.Nodup := nodup_of_map (pm1.nodup_iff.mpr nref)
    refine (List.perm_ext_iff_of_nodup n1 nL).mpr fun q => ⟨hs q, fun hq => ?_⟩
    have hm : Value.ref q.1 ∈ L1.map (fun q => Value.ref q.1) := pm1.mem_iff.mpr (List.mem_map.mpr ⟨q, hq, rfl⟩)
    obtain ⟨r, hr, e⟩ := List.mem_map.mp hm
    injection e with e
    rw [← one r (hs r hr) q hq e]
    exact hr
  have hvl : vs.length < 64 := by rw [pm.length_eq, List.length_map]; exact hfew
  obtain ⟨L1, e1, hs1⟩ := ord vs fun v hv => by
    obtain ⟨q, hq, e⟩ := List.mem_map.mp (pm.mem_iff.mp hv)
    exact ⟨q, hq, e.symm⟩
  have p1 : L1.Perm L := perm_of L1 hs1 (by rw [← e1]; exact pm)
  refine wpAny_bind (wpAny_newList ?_ (by rw [sizeLine_eq]; omega))
  have hoL : (s1.heap.push (seqObj "list" vs.toArray 0)).get? s1.heap.objs.size = some (seqObj "list" vs.toArray 0) := Heap.get?_push_size _ rfl
  have each : ∀ {Rr : Value → List Int → Prop} (L2 : List (Addr × List Int)), (∀ q ∈ L2, Rr (.ref q.1) q.2) → PySem.W.EachIs Rr (L2.map fun q => Value.ref q.1) (L2.map (·.2)) := by
    intro Rr L2
    induction L2 with
    | nil => intro _; exact .nil
    | cons q L2 ih => intro h; exact .cons (h q List.mem_cons_self) (ih fun r hr => h r (List.mem_cons_of_mem _ hr))
  have er : PySem.W.EachIs (fun v (b : List Int) => ∃ as, Reads (PySem.W.sortingHeap (s1.heap.push (seqObj "list" vs.toArray 0)) s1.heap.objs.size vs) v (.tuple (b.map .int)) as) vs (L1.map (·.2)) := by
    rw [e1]
    refine each L1 fun q hq => ?_
    obtain ⟨as, rd⟩ := hrd q (hs1 q hq)
    exact ⟨as, PyProof.Rows.Reads.keeps (fun b u e => by
      have e2 := k1 b u e
      exact PySem.W.sortingHeap_old (Nat.ne_of_lt (Heap.lt_size e2)) (Heap.get?_push_of_some _ e2)) rd⟩
  have en : PySem.W.EachIs (fun v (b : List Int) => ∃ q ∈ L, v = Value.ref q.1 ∧ q.2 = b) vs (L1.map (·.2)) := by
    rw [e1]
    exact each L1 fun q hq => ⟨q, hs1 q hq, rfl, rfl⟩
  have hal : PySem.W.AllAlike ((L1.map (·.2)).map fun b => PyData.tuple (b.map .int)) := PySem.W.AllAlike.of fun b b' => alike_tups b b'
  have S := sorts_tups (prog := prog) (w := w) (A := A.in1.in1) (s := { s1 with heap := PySem.W.sortingHeap (s1.heap.push (seqObj "list" vs.toArray 0)) s1.heap.objs.size vs }) er (srtOk_perm (p1.map _) hk) (by show A.units + 2 + 65 < cLine; omega)
  have sv := PySem.W.sortVals_data (h' := PySem.W.sortingHeap (s1.heap.push (seqObj "list" vs.toArray 0)) s1.heap.objs.size vs) (enc := fun b : List Int => PyData.tuple (b.map .int)) false en er hal
  rw [leR_data] at sv
  refine wpAny_bind (wpAny_holding (wpAny_call_entry (s := { s1 with heap := s1.heap.push (seqObj "list" vs.toArray 0) }) slot_list_sort ⟨_, hoL, rfl⟩ entry_list_sort (PySem.W.list_sort_vals hoL S (by rw [sizeLine_eq]; omega) ⟨.none, rfl, ?_⟩) (args_list_sort _)))
  generalize ho2 : PySem.W.sortVals (PySem.W.dataKind (PySem.W.sortingHeap (s1.heap.push (seqObj "list" vs.toArray 0)) s1.heap.objs.size vs) ((L1.map (·.2)).map fun b : List Int => PyData.tuple (b.map .int))) false vs vs = out at sv ⊢
  obtain ⟨c, hc⟩ := sortedHeap_at (vs := vs) (out := out.toArray) hoL
  refine wpAny_pure ⟨_, rfl, hQ _ s1.heap.objs.size out c L1 (fun b u e => ?_) g1 o1 hz hc p1 sv⟩
  have q := k1 b u e
  have hlt := Heap.lt_size q
  show (sortedHeap (s1.heap.push (seqObj "list" vs.toArray 0)) s1.heap.objs.size vs out.toArray).get? b = some u
  rw [sortedHeap_old (Nat.ne_of_lt hlt) (by rw [size_push']; exact Nat.lt_succ_of_lt hlt)]
  exact Heap.get?_push_of_some _ q
end
end Bk

set_option Elab.async false
set_option linter.all false
set_option maxRecDepth 100000
set_option maxHeartbeats 4000000
namespace Bk
open PySem PySem.Spec PyProof.Rows L2
/-! ### sorted(set(xs)), the rule -/
theorem each_ex {L : List (Addr × List Int)} : ∀ {out : List Value} {rows : List (List Int)}, PySem.W.EachIs (fun v (b : List Int) => ∃ q ∈ L, v = Value.ref q.1 ∧ q.2 = b) out rows →
    ∃ L' : List (Addr × List Int), out = L'.map (fun q => Value.ref q.1) ∧ L'.map (·.2) = rows ∧ ∀ q ∈ L', q ∈ L
  | _, _, .nil => ⟨[], rfl, rfl, fun q hq => by cases hq⟩
  | _, _, .cons ⟨q, hq, e1, e2⟩ t => by
    obtain ⟨L', a1, a2, a3⟩ := each_ex t
    refine ⟨q :: L', by rw [List.map_cons, e1, a1], by rw [List.map_cons, e2, a2], fun r hr => ?_⟩
    rcases List.mem_cons.mp hr with z | z
    · rw [z]; exact hq
    · exact a3 r z
theorem dpAll_ints {K : PySem.W.Frag} {H : Hp} : ∀ is : List Int, DpAll K H (is.map V.int) (is.map PyData.int)
  | [] => .nil
  | i :: is => .cons (.int i) (dpAll_ints is)
def rSortS (K : PySem.W.Frag) (P : Program) (w : World) : List V → Hp → VK → Prop := fun vs H Q => ∃ (a : Addr) (L : List (Addr × List Int)), vs = [V.ref a] ∧ H a = some (SetTO P w a L) ∧ (∀ p ∈ L, SqT K H p.1 (p.2.map V.int)) ∧
  ((L.map (·.2)).Nodup → srtOk (L.map (·.2)) = true ∧ ∀ (L' : List (Addr × List Int)) (p : Addr), (∀ q ∈ L', q ∈ L) → L'.map (·.2) = srtR (L.map (·.2)) → H p = none → Q (.ref p) (upd H p (.lst (L'.map fun q => V.ref q.1))))
section
variable {X : Cx}
theorem cr_sortS (hc : X.calm = true) (hu : X.A.units + 70 < cLine) : CallR X (.builtin "sorted") (rSortS X.K X.prog X.w) := by
  intro pins s σ H vs us Q I r h
  obtain ⟨a, L, rfl, ha, hk, q⟩ := h
  have R0 : SetT0 X.prog X.w s.heap a L := (I.hok a _ ha).1
  obtain ⟨es, ep, t, R⟩ := R0.full fun p hp => I.isT (hk p hp)
  obtain ⟨hok, q⟩ := q R.nd
  rw [Vals.ref1 r]
  refine sorted_setD R (I.ok.hd hc) hok hu (fun p hp => ?_) fun s' p out c L1 k g o hp hg pm eo => ?_
  · exact Dp.reads I _ _ _ (Dp.tup (hk p hp) (dpAll_ints p.2)) (show RelV (V.ref p.1) (Value.ref p.1) from rfl)
  obtain ⟨L', e1, e2, e3⟩ := each_ex eo
  have hfew := R.few
  have hlen : (L'.map fun q => V.ref q.1).length ≤ sizeLine := by
    have e4 := congrArg List.length e2
    rw [List.length_map] at e4
    rw [List.length_map, e4, sizeLine_eq]
    unfold srtR
    rw [List.length_mergeSort, List.length_map, pm.length_eq]
    omega
  have hn : H p = none := I.hok.fresh hp
  have hv : Vals (L'.map fun q => V.ref q.1) out := by rw [e1]; exact vals_of_refs L'
  have J : Inv X pins σ (upd H p (.lst (L'.map fun q => V.ref q.1))) { s with heap := s'.heap, gens := s'.gens, drawn := s'.drawn, toks := s'.toks } :=
    I.call (ch := []) (Un.laid k hp hn) (I.hok.laid k hp ⟨hlen, out, c, hv, hg⟩) (by rw [g]; exact I.bare) (fun _ z => nomatch z)
  have e : s' = { s with heap := s'.heap, gens := s'.gens, drawn := s'.drawn, toks := s'.toks } := by
    cases s'
    cases s
    cases o
    rfl
  rw [e]
  exact ⟨.ref p, _, J, rfl, q L' p e3 (e2.trans (srtR_perm (pm.map _))) hn⟩
end
/-! what the layer says -/
def dSortS (M : List MO) (d : D) : Option D := ((listD M d).bind rowsL).bind fun rs => if (decide (rs.length < 64) && srtOk (uniqR rs)) = true then some (.lst ((srtR (uniqR rs)).map tupI)) else none
def gSortS (ge : GE) : GE := fun Γ M => (ge Γ M).bind fun d M1 => opR (dSortS M1 d) M1
@[simp] theorem u_gSortS (ge : GE) (Γ : Env) (M : List MO) : gSortS ge Γ M = ((ge Γ M).bind fun d M1 => opR (dSortS M1 d) M1) := Eq.trans rfl rfl
theorem e_sortS (M : List MO) {rs : List (List Int)} (hl : rs.length < 64) (hk : srtOk (uniqR rs) = true) : dSortS M (.lst (rs.map fun is => D.tup (is.map D.int))) = some (.lst ((srtR (uniqR rs)).map tupI)) := by
  have : rowsL (rs.map fun is => D.tup (is.map D.int)) = some rs := rowsL_map rs
  simp [dSortS, listD, this, hl, hk]
theorem rps_intV {K : PySem.W.Frag} {Z : Hp} {ι : Nat → Addr} {n : Nat} : ∀ {is : List Int} {xs : List V}, Rps K Z ι n (is.map D.int) xs → xs = is.map V.int
  | [], _, h => by cases h; rfl
  | i :: is, _, h => by
    cases h with
    | cons h1 h2 =>
      cases h1
      rw [rps_intV h2]
      rfl
theorem rows_ks {K : PySem.W.Frag} {Z : Hp} {ι : Nat → Addr} {n : Nat} : ∀ {rs : List (List Int)} {xs : List V}, Rps K Z ι n (rs.map tupI) xs → ∃ ks : List (Addr × List Int), xs = ks.map (fun p => V.ref p.1) ∧ ks.map (·.2) = rs ∧ ∀ p ∈ ks, Rp K Z ι n (tupI p.2) (.ref p.1)
  | [], _, h => by cases h; exact ⟨[], rfl, rfl, fun p hp => by cases hp⟩
  | r :: rs, _, h => by
    cases h with
    | cons h1 h2 =>
      obtain ⟨ks, e1, e2, e3⟩ := rows_ks h2
      have ex : ∀ {v : V}, Rp K Z ι n (tupI r) v → ∃ a, v = V.ref a := fun h => by
        cases h with
        | tup s r => exact ⟨_, rfl⟩
      obtain ⟨a, rfl⟩ := ex h1
      refine ⟨(a, r) :: ks, by rw [e1]; rfl, by rw [← e2]; rfl, fun p hp => ?_⟩
      rcases List.mem_cons.mp hp with z | z
      · rw [z]; exact h1
      · exact e3 p z
theorem tupI_sq {K : PySem.W.Frag} {H Z : Hp} {ι : Nat → Addr} {n : Nat} {r : List Int} {a : Addr} (hz : Sub Z H) (h : Rp K Z ι n (tupI r) (.ref a)) : SqT K H a (r.map V.int) := by
  cases h with
  | tup s rr =>
    have e := rps_intV rr
    subst e
    exact subT hz s
theorem rps_rows {K : PySem.W.Frag} {Z : Hp} {ι : Nat → Addr} {n : Nat} : ∀ {L' : List (Addr × List Int)}, (∀ p ∈ L', Rp K Z ι n (tupI p.2) (.ref p.1)) → Rps K Z ι n ((L'.map (·.2)).map tupI) (L'.map fun p => V.ref p.1)
  | [], _ => .nil
  | p :: L', h => .cons (h p (by simp)) (rps_rows fun q hq => h q (by simp [hq]))
section
variable {X : Cx} {C : CT} {W : WX} {a : Expr} {ge : GE} {p p2 pos q : Pos}
theorem qe_sortS (hc : X.calm = true) (hu : X.A.units + 70 < cLine) (hg : Gl X "sorted") (hm : X.mg "sorted" = none) (hg2 : Gl X "set") (hm2 : X.mg "set" = none) (ha : QE X C W a ge)
    (na : starEach [a] X.env = (false, eval a X.env) :: starEach [] X.env := by rfl) (nb : starEach [Expr.Call (.Name "set" p2) [a] [] q] X.env = (false, eval (.Call (.Name "set" p2) [a] [] q) X.env) :: starEach [] X.env := by rfl) :
    QE X C W (.Call (.Name "sorted" p) [.Call (.Name "set" p2) [a] [] q] [] pos) (gSortS ge) := by
  obtain ⟨ta, pa, qa⟩ := ha
  have ps := pe_callTy (p := p2) (pos := q) (cr_setOfT hc (by omega)) hg2 hm2 (by decide +kernel) (pa_cons pa pa_nil na) (by decide) (by decide) na
  refine ⟨_, pe_callB (cr_sortS hc hu) hg hm (by decide +kernel) (pa_cons ps pa_nil nb) (by decide) (by decide) nb, fun σ H Z ι Γ M Q sl hr h => ?_⟩
  refine qa σ H Z ι Γ M _ sl hr (Post.bind h fun x M1 v H1 Z1 ι1 e1 hr1 r1 h1 => ?_)
  obtain ⟨d, hd, h2⟩ := Post.of_opR (γ := D) (δ := V) h1
  unfold dSortS at hd
  cases el : listD M1 x with
  | none => rw [el] at hd; cases hd
  | some ds =>
    rw [el, Option.bind_some] at hd
    cases er : rowsL ds with
    | none => rw [er] at hd; cases hd
    | some rs =>
      rw [er, Option.bind_some] at hd
      by_cases c : (decide (rs.length < 64) && srtOk (uniqR rs)) = true
      · rw [if_pos c] at hd
        cases hd
        simp only [Bool.and_eq_true, decide_eq_true_eq] at c
        obtain ⟨l, xs, rfl, ex, rp⟩ := listD_run hr1 r1 el
        have eds := rowsL_is er
        subst eds
        obtain ⟨ks, rfl, e2, e3⟩ := rows_ks rp
        have hks : ks.length = rs.length := by rw [← e2, List.length_map]
        refine ⟨l, ks, rfl, ex.sq, fun p hp => tupI_sq hr1.sub (e3 p hp), by rw [hks]; exact c.1, fun b L hb hs1 hs2 => ?_⟩
        have od : Odd Z1 ι1 M1.length b := .new hr1 hb
        have hrb : HR X.K (upd H1 b (SetTO X.prog X.w b L)) Z1 ι1 M1 := hr1.odd od
        have xb : Ext H1 Z1 ι1 M1.length (upd H1 b (SetTO X.prog X.w b L)) Z1 ι1 M1.length := (Ext.refl).touch hb
        refine ⟨b, L, rfl, upd_same, fun p hp => tupI_sq hrb.sub (e3 p (hs1 p hp)), fun nd => ?_⟩
        have pm : (L.map (·.2)).Perm (uniqR rs) := by
          refine (List.perm_ext_iff_of_nodup nd (uniqR_nodup rs)).mpr fun r => ?_
          rw [mem_uniqR, ← e2]
          constructor
          · intro hr
            obtain ⟨p, hp, rfl⟩ := List.mem_map.mp hr
            exact List.mem_map.mpr ⟨p, hs1 p hp, rfl⟩
          · intro hr
            obtain ⟨p, hp, rfl⟩ := List.mem_map.mp hr
            exact hs2 p hp
        refine ⟨srtOk_perm pm c.2, fun L' p' hL' eL' hp' => ?_⟩
        obtain ⟨hr3, x3⟩ := hrb.frozen (o := .lst (L'.map fun q => V.ref q.1)) hp'
        have rp' : Rps X.K Z1 ι1 M1.length ((srtR (uniqR rs)).map tupI) (L'.map fun p => V.ref p.1) := by
          rw [← srtR_perm pm, ← eL']
          exact rps_rows fun q hq => e3 q (hs1 q (hL' q hq))
        exact h2 _ _ _ _ (xb.trans x3 hrb.ali) hr3 (.lst (.inl (.inl upd_same)) (rp'.ext x3))
      · rw [if_neg c] at hd
        cases hd
end
end Bk

set_option Elab.async false
set_option linter.all false
set_option maxRecDepth 100000
set_option maxHeartbeats 4000000
namespace Bk
open PySem PySem.Spec PyProof.Rows L2 PpSet
/-! ### a set comprehension of tuples of ints, and how many they are -/
section
variable {X : Cx} {pins : List (Addr × Obj)} {σ : St} {H : Hp} {s : Shared}
/-- set.add of a tuple -/
theorem addT_ok {E : Value → Shared → Prop} {a x : Addr} {k : List Int} {L : List (Addr × List Int)} {Q : Value → Shared → Prop} (I : Inv X pins σ H s) (hu : X.A.units + 8 < cLine) (ha : H a = some (SetTO X.prog X.w a L)) (hx : SqT X.K H x (k.map V.int)) (hL : ∀ p ∈ L, SqT X.K H p.1 (p.2.map V.int)) (few : L.length + 1 < 64)
    (h : ∀ L', (k ∈ L.map (·.2) → L' = L) → (k ∉ L.map (·.2) → L'.Perm ((x, k) :: L)) → ∀ s', Inv X pins σ (upd H a (SetTO X.prog X.w a L')) s' → Q .none s') :
    wpAny (model X.prog X.w) X.A (call (.builtin "set.add") [.ref a, .ref x]) Q E s := by
  have R0 : SetT0 X.prog X.w s.heap a L := (I.hok a _ ha).1
  obtain ⟨es, ep, t, R⟩ := R0.full fun p hp => I.isT (hL p hp)
  have xt := I.isT hx
  obtain ⟨o, ho, hex, hd⟩ := R.ob
  refine wpAny_call_entry F.slot_set_add (show s.TypeIs (.ref a) "set" from ⟨o, ho, hex.1⟩) F.entry_set_add ?_ (F.args_set_add_2 _ _)
  unfold Builtin.«set.add» Builtin.Frozenset.oneOther
  simp only [List.isEmpty_nil, bind_assoc]
  unfold Builtin.Frozenset.addrOf setAdd
  refine wpAny_bind (wpAny_pure ?_)
  try dsimp only
  refine wpAny_bind (wpAny_pure ?_)
  try dsimp only
  refine wpAny_bind (wpAny_holding (wpAny_bind (wpAny_pyHash_tuple (show _ < cLine by first | (show X.A.units + 1 < cLine; omega) | (show X.A.units + 2 < cLine; omega) | (show X.A.units + 3 < cLine; omega)) xt ?_)))
  refine add_at (s := { s with toks := s.toks + (k.length + 1) }) R xt (show _ < cLine by first | (show X.A.units + 1 < cLine; omega) | (show X.A.units + 2 < cLine; omega) | (show X.A.units + 3 < cLine; omega)) few fun b h' L' es' ep' t' sb R' c1 c2 => ?_
  refine wpAny_pure ⟨_, rfl, h L' c1 c2 _ ?_⟩
  have he : ∃ u, h'.get? a = some u := let ⟨o, ho, _⟩ := R'.ob; ⟨o, ho⟩
  exact I.write (e := a) (t' := s.toks + (k.length + 1)) (by rw [ha]; trivial) (.inl rfl) (fun b u hb hu => (sb.2 b hb).trans hu) he (setTO_new R'.t0)
/-- len of it -/
def rLenT (K : PySem.W.Frag) (P : Program) (w : World) : List V → Hp → VK → Prop := fun vs H Q => ∃ (a : Addr) (L : List (Addr × List Int)), vs = [V.ref a] ∧ H a = some (SetTO P w a L) ∧ (∀ p ∈ L, SqT K H p.1 (p.2.map V.int)) ∧ ((L.map (·.2)).Nodup → Q (.int L.length) H)
theorem cr_lenT : CallR X (.builtin "len") (rLenT X.K X.prog X.w) := by
  intro pins s σ H vs us Q I r h
  obtain ⟨a, L, rfl, ha, hL, q⟩ := h
  have R0 : SetT0 X.prog X.w s.heap a L := (I.hok a _ ha).1
  obtain ⟨es, ep, t, R⟩ := R0.full fun p hp => I.isT (hL p hp)
  obtain ⟨o, ho, hex, hd⟩ := R.ob
  have hn := R.size
  have few := R.few
  rw [Vals.ref1 r]
  refine call_len_set ho hex hd R.fits (by rw [hn]; omega) ⟨.int L.length, H, I.tok _, ⟨_, by rw [hn]⟩, q R.nd⟩
/-- {elt for target in iter if ..}, elt a tuple of ints -/
def tSetC (X : Cx) (wi : TI) (g : TG) (tt : TT) (te : TE) (vs : List Nat) : TE := fun σ H Q => wi σ H fun J H1 => ∀ a, H1 a = none → ∃ Wv : Nat → Nat → Hp → Prop, (∃ m, Wv 0 m (upd H1 a (SetTO X.prog X.w a []))) ∧ ∀ i m H, Wv i m H →
  (J.stop i H ∧ Q (.ref a) H) ∨ (J.go i H ∧ ∃ Nx : Hp → Prop, (∀ H', Nx H' → ∃ m', m' < m ∧ Wv (i + 1) m' H') ∧ ∀ x H', J.yld i H x H' → g x (wipe σ vs) H' fun σ2 H2 => wipe σ2 vs = wipe σ vs ∧ tt σ2 H2 fun b H3 =>
    if b = true then te σ2 H3 fun y H4 => ∃ (x : Addr) (k : List Int) (L : List (Addr × List Int)), y = .ref x ∧ SqT X.K H4 x (k.map V.int) ∧ H4 a = some (SetTO X.prog X.w a L) ∧ (∀ p ∈ L, SqT X.K H4 p.1 (p.2.map V.int)) ∧ L.length + 1 < 64 ∧
      ∀ L', (k ∈ L.map (·.2) → L' = L) → (k ∉ L.map (·.2) → L'.Perm ((x, k) :: L)) → Nx (upd H4 a (SetTO X.prog X.w a L')) else Nx H3)
theorem pe_setC {elt tg iter : Expr} {ifs : List Expr} {scope : Scope} {own : List (Str × Nat)} {pos : Pos} {wi : TI} {g : TG} {tt : TT} {te : TE} (hc : X.calm = true) (hu : X.A.units + 8 < cLine) (hN : X.N.Nodup) (hi : PI X tg iter wi) (ok : BlkOk X.N X.env.scope scope own)
    (hg : Blk X scope fun Y => PG Y tg g) (ht : Blk X scope fun Y => PTs Y ifs tt) (he : Blk X scope fun Y => PE Y elt te) (hs : ∀ x, foldedSetIterable iter X.env x = pure x := by intro _; rfl) :
    PE X (.SetComp elt [⟨tg, iter, ifs, 0⟩] scope pos) (tSetC X wi g tt te (own.map (·.2))) := by
  refine ⟨fun pins s σ H Q I h => ?_⟩
  have free : ∀ y ∈ scope.names, y.2 = .free → ∃ c, X.env.cells.lookup y.1 = some c := fun y hy e => (ok.free y hy e).elim (fun k => I.ok.has _ (.inl k)) fun k => I.ok.has _ (.inr k)
  rw [eval_SetComp]
  refine wpAny_comprehension_free rfl hs (closure_ok free) ok.kind (fun y hy e => by rw [ok.uniq y hy, e]) (thn (hi.run pins s σ H _ I h) fun v0 t1 q1 => thn q1 fun w0 t2 q2 => ?_)
  obtain ⟨it, fp, tn, J, H2, rfl, I2, T, at2, fp2, q⟩ := q2
  refine newSet_ok (newEnv_comp ?_)
  have new2 : H2 t2.heap.objs.size = none := I2.hok.fresh (Nat.le_refl _)
  obtain ⟨Wv, ⟨m0, w0⟩, turn⟩ := q t2.heap.objs.size new2
  generalize ea : t2.heap.objs.size = a at new2 w0 turn ⊢
  generalize es3 : ({ t2 with heap := t2.heap.push { cls := .type "set", dict := none, data := .set #[] 0 (.fresh 0 0 (!X.w.params.followText "set-order")) } } : Shared) = t3
  have eh3 : t3.heap = t2.heap.push { cls := .type "set", dict := none, data := .set #[] 0 (.fresh 0 0 (!X.w.params.followText "set-order")) } := by rw [← es3]
  have old3 : ∀ b o, t2.heap.get? b = some o → t3.heap.get? b = some o := fun b o e => by rw [eh3]; exact Heap.get?_push_of_some _ e
  have I3 : Inv X pins σ (upd H2 a (SetTO X.prog X.w a [])) t3 := by
    have z : SetT0 X.prog X.w t3.heap a [] := (setTR_fresh (P := X.prog) (w := X.w) (by rw [eh3, ← ea]; exact Heap.get?_push_size _ rfl)).t0
    have y := I2.laid (h' := t3.heap) (t' := t2.toks) old3 (Nat.le_of_eq ea) (setTO_new z)
    rw [eh3] at y
    rw [← es3]
    exact y
  have fp3 : ∀ b ∈ fp, FpOk X pins (upd H2 a (SetTO X.prog X.w a [])) b ∧ b < t3.heap.objs.size := fun b hb => by
    obtain ⟨o, e, _⟩ := T.obj _ _ at2 b hb
    have lt := Heap.lt_size e
    exact ⟨⟨by rw [upd_ne (by rw [← ea]; exact Nat.ne_of_lt lt)]; exact (fp2 b hb).1, (fp2 b hb).2⟩, Heap.lt_size (old3 b o e)⟩
  have at3 : tn 0 t3.heap := T.keep _ _ _ at2 fun b _ o e => old3 b o e
  have I4 := block_start I3 ok hN fp3
  have pg := hg t3 (upd H2 a (SetTO X.prog X.w a [])) t3.heap.objs.size (cellsFrom (t3.heap.objs.size + 1) scope.names (cloFrom X.env.cells scope.names [])) fp
  have pt := ht t3 (upd H2 a (SetTO X.prog X.w a [])) t3.heap.objs.size (cellsFrom (t3.heap.objs.size + 1) scope.names (cloFrom X.env.cells scope.names [])) fp
  have pe := he t3 (upd H2 a (SetTO X.prog X.w a [])) t3.heap.objs.size (cellsFrom (t3.heap.objs.size + 1) scope.names (cloFrom X.env.cells scope.names [])) fp
  show codeAny _ _ (.compStart (.SetComp elt [⟨tg, iter, ifs, 0⟩] scope pos) 0 (.ref it) (.ref a) (compEnvC scope (cellsFrom (t3.heap.objs.size + 1) scope.names (cloFrom X.env.cells scope.names [])) t3.heap.objs.size X.env)) (compPost (model X.prog X.w) X.A X.xe none _ (.ref a) t3.heap.objs.size) { t3 with heap := pushCells (t3.heap.push { cls := .type "dict", data := .dict #[] }) scope.names }
  generalize ece : compEnvC scope (cellsFrom (t3.heap.objs.size + 1) scope.names (cloFrom X.env.cells scope.names [])) t3.heap.objs.size X.env = ce at I4 pg pt pe ⊢
  have el : ce.locals = t3.heap.objs.size := by subst ece; rfl
  generalize eH3 : upd H2 a (SetTO X.prog X.w a []) = H3 at I3 I4 pg pt pe w0 fp3
  generalize es4 : ({ t3 with heap := pushCells (t3.heap.push { cls := .type "dict", data := .dict #[] }) scope.names } : Shared) = t4 at I4 ⊢
  have at4 : tn 0 t4.heap := T.keep _ _ _ at3 fun b _ o e => by rw [← es4]; exact pushCells_keeps _ _ _ _ (Heap.get?_push_of_some _ e)
  have fpb : ∀ {σ' : St} {H' : Hp} {s' : Shared}, Inv (X.blk t3 H3 scope ce fp) [] σ' H' s' → (∀ b ∈ fp, H' b = none) → ∀ b ∈ fp, FpOk (X.blk t3 H3 scope ce fp) [] H' b := fun {σ' H' s'} I' hn b hb =>
    ⟨hn b hb, (I'.ok.exf b hb).1, I'.ok.exfs b hb, .inl hb, fun x c e => (I'.ok.exf b hb).2 x c e, fun p hp => absurd (show p ∈ ([] : List (Addr × Obj)) ++ [] from hp) (by simp)⟩
  refine (fun loop => codeAny_compStart_set loop (T.self X.A 0 _ _ _ at4 loop)) ?_
  refine compLoopS_any (fun n s' => ∃ i H', Inv (X.blk t3 H3 scope ce fp) [] (wipe σ (own.map (·.2))) H' s' ∧ tn i s'.heap ∧ (∀ b ∈ fp, H' b = none) ∧ Wv i n H') ?_ m0 ⟨0, H3, I4, at4, fun b hb => (fp3 b hb).1.1, w0⟩
  rintro n t5 ⟨i, H5, I5, at5, n5, w5⟩
  rcases turn i n H5 w5 with ⟨stop, qq⟩ | ⟨go, Nx, hNx, step⟩
  · refine thnF (T.done (X.blk t3 H3 scope ce fp) rfl rfl rfl hc i [] t5 _ H5 (fun _ _ => False) I5 (fpb I5 n5) at5 stop) fun r t6 ⟨hr, I6⟩ => ?_
    subst hr
    have I7 : Inv X pins σ H5 t6 := I3.call' (ch := fp) I6.os I6.base I6.hok I6.bare fun b hb => ⟨(fp3 b hb).1.2.2.2.1, (fp3 b hb).1.2.1, (fp3 b hb).1.2.2.2.2.1, (fp3 b hb).1.2.2.2.2.2⟩
    have nL : H5 t3.heap.objs.size = none := by
      have z : H5 ce.locals = none := I6.free
      rw [el] at z
      exact z
    obtain ⟨m, hm, _⟩ := I6.loc
    have hm : t6.heap.Ns ce.locals m := hm
    rw [el] at hm
    have f := I3.fpOk (Nat.le_refl _) nL
    refine ⟨m, hm, fun h'' sb => ?_⟩
    obtain ⟨f0, f1, f2, f3, f4, f5⟩ := f
    exact ⟨.ref a, H5, I7.turned (t' := t6.toks) (fun b o hb e => (sb.2 b hb).trans e) f0 f1 f3 f4 f5, rfl, qq⟩
  · refine thnF (T.item (X.blk t3 H3 scope ce fp) rfl rfl rfl hc i [] t5 _ H5 (fun _ _ => False) I5 (fpb I5 n5) at5 go) fun r t6 ⟨u, hr, h6⟩ => ?_
    subst hr
    refine thnF h6 fun _ t7 ⟨x, H7, I7, r7, y7, at7, n7⟩ => ?_
    refine thnF (pg.run _ t7 _ H7 x u _ (I7.pinned (fpb I7 n7) (T.obj _ _ at7)) r7 (step x H7 y7)) fun _ t8 ⟨σ8, H8, I8, hw8, q8⟩ => ?_
    refine thnF (pt.run _ t8 σ8 H8 _ I8 q8) fun b t9 ⟨H9, I9, q9⟩ => ?_
    have back : ∀ {s' : Shared} {H' : Hp}, Inv (X.blk t3 H3 scope ce fp) ([] ++ pinsAt fp t7.heap) σ8 H' s' → Nx H' → ∃ m, m < n ∧ ∃ i H', Inv (X.blk t3 H3 scope ce fp) [] (wipe σ (own.map (·.2))) H' s' ∧ tn i s'.heap ∧ (∀ b ∈ fp, H' b = none) ∧ Wv i m H' := fun {s' H'} I' nx => by
      have pin' : ∀ b ∈ fp, ∀ o, t7.heap.get? b = some o → s'.heap.get? b = some o ∧ H' b = none := fun b hb o e =>
        let z := I'.pin (b, o) (List.mem_append_right _ (List.mem_append_right _ (mem_pinsAt hb e)))
        ⟨z.1, z.2.1⟩
      obtain ⟨m', hm, w'⟩ := hNx H' nx
      refine ⟨m', hm, i + 1, H', (I'.unpinned (pins := [])).weak (by rw [← hw8, wipe_length]) (fun j v e => ?_), T.keep _ _ _ at7 fun b hb o e => (pin' b hb o e).1, fun b hb => ?_, w'⟩
      · rw [← hw8] at e
        exact (wipe_some e).1
      · obtain ⟨o, e, _⟩ := T.obj _ _ at7 b hb
        exact (pin' b hb o e).2
    cases b with
    | false =>
      simp only [Bool.false_eq_true, if_false] at q9 ⊢
      exact back I9 q9
    | true =>
      simp only [if_true] at q9 ⊢
      refine thnF (pe.run _ t9 σ8 H9 _ I9 q9) fun z t10 ⟨yv, H10, I10, r10, xa, k, L, ey, hx, ha, hL, few, nx⟩ => ?_
      subst ey
      cases (show z = Value.ref xa from r10)
      exact addT_ok (X := X.blk t3 H3 scope ce fp) I10 hu ha hx hL few fun L' c1 c2 s' I11 => back I11 (nx L' c1 c2)
end
end Bk

set_option Elab.async false
set_option linter.all false
set_option maxRecDepth 100000
set_option maxHeartbeats 4000000
namespace Bk
open PySem PySem.Spec PyProof.Rows L2 PpSet
/-! ### len({e for x in xs if ..}), e a tuple of ints -/
def rowD : D → Option (List Int)
  | .tup xs => intsL xs
  | _ => none
theorem rowD_tup (r : List Int) : rowD (.tup (r.map D.int)) = some r := intsL_map r
theorem rowD_is {d : D} {r : List Int} (h : rowD d = some r) : d = tupI r := by
  cases d with
  | tup xs => rw [intsL_is h]
  | _ => cases h
def gScL (gg : GG) (gt : GT) (ge : GE) (Γ0 : Env) : List D → List (List Int) → List MO → R (List (List Int))
  | [], rs, M => .ok rs M
  | d :: ds, rs, M => match gg d Γ0 with
    | none => .bad
    | some Γ1 => (gt Γ1 M).only fun k M1 => if k = true then (ge Γ1 M1).only fun y M2 => match rowD y with
        | some r => if rs.length + 1 < 64 then gScL gg gt ge Γ0 ds (rs ++ [r]) M2 else .bad
        | none => .bad
      else gScL gg gt ge Γ0 ds rs M1
def gLenSc (gi : GI) (gg : GG) (gt : GT) (ge : GE) (vs : List Nat) : GE := fun Γ M => (gi Γ M).bind fun ds M1 => (gScL gg gt ge (forget Γ vs) ds [] M1).bind fun rs M2 => .ok (.int ((uniqR rs).length : Nat)) M2
@[simp] theorem u_gLenSc (gi : GI) (gg : GG) (gt : GT) (ge : GE) (vs : List Nat) (Γ : Env) (M : List MO) : gLenSc gi gg gt ge vs Γ M = ((gi Γ M).bind fun ds M1 => (gScL gg gt ge (forget Γ vs) ds [] M1).bind fun rs M2 => .ok (.int ((uniqR rs).length : Nat)) M2) := Eq.trans rfl rfl
@[simp] theorem scL_nil (gg : GG) (gt : GT) (ge : GE) (Γ0 : Env) (rs : List (List Int)) (M : List MO) : gScL gg gt ge Γ0 [] rs M = .ok rs M := by simp [gScL]
theorem scL_cons {gg : GG} {ge : GE} {d : D} {ds : List D} {rs : List (List Int)} {r : List Int} {Γ0 Γ1 : Env} {M M2 : List MO} (h1 : gg d Γ0 = some Γ1) (h2 : ge Γ1 M = .ok (.tup (r.map D.int)) M2) (q : rs.length + 1 < 64) : gScL gg gYes ge Γ0 (d :: ds) rs M = gScL gg gYes ge Γ0 ds (rs ++ [r]) M2 := by
  conv => lhs; unfold gScL
  rw [h1]
  simp [gYes, R.only, h2, rowD_tup, q]
section
variable {X : Cx} {C : CT} {W : WX}
theorem gScL_run {gg : GG} {gt : GT} {ge : GE} {is own : List Nat} {σ : St} {Γ0 : Env} {fin : List (List Int) → List MO → R D} {Q : VK} {Qs : Hp → Prop} {J : It} {p : Addr}
    {ds : List D} {H0 Z0 : Hp} {ι0 : Nat → Addr} {M0 : List MO} (hsub : ∀ i ∈ is, i ∈ own) (sl : Slots X.K Z0 ι0 M0.length Γ0 (wipe σ own)) (rJ : ItR X.K J ds Z0 ι0 M0.length) (hp0 : H0 p = none) (hr0 : HR X.K H0 Z0 ι0 M0)
    (h : Post X C W (rpE X.K) σ H0 Z0 ι0 M0 ((gScL gg gt ge Γ0 ds [] M0).bind fin) Q)
    (hfin : ∀ (rs : List (List Int)) (L : List (Addr × List Int)) (M : List MO) (H Z : Hp) (ι : Nat → Addr), Ext H0 Z0 ι0 M0.length H Z ι M.length → HR X.K H Z ι M → H p = some (SetTO X.prog X.w p L) → (∀ q ∈ L, Rp X.K Z ι M.length (tupI q.2) (.ref q.1)) → (∀ r, r ∈ L.map (·.2) ↔ r ∈ rs) → Post X C W (rpE X.K) σ H0 Z0 ι0 M0 (fin rs M) Q → Qs H) :
    ∃ Wv : Nat → Nat → Hp → Prop, (∃ m, Wv 0 m (upd H0 p (SetTO X.prog X.w p []))) ∧ ∀ i m H, Wv i m H →
      (J.stop i H ∧ Qs H) ∨ (J.go i H ∧ ∃ Nx : Hp → Prop, (∀ H', Nx H' → ∃ m', m' < m ∧ Wv (i + 1) m' H') ∧ ∀ x H', J.yld i H x H' → liftG X.K gg is x (wipe σ own) H' fun σ2 H2 => wipe σ2 own = wipe σ own ∧ liftT X.K X C noW gt σ2 H2 fun b H3 =>
        if b = true then liftE X.K X C noW ge σ2 H3 fun y H4 => ∃ (x : Addr) (k : List Int) (L : List (Addr × List Int)), y = .ref x ∧ SqT X.K H4 x (k.map V.int) ∧ H4 p = some (SetTO X.prog X.w p L) ∧ (∀ q ∈ L, SqT X.K H4 q.1 (q.2.map V.int)) ∧ L.length + 1 < 64 ∧
          ∀ L', (k ∈ L.map (·.2) → L' = L) → (k ∉ L.map (·.2) → L'.Perm ((x, k) :: L)) → Nx (upd H4 p (SetTO X.prog X.w p L')) else Nx H3) := by
  let Inv' : Nat → Hp → Prop := fun i H => ∃ (Z : Hp) (ι : Nat → Addr) (M : List MO) (rs : List (List Int)) (L : List (Addr × List Int)), Ext H0 Z0 ι0 M0.length H Z ι M.length ∧ HR X.K H Z ι M ∧ Odd Z ι M.length p ∧ H p = some (SetTO X.prog X.w p L) ∧ (∀ q ∈ L, Rp X.K Z ι M.length (tupI q.2) (.ref q.1)) ∧
    (∀ r, r ∈ L.map (·.2) ↔ r ∈ rs) ∧ L.length ≤ rs.length ∧ Post X C W (rpE X.K) σ H0 Z0 ι0 M0 ((gScL gg gt ge Γ0 (ds.drop i) rs M).bind fin) Q
  have q0 : Odd Z0 ι0 M0.length p := .new hr0 hp0
  refine ⟨fun i m H => m = ds.length - i ∧ i ≤ ds.length ∧ Inv' i H, ⟨ds.length, rfl, Nat.zero_le _, Z0, ι0, M0, [], [], (Ext.refl).touch hp0, hr0.odd q0, q0, upd_same, fun q hq => (by cases hq), fun r => Iff.rfl, Nat.le_refl _, h⟩, ?_⟩
  rintro i m H ⟨em, hle, Z, ι, M, rs, L, e1, hr1, od, hp, hL, hm, hlen, hpost⟩
  obtain ⟨hstop, hgo⟩ := rJ i H Z ι M e1.zz e1.ii e1.ln hr1 trivial
  by_cases hi : i < ds.length
  · refine .inr ?_
    have ed : ds.drop i = ds[i] :: ds.drop (i + 1) := List.drop_eq_getElem_cons hi
    obtain ⟨go, yl⟩ := hgo ds[i] (List.getElem?_eq_getElem hi)
    refine ⟨go, Inv' (i + 1), fun H' hN => ⟨ds.length - (i + 1), by omega, rfl, by omega, hN⟩, fun x H2 hy => ?_⟩
    obtain ⟨Z2, e2, hr2, rx⟩ := yl x H2 hy
    obtain ⟨od2, hp2⟩ := od.ext hp e2
    have e12 := e1.trans e2 hr1.ali
    rw [ed] at hpost
    cases eg : gg ds[i] Γ0 with
    | none =>
      have z : gScL gg gt ge Γ0 (ds[i] :: ds.drop (i + 1)) rs M = .bad := by
        unfold gScL
        rw [eg]
      rw [z] at hpost
      exact hpost.elim
    | some Γ1 =>
      have z : gScL gg gt ge Γ0 (ds[i] :: ds.drop (i + 1)) rs M = ((gt Γ1 M).only fun k M1 => if k = true then (ge Γ1 M1).only fun y M2 => match rowD y with
          | some r => if rs.length + 1 < 64 then gScL gg gt ge Γ0 (ds.drop (i + 1)) (rs ++ [r]) M2 else .bad
          | none => .bad
        else gScL gg gt ge Γ0 (ds.drop (i + 1)) rs M1) := by
        conv => lhs; unfold gScL
        rw [eg]
      rw [z] at hpost
      refine ⟨Z2, ι, M.length, ds[i], Γ0, Γ1, hr2.sub, sl.ext e12, rx, eg, fun σ2 s2 w2 => ⟨(w2 own hsub).trans (wipe_wipe own), Z2, ι, Γ1, M, s2, hr2, ?_⟩⟩
      cases et : gt Γ1 M with
      | bad => rw [et] at hpost; exact hpost.elim
      | exc c d M' => rw [et] at hpost; exact hpost.elim
      | ok k M3 =>
        rw [et] at hpost
        intro b H3 Z3 ι3 e3 hr3 hb
        have hb' : k = b := hb
        subst hb'
        obtain ⟨od3, hp3⟩ := od2.ext hp2 e3
        have e13 := e12.trans e3 hr2.ali
        have hL3 : ∀ q ∈ L, Rp X.K Z3 ι3 M3.length (tupI q.2) (.ref q.1) := fun q hq => ((hL q hq).ext e2).ext e3
        cases k with
        | false => exact ⟨Z3, ι3, M3, rs, L, e13, hr3, od3, hp3, hL3, hm, hlen, hpost⟩
        | true =>
          rw [if_pos rfl]
          refine ⟨Z3, ι3, Γ1, M3, s2.ext e3, hr3, ?_⟩
          have hpost2 : Post X C W (rpE X.K) σ H0 Z0 ι0 M0 (((ge Γ1 M3).only fun y M2 => match rowD y with
              | some r => if rs.length + 1 < 64 then gScL gg gt ge Γ0 (ds.drop (i + 1)) (rs ++ [r]) M2 else .bad
              | none => .bad).bind fin) Q := hpost
          cases ee : ge Γ1 M3 with
          | bad => rw [ee] at hpost2; exact hpost2.elim
          | exc c d M' => rw [ee] at hpost2; exact hpost2.elim
          | ok y M4 =>
            rw [ee] at hpost2
            have hpost3 : Post X C W (rpE X.K) σ H0 Z0 ι0 M0 ((match rowD y with
              | some r => if rs.length + 1 < 64 then gScL gg gt ge Γ0 (ds.drop (i + 1)) (rs ++ [r]) M4 else .bad
              | none => .bad).bind fin) Q := hpost2
            cases ey : rowD y with
            | none => rw [ey] at hpost3; exact hpost3.elim
            | some r =>
              rw [ey] at hpost3
              have hpost4 : Post X C W (rpE X.K) σ H0 Z0 ι0 M0 ((if rs.length + 1 < 64 then gScL gg gt ge Γ0 (ds.drop (i + 1)) (rs ++ [r]) M4 else .bad).bind fin) Q := hpost3
              by_cases hz : rs.length + 1 < 64
              · rw [if_pos hz] at hpost4
                have ey2 := rowD_is ey
                subst ey2
                intro v H4 Z4 ι4 e4 hr4 rv
                obtain ⟨od4, hp4⟩ := od3.ext hp3 e4
                have hL4 : ∀ q ∈ L, Rp X.K Z4 ι4 M4.length (tupI q.2) (.ref q.1) := fun q hq => (hL3 q hq).ext e4
                have ev : ∃ x, v = V.ref x := by
                  have gen : ∀ {v : V}, Rp X.K Z4 ι4 M4.length (tupI r) v → ∃ x, v = V.ref x := fun h => by
                    cases h with
                    | tup s r => exact ⟨_, rfl⟩
                  exact gen rv
                obtain ⟨xa, rfl⟩ := ev
                refine ⟨xa, r, L, rfl, tupI_sq hr4.sub rv, hp4, fun q hq => tupI_sq hr4.sub (hL4 q hq), by omega, fun L' c1 c2 => ?_⟩
                have mem : (∀ q ∈ L', Rp X.K Z4 ι4 M4.length (tupI q.2) (.ref q.1)) ∧ (∀ r', r' ∈ L'.map (·.2) ↔ r' ∈ rs ++ [r]) ∧ L'.length ≤ (rs ++ [r]).length := by
                  by_cases c : r ∈ L.map (·.2)
                  · rw [c1 c]
                    refine ⟨hL4, fun r' => ?_, by rw [List.length_append]; omega⟩
                    rw [List.mem_append, ← hm r', List.mem_singleton]
                    exact ⟨.inl, fun z => z.elim id fun e => e ▸ c⟩
                  · have pm := c2 c
                    refine ⟨fun q hq => ?_, fun r' => ?_, by rw [pm.length_eq, List.length_append]; simp; omega⟩
                    · rcases List.mem_cons.mp (pm.mem_iff.mp hq) with z | z
                      · rw [z]; exact rv
                      · exact hL4 q z
                    · rw [(pm.map (·.2)).mem_iff, List.map_cons, List.mem_cons, List.mem_append, ← hm r', List.mem_singleton]
                      exact ⟨fun z => z.elim .inr .inl, fun z => z.elim .inr .inl⟩
                exact ⟨Z4, ι4, M4, rs ++ [r], L', (e13.trans e4 hr3.ali).touch hp0, hr4.odd od4, od4, upd_same, mem.1, mem.2.1, mem.2.2, hpost4⟩
              · rw [if_neg hz] at hpost4
                exact hpost4.elim
  · refine .inl ⟨hstop (by omega), ?_⟩
    rw [List.drop_eq_nil_of_le (Nat.le_of_not_lt hi)] at hpost
    have hpost : Post X C W (rpE X.K) σ H0 Z0 ι0 M0 (fin rs M) Q := by
      rw [scL_nil] at hpost
      exact hpost
    exact hfin rs L M H Z ι e1 hr1 hp hL hm hpost
variable {elt tg iter : Expr} {ifs : List Expr} {scope : Scope} {own : List (Str × Nat)} {p q pos : Pos} {gi : GI} {gg : GG} {gt : GT} {ge : GE} {is ixs : List Nat}
theorem qe_lenSc (hu : X.A.units + 8 < cLine) (hgl : Gl X "len") (hml : X.mg "len" = none) (hc : X.calm = true) (hN : X.N.Nodup) (hi : QI X C W tg iter gi) (ok : BlkOk X.N X.env.scope scope own)
    (hg : Blk X scope fun Y => QG Y tg gg is) (ht : Blk X scope fun Y => QTs Y C noW ifs gt) (he : Blk X scope fun Y => QE Y C noW elt ge) (hix : ixs = own.map (·.2) := by rfl) (hsub : ∀ i ∈ is, i ∈ own.map (·.2) := by decide) (hs : ∀ x, foldedSetIterable iter X.env x = pure x := by intro _; rfl)
    (nb : starEach [Expr.SetComp elt [⟨tg, iter, ifs, 0⟩] scope q] X.env = (false, eval (.SetComp elt [⟨tg, iter, ifs, 0⟩] scope q) X.env) :: starEach [] X.env := by rfl) :
    QE X C W (.Call (.Name "len" p) [.SetComp elt [⟨tg, iter, ifs, 0⟩] scope q] [] pos) (gLenSc gi gg gt ge ixs) := by
  subst hix
  obtain ⟨wi, pi, qi⟩ := hi
  refine ⟨_, pe_callB cr_lenT hgl hml (by decide +kernel) (pa_cons (pe_setC hc hu hN pi ok (blk_g hg) (blk_t ht) (blk_e he) hs) pa_nil nb) (by decide) (by decide) nb, fun σ H Z ι Γ M Q sl hr h => ?_⟩
  refine qi σ H Z ι Γ M _ sl hr (Post.bind h fun ds M1 J H1 Z1 ι1 e1 hr1 rJ h1 => fun a ha => ?_)
  refine gScL_run hsub (slots_wipe _ (sl.ext e1)) rJ ha hr1 h1 fun rs L M2 H2 Z2 ι2 e2 hr2 hp hL hm hf => ?_
  refine ⟨a, L, rfl, hp, fun r hr => tupI_sq hr2.sub (hL r hr), fun nd => ?_⟩
  have pm : (L.map (·.2)).Perm (uniqR rs) := (List.perm_ext_iff_of_nodup nd (uniqR_nodup rs)).mpr fun r => by rw [mem_uniqR, hm]
  have ln : L.length = (uniqR rs).length := by rw [← pm.length_eq, List.length_map]
  rw [ln]
  exact hf _ H2 Z2 ι2 e2 hr2 (.int _)
end
end Bk

set_option Elab.async false
set_option linter.all false
set_option maxRecDepth 100000
namespace My
open PySem PySem.Spec PyProof.Rows L2 Bk
/-! ### the text -/
def topS (i : Nat) : Stmt := PySem.Challenge.pw_breakrows_k26_groups_and_settled_days.main.body.getD i (.Pass ⟨0, 0, 0, 0⟩)
abbrev s_is_integer : Stmt := topS 8
theorem sc_is_integer : FnScope ["value"] ["value"] (defScope s_is_integer) := ⟨rfl, rfl, rfl, by decide +kernel, rfl, by decide +kernel, by decide +kernel⟩
abbrev s_is_at_least : Stmt := topS 9
theorem sc_is_at_least : FnScope ["value", "low"] ["value", "low"] (defScope s_is_at_least) := ⟨rfl, rfl, rfl, by decide +kernel, rfl, by decide +kernel, by decide +kernel⟩
abbrev s_is_between : Stmt := topS 10
theorem sc_is_between : FnScope ["value", "low", "high"] ["value", "low", "high"] (defScope s_is_between) := ⟨rfl, rfl, rfl, by decide +kernel, rfl, by decide +kernel, by decide +kernel⟩
abbrev s_are_numbers : Stmt := topS 11
theorem sc_are_numbers : FnScope ["value", "entry"] ["value"] (defScope s_are_numbers) := ⟨rfl, rfl, rfl, by decide +kernel, rfl, by decide +kernel, by decide +kernel⟩
abbrev s_is_entries : Stmt := topS 14
theorem sc_is_entries : FnScope ["value"] ["value"] (defScope s_is_entries) := ⟨rfl, rfl, rfl, by decide +kernel, rfl, by decide +kernel, by decide +kernel⟩
abbrev s_is_row_of : Stmt := topS 15
theorem sc_is_row_of : FnScope ["value", "days", "entry"] ["value", "days"] (defScope s_is_row_of) := ⟨rfl, rfl, rfl, by decide +kernel, rfl, by decide +kernel, by decide +kernel⟩
abbrev s_require_rows : Stmt := topS 16
theorem sc_require_rows : FnScope ["plan", "days", "index", "row"] ["plan"] (defScope s_require_rows) := ⟨rfl, rfl, rfl, by decide +kernel, rfl, by decide +kernel, by decide +kernel⟩
abbrev s_require_beginning : Stmt := topS 17
theorem sc_require_beginning : FnScope ["plan", "past"] ["plan", "past"] (defScope s_require_beginning) := ⟨rfl, rfl, rfl, by decide +kernel, rfl, by decide +kernel, by decide +kernel⟩
abbrev s_levels_behind : Stmt := topS 18
theorem sc_levels_behind : FnScope ["plan", "past", "level", "row"] ["plan", "past"] (defScope s_levels_behind) := ⟨rfl, rfl, rfl, by decide +kernel, rfl, by decide +kernel, by decide +kernel⟩
abbrev s_group : Stmt := topS 19
theorem sc_group : FnScope ["plan", "past", "found"] ["plan", "past"] (defScope s_group) := ⟨rfl, rfl, rfl, by decide +kernel, rfl, by decide +kernel, by decide +kernel⟩
abbrev s_tests_behind : Stmt := topS 20
theorem sc_tests_behind : FnScope ["plan", "past", "found", "numbers", "level", "least", "number"] ["plan", "past"] (defScope s_tests_behind) := ⟨rfl, rfl, rfl, by decide +kernel, rfl, by decide +kernel, by decide +kernel⟩
abbrev s_tests : Stmt := topS 21
theorem sc_tests : FnScope ["plan", "past"] ["plan", "past"] (defScope s_tests) := ⟨rfl, rfl, rfl, by decide +kernel, rfl, by decide +kernel, by decide +kernel⟩
abbrev s_level_of : Stmt := topS 22
theorem sc_level_of : FnScope ["plan", "row", "level", "one"] ["plan", "row"] (defScope s_level_of) := ⟨rfl, rfl, rfl, by decide +kernel, rfl, by decide +kernel, by decide +kernel⟩
abbrev s_settled : Stmt := topS 23
theorem sc_settled : FnScope ["plan", "days", "row"] ["plan"] (defScope s_settled) := ⟨rfl, rfl, rfl, by decide +kernel, rfl, by decide +kernel, by decide +kernel⟩
abbrev s_law_mix : Stmt := topS 25
theorem sc_law_mix : FnScope ["_law_cell", "_law_turn", "_law_low"] ["_law_cell", "_law_turn"] (defScope s_law_mix) := ⟨rfl, rfl, rfl, by decide +kernel, rfl, by decide +kernel, by decide +kernel⟩
abbrev s_law_source : Stmt := topS 26
theorem sc_law_source : FnScope ["_law_cell"] ["_law_cell"] (defScope s_law_source) := ⟨rfl, rfl, rfl, by decide +kernel, rfl, by decide +kernel, by decide +kernel⟩
abbrev s_law_draw : Stmt := topS 27
theorem sc_law_draw : FnScope ["_law_source_here", "_law_limit", "_law_digit"] ["_law_source_here", "_law_limit"] (defScope s_law_draw) := ⟨rfl, rfl, rfl, by decide +kernel, rfl, by decide +kernel, by decide +kernel⟩
abbrev s_law_rows : Stmt := topS 28
theorem sc_law_rows : FnScope ["_law_source_here", "_law_days", "_law_many", "_law_found", "_law_level", "_law_top", "_law_row", "_law_shared", "_law_day"] ["_law_source_here", "_law_days", "_law_many"] (defScope s_law_rows) := ⟨rfl, rfl, rfl, by decide +kernel, rfl, by decide +kernel, by decide +kernel⟩
abbrev s_law_levels : Stmt := topS 29
theorem sc_law_levels : FnScope ["_law_plan", "_law_past_here", "_law_level", "_law_row"] ["_law_plan", "_law_past_here"] (defScope s_law_levels) := ⟨rfl, rfl, rfl, by decide +kernel, rfl, by decide +kernel, by decide +kernel⟩
abbrev s_law_due : Stmt := topS 30
theorem sc_law_due : FnScope ["_law_plan", "_law_past_here", "_law_inside", "_law_found", "_law_below", "_law_level"] ["_law_plan", "_law_past_here"] (defScope s_law_due) := ⟨rfl, rfl, rfl, by decide +kernel, rfl, by decide +kernel, by decide +kernel⟩
abbrev s_law_first_unlike : Stmt := topS 31
theorem sc_law_first_unlike : FnScope ["_law_one", "_law_other", "_law_day"] ["_law_one", "_law_other"] (defScope s_law_first_unlike) := ⟨rfl, rfl, rfl, by decide +kernel, rfl, by decide +kernel, by decide +kernel⟩
abbrev s_law_past : Stmt := topS 32
theorem sc_law_past : FnScope ["_law_source_here", "_law_plan", "_law_row", "_law_past_here", "_law_place", "_law_entry"] ["_law_source_here", "_law_plan"] (defScope s_law_past) := ⟨rfl, rfl, rfl, by decide +kernel, rfl, by decide +kernel, by decide +kernel⟩
abbrev s_law_is_right : Stmt := topS 33
theorem sc_law_is_right : FnScope ["_law_source_here", "_law_plan", "_law_turns", "_law_kept", "_law_turn", "_law_days", "_law_past_here", "_law_inside", "_law_told", "_law_one", "_law_other"] ["_law_source_here", "_law_plan", "_law_turns"] (defScope s_law_is_right) := ⟨rfl, rfl, rfl, by decide +kernel, rfl, by decide +kernel, by decide +kernel⟩
abbrev s_law : Stmt := topS 34
theorem sc_law : FnScope ["_law_script", "_law_cell", "_law_source_here"] ["_law_script"] (defScope s_law) := ⟨rfl, rfl, rfl, by decide +kernel, rfl, by decide +kernel, by decide +kernel⟩
/-! ### what the bodies compute -/
def b_is_integer : GS := gRet (gAndV (gOp1 (dIsi "int") (gV 0)) (gOp1 dNot (gOp1 (dIsi "bool") (gV 0))))
def F_is_integer : List D → List MO → R D := runF 1 b_is_integer
def b_is_at_least : GS := gRet (gAndV (gCallF 1 F_is_integer (gCons (gV 0) (gNil))) (gOp2 dGe (gV 0) (gV 1)))
def F_is_at_least : List D → List MO → R D := runF 2 b_is_at_least
def b_is_between : GS := gRet (gAndV (gCallF 1 F_is_integer (gCons (gV 0) (gNil))) (gChain dLe dLe (gV 1) (gV 0) (gV 2)))
def F_is_between : List D → List MO → R D := runF 3 b_is_between
def le_are_numbers_1 : GE := gCallF 2 F_is_at_least (gCons (gV 1) (gCons (gC (.int 0)) (gNil)))
def b_are_numbers : GS := gRet (gAndV (gOp1 (dIsi "tuple") (gV 0)) (gCall (fn1 dAll) (gCons (gLc (gSeqI (gV 0)) (gTo 1) (gYes) (le_are_numbers_1) [1]) (gNil))))
def F_are_numbers : List D → List MO → R D := runF 2 b_are_numbers
def b_is_entries : GS := gRet (gAndV (gOp1 (dIsiT ["list", "tuple"]) (gV 0)) (gChain dLe dLe (gC (.int 1)) (gCall (fn1 dLen) (gCons (gV 0) (gNil))) (gC (.int 1000))))
def F_is_entries : List D → List MO → R D := runF 1 b_is_entries
def le_is_row_of_1 : GE := gCallF 3 F_is_between (gCons (gV 2) (gCons (gC (.int 0)) (gCons (gC (.int 12)) (gNil))))
def b_is_row_of : GS := gSeq (gIf (gOrT (gNotT (gVal (gOp1 (dIsi "tuple") (gV 0)))) (gVal (gOp2 dNeA (gCall (fn1 dLen) (gCons (gV 0) (gNil))) (gV 1)))) (gRet (gC (.bl false))) (gPass)) (gRet (gCall (fn1 dAll) (gCons (gLc (gSeqI (gV 0)) (gTo 2) (gYes) (le_is_row_of_1) [2]) (gNil))))
def F_is_row_of : List D → List MO → R D := runF 3 b_is_row_of
def lb_require_rows_1 : GS := gSeq (gIf (gOrT (gNotT (gVal (gCallF 2 F_is_row_of (gCons (gV 3) (gCons (gV 1) (gNil)))))) (gAndT (gVal (gOp2 dGtA (gV 2) (gC (.int 0)))) (gVal (gOp2 dGeA (gV 3) (gOp2 dIx (gV 0) (gOp2 dSub (gV 2) (gC (.int 1)))))))) (gBad) (gPass)) (gForget [2, 3])
def b_require_rows : GS := gSeq (gIf (gNotT (gVal (gCallF 1 F_is_entries (gCons (gV 0) (gNil))))) (gBad) (gPass)) (gSeq (gAsg (gIfE (gAndT (gVal (gOp1 (dIsi "tuple") (gOp2 dIx (gV 0) (gC (.int 0))))) (gVal (gOp2 dLe (gCall (fn1 dLen) (gCons (gOp2 dIx (gV 0) (gC (.int 0))) (gNil))) (gC (.int 100))))) (gCall (fn1 dLen) (gCons (gOp2 dIx (gV 0) (gC (.int 0))) (gNil))) (gOp1 dNeg (gC (.int 1)))) (gTo 1)) (gSeq (gSeq (gForget [2, 3]) (gFor (gEnum (gV 0)) (gToT (gToCons (gTo 2) (gToCons (gTo 3) (gToNil)))) (lb_require_rows_1))) (gForget [2, 3])))
def F_require_rows : List D → List MO → R D := runF 4 b_require_rows
def b_require_beginning : GS := gIf (gOrT (gNotT (gVal (gCallF 1 F_are_numbers (gCons (gV 1) (gNil))))) (gVal (gOp2 dGt (gCall (fn1 dLen) (gCons (gV 1) (gNil))) (gCall (fn1 dLen) (gCons (gOp2 dIx (gV 0) (gC (.int 0))) (gNil)))))) (gBad) (gPass)
def F_require_beginning : List D → List MO → R D := runF 2 b_require_beginning
def b_levels_behind : GS := gRet (gLc (gEnum (gV 0)) (gToT (gToCons (gTo 2) (gToCons (gTo 3) (gToNil)))) (gVal (gOp2 dEqA (gSl (gV 3) (gNoO) (gO (gCall (fn1 dLen) (gCons (gV 1) (gNil))))) (gV 1))) (gV 2) [2, 3])
def F_levels_behind : List D → List MO → R D := runF 4 b_levels_behind
def b_group : GS := gSeq (gExpr (gCallF 1 F_require_rows (gCons (gV 0) (gNil)))) (gSeq (gExpr (gCallF 2 F_require_beginning (gCons (gV 0) (gCons (gV 1) (gNil))))) (gSeq (gAsg (gCallF 2 F_levels_behind (gCons (gV 0) (gCons (gV 1) (gNil)))) (gTo 2)) (gRet (gIfE (gVal (gOp2 dNeA (gV 2) (gLst (gNil)))) (gTup (gCons (gOp2 dIx (gV 2) (gC (.int 0))) (gCons (gOp2 dIx (gV 2) (gOp1 dNeg (gC (.int 1)))) (gNil)))) (gC .non)))))
def F_group : List D → List MO → R D := runF 3 b_group
def le_tests_behind_1 : GE := gOp2 dIx (gOp2 dIx (gV 0) (gV 4)) (gCall (fn1 dLen) (gCons (gV 1) (gNil)))
def le_tests_behind_3 : GE := gOp2 dAdd (gOp2 dIx (gV 2) (gC (.int 0))) (gCall (fn1 dLen) (gCons (gLc (gSeqI (gV 3)) (gTo 6) (gVal (gOp2 dGe (gV 6) (gV 5))) (gV 6) [6]) (gNil)))
def b_tests_behind : GS := gSeq (gAsg (gCallF 2 F_levels_behind (gCons (gV 0) (gCons (gV 1) (gNil)))) (gTo 2)) (gSeq (gIf (gVal (gOp2 dEqA (gV 2) (gLst (gNil)))) (gRet (gLstO (gNil))) (gPass)) (gSeq (gAsg (gLc (gSeqI (gV 2)) (gTo 4) (gYes) (le_tests_behind_1) [4]) (gTo 3)) (gRet (gLcO (gRng2 (gCons (gC (.int 1)) (gCons (gOp2 dAdd (gOp2 dIx (gV 3) (gC (.int 0))) (gC (.int 1))) (gNil)))) (gTo 5) (gYes) (le_tests_behind_3) [5]))))
def F_tests_behind : List D → List MO → R D := runF 7 b_tests_behind
def b_tests : GS := gSeq (gExpr (gCallF 1 F_require_rows (gCons (gV 0) (gNil)))) (gSeq (gExpr (gCallF 2 F_require_beginning (gCons (gV 0) (gCons (gV 1) (gNil))))) (gRet (gIfE (gVal (gOp2 dLt (gCall (fn1 dLen) (gCons (gV 1) (gNil))) (gCall (fn1 dLen) (gCons (gOp2 dIx (gV 0) (gC (.int 0))) (gNil))))) (gCallF 2 F_tests_behind (gCons (gV 0) (gCons (gV 1) (gNil)))) (gLstO (gNil)))))
def F_tests : List D → List MO → R D := runF 2 b_tests
def b_level_of : GS := gSeq (gExpr (gCallF 1 F_require_rows (gCons (gV 0) (gNil)))) (gSeq (gIf (gOrT (gNotT (gVal (gCallF 1 F_are_numbers (gCons (gV 1) (gNil))))) (gVal (gOp2 dNeA (gCall (fn1 dLen) (gCons (gV 1) (gNil))) (gCall (fn1 dLen) (gCons (gOp2 dIx (gV 0) (gC (.int 0))) (gNil)))))) (gBad) (gPass)) (gRet (gOp2 dIx (gOp2 dAdd (gLc (gEnum (gV 0)) (gToT (gToCons (gTo 2) (gToCons (gTo 3) (gToNil)))) (gVal (gOp2 dEqA (gV 3) (gV 1))) (gV 2) [2, 3]) (gLst (gCons (gC .non) (gNil)))) (gC (.int 0)))))
def F_level_of : List D → List MO → R D := runF 4 b_level_of
def le_settled_1 : GE := gSl (gV 2) (gNoO) (gO (gV 1))
def lb_settled_1 : GS := gSeq (gAug 1 (fun i j => i + j) (gC (.int 1))) (gForget [])
def lw_settled_1 : GT := gVal (gOp2 dLt (gLenSc (gSeqI (gV 0)) (gTo 2) (gYes) (le_settled_1) [2]) (gCall (fn1 dLen) (gCons (gV 0) (gNil))))
def b_settled : GS := gSeq (gExpr (gCallF 1 F_require_rows (gCons (gV 0) (gNil)))) (gSeq (gAsg (gC (.int 0)) (gTo 1)) (gSeq (gSeq (gSeq (gForget []) (gWhile (lw_settled_1) (lb_settled_1) 1000000000)) (gForget [])) (gRet (gV 1))))
def F_settled : List D → List MO → R D := runF 3 b_settled
def b_law_mix : GS := gSeq (gAsg (gOp2 dAdd (gOp2 dMod (gV 0) (gC (.int 2147483647))) (gOp2 dMulT (gOp2 dMod (gOp2 dFdiv (gV 0) (gC (.int 2147483647))) (gC (.int 1000003))) (gC (.int 7919)))) (gTo 2)) (gSeq (gAsg (gOp2 dMod (gOp2 dMulT (gOp2 dAdd (gOp2 dAdd (gV 2) (gOp2 dMulT (gC (.int 15485863)) (gV 1))) (gC (.int 104729))) (gC (.int 48271))) (gC (.int 2147483629))) (gTo 2)) (gSeq (gAsg (gOp2 dMod (gOp2 dMulT (gV 2) (gOp2 dAdd (gOp2 dAdd (gOp2 dFdiv (gV 2) (gC (.int 1009))) (gC (.int 69621))) (gV 1))) (gC (.int 2147483587))) (gTo 2)) (gRet (gOp2 dMod (gOp2 dMulT (gV 2) (gOp2 dAdd (gOp2 dFdiv (gV 2) (gC (.int 2003))) (gC (.int 40692)))) (gC (.int 2147483563))))))
def F_law_mix : List D → List MO → R D := runF 3 b_law_mix
def b_law_source : GS := gRet (gLstO (gCons (gOp2 dMulT (gCall (fn1 dAbs) (gCons (gV 0) (gNil))) (gCall (fn1 dInt) (gCons (gOp2 dGe (gCall (fn1 dAbs) (gCons (gV 0) (gNil))) (gOp2 dPow (gC (.int 10)) (gC (.int 18)))) (gNil)))) (gCons (gCall (fn1 dAbs) (gCons (gV 0) (gNil))) (gCons (gC (.int 0)) (gNil)))))
def F_law_source : List D → List MO → R D := runF 1 b_law_source
def b_law_draw : GS := gSeq (gIf (gVal (gOp2 dGt (gOp2 dIx (gV 0) (gC (.int 0))) (gC (.int 0)))) (gSeq (gAsg (gOp2 dMod (gOp2 dIx (gV 0) (gC (.int 0))) (gV 1)) (gTo 2)) (gSeq (gSetI (gOp2 dFdiv (gOp2 dIx (gV 0) (gC (.int 0))) (gV 1)) (gV 0) (gC (.int 0))) (gRet (gV 2)))) (gPass)) (gSeq (gSetI (gOp2 dAdd (gOp2 dIx (gV 0) (gC (.int 2))) (gC (.int 1))) (gV 0) (gC (.int 2))) (gRet (gOp2 dMod (gCallF 2 F_law_mix (gCons (gOp2 dIx (gV 0) (gC (.int 1))) (gCons (gOp2 dIx (gV 0) (gC (.int 2))) (gNil)))) (gV 1))))
def F_law_draw : List D → List MO → R D := runF 3 b_law_draw
def le_law_rows_1 : GE := gCallF 2 F_law_draw (gCons (gV 0) (gCons (gV 5) (gNil)))
def lb_law_rows_1 : GS := gSeq (gAsg (gOp2 dIx (gLst (gCons (gC (.int 1)) (gCons (gC (.int 2)) (gCons (gC (.int 4)) (gCons (gC (.int 13)) (gNil)))))) (gCallF 2 F_law_draw (gCons (gV 0) (gCons (gC (.int 4)) (gNil))))) (gTo 5)) (gSeq (gAsg (gLc (gRng1 (gCons (gV 1) (gNil))) (gTo 8) (gYes) (le_law_rows_1) [8]) (gTo 6)) (gSeq (gIf (gVal (gOp2 dNeA (gV 3) (gLst (gNil)))) (gSeq (gAsg (gCallF 2 F_law_draw (gCons (gV 0) (gCons (gOp2 dAdd (gV 1) (gC (.int 1))) (gNil)))) (gTo 7)) (gAsg (gOp2 dAdd (gCall (fn1 dList) (gCons (gSl (gOp2 dIx (gV 3) (gCallF 2 F_law_draw (gCons (gV 0) (gCons (gCall (fn1 dLen) (gCons (gV 3) (gNil))) (gNil))))) (gNoO) (gO (gV 7))) (gNil))) (gSl (gV 6) (gO (gV 7)) (gNoO))) (gTo 6))) (gPass)) (gSeq (gExpr (gMeth1 mAppend (gV 3) (gCall (fn1 dTuple) (gCons (gV 6) (gNil))))) (gForget [4, 5, 6, 7]))))
def b_law_rows : GS := gSeq (gAsg (gLstO (gNil)) (gTo 3)) (gSeq (gSeq (gSeq (gSeq (gForget [4, 5, 6, 7]) (gFor (gRng1 (gCons (gV 2) (gNil))) (gTo 4) (lb_law_rows_1))) (gForget [4, 5, 6, 7])) (gFz 3)) (gRet (gRevA (gSortS (gV 3)))))
def F_law_rows : List D → List MO → R D := runF 9 b_law_rows
def b_law_levels : GS := gRet (gLc (gEnum (gV 0)) (gToT (gToCons (gTo 2) (gToCons (gTo 3) (gToNil)))) (gVal (gOp2 dEqA (gSl (gV 3) (gNoO) (gO (gCall (fn1 dLen) (gCons (gV 1) (gNil))))) (gV 1))) (gV 2) [2, 3])
def F_law_levels : List D → List MO → R D := runF 4 b_law_levels
def lb_law_due_1 : GS := gSeq (gAsg (gLc (gSeqI (gV 2)) (gTo 5) (gVal (gOp2 dLe (gOp2 dIx (gOp2 dIx (gV 0) (gV 5)) (gCall (fn1 dLen) (gCons (gV 1) (gNil)))) (gCall (fn1 dLen) (gCons (gV 3) (gNil))))) (gV 5) [5]) (gTo 4)) (gSeq (gExpr (gMeth1 mAppend (gV 3) (gOp2 dIx (gOp2 dAdd (gV 4) (gLst (gCons (gOp2 dAdd (gOp2 dIx (gV 2) (gOp1 dNeg (gC (.int 1)))) (gC (.int 1))) (gNil)))) (gC (.int 0))))) (gForget [4]))
def lw_law_due_1 : GT := gAndT (gVal (gOp2 dNeA (gV 2) (gLst (gNil)))) (gAndT (gVal (gOp2 dLt (gCall (fn1 dLen) (gCons (gV 1) (gNil))) (gCall (fn1 dLen) (gCons (gOp2 dIx (gV 0) (gC (.int 0))) (gNil))))) (gVal (gOp2 dGt (gOp2 dIx (gOp2 dIx (gV 0) (gOp2 dIx (gV 2) (gC (.int 0)))) (gCall (fn1 dLen) (gCons (gV 1) (gNil)))) (gCall (fn1 dLen) (gCons (gV 3) (gNil))))))
def b_law_due : GS := gSeq (gAsg (gCallF 2 F_law_levels (gCons (gV 0) (gCons (gV 1) (gNil)))) (gTo 2)) (gSeq (gAsg (gLstO (gNil)) (gTo 3)) (gSeq (gSeq (gSeq (gSeq (gForget [4]) (gWhile (lw_law_due_1) (lb_law_due_1) 1000000000)) (gForget [4])) (gFz 3)) (gRet (gV 3))))
def F_law_due : List D → List MO → R D := runF 6 b_law_due
def b_law_first_unlike : GS := gRet (gOp2 dIx (gLc (gRng2 (gCons (gC (.int 1)) (gCons (gOp2 dAdd (gCall (fn1 dLen) (gCons (gV 0) (gNil))) (gC (.int 1))) (gNil)))) (gTo 2) (gVal (gOp2 dNeA (gSl (gV 0) (gNoO) (gO (gV 2))) (gSl (gV 1) (gNoO) (gO (gV 2))))) (gV 2) [2]) (gC (.int 0)))
def F_law_first_unlike : List D → List MO → R D := runF 3 b_law_first_unlike
def b_law_past : GS := gSeq (gAsg (gOp2 dIx (gV 1) (gCallF 2 F_law_draw (gCons (gV 0) (gCons (gCall (fn1 dLen) (gCons (gV 1) (gNil))) (gNil))))) (gTo 2)) (gSeq (gAsg (gSl (gV 2) (gNoO) (gO (gOp2 dIx (gLst (gCons (gCallF 2 F_law_draw (gCons (gV 0) (gCons (gOp2 dAdd (gCall (fn1 dLen) (gCons (gV 2) (gNil))) (gC (.int 1))) (gNil)))) (gCons (gCall (fn1 dLen) (gCons (gV 2) (gNil))) (gNil)))) (gOp2 dFdiv (gCallF 2 F_law_draw (gCons (gV 0) (gCons (gC (.int 4)) (gNil)))) (gC (.int 3)))))) (gTo 3)) (gSeq (gIf (gAndT (gVal (gOp2 dNeA (gV 3) (gTup (gNil)))) (gVal (gOp2 dEqA (gCallF 2 F_law_draw (gCons (gV 0) (gCons (gC (.int 3)) (gNil)))) (gC (.int 0))))) (gSeq (gAsg (gCallF 2 F_law_draw (gCons (gV 0) (gCons (gCall (fn1 dLen) (gCons (gV 3) (gNil))) (gNil)))) (gTo 4)) (gSeq (gAsg (gOp2 dIx (gLst (gCons (gOp2 dAdd (gOp2 dIx (gV 3) (gV 4)) (gC (.int 1))) (gCons (gCallF 2 F_law_draw (gCons (gV 0) (gCons (gC (.int 14)) (gNil)))) (gCons (gOp2 dPow (gC (.int 10)) (gC (.int 30))) (gNil))))) (gCallF 2 F_law_draw (gCons (gV 0) (gCons (gC (.int 3)) (gNil))))) (gTo 5)) (gAsg (gOp2 dAdd (gOp2 dAdd (gSl (gV 3) (gNoO) (gO (gV 4))) (gTup (gCons (gV 5) (gNil)))) (gSl (gV 3) (gO (gOp2 dAdd (gV 4) (gC (.int 1)))) (gNoO))) (gTo 3)))) (gPass)) (gRet (gV 3))))
def F_law_past : List D → List MO → R D := runF 6 b_law_past
def lb_law_is_right_1 : GS := gScope (gSeq (gAsg (gCallF 2 F_law_past (gCons (gV 0) (gCons (gV 1) (gNil)))) (gTo 6)) (gSeq (gAsg (gCallF 2 F_law_levels (gCons (gV 1) (gCons (gV 6) (gNil)))) (gTo 7)) (gSeq (gIf (gVal (gOp2 dNeA (gCallF 2 F_group (gCons (gV 1) (gCons (gV 6) (gNil)))) (gIfE (gVal (gOp2 dEqA (gV 7) (gLst (gNil)))) (gC .non) (gTup (gCons (gOp2 dIx (gV 7) (gC (.int 0))) (gCons (gOp2 dIx (gV 7) (gOp1 dNeg (gC (.int 1)))) (gNil))))))) (gRet (gC (.bl false))) (gPass)) (gSeq (gAsg (gCallF 2 F_tests (gCons (gV 1) (gCons (gV 6) (gNil)))) (gTo 8)) (gSeq (gIf (gOrT (gVal (gOp2 dNeA (gV 8) (gCallF 2 F_law_due (gCons (gV 1) (gCons (gV 6) (gNil)))))) (gNotT (gVal (gOp1 (dIsi "list") (gV 8))))) (gRet (gC (.bl false))) (gPass)) (gSeq (gSeq (gExpr (gMeth1 mAppend (gV 8) (gC .non))) (gFz 8)) (gSeq (gIf (gVal (gOp2 dNeA (gCallF 2 F_tests (gCons (gCall (fn1 dTuple) (gCons (gV 1) (gNil))) (gCons (gV 6) (gNil)))) (gSl (gV 8) (gNoO) (gO (gOp1 dNeg (gC (.int 1))))))) (gRet (gC (.bl false))) (gPass)) (gSeq (gIf (gAndT (gVal (gOp2 dEqA (gCall (fn1 dLen) (gCons (gV 6) (gNil))) (gCall (fn1 dLen) (gCons (gOp2 dIx (gV 1) (gC (.int 0))) (gNil))))) (gVal (gOp2 dNeA (gCallF 2 F_level_of (gCons (gCall (fn1 dTuple) (gCons (gV 1) (gNil))) (gCons (gV 6) (gNil)))) (gOp2 dIx (gOp2 dAdd (gV 7) (gLst (gCons (gC .non) (gNil)))) (gC (.int 0)))))) (gRet (gC (.bl false))) (gPass)) (gForget [4, 6, 7, 8])))))))))
def le_law_is_right_1 : GE := gCallF 2 F_law_first_unlike (gCons (gV 9) (gCons (gV 10) (gNil)))
def b_law_is_right : GS := gSeq (gAsg (gCall (fn1 dRepr) (gCons (gV 1) (gNil))) (gTo 3)) (gSeq (gSeq (gSeq (gForget [4, 6, 7, 8]) (gFor (gRng1 (gCons (gV 2) (gNil))) (gTo 4) (lb_law_is_right_1))) (gForget [4, 6, 7, 8])) (gSeq (gAsg (gCall (fn1 dMax) (gCons (gOp2 dAdd (gLst (gCons (gC (.int 0)) (gNil))) (gLc (gZip (gV 1) (gSl (gV 1) (gO (gC (.int 1))) (gNoO))) (gToT (gToCons (gTo 9) (gToCons (gTo 10) (gToNil)))) (gYes) (le_law_is_right_1) [9, 10])) (gNil))) (gTo 5)) (gRet (gAndV (gOp2 dEqA (gCallF 1 F_settled (gCons (gV 1) (gNil))) (gV 5)) (gAndV (gOp2 dEqA (gCallF 1 F_settled (gCons (gCall (fn1 dTuple) (gCons (gV 1) (gNil))) (gNil))) (gV 5)) (gOp2 dEqA (gCall (fn1 dRepr) (gCons (gV 1) (gNil))) (gV 3)))))))
def F_law_is_right : List D → List MO → R D := runF 11 b_law_is_right
def lb_law_1 : GS := gScope (gSeq (gAsg (gCallF 1 F_law_source (gCons (gV 1) (gNil))) (gTo 2)) (gSeq (gIf (gNotT (gVal (gCallF 3 F_law_is_right (gCons (gV 2) (gCons (gCallF 3 F_law_rows (gCons (gV 2) (gCons (gCallF 2 F_law_draw (gCons (gV 2) (gCons (gC (.int 9)) (gNil)))) (gCons (gOp2 dAdd (gC (.int 1)) (gCallF 2 F_law_draw (gCons (gV 2) (gCons (gC (.int 30)) (gNil))))) (gNil))))) (gCons (gC (.int 6)) (gNil))))))) (gRet (gC (.bl false))) (gPass)) (gForget [1, 2])))
def b_law : GS := gSeq (gSeq (gSeq (gForget [1, 2]) (gFor (gSeqI (gOp2 dAdd (gLst (gCons (gC (.int 0)) (gNil))) (gSl (gV 0) (gNoO) (gO (gC (.int 4)))))) (gTo 1) (lb_law_1))) (gForget [1, 2])) (gSeq (gAsg (gCallF 1 F_law_source (gCons (gOp2 dIx (gOp2 dAdd (gLst (gCons (gC (.int 0)) (gNil))) (gV 0)) (gOp1 dNeg (gC (.int 1)))) (gNil))) (gTo 2)) (gSeq (gIf (gNotT (gVal (gCallF 3 F_law_is_right (gCons (gV 2) (gCons (gCallF 3 F_law_rows (gCons (gV 2) (gCons (gOp2 dAdd (gC (.int 1)) (gCallF 2 F_law_draw (gCons (gV 2) (gCons (gC (.int 100)) (gNil))))) (gCons (gOp2 dAdd (gC (.int 1)) (gCallF 2 F_law_draw (gCons (gV 2) (gCons (gC (.int 60)) (gNil))))) (gNil))))) (gCons (gC (.int 3)) (gNil))))))) (gRet (gC (.bl false))) (gPass)) (gRet (gAndV (gOp2 dEqA (gCallF 1 F_settled (gCons (gLst (gCons (gTup (gNil)) (gNil))) (gNil))) (gC (.int 0))) (gAndV (gOp2 dEqA (gCallF 2 F_group (gCons (gLst (gCons (gTup (gNil)) (gNil))) (gCons (gTup (gNil)) (gNil)))) (gTup (gCons (gC (.int 0)) (gCons (gC (.int 0)) (gNil))))) (gOp2 dEqA (gCallF 2 F_tests (gCons (gLst (gCons (gTup (gNil)) (gNil))) (gCons (gTup (gNil)) (gNil)))) (gLst (gNil))))))))
def F_law : List D → List MO → R D := runF 3 b_law
/-! ### where everything stands -/
structure Ad where
  f_is_integer : Addr
  fd_is_integer : FuncData
  f_is_at_least : Addr
  fd_is_at_least : FuncData
  f_is_between : Addr
  fd_is_between : FuncData
  f_are_numbers : Addr
  fd_are_numbers : FuncData
  f_is_entries : Addr
  fd_is_entries : FuncData
  f_is_row_of : Addr
  fd_is_row_of : FuncData
  f_require_rows : Addr
  fd_require_rows : FuncData
  f_require_beginning : Addr
  fd_require_beginning : FuncData
  f_levels_behind : Addr
  fd_levels_behind : FuncData
  f_group : Addr
  fd_group : FuncData
  f_tests_behind : Addr
  fd_tests_behind : FuncData
  f_tests : Addr
  fd_tests : FuncData
  f_level_of : Addr
  fd_level_of : FuncData
  f_settled : Addr
  fd_settled : FuncData
  f_law_mix : Addr
  fd_law_mix : FuncData
  f_law_source : Addr
  fd_law_source : FuncData
  f_law_draw : Addr
  fd_law_draw : FuncData
  f_law_rows : Addr
  fd_law_rows : FuncData
  f_law_levels : Addr
  fd_law_levels : FuncData
  f_law_due : Addr
  fd_law_due : FuncData
  f_law_first_unlike : Addr
  fd_law_first_unlike : FuncData
  f_law_past : Addr
  fd_law_past : FuncData
  f_law_is_right : Addr
  fd_law_is_right : FuncData
  f_law : Addr
  fd_law : FuncData
  t_MAX_DAYS : Tok
  t_MAX_LEVELS : Tok
  t_MAX_OWNED : Tok
structure Tx (K : PySem.W.Frag) (mg : Str → Option Value) (A : Ad) : Prop where
  F_is_integer : Fun K "is_integer" "is_integer" s_is_integer A.f_is_integer A.fd_is_integer
  b_is_integer : Binds K A.fd_is_integer ["value"] []
  g_is_integer : mg "is_integer" = some (.ref A.f_is_integer)
  F_is_at_least : Fun K "is_at_least" "is_at_least" s_is_at_least A.f_is_at_least A.fd_is_at_least
  b_is_at_least : Binds K A.fd_is_at_least ["value", "low"] []
  g_is_at_least : mg "is_at_least" = some (.ref A.f_is_at_least)
  F_is_between : Fun K "is_between" "is_between" s_is_between A.f_is_between A.fd_is_between
  b_is_between : Binds K A.fd_is_between ["value", "low", "high"] []
  g_is_between : mg "is_between" = some (.ref A.f_is_between)
  F_are_numbers : Fun K "are_numbers" "are_numbers" s_are_numbers A.f_are_numbers A.fd_are_numbers
  b_are_numbers : Binds K A.fd_are_numbers ["value"] []
  g_are_numbers : mg "are_numbers" = some (.ref A.f_are_numbers)
  F_is_entries : Fun K "is_entries" "is_entries" s_is_entries A.f_is_entries A.fd_is_entries
  b_is_entries : Binds K A.fd_is_entries ["value"] []
  g_is_entries : mg "is_entries" = some (.ref A.f_is_entries)
  F_is_row_of : Fun K "is_row_of" "is_row_of" s_is_row_of A.f_is_row_of A.fd_is_row_of
  b_is_row_of : Binds K A.fd_is_row_of ["value", "days"] []
  g_is_row_of : mg "is_row_of" = some (.ref A.f_is_row_of)
  F_require_rows : Fun K "require_rows" "require_rows" s_require_rows A.f_require_rows A.fd_require_rows
  b_require_rows : Binds K A.fd_require_rows ["plan"] []
  g_require_rows : mg "require_rows" = some (.ref A.f_require_rows)
  F_require_beginning : Fun K "require_beginning" "require_beginning" s_require_beginning A.f_require_beginning A.fd_require_beginning
  b_require_beginning : Binds K A.fd_require_beginning ["plan", "past"] []
  g_require_beginning : mg "require_beginning" = some (.ref A.f_require_beginning)
  F_levels_behind : Fun K "levels_behind" "levels_behind" s_levels_behind A.f_levels_behind A.fd_levels_behind
  b_levels_behind : Binds K A.fd_levels_behind ["plan", "past"] []
  g_levels_behind : mg "levels_behind" = some (.ref A.f_levels_behind)
  F_group : Fun K "group" "group" s_group A.f_group A.fd_group
  b_group : Binds K A.fd_group ["plan", "past"] []
  g_group : mg "group" = some (.ref A.f_group)
  F_tests_behind : Fun K "tests_behind" "tests_behind" s_tests_behind A.f_tests_behind A.fd_tests_behind
  b_tests_behind : Binds K A.fd_tests_behind ["plan", "past"] []
  g_tests_behind : mg "tests_behind" = some (.ref A.f_tests_behind)
  F_tests : Fun K "tests" "tests" s_tests A.f_tests A.fd_tests
  b_tests : Binds K A.fd_tests ["plan", "past"] []
  g_tests : mg "tests" = some (.ref A.f_tests)
  F_level_of : Fun K "level_of" "level_of" s_level_of A.f_level_of A.fd_level_of
  b_level_of : Binds K A.fd_level_of ["plan", "row"] []
  g_level_of : mg "level_of" = some (.ref A.f_level_of)
  F_settled : Fun K "settled" "settled" s_settled A.f_settled A.fd_settled
  b_settled : Binds K A.fd_settled ["plan"] []
  g_settled : mg "settled" = some (.ref A.f_settled)
  F_law_mix : Fun K "_law_mix" "_law_mix" s_law_mix A.f_law_mix A.fd_law_mix
  b_law_mix : Binds K A.fd_law_mix ["_law_cell", "_law_turn"] []
  g_law_mix : mg "_law_mix" = some (.ref A.f_law_mix)
  F_law_source : Fun K "_law_source" "_law_source" s_law_source A.f_law_source A.fd_law_source
  b_law_source : Binds K A.fd_law_source ["_law_cell"] []
  g_law_source : mg "_law_source" = some (.ref A.f_law_source)
  F_law_draw : Fun K "_law_draw" "_law_draw" s_law_draw A.f_law_draw A.fd_law_draw
  b_law_draw : Binds K A.fd_law_draw ["_law_source_here", "_law_limit"] []
  g_law_draw : mg "_law_draw" = some (.ref A.f_law_draw)
  F_law_rows : Fun K "_law_rows" "_law_rows" s_law_rows A.f_law_rows A.fd_law_rows
  b_law_rows : Binds K A.fd_law_rows ["_law_source_here", "_law_days", "_law_many"] []
  g_law_rows : mg "_law_rows" = some (.ref A.f_law_rows)
  F_law_levels : Fun K "_law_levels" "_law_levels" s_law_levels A.f_law_levels A.fd_law_levels
  b_law_levels : Binds K A.fd_law_levels ["_law_plan", "_law_past_here"] []
  g_law_levels : mg "_law_levels" = some (.ref A.f_law_levels)
  F_law_due : Fun K "_law_due" "_law_due" s_law_due A.f_law_due A.fd_law_due
  b_law_due : Binds K A.fd_law_due ["_law_plan", "_law_past_here"] []
  g_law_due : mg "_law_due" = some (.ref A.f_law_due)
  F_law_first_unlike : Fun K "_law_first_unlike" "_law_first_unlike" s_law_first_unlike A.f_law_first_unlike A.fd_law_first_unlike
  b_law_first_unlike : Binds K A.fd_law_first_unlike ["_law_one", "_law_other"] []
  g_law_first_unlike : mg "_law_first_unlike" = some (.ref A.f_law_first_unlike)
  F_law_past : Fun K "_law_past" "_law_past" s_law_past A.f_law_past A.fd_law_past
  b_law_past : Binds K A.fd_law_past ["_law_source_here", "_law_plan"] []
  g_law_past : mg "_law_past" = some (.ref A.f_law_past)
  F_law_is_right : Fun K "_law_is_right" "_law_is_right" s_law_is_right A.f_law_is_right A.fd_law_is_right
  b_law_is_right : Binds K A.fd_law_is_right ["_law_source_here", "_law_plan", "_law_turns"] []
  g_law_is_right : mg "_law_is_right" = some (.ref A.f_law_is_right)
  F_law : Fun K "law" "law" s_law A.f_law A.fd_law
  b_law : Binds K A.fd_law ["_law_script"] []
  g_law : mg "law" = some (.ref A.f_law)
  m_abs : mg "abs" = none
  m_all : mg "all" = none
  m_bool : mg "bool" = none
  m_enumerate : mg "enumerate" = none
  m_int : mg "int" = none
  m_isinstance : mg "isinstance" = none
  m_len : mg "len" = none
  m_list : mg "list" = none
  m_max : mg "max" = none
  m_range : mg "range" = none
  m_repr : mg "repr" = none
  m_set : mg "set" = none
  m_sorted : mg "sorted" = none
  m_tuple : mg "tuple" = none
  m_zip : mg "zip" = none
  c_MAX_DAYS : mg "MAX_DAYS" = some (.int 100 A.t_MAX_DAYS)
  c_MAX_LEVELS : mg "MAX_LEVELS" = some (.int 1000 A.t_MAX_LEVELS)
  c_MAX_OWNED : mg "MAX_OWNED" = some (.int 12 A.t_MAX_OWNED)
/-! ### each def computes its function -/
section
variable {P : Program} {w : World} {K : PySem.W.Frag} {mg : Str → Option Value} {base : Heap} {C : CT} {A : Ad}
set_option maxHeartbeats 4000000 in
theorem ok_is_integer (T : Tx K mg A) : FnQ P w K mg base C 2 A.f_is_integer A.fd_is_integer ["value"] F_is_integer := by
  refine fq_of T.F_is_integer sc_is_integer fun cdv A' outer s H E hr hgu => ?_
  exact qss_one (qs_ret (qe_and (qe_isi rfl T.m_isinstance rfl T.m_int (by decide +kernel) (qe_v 0)) (qe_one (qe_not (qe_isi rfl T.m_isinstance rfl T.m_bool (by decide +kernel) (qe_v 0))))))
set_option maxHeartbeats 4000000 in
theorem ok_is_at_least (T : Tx K mg A) : FnQ P w K mg base C 3 A.f_is_at_least A.fd_is_at_least ["value", "low"] F_is_at_least := by
  have c_is_integer := ok_is_integer (P := P) (w := w) (base := base) (C := C) T
  refine fq_of T.F_is_at_least sc_is_at_least fun cdv A' outer s H E hr hgu => ?_
  exact qss_one (qs_ret (qe_and (qe_call c_is_integer (hr.mono (by decide)) hgu (takes_of rfl rfl rfl rfl) rfl T.g_is_integer T.F_is_integer.kp T.b_is_integer (qa_cons (qe_v 0) (qa_nil))) (qe_one (qe_cmp op_ge ok_ge (qe_v 0) (qe_v 1) rfl))))
set_option maxHeartbeats 4000000 in
theorem ok_is_between (T : Tx K mg A) : FnQ P w K mg base C 3 A.f_is_between A.fd_is_between ["value", "low", "high"] F_is_between := by
  have c_is_integer := ok_is_integer (P := P) (w := w) (base := base) (C := C) T
  refine fq_of T.F_is_between sc_is_between fun cdv A' outer s H E hr hgu => ?_
  exact qss_one (qs_ret (qe_and (qe_call c_is_integer (hr.mono (by decide)) hgu (takes_of rfl rfl rfl rfl) rfl T.g_is_integer T.F_is_integer.kp T.b_is_integer (qa_cons (qe_v 0) (qa_nil))) (qe_one (qe_chain op_le ok_le op_le ok_le (qe_v 1) (qe_v 0) (qe_v 2)))))
set_option maxHeartbeats 4000000 in
theorem ok_are_numbers (T : Tx K mg A) : FnQ P w K mg base C 4 A.f_are_numbers A.fd_are_numbers ["value"] F_are_numbers := by
  have c_is_at_least := ok_is_at_least (P := P) (w := w) (base := base) (C := C) T
  refine fq_of T.F_are_numbers sc_are_numbers fun cdv A' outer s H E hr hgu => ?_
  exact qss_one (qs_ret (qe_and (qe_isi rfl T.m_isinstance rfl T.m_tuple (by decide +kernel) (qe_v 0)) (qe_one (qe_callB (cr_all rfl) (.of1 ok_all) rfl T.m_all (by decide +kernel) (qa_cons (qe_lc rfl sc_are_numbers.nd (qi_seq (qe_v 0)) (blkOk_by (N := ["value", "entry"]) (sc := defScope s_are_numbers) (own := [("entry", 1)]) (by decide +kernel)) (fun _ _ _ _ _ => qg_name 1 sc_are_numbers.nd) (fun _ _ _ _ _ => qts_nil) (fun _ _ _ _ _ => qe_call c_is_at_least (hr.mono (by decide)) hgu takes_no rfl T.g_is_at_least T.F_is_at_least.kp T.b_is_at_least (qa_cons (qe_v 1) (qa_cons (qe_int) (qa_nil))))) (qa_nil))))))
set_option maxHeartbeats 4000000 in
theorem ok_is_entries (T : Tx K mg A) : FnQ P w K mg base C 2 A.f_is_entries A.fd_is_entries ["value"] F_is_entries := by
  refine fq_of T.F_is_entries sc_is_entries fun cdv A' outer s H E hr hgu => ?_
  exact qss_one (qs_ret (qe_and (qe_isi2 rfl T.m_isinstance rfl T.m_list (by decide +kernel) rfl T.m_tuple (by decide +kernel) (qe_v 0)) (qe_one (qe_chain op_le ok_le op_le ok_le (qe_int) (qe_callB call_len (.of1 ok_len) rfl T.m_len (by decide +kernel) (qa_cons (qe_v 0) (qa_nil))) (qe_gint rfl T.c_MAX_LEVELS)))))
set_option maxHeartbeats 4000000 in
theorem ok_is_row_of (T : Tx K mg A) : FnQ P w K mg base C 4 A.f_is_row_of A.fd_is_row_of ["value", "days"] F_is_row_of := by
  have c_is_between := ok_is_between (P := P) (w := w) (base := base) (C := C) T
  refine fq_of T.F_is_row_of sc_is_row_of fun cdv A' outer s H E hr hgu => ?_
  exact qss_cons (qs_if (qt_of (qw_or (qt_not (qt_val (qe_isi rfl T.m_isinstance rfl T.m_tuple (by decide +kernel) (qe_v 0)))) (qw_or1 (qt_cmp (op_neA hr.units) ok_neA (qe_callB call_len (.of1 ok_len) rfl T.m_len (by decide +kernel) (qa_cons (qe_v 0) (qa_nil))) (qe_v 1) rfl)))) (qss_one (qs_ret (qe_bl))) (qss_nil)) (qss_one (qs_ret (qe_callB (cr_all rfl) (.of1 ok_all) rfl T.m_all (by decide +kernel) (qa_cons (qe_lc rfl sc_is_row_of.nd (qi_seq (qe_v 0)) (blkOk_by (N := ["value", "days", "entry"]) (sc := defScope s_is_row_of) (own := [("entry", 2)]) (by decide +kernel)) (fun _ _ _ _ _ => qg_name 2 sc_is_row_of.nd) (fun _ _ _ _ _ => qts_nil) (fun _ _ _ _ _ => qe_call c_is_between (hr.mono (by decide)) hgu takes_no rfl T.g_is_between T.F_is_between.kp T.b_is_between (qa_cons (qe_v 2) (qa_cons (qe_int) (qa_cons (qe_gint rfl T.c_MAX_OWNED) (qa_nil)))))) (qa_nil)))))
set_option maxHeartbeats 4000000 in
theorem ok_require_rows (T : Tx K mg A) : FnQ P w K mg base C 5 A.f_require_rows A.fd_require_rows ["plan"] F_require_rows := by
  have c_is_entries := ok_is_entries (P := P) (w := w) (base := base) (C := C) T
  have c_is_row_of := ok_is_row_of (P := P) (w := w) (base := base) (C := C) T
  refine fq_of T.F_require_rows sc_require_rows fun cdv A' outer s H E hr hgu => ?_
  exact qss_cons (qs_if (qt_not (qt_val (qe_call c_is_entries (hr.mono (by decide)) hgu (takes_of rfl rfl rfl rfl) rfl T.g_is_entries T.F_is_entries.kp T.b_is_entries (qa_cons (qe_v 0) (qa_nil))))) (qss_never) (qss_nil)) (qss_cons (qs_asg (qe_if (qt_of (qw_and (qt_val (qe_isi rfl T.m_isinstance rfl T.m_tuple (by decide +kernel) (qe_ix ix_A ok_ix (qe_v 0) (qe_int)))) (qw_and1 (qt_cmp op_le ok_le (qe_callB call_len (.of1 ok_len) rfl T.m_len (by decide +kernel) (qa_cons (qe_ix ix_A ok_ix (qe_v 0) (qe_int)) (qa_nil))) (qe_gint rfl T.c_MAX_DAYS) rfl)))) (qe_callB call_len (.of1 ok_len) rfl T.m_len (by decide +kernel) (qa_cons (qe_ix ix_A ok_ix (qe_v 0) (qe_int)) (qa_nil))) (qe_un un_neg ok_neg (qe_int))) (qg_name 1 sc_require_rows.nd)) (qss_one (qs_forget [2, 3] (qs_pre [2, 3] (qs_for (passes_of rfl) rfl (qi_enum rfl T.m_enumerate (qe_v 0)) (qg_tup rfl (qgs_cons (qg_name 2 sc_require_rows.nd) (qgs_cons (qg_name 3 sc_require_rows.nd) (qgs_nil))) (hlen := len_cons (len_cons (len_nil)))) (qss_one (qs_forget [2, 3] (qs_if (qt_of (qw_or (qt_not (qt_val (qe_call c_is_row_of (hr.mono (by decide)) hgu (takes_of rfl rfl rfl rfl) rfl T.g_is_row_of T.F_is_row_of.kp T.b_is_row_of (qa_cons (qe_v 3) (qa_cons (qe_v 1) (qa_nil)))))) (qw_or1 (qt_of (qw_and (qt_cmp (op_gtA (units65 hr)) ok_gtA (qe_v 2) (qe_int) rfl) (qw_and1 (qt_cmp (op_geA hr.units0) ok_geA (qe_v 3) (qe_ix ix_A ok_ix (qe_v 0) (qe_bin op_sub ok_sub (qe_v 2) (qe_int))) rfl))))))) (qss_never) (qss_nil)))))))))
set_option maxHeartbeats 4000000 in
theorem ok_require_beginning (T : Tx K mg A) : FnQ P w K mg base C 5 A.f_require_beginning A.fd_require_beginning ["plan", "past"] F_require_beginning := by
  have c_are_numbers := ok_are_numbers (P := P) (w := w) (base := base) (C := C) T
  refine fq_of T.F_require_beginning sc_require_beginning fun cdv A' outer s H E hr hgu => ?_
  exact qss_one (qs_if (qt_of (qw_or (qt_not (qt_val (qe_call c_are_numbers (hr.mono (by decide)) hgu (takes_of rfl rfl rfl rfl) rfl T.g_are_numbers T.F_are_numbers.kp T.b_are_numbers (qa_cons (qe_v 1) (qa_nil))))) (qw_or1 (qt_cmp op_gt ok_gt (qe_callB call_len (.of1 ok_len) rfl T.m_len (by decide +kernel) (qa_cons (qe_v 1) (qa_nil))) (qe_callB call_len (.of1 ok_len) rfl T.m_len (by decide +kernel) (qa_cons (qe_ix ix_A ok_ix (qe_v 0) (qe_int)) (qa_nil))) rfl)))) (qss_never) (qss_nil))
set_option maxHeartbeats 4000000 in
theorem ok_levels_behind (T : Tx K mg A) : FnQ P w K mg base C 2 A.f_levels_behind A.fd_levels_behind ["plan", "past"] F_levels_behind := by
  refine fq_of T.F_levels_behind sc_levels_behind fun cdv A' outer s H E hr hgu => ?_
  exact qss_one (qs_ret (qe_lc rfl sc_levels_behind.nd (qi_enum rfl T.m_enumerate (qe_v 0)) (blkOk_by (N := ["plan", "past", "level", "row"]) (sc := defScope s_levels_behind) (own := [("level", 2), ("row", 3)]) (by decide +kernel)) (fun _ _ _ _ _ => qg_tup rfl (qgs_cons (qg_name 2 sc_levels_behind.nd) (qgs_cons (qg_name 3 sc_levels_behind.nd) (qgs_nil))) (hlen := len_cons (len_cons (len_nil)))) (fun _ _ _ _ _ => qts_one (qt_cmp (op_eqA hr.units) ok_eqA (qe_slice (qe_v 3) (qo_none) (qo_some (qe_callB call_len (.of1 ok_len) rfl T.m_len (by decide +kernel) (qa_cons (qe_v 1) (qa_nil))))) (qe_v 1) rfl)) (fun _ _ _ _ _ => qe_v 2)))
set_option maxHeartbeats 4000000 in
theorem ok_group (T : Tx K mg A) : FnQ P w K mg base C 6 A.f_group A.fd_group ["plan", "past"] F_group := by
  have c_levels_behind := ok_levels_behind (P := P) (w := w) (base := base) (C := C) T
  have c_require_beginning := ok_require_beginning (P := P) (w := w) (base := base) (C := C) T
  have c_require_rows := ok_require_rows (P := P) (w := w) (base := base) (C := C) T
  refine fq_of T.F_group sc_group fun cdv A' outer s H E hr hgu => ?_
  exact qss_cons (qs_expr (qe_call c_require_rows (hr.mono (by decide)) hgu (takes_of rfl rfl rfl rfl) rfl T.g_require_rows T.F_require_rows.kp T.b_require_rows (qa_cons (qe_v 0) (qa_nil)))) (qss_cons (qs_expr (qe_call c_require_beginning (hr.mono (by decide)) hgu (takes_of rfl rfl rfl rfl) rfl T.g_require_beginning T.F_require_beginning.kp T.b_require_beginning (qa_cons (qe_v 0) (qa_cons (qe_v 1) (qa_nil))))) (qss_cons (qs_asg (qe_call c_levels_behind (hr.mono (by decide)) hgu (takes_of rfl rfl rfl rfl) rfl T.g_levels_behind T.F_levels_behind.kp T.b_levels_behind (qa_cons (qe_v 0) (qa_cons (qe_v 1) (qa_nil)))) (qg_name 2 sc_group.nd)) (qss_one (qs_ret (qe_if (qt_cmp (op_neA hr.units) ok_neA (qe_v 2) (qe_lst (qa_nil)) rfl) (qe_tup (qa_cons (qe_ix ix_A ok_ix (qe_v 2) (qe_int)) (qa_cons (qe_ix ix_A ok_ix (qe_v 2) (qe_un un_neg ok_neg (qe_int))) (qa_nil)))) (qe_non))))))
set_option maxHeartbeats 4000000 in
theorem ok_tests_behind (T : Tx K mg A) : FnQ P w K mg base C 3 A.f_tests_behind A.fd_tests_behind ["plan", "past"] F_tests_behind := by
  have c_levels_behind := ok_levels_behind (P := P) (w := w) (base := base) (C := C) T
  refine fq_of T.F_tests_behind sc_tests_behind fun cdv A' outer s H E hr hgu => ?_
  exact qss_cons (qs_asg (qe_call c_levels_behind (hr.mono (by decide)) hgu (takes_of rfl rfl rfl rfl) rfl T.g_levels_behind T.F_levels_behind.kp T.b_levels_behind (qa_cons (qe_v 0) (qa_cons (qe_v 1) (qa_nil)))) (qg_name 2 sc_tests_behind.nd)) (qss_cons (qs_if (qt_cmp (op_eqA hr.units) ok_eqA (qe_v 2) (qe_lst (qa_nil)) rfl) (qss_one (qs_ret (qe_lstO (qa_nil)))) (qss_nil)) (qss_cons (qs_asg (qe_lc rfl sc_tests_behind.nd (qi_seq (qe_v 2)) (blkOk_by (N := ["plan", "past", "found", "numbers", "level", "least", "number"]) (sc := defScope s_tests_behind) (own := [("level", 4)]) (by decide +kernel)) (fun _ _ _ _ _ => qg_name 4 sc_tests_behind.nd) (fun _ _ _ _ _ => qts_nil) (fun _ _ _ _ _ => qe_ix ix_A ok_ix (qe_ix ix_A ok_ix (qe_v 0) (qe_v 4)) (qe_callB call_len (.of1 ok_len) rfl T.m_len (by decide +kernel) (qa_cons (qe_v 1) (qa_nil))))) (qg_name 3 sc_tests_behind.nd)) (qss_one (qs_ret (qe_lcO rfl sc_tests_behind.nd (qi_rng2 rfl T.m_range (qa_cons (qe_int) (qa_cons (qe_bin op_addA ok_add (qe_ix ix_A ok_ix (qe_v 3) (qe_int)) (qe_int)) (qa_nil)))) (blkOk_by (N := ["plan", "past", "found", "numbers", "level", "least", "number"]) (sc := defScope s_tests_behind) (own := [("least", 5)]) (by decide +kernel)) (fun _ _ _ _ _ => qg_name 5 sc_tests_behind.nd) (fun _ _ _ _ _ => qts_nil) (fun _ _ _ _ _ => qe_bin op_addA ok_add (qe_ix ix_A ok_ix (qe_v 2) (qe_int)) (qe_callB call_len (.of1 ok_len) rfl T.m_len (by decide +kernel) (qa_cons (qe_lc rfl sc_tests_behind.nd (qi_seq (qe_v 3)) (blkOk_by (N := ["plan", "past", "found", "numbers", "level", "least", "number"]) (sc := relS _ (defScope s_tests_behind)) (own := [("number", 6)]) (by decide +kernel)) (fun _ _ _ _ _ => qg_name 6 sc_tests_behind.nd) (fun _ _ _ _ _ => qts_one (qt_cmp op_ge ok_ge (qe_v 6) (qe_v 5) rfl)) (fun _ _ _ _ _ => qe_v 6)) (qa_nil)))))))))
set_option maxHeartbeats 4000000 in
theorem ok_tests (T : Tx K mg A) : FnQ P w K mg base C 6 A.f_tests A.fd_tests ["plan", "past"] F_tests := by
  have c_require_beginning := ok_require_beginning (P := P) (w := w) (base := base) (C := C) T
  have c_require_rows := ok_require_rows (P := P) (w := w) (base := base) (C := C) T
  have c_tests_behind := ok_tests_behind (P := P) (w := w) (base := base) (C := C) T
  refine fq_of T.F_tests sc_tests fun cdv A' outer s H E hr hgu => ?_
  exact qss_cons (qs_expr (qe_call c_require_rows (hr.mono (by decide)) hgu (takes_of rfl rfl rfl rfl) rfl T.g_require_rows T.F_require_rows.kp T.b_require_rows (qa_cons (qe_v 0) (qa_nil)))) (qss_cons (qs_expr (qe_call c_require_beginning (hr.mono (by decide)) hgu (takes_of rfl rfl rfl rfl) rfl T.g_require_beginning T.F_require_beginning.kp T.b_require_beginning (qa_cons (qe_v 0) (qa_cons (qe_v 1) (qa_nil))))) (qss_one (qs_ret (qe_if (qt_cmp op_lt ok_lt (qe_callB call_len (.of1 ok_len) rfl T.m_len (by decide +kernel) (qa_cons (qe_v 1) (qa_nil))) (qe_callB call_len (.of1 ok_len) rfl T.m_len (by decide +kernel) (qa_cons (qe_ix ix_A ok_ix (qe_v 0) (qe_int)) (qa_nil))) rfl) (qe_call c_tests_behind (hr.mono (by decide)) hgu (takes_of rfl rfl rfl rfl) rfl T.g_tests_behind T.F_tests_behind.kp T.b_tests_behind (qa_cons (qe_v 0) (qa_cons (qe_v 1) (qa_nil)))) (qe_lstO (qa_nil))))))
set_option maxHeartbeats 4000000 in
theorem ok_level_of (T : Tx K mg A) : FnQ P w K mg base C 6 A.f_level_of A.fd_level_of ["plan", "row"] F_level_of := by
  have c_are_numbers := ok_are_numbers (P := P) (w := w) (base := base) (C := C) T
  have c_require_rows := ok_require_rows (P := P) (w := w) (base := base) (C := C) T
  refine fq_of T.F_level_of sc_level_of fun cdv A' outer s H E hr hgu => ?_
  exact qss_cons (qs_expr (qe_call c_require_rows (hr.mono (by decide)) hgu (takes_of rfl rfl rfl rfl) rfl T.g_require_rows T.F_require_rows.kp T.b_require_rows (qa_cons (qe_v 0) (qa_nil)))) (qss_cons (qs_if (qt_of (qw_or (qt_not (qt_val (qe_call c_are_numbers (hr.mono (by decide)) hgu (takes_of rfl rfl rfl rfl) rfl T.g_are_numbers T.F_are_numbers.kp T.b_are_numbers (qa_cons (qe_v 1) (qa_nil))))) (qw_or1 (qt_cmp (op_neA hr.units) ok_neA (qe_callB call_len (.of1 ok_len) rfl T.m_len (by decide +kernel) (qa_cons (qe_v 1) (qa_nil))) (qe_callB call_len (.of1 ok_len) rfl T.m_len (by decide +kernel) (qa_cons (qe_ix ix_A ok_ix (qe_v 0) (qe_int)) (qa_nil))) rfl)))) (qss_never) (qss_nil)) (qss_one (qs_ret (qe_ix ix_A ok_ix (qe_bin op_addA ok_add (qe_lc rfl sc_level_of.nd (qi_enum rfl T.m_enumerate (qe_v 0)) (blkOk_by (N := ["plan", "row", "level", "one"]) (sc := defScope s_level_of) (own := [("level", 2), ("one", 3)]) (by decide +kernel)) (fun _ _ _ _ _ => qg_tup rfl (qgs_cons (qg_name 2 sc_level_of.nd) (qgs_cons (qg_name 3 sc_level_of.nd) (qgs_nil))) (hlen := len_cons (len_cons (len_nil)))) (fun _ _ _ _ _ => qts_one (qt_cmp (op_eqA hr.units) ok_eqA (qe_v 3) (qe_v 1) rfl)) (fun _ _ _ _ _ => qe_v 2)) (qe_lst (qa_cons (qe_non) (qa_nil)))) (qe_int)))))
set_option maxHeartbeats 4000000 in
theorem ok_settled (T : Tx K mg A) : FnQ P w K mg base C 6 A.f_settled A.fd_settled ["plan"] F_settled := by
  have c_require_rows := ok_require_rows (P := P) (w := w) (base := base) (C := C) T
  refine fq_of T.F_settled sc_settled fun cdv A' outer s H E hr hgu => ?_
  exact qss_cons (qs_expr (qe_call c_require_rows (hr.mono (by decide)) hgu (takes_of rfl rfl rfl rfl) rfl T.g_require_rows T.F_require_rows.kp T.b_require_rows (qa_cons (qe_v 0) (qa_nil)))) (qss_cons (qs_asg (qe_int) (qg_name 1 sc_settled.nd)) (qss_cons (qs_forget [] (qs_pre [] (qs_while 1000000000 (passes_of rfl) (qt_cmp op_lt ok_lt (qe_lenSc (room7 hr) rfl T.m_len rfl sc_settled.nd (qi_seq (qe_v 0)) (blkOk_by (N := ["plan", "days", "row"]) (sc := defScope s_settled) (own := [("row", 2)]) (by decide +kernel)) (fun _ _ _ _ _ => qg_name 2 sc_settled.nd) (fun _ _ _ _ _ => qts_nil) (fun _ _ _ _ _ => qe_slice (qe_v 2) (qo_none) (qo_some (qe_v 1)))) (qe_callB call_len (.of1 ok_len) rfl T.m_len (by decide +kernel) (qa_cons (qe_v 0) (qa_nil))) rfl) (qss_one (qs_forget [] (qs_aug 1 sc_settled.nd ip_add (qe_int))))))) (qss_one (qs_ret (qe_v 1)))))
set_option maxHeartbeats 4000000 in
theorem ok_law_mix (T : Tx K mg A) : FnQ P w K mg base C 2 A.f_law_mix A.fd_law_mix ["_law_cell", "_law_turn"] F_law_mix := by
  refine fq_of T.F_law_mix sc_law_mix fun cdv A' outer s H E hr hgu => ?_
  exact qss_cons (qs_asg (qe_bin op_addA ok_add (qe_bin op_modP ok_mod (qe_v 0) (qe_int)) (qe_bin op_mulT ok_mulT (qe_bin op_modP ok_mod (qe_bin op_fdivW ok_fdiv (qe_v 0) (qe_int)) (qe_int)) (qe_int))) (qg_name 2 sc_law_mix.nd)) (qss_cons (qs_asg (qe_bin op_modP ok_mod (qe_bin op_mulT ok_mulT (qe_bin op_addA ok_add (qe_bin op_addA ok_add (qe_v 2) (qe_bin op_mulT ok_mulT (qe_int) (qe_v 1))) (qe_int)) (qe_int)) (qe_int)) (qg_name 2 sc_law_mix.nd)) (qss_cons (qs_asg (qe_bin op_modP ok_mod (qe_bin op_mulT ok_mulT (qe_v 2) (qe_bin op_addA ok_add (qe_bin op_addA ok_add (qe_bin op_fdivW ok_fdiv (qe_v 2) (qe_int)) (qe_int)) (qe_v 1))) (qe_int)) (qg_name 2 sc_law_mix.nd)) (qss_one (qs_ret (qe_bin op_modP ok_mod (qe_bin op_mulT ok_mulT (qe_v 2) (qe_bin op_addA ok_add (qe_bin op_fdivW ok_fdiv (qe_v 2) (qe_int)) (qe_int))) (qe_int))))))
set_option maxHeartbeats 4000000 in
theorem ok_law_source (T : Tx K mg A) : FnQ P w K mg base C 2 A.f_law_source A.fd_law_source ["_law_cell"] F_law_source := by
  refine fq_of T.F_law_source sc_law_source fun cdv A' outer s H E hr hgu => ?_
  exact qss_one (qs_ret (qe_lstO (qa_cons (qe_bin op_mulT ok_mulT (qe_callB call_abs (.of1 ok_abs) rfl T.m_abs (by decide +kernel) (qa_cons (qe_v 0) (qa_nil))) (qe_callTy (T := "") call_int1 (.of1 ok_int) rfl T.m_int (by decide +kernel) (qa_cons (qe_cmp op_ge ok_ge (qe_callB call_abs (.of1 ok_abs) rfl T.m_abs (by decide +kernel) (qa_cons (qe_v 0) (qa_nil))) (qe_bin op_pow ok_pow (qe_int) (qe_int)) rfl) (qa_nil)))) (qa_cons (qe_callB call_abs (.of1 ok_abs) rfl T.m_abs (by decide +kernel) (qa_cons (qe_v 0) (qa_nil))) (qa_cons (qe_int) (qa_nil))))))
set_option maxHeartbeats 4000000 in
theorem ok_law_draw (T : Tx K mg A) : FnQ P w K mg base C 3 A.f_law_draw A.fd_law_draw ["_law_source_here", "_law_limit"] F_law_draw := by
  have c_law_mix := ok_law_mix (P := P) (w := w) (base := base) (C := C) T
  refine fq_of T.F_law_draw sc_law_draw fun cdv A' outer s H E hr hgu => ?_
  exact qss_cons (qs_if (qt_cmp op_gt ok_gt (qe_ix ix_A ok_ix (qe_v 0) (qe_int)) (qe_int) rfl) (qss_cons (qs_asg (qe_bin op_modP ok_mod (qe_ix ix_A ok_ix (qe_v 0) (qe_int)) (qe_v 1)) (qg_name 2 sc_law_draw.nd)) (qss_cons (qs_setI (qe_bin op_fdivW ok_fdiv (qe_ix ix_A ok_ix (qe_v 0) (qe_int)) (qe_v 1)) (qe_v 0) (qe_int)) (qss_one (qs_ret (qe_v 2))))) (qss_nil)) (qss_cons (qs_setI (qe_bin op_addA ok_add (qe_ix ix_A ok_ix (qe_v 0) (qe_int)) (qe_int)) (qe_v 0) (qe_int)) (qss_one (qs_ret (qe_bin op_modP ok_mod (qe_call c_law_mix (hr.mono (by decide)) hgu (takes_of rfl rfl rfl rfl) rfl T.g_law_mix T.F_law_mix.kp T.b_law_mix (qa_cons (qe_ix ix_A ok_ix (qe_v 0) (qe_int)) (qa_cons (qe_ix ix_A ok_ix (qe_v 0) (qe_int)) (qa_nil)))) (qe_v 1)))))
set_option maxHeartbeats 4000000 in
theorem ok_law_rows (T : Tx K mg A) : FnQ P w K mg base C 4 A.f_law_rows A.fd_law_rows ["_law_source_here", "_law_days", "_law_many"] F_law_rows := by
  have c_law_draw := ok_law_draw (P := P) (w := w) (base := base) (C := C) T
  refine fq_of T.F_law_rows sc_law_rows fun cdv A' outer s H E hr hgu => ?_
  exact qss_cons (qs_asg (qe_lstO (qa_nil)) (qg_name 3 sc_law_rows.nd)) (qss_cons (qs_fz 3 (qs_forget [4, 5, 6, 7] (qs_pre [4, 5, 6, 7] (qs_for (passes_of rfl) rfl (qi_rng1 rfl T.m_range (qa_cons (qe_v 2) (qa_nil))) (qg_name 4 sc_law_rows.nd) (qss_cons (qs_asg (qe_ix ix_A ok_ix (qe_lst (qa_cons (qe_int) (qa_cons (qe_int) (qa_cons (qe_int) (qa_cons (qe_int) (qa_nil)))))) (qe_call c_law_draw (hr.mono (by decide)) hgu (takes_of rfl rfl rfl rfl) rfl T.g_law_draw T.F_law_draw.kp T.b_law_draw (qa_cons (qe_v 0) (qa_cons (qe_int) (qa_nil))))) (qg_name 5 sc_law_rows.nd)) (qss_cons (qs_lc (i := 6) rfl sc_law_rows.nd rfl rfl (sw_true rfl rfl rfl (by decide +kernel)) (qi_rng1 rfl T.m_range (qa_cons (qe_v 1) (qa_nil))) (blkOk_by (N := ["_law_source_here", "_law_days", "_law_many", "_law_found", "_law_level", "_law_top", "_law_row", "_law_shared", "_law_day"]) (sc := defScope s_law_rows) (own := [("_law_day", 8)]) (by decide +kernel)) (fun _ _ _ _ _ => qg_name 8 sc_law_rows.nd) (fun _ _ _ _ _ => qts_nil) (fun _ _ _ _ _ => qe_call c_law_draw (hr.mono (by decide)) hgu takes_no rfl T.g_law_draw T.F_law_draw.kp T.b_law_draw (qa_cons (qe_v 0) (qa_cons (qe_v 5) (qa_nil))))) (qss_cons (qs_if (qt_cmp (op_neA hr.units) ok_neA (qe_v 3) (qe_lst (qa_nil)) rfl) (qss_cons (qs_asg (qe_call c_law_draw (hr.mono (by decide)) hgu (takes_of rfl rfl rfl rfl) rfl T.g_law_draw T.F_law_draw.kp T.b_law_draw (qa_cons (qe_v 0) (qa_cons (qe_bin op_addA ok_add (qe_v 1) (qe_int)) (qa_nil)))) (qg_name 7 sc_law_rows.nd)) (qss_one (qs_asg (qe_bin op_addA ok_add (qe_callTy (T := "") call_list_of (.of1 ok_list) rfl T.m_list (by decide +kernel) (qa_cons (qe_slice (qe_ix ix_A ok_ix (qe_v 3) (qe_call c_law_draw (hr.mono (by decide)) hgu (takes_of rfl rfl rfl rfl) rfl T.g_law_draw T.F_law_draw.kp T.b_law_draw (qa_cons (qe_v 0) (qa_cons (qe_callB call_len (.of1 ok_len) rfl T.m_len (by decide +kernel) (qa_cons (qe_v 3) (qa_nil))) (qa_nil))))) (qo_none) (qo_some (qe_v 7))) (qa_nil))) (qe_slice (qe_v 6) (qo_some (qe_v 7)) (qo_none))) (qg_name 6 sc_law_rows.nd)))) (qss_nil)) (qss_one (qs_forget [4, 5, 6, 7] (qs_expr (qe_meth1 PySem.F.slot_list_append PySem.F.type_list_append mt_append ok_append (qe_v 3) (qe_callTy (T := "") call_tuple_of (.of1 ok_tuple) rfl T.m_tuple (by decide +kernel) (qa_cons (qe_v 6) (qa_nil)))))))))))))) (qss_one (qs_ret (qe_revA (qe_sortS rfl (room70 hr) rfl T.m_sorted rfl T.m_set (qe_v 3))))))
set_option maxHeartbeats 4000000 in
theorem ok_law_levels (T : Tx K mg A) : FnQ P w K mg base C 2 A.f_law_levels A.fd_law_levels ["_law_plan", "_law_past_here"] F_law_levels := by
  refine fq_of T.F_law_levels sc_law_levels fun cdv A' outer s H E hr hgu => ?_
  exact qss_one (qs_ret (qe_lc rfl sc_law_levels.nd (qi_enum rfl T.m_enumerate (qe_v 0)) (blkOk_by (N := ["_law_plan", "_law_past_here", "_law_level", "_law_row"]) (sc := defScope s_law_levels) (own := [("_law_level", 2), ("_law_row", 3)]) (by decide +kernel)) (fun _ _ _ _ _ => qg_tup rfl (qgs_cons (qg_name 2 sc_law_levels.nd) (qgs_cons (qg_name 3 sc_law_levels.nd) (qgs_nil))) (hlen := len_cons (len_cons (len_nil)))) (fun _ _ _ _ _ => qts_one (qt_cmp (op_eqA hr.units) ok_eqA (qe_slice (qe_v 3) (qo_none) (qo_some (qe_callB call_len (.of1 ok_len) rfl T.m_len (by decide +kernel) (qa_cons (qe_v 1) (qa_nil))))) (qe_v 1) rfl)) (fun _ _ _ _ _ => qe_v 2)))
set_option maxHeartbeats 4000000 in
theorem ok_law_due (T : Tx K mg A) : FnQ P w K mg base C 3 A.f_law_due A.fd_law_due ["_law_plan", "_law_past_here"] F_law_due := by
  have c_law_levels := ok_law_levels (P := P) (w := w) (base := base) (C := C) T
  refine fq_of T.F_law_due sc_law_due fun cdv A' outer s H E hr hgu => ?_
  exact qss_cons (qs_asg (qe_call c_law_levels (hr.mono (by decide)) hgu (takes_of rfl rfl rfl rfl) rfl T.g_law_levels T.F_law_levels.kp T.b_law_levels (qa_cons (qe_v 0) (qa_cons (qe_v 1) (qa_nil)))) (qg_name 2 sc_law_due.nd)) (qss_cons (qs_asg (qe_lstO (qa_nil)) (qg_name 3 sc_law_due.nd)) (qss_cons (qs_fz 3 (qs_forget [4] (qs_pre [4] (qs_while 1000000000 (passes_of rfl) (qt_of (qw_and (qt_cmp (op_neA hr.units) ok_neA (qe_v 2) (qe_lst (qa_nil)) rfl) (qw_and (qt_cmp op_lt ok_lt (qe_callB call_len (.of1 ok_len) rfl T.m_len (by decide +kernel) (qa_cons (qe_v 1) (qa_nil))) (qe_callB call_len (.of1 ok_len) rfl T.m_len (by decide +kernel) (qa_cons (qe_ix ix_A ok_ix (qe_v 0) (qe_int)) (qa_nil))) rfl) (qw_and1 (qt_cmp op_gt ok_gt (qe_ix ix_A ok_ix (qe_ix ix_A ok_ix (qe_v 0) (qe_ix ix_A ok_ix (qe_v 2) (qe_int))) (qe_callB call_len (.of1 ok_len) rfl T.m_len (by decide +kernel) (qa_cons (qe_v 1) (qa_nil)))) (qe_callB call_len (.of1 ok_len) rfl T.m_len (by decide +kernel) (qa_cons (qe_v 3) (qa_nil))) rfl))))) (qss_cons (qs_lc (i := 4) rfl sc_law_due.nd rfl rfl (sw_true rfl rfl rfl (by decide +kernel)) (qi_seq (qe_v 2)) (blkOk_by (N := ["_law_plan", "_law_past_here", "_law_inside", "_law_found", "_law_below", "_law_level"]) (sc := defScope s_law_due) (own := [("_law_level", 5)]) (by decide +kernel)) (fun _ _ _ _ _ => qg_name 5 sc_law_due.nd) (fun _ _ _ _ _ => qts_one (qt_cmp op_le ok_le (qe_ix ix_A ok_ix (qe_ix ix_A ok_ix (qe_v 0) (qe_v 5)) (qe_callB call_len (.of1 ok_len) rfl T.m_len (by decide +kernel) (qa_cons (qe_v 1) (qa_nil)))) (qe_callB call_len (.of1 ok_len) rfl T.m_len (by decide +kernel) (qa_cons (qe_v 3) (qa_nil))) rfl)) (fun _ _ _ _ _ => qe_v 5)) (qss_one (qs_forget [4] (qs_expr (qe_meth1 PySem.F.slot_list_append PySem.F.type_list_append mt_append ok_append (qe_v 3) (qe_ix ix_A ok_ix (qe_bin op_addA ok_add (qe_v 4) (qe_lst (qa_cons (qe_bin op_addA ok_add (qe_ix ix_A ok_ix (qe_v 2) (qe_un un_neg ok_neg (qe_int))) (qe_int)) (qa_nil)))) (qe_int))))))))))) (qss_one (qs_ret (qe_v 3)))))
set_option maxHeartbeats 4000000 in
theorem ok_law_first_unlike (T : Tx K mg A) : FnQ P w K mg base C 2 A.f_law_first_unlike A.fd_law_first_unlike ["_law_one", "_law_other"] F_law_first_unlike := by
  refine fq_of T.F_law_first_unlike sc_law_first_unlike fun cdv A' outer s H E hr hgu => ?_
  exact qss_one (qs_ret (qe_ix ix_A ok_ix (qe_lc rfl sc_law_first_unlike.nd (qi_rng2 rfl T.m_range (qa_cons (qe_int) (qa_cons (qe_bin op_addA ok_add (qe_callB call_len (.of1 ok_len) rfl T.m_len (by decide +kernel) (qa_cons (qe_v 0) (qa_nil))) (qe_int)) (qa_nil)))) (blkOk_by (N := ["_law_one", "_law_other", "_law_day"]) (sc := defScope s_law_first_unlike) (own := [("_law_day", 2)]) (by decide +kernel)) (fun _ _ _ _ _ => qg_name 2 sc_law_first_unlike.nd) (fun _ _ _ _ _ => qts_one (qt_cmp (op_neA hr.units) ok_neA (qe_slice (qe_v 0) (qo_none) (qo_some (qe_v 2))) (qe_slice (qe_v 1) (qo_none) (qo_some (qe_v 2))) rfl)) (fun _ _ _ _ _ => qe_v 2)) (qe_int)))
set_option maxHeartbeats 4000000 in
theorem ok_law_past (T : Tx K mg A) : FnQ P w K mg base C 4 A.f_law_past A.fd_law_past ["_law_source_here", "_law_plan"] F_law_past := by
  have c_law_draw := ok_law_draw (P := P) (w := w) (base := base) (C := C) T
  refine fq_of T.F_law_past sc_law_past fun cdv A' outer s H E hr hgu => ?_
  exact qss_cons (qs_asg (qe_ix ix_A ok_ix (qe_v 1) (qe_call c_law_draw (hr.mono (by decide)) hgu (takes_of rfl rfl rfl rfl) rfl T.g_law_draw T.F_law_draw.kp T.b_law_draw (qa_cons (qe_v 0) (qa_cons (qe_callB call_len (.of1 ok_len) rfl T.m_len (by decide +kernel) (qa_cons (qe_v 1) (qa_nil))) (qa_nil))))) (qg_name 2 sc_law_past.nd)) (qss_cons (qs_asg (qe_slice (qe_v 2) (qo_none) (qo_some (qe_ix ix_A ok_ix (qe_lst (qa_cons (qe_call c_law_draw (hr.mono (by decide)) hgu (takes_of rfl rfl rfl rfl) rfl T.g_law_draw T.F_law_draw.kp T.b_law_draw (qa_cons (qe_v 0) (qa_cons (qe_bin op_addA ok_add (qe_callB call_len (.of1 ok_len) rfl T.m_len (by decide +kernel) (qa_cons (qe_v 2) (qa_nil))) (qe_int)) (qa_nil)))) (qa_cons (qe_callB call_len (.of1 ok_len) rfl T.m_len (by decide +kernel) (qa_cons (qe_v 2) (qa_nil))) (qa_nil)))) (qe_bin op_fdivW ok_fdiv (qe_call c_law_draw (hr.mono (by decide)) hgu (takes_of rfl rfl rfl rfl) rfl T.g_law_draw T.F_law_draw.kp T.b_law_draw (qa_cons (qe_v 0) (qa_cons (qe_int) (qa_nil)))) (qe_int))))) (qg_name 3 sc_law_past.nd)) (qss_cons (qs_if (qt_of (qw_and (qt_cmp (op_neA hr.units) ok_neA (qe_v 3) (qe_tup (qa_nil)) rfl) (qw_and1 (qt_cmp (op_eqA hr.units) ok_eqA (qe_call c_law_draw (hr.mono (by decide)) hgu (takes_of rfl rfl rfl rfl) rfl T.g_law_draw T.F_law_draw.kp T.b_law_draw (qa_cons (qe_v 0) (qa_cons (qe_int) (qa_nil)))) (qe_int) rfl)))) (qss_cons (qs_asg (qe_call c_law_draw (hr.mono (by decide)) hgu (takes_of rfl rfl rfl rfl) rfl T.g_law_draw T.F_law_draw.kp T.b_law_draw (qa_cons (qe_v 0) (qa_cons (qe_callB call_len (.of1 ok_len) rfl T.m_len (by decide +kernel) (qa_cons (qe_v 3) (qa_nil))) (qa_nil)))) (qg_name 4 sc_law_past.nd)) (qss_cons (qs_asg (qe_ix ix_A ok_ix (qe_lst (qa_cons (qe_bin op_addA ok_add (qe_ix ix_A ok_ix (qe_v 3) (qe_v 4)) (qe_int)) (qa_cons (qe_call c_law_draw (hr.mono (by decide)) hgu (takes_of rfl rfl rfl rfl) rfl T.g_law_draw T.F_law_draw.kp T.b_law_draw (qa_cons (qe_v 0) (qa_cons (qe_int) (qa_nil)))) (qa_cons (qe_bin op_pow ok_pow (qe_int) (qe_int)) (qa_nil))))) (qe_call c_law_draw (hr.mono (by decide)) hgu (takes_of rfl rfl rfl rfl) rfl T.g_law_draw T.F_law_draw.kp T.b_law_draw (qa_cons (qe_v 0) (qa_cons (qe_int) (qa_nil))))) (qg_name 5 sc_law_past.nd)) (qss_one (qs_asg (qe_bin op_addA ok_add (qe_bin op_addA ok_add (qe_slice (qe_v 3) (qo_none) (qo_some (qe_v 4))) (qe_tup (qa_cons (qe_v 5) (qa_nil)))) (qe_slice (qe_v 3) (qo_some (qe_bin op_addA ok_add (qe_v 4) (qe_int))) (qo_none))) (qg_name 3 sc_law_past.nd))))) (qss_nil)) (qss_one (qs_ret (qe_v 3)))))
set_option maxHeartbeats 4000000 in
theorem ok_law_is_right (T : Tx K mg A) : FnQ P w K mg base C 7 A.f_law_is_right A.fd_law_is_right ["_law_source_here", "_law_plan", "_law_turns"] F_law_is_right := by
  have c_law_due := ok_law_due (P := P) (w := w) (base := base) (C := C) T
  have c_law_first_unlike := ok_law_first_unlike (P := P) (w := w) (base := base) (C := C) T
  have c_law_levels := ok_law_levels (P := P) (w := w) (base := base) (C := C) T
  have c_law_past := ok_law_past (P := P) (w := w) (base := base) (C := C) T
  have c_group := ok_group (P := P) (w := w) (base := base) (C := C) T
  have c_level_of := ok_level_of (P := P) (w := w) (base := base) (C := C) T
  have c_settled := ok_settled (P := P) (w := w) (base := base) (C := C) T
  have c_tests := ok_tests (P := P) (w := w) (base := base) (C := C) T
  refine fq_of T.F_law_is_right sc_law_is_right fun cdv A' outer s H E hr hgu => ?_
  exact qss_cons (qs_asg (qe_callB (call_reprD hgu hr.units) (.of1 ok_repr) rfl T.m_repr (by decide +kernel) (qa_cons (qe_v 1) (qa_nil))) (qg_name 3 sc_law_is_right.nd)) (qss_cons (qs_forget [4, 6, 7, 8] (qs_pre [4, 6, 7, 8] (qs_for (passes_of rfl) rfl (qi_rng1 rfl T.m_range (qa_cons (qe_v 2) (qa_nil))) (qg_name 4 sc_law_is_right.nd) (qss_scope (qss_cons (qs_asg (qe_call c_law_past (hr.mono (by decide)) hgu (takes_of rfl rfl rfl rfl) rfl T.g_law_past T.F_law_past.kp T.b_law_past (qa_cons (qe_v 0) (qa_cons (qe_v 1) (qa_nil)))) (qg_name 6 sc_law_is_right.nd)) (qss_cons (qs_asg (qe_call c_law_levels (hr.mono (by decide)) hgu (takes_of rfl rfl rfl rfl) rfl T.g_law_levels T.F_law_levels.kp T.b_law_levels (qa_cons (qe_v 1) (qa_cons (qe_v 6) (qa_nil)))) (qg_name 7 sc_law_is_right.nd)) (qss_cons (qs_if (qt_cmp (op_neA hr.units) ok_neA (qe_call c_group (hr.mono (by decide)) hgu (takes_of rfl rfl rfl rfl) rfl T.g_group T.F_group.kp T.b_group (qa_cons (qe_v 1) (qa_cons (qe_v 6) (qa_nil)))) (qe_if (qt_cmp (op_eqA hr.units) ok_eqA (qe_v 7) (qe_lst (qa_nil)) rfl) (qe_non) (qe_tup (qa_cons (qe_ix ix_A ok_ix (qe_v 7) (qe_int)) (qa_cons (qe_ix ix_A ok_ix (qe_v 7) (qe_un un_neg ok_neg (qe_int))) (qa_nil))))) rfl) (qss_one (qs_ret (qe_bl))) (qss_nil)) (qss_cons (qs_asg (qe_call c_tests (hr.mono (by decide)) hgu (takes_of rfl rfl rfl rfl) rfl T.g_tests T.F_tests.kp T.b_tests (qa_cons (qe_v 1) (qa_cons (qe_v 6) (qa_nil)))) (qg_name 8 sc_law_is_right.nd)) (qss_cons (qs_if (qt_of (qw_or (qt_cmp (op_neA hr.units) ok_neA (qe_v 8) (qe_call c_law_due (hr.mono (by decide)) hgu (takes_of rfl rfl rfl rfl) rfl T.g_law_due T.F_law_due.kp T.b_law_due (qa_cons (qe_v 1) (qa_cons (qe_v 6) (qa_nil)))) rfl) (qw_or1 (qt_not (qt_val (qe_isi rfl T.m_isinstance rfl T.m_list (by decide +kernel) (qe_v 8))))))) (qss_one (qs_ret (qe_bl))) (qss_nil)) (qss_cons (qs_fz 8 (qs_expr (qe_meth1 PySem.F.slot_list_append PySem.F.type_list_append mt_append ok_append (qe_v 8) (qe_non)))) (qss_cons (qs_if (qt_cmp (op_neA hr.units) ok_neA (qe_call c_tests (hr.mono (by decide)) hgu (takes_of rfl rfl rfl rfl) rfl T.g_tests T.F_tests.kp T.b_tests (qa_cons (qe_callTy (T := "") call_tuple_of (.of1 ok_tuple) rfl T.m_tuple (by decide +kernel) (qa_cons (qe_v 1) (qa_nil))) (qa_cons (qe_v 6) (qa_nil)))) (qe_slice (qe_v 8) (qo_none) (qo_some (qe_un un_neg ok_neg (qe_int)))) rfl) (qss_one (qs_ret (qe_bl))) (qss_nil)) (qss_one (qs_forget [4, 6, 7, 8] (qs_if (qt_of (qw_and (qt_cmp (op_eqA hr.units) ok_eqA (qe_callB call_len (.of1 ok_len) rfl T.m_len (by decide +kernel) (qa_cons (qe_v 6) (qa_nil))) (qe_callB call_len (.of1 ok_len) rfl T.m_len (by decide +kernel) (qa_cons (qe_ix ix_A ok_ix (qe_v 1) (qe_int)) (qa_nil))) rfl) (qw_and1 (qt_cmp (op_neA hr.units) ok_neA (qe_call c_level_of (hr.mono (by decide)) hgu (takes_of rfl rfl rfl rfl) rfl T.g_level_of T.F_level_of.kp T.b_level_of (qa_cons (qe_callTy (T := "") call_tuple_of (.of1 ok_tuple) rfl T.m_tuple (by decide +kernel) (qa_cons (qe_v 1) (qa_nil))) (qa_cons (qe_v 6) (qa_nil)))) (qe_ix ix_A ok_ix (qe_bin op_addA ok_add (qe_v 7) (qe_lst (qa_cons (qe_non) (qa_nil)))) (qe_int)) rfl)))) (qss_one (qs_ret (qe_bl))) (qss_nil))))))))))))))) (qss_cons (qs_asg (qe_callB (cr_max rfl) (.of1 ok_max) rfl T.m_max (by decide +kernel) (qa_cons (qe_bin op_addA ok_add (qe_lst (qa_cons (qe_int) (qa_nil))) (qe_lc rfl sc_law_is_right.nd (qi_zip rfl T.m_zip (qe_v 1) (qe_slice (qe_v 1) (qo_some (qe_int)) (qo_none))) (blkOk_by (N := ["_law_source_here", "_law_plan", "_law_turns", "_law_kept", "_law_turn", "_law_days", "_law_past_here", "_law_inside", "_law_told", "_law_one", "_law_other"]) (sc := defScope s_law_is_right) (own := [("_law_one", 9), ("_law_other", 10)]) (by decide +kernel)) (fun _ _ _ _ _ => qg_tup rfl (qgs_cons (qg_name 9 sc_law_is_right.nd) (qgs_cons (qg_name 10 sc_law_is_right.nd) (qgs_nil))) (hlen := len_cons (len_cons (len_nil)))) (fun _ _ _ _ _ => qts_nil) (fun _ _ _ _ _ => qe_call c_law_first_unlike (hr.mono (by decide)) hgu takes_no rfl T.g_law_first_unlike T.F_law_first_unlike.kp T.b_law_first_unlike (qa_cons (qe_v 9) (qa_cons (qe_v 10) (qa_nil)))))) (qa_nil))) (qg_name 5 sc_law_is_right.nd)) (qss_one (qs_ret (qe_and (qe_cmp (op_eqA hr.units) ok_eqA (qe_call c_settled (hr.mono (by decide)) hgu (takes_of rfl rfl rfl rfl) rfl T.g_settled T.F_settled.kp T.b_settled (qa_cons (qe_v 1) (qa_nil))) (qe_v 5) rfl) (qe_and (qe_cmp (op_eqA hr.units) ok_eqA (qe_call c_settled (hr.mono (by decide)) hgu (takes_of rfl rfl rfl rfl) rfl T.g_settled T.F_settled.kp T.b_settled (qa_cons (qe_callTy (T := "") call_tuple_of (.of1 ok_tuple) rfl T.m_tuple (by decide +kernel) (qa_cons (qe_v 1) (qa_nil))) (qa_nil))) (qe_v 5) rfl) (qe_one (qe_cmp (op_eqA hr.units) ok_eqA (qe_callB (call_reprD hgu hr.units) (.of1 ok_repr) rfl T.m_repr (by decide +kernel) (qa_cons (qe_v 1) (qa_nil))) (qe_v 3) rfl))))))))
set_option maxHeartbeats 4000000 in
theorem ok_law (T : Tx K mg A) : FnQ P w K mg base C 8 A.f_law A.fd_law ["_law_script"] F_law := by
  have c_law_draw := ok_law_draw (P := P) (w := w) (base := base) (C := C) T
  have c_law_is_right := ok_law_is_right (P := P) (w := w) (base := base) (C := C) T
  have c_law_rows := ok_law_rows (P := P) (w := w) (base := base) (C := C) T
  have c_law_source := ok_law_source (P := P) (w := w) (base := base) (C := C) T
  have c_group := ok_group (P := P) (w := w) (base := base) (C := C) T
  have c_settled := ok_settled (P := P) (w := w) (base := base) (C := C) T
  have c_tests := ok_tests (P := P) (w := w) (base := base) (C := C) T
  refine fq_of T.F_law sc_law fun cdv A' outer s H E hr hgu => ?_
  exact qss_cons (qs_forget [1, 2] (qs_pre [1, 2] (qs_for (passes_of rfl) rfl (qi_seq (qe_bin op_addA ok_add (qe_lst (qa_cons (qe_int) (qa_nil))) (qe_slice (qe_v 0) (qo_none) (qo_some (qe_int))))) (qg_name 1 sc_law.nd) (qss_scope (qss_cons (qs_asg (qe_call c_law_source (hr.mono (by decide)) hgu (takes_of rfl rfl rfl rfl) rfl T.g_law_source T.F_law_source.kp T.b_law_source (qa_cons (qe_v 1) (qa_nil))) (qg_name 2 sc_law.nd)) (qss_one (qs_forget [1, 2] (qs_if (qt_not (qt_val (qe_call c_law_is_right (hr.mono (by decide)) hgu (takes_of rfl rfl rfl rfl) rfl T.g_law_is_right T.F_law_is_right.kp T.b_law_is_right (qa_cons (qe_v 2) (qa_cons (qe_call c_law_rows (hr.mono (by decide)) hgu (takes_of rfl rfl rfl rfl) rfl T.g_law_rows T.F_law_rows.kp T.b_law_rows (qa_cons (qe_v 2) (qa_cons (qe_call c_law_draw (hr.mono (by decide)) hgu (takes_of rfl rfl rfl rfl) rfl T.g_law_draw T.F_law_draw.kp T.b_law_draw (qa_cons (qe_v 2) (qa_cons (qe_int) (qa_nil)))) (qa_cons (qe_bin op_addA ok_add (qe_int) (qe_call c_law_draw (hr.mono (by decide)) hgu (takes_of rfl rfl rfl rfl) rfl T.g_law_draw T.F_law_draw.kp T.b_law_draw (qa_cons (qe_v 2) (qa_cons (qe_int) (qa_nil))))) (qa_nil))))) (qa_cons (qe_int) (qa_nil))))))) (qss_one (qs_ret (qe_bl))) (qss_nil))))))))) (qss_cons (qs_asg (qe_call c_law_source (hr.mono (by decide)) hgu (takes_of rfl rfl rfl rfl) rfl T.g_law_source T.F_law_source.kp T.b_law_source (qa_cons (qe_ix ix_A ok_ix (qe_bin op_addA ok_add (qe_lst (qa_cons (qe_int) (qa_nil))) (qe_v 0)) (qe_un un_neg ok_neg (qe_int))) (qa_nil))) (qg_name 2 sc_law.nd)) (qss_cons (qs_if (qt_not (qt_val (qe_call c_law_is_right (hr.mono (by decide)) hgu (takes_of rfl rfl rfl rfl) rfl T.g_law_is_right T.F_law_is_right.kp T.b_law_is_right (qa_cons (qe_v 2) (qa_cons (qe_call c_law_rows (hr.mono (by decide)) hgu (takes_of rfl rfl rfl rfl) rfl T.g_law_rows T.F_law_rows.kp T.b_law_rows (qa_cons (qe_v 2) (qa_cons (qe_bin op_addA ok_add (qe_int) (qe_call c_law_draw (hr.mono (by decide)) hgu (takes_of rfl rfl rfl rfl) rfl T.g_law_draw T.F_law_draw.kp T.b_law_draw (qa_cons (qe_v 2) (qa_cons (qe_int) (qa_nil))))) (qa_cons (qe_bin op_addA ok_add (qe_int) (qe_call c_law_draw (hr.mono (by decide)) hgu (takes_of rfl rfl rfl rfl) rfl T.g_law_draw T.F_law_draw.kp T.b_law_draw (qa_cons (qe_v 2) (qa_cons (qe_int) (qa_nil))))) (qa_nil))))) (qa_cons (qe_int) (qa_nil))))))) (qss_one (qs_ret (qe_bl))) (qss_nil)) (qss_one (qs_ret (qe_and (qe_cmp (op_eqA hr.units) ok_eqA (qe_call c_settled (hr.mono (by decide)) hgu (takes_of rfl rfl rfl rfl) rfl T.g_settled T.F_settled.kp T.b_settled (qa_cons (qe_lst (qa_cons (qe_tup (qa_nil)) (qa_nil))) (qa_nil))) (qe_int) rfl) (qe_and (qe_cmp (op_eqA hr.units) ok_eqA (qe_call c_group (hr.mono (by decide)) hgu (takes_of rfl rfl rfl rfl) rfl T.g_group T.F_group.kp T.b_group (qa_cons (qe_lst (qa_cons (qe_tup (qa_nil)) (qa_nil))) (qa_cons (qe_tup (qa_nil)) (qa_nil)))) (qe_tup (qa_cons (qe_int) (qa_cons (qe_int) (qa_nil)))) rfl) (qe_one (qe_cmp (op_eqA hr.units) ok_eqA (qe_call c_tests (hr.mono (by decide)) hgu (takes_of rfl rfl rfl rfl) rfl T.g_tests T.F_tests.kp T.b_tests (qa_cons (qe_lst (qa_cons (qe_tup (qa_nil)) (qa_nil))) (qa_cons (qe_tup (qa_nil)) (qa_nil)))) (qe_lst (qa_nil)) rfl))))))))
end
end My

set_option Elab.async false
set_option linter.all false
set_option maxRecDepth 100000
set_option maxHeartbeats 4000000
namespace My
open PySem PySem.Spec PyProof.Rows L2 Bk
/-! ### the law's draws -/
theorem fd_small {i j : Int} (h0 : 0 < j) (h : j < 2 ^ 62) : fdivOk i j = true := by
  have a : j.natAbs < 2 ^ 62 := by omega
  have b : j.natAbs.log2 < 62 := by
    by_cases z : j.natAbs = 0
    · omega
    · exact (Nat.log2_lt z).mpr a
  simp [fdivOk, h0]
  omega
def mixD (b c : Int) : Int :=
  let f := b % 2147483647 + b / 2147483647 % 1000003 * 7919
  let f := (f + 15485863 * c + 104729) * 48271 % 2147483629
  let f := f * (f / 1009 + 69621 + c) % 2147483587
  f * (f / 2003 + 40692) % 2147483563
theorem m_mix (b c : Int) : F_law_mix [.int b, .int c] [] = .ok (.int (mixD b c)) [] := by
  have r1 : ∀ x : Int, mulOk x 7919 = true := fun x => mulOk_r x (by decide) (by decide)
  have r2 : ∀ x : Int, mulOk x 48271 = true := fun x => mulOk_r x (by decide) (by decide)
  have r3 : ∀ x : Int, mulOk 15485863 x = true := fun x => mulOk_l x (by decide) (by decide)
  have r5 : ∀ x y : Int, mulOk (x % 2147483629) y = true := fun x y => mulOk_m x y (by decide) (by decide)
  have r6 : ∀ x y : Int, mulOk (x % 2147483587) y = true := fun x y => mulOk_m x y (by decide) (by decide)
  have d1 : ∀ x : Int, fdivOk x 2147483647 = true := fun x => fd_small (by decide) (by decide)
  have d2 : ∀ x : Int, fdivOk x 1009 = true := fun x => fd_small (by decide) (by decide)
  have d3 : ∀ x : Int, fdivOk x 2003 = true := fun x => fd_small (by decide) (by decide)
  simp [F_law_mix, b_law_mix, runF, e_mul, r1, r2, r3, r5, r6, d1, d2, d3, fin, cutOk, retR, below]
  rfl
abbrev Src3 := Int × Int × Int
def srcO (s : Src3) : MO := .lst [.int s.1, .int s.2.1, .int s.2.2]
@[simp] theorem srcO_bl (m : Nat) (s : Src3) : belowO m (srcO s) = true := rfl
def tk (s : Src3) (n : Int) : Int := if 0 < s.1 then s.1 % n else mixD s.2.1 (s.2.2 + 1) % n
def tn (s : Src3) (n : Int) : Src3 := if 0 < s.1 then (s.1 / n, s.2.1, s.2.2) else (s.1, s.2.1, s.2.2 + 1)
theorem m_draw (s : Src3) {n : Int} (h0 : 0 < n) (h : n < 4611686018427387904) : F_law_draw [.ref 0, .int n] [srcO s] = .ok (.int (tk s n)) [srcO (tn s n)] := by
  have dn : ∀ i : Int, fdivOk i n = true := fun i => fd_small h0 (by omega)
  have c := fun M => c_flat (m_mix s.2.1 (s.2.2 + 1)) M (by simp) (by simp)
  simp only [tk, tn]
  by_cases q : 0 < s.1
  · simp [F_law_draw, b_law_draw, runF, srcO, listD, setR, ixN, dn, h0, q]
  · simp [F_law_draw, b_law_draw, runF, srcO, listD, setR, ixN, dn, h0, q, c]
theorem tk_lo (s : Src3) {n : Int} (h : 0 < n) : 0 ≤ tk s n := by
  unfold tk
  split <;> exact Int.emod_nonneg _ (by omega)
theorem tk_hi (s : Src3) {n : Int} (h : 0 < n) : tk s n < n := by
  unfold tk
  split <;> exact Int.emod_lt_of_pos _ h
theorem t_0 (s : Src3) (n : Int) (R : List MO) (h0 : 0 < n) (h : n < 4611686018427387904) : callF F_law_draw [.ref 0, .int n] (srcO s :: R) = .ok (.int (tk s n)) (srcO (tn s n) :: R) := by
  have e : lentOk [srcO s] = true := rfl
  have e2 : ∀ t : Src3, belowO 0 (srcO t) = true := fun t => rfl
  simp [callF, lendK, getAll, flatArgs, below, e, e2, lendA, m_draw s h0 h, backD, setAll]
def absZ (v : Int) : Int := if 0 ≤ v then v else -v
def src0 (v : Int) : Src3 := ((v.natAbs : Int) * (if 1000000000000000000 ≤ (v.natAbs : Int) then 1 else 0), (v.natAbs : Int), 0)
theorem m_source (v : Int) : F_law_source [.int v] [] = .ok (.ref 0) [srcO (src0 v)] := by
  have p : powOk 10 18 = true := by decide
  have e : (10 : Int) ^ (18 : Int).toNat = 1000000000000000000 := rfl
  have m0 : mulOk (v.natAbs : Int) 0 = true := mulOk_r _ (by decide) (by decide)
  have m1 : mulOk (v.natAbs : Int) 1 = true := mulOk_r _ (by decide) (by decide)
  have ab : ∀ M, dAbs M (.int v) = some (.int (v.natAbs : Int)) := fun M => by
    simp
    split <;> omega
  unfold src0
  generalize (v.natAbs : Int) = z at *
  by_cases q : (1000000000000000000 : Int) ≤ z
  · simp [F_law_source, b_law_source, runF, ab, p, e, q, e_mul, m1, srcO]
  · simp [F_law_source, b_law_source, runF, ab, p, e, q, e_mul, m0, srcO]
theorem c_source (v : Int) (M : List MO) : callF F_law_source [.int v] M = .ok (.ref M.length) (M ++ [srcO (src0 v)]) := by
  simp [callF, lendK, getAll, flatArgs, below, lentOk, lendA, m_source, backD, setAll, srcO, belowO, belows]
end My

set_option Elab.async false
set_option linter.all false
set_option maxRecDepth 100000
set_option maxHeartbeats 4000000
namespace My
open PySem PySem.Spec PyProof.Rows L2 Bk
/-! ### numbers -/
theorem m_isint (i : Int) : F_is_integer [.int i] [] = .ok (.bl true) [] := by
  simp [F_is_integer, b_is_integer, runF]
theorem m_atleast (i lo : Int) : F_is_at_least [.int i, .int lo] [] = .ok (.bl (decide (lo ≤ i))) [] := by
  have c := fun M => c_flat (m_isint i) M (by simp) (by simp)
  simp [F_is_at_least, b_is_at_least, runF, c]
theorem m_between (i lo hi : Int) : F_is_between [.int i, .int lo, .int hi] [] = .ok (.bl (decide (lo ≤ i ∧ i ≤ hi))) [] := by
  have c := fun M => c_flat (m_isint i) M (by simp) (by simp)
  by_cases h : lo ≤ i
  · by_cases h' : i ≤ hi <;> simp [F_is_between, b_is_between, runF, c, h, h']
  · simp [F_is_between, b_is_between, runF, c, h]
theorem c_between (i lo hi : Int) (M : List MO) : callF F_is_between [.int i, .int lo, .int hi] M = .ok (.bl (decide (lo ≤ i ∧ i ≤ hi))) M := c_flat (m_between i lo hi) M (by simp) (by simp)
theorem c_atleast (i lo : Int) (M : List MO) : callF F_is_at_least [.int i, .int lo] M = .ok (.bl (decide (lo ≤ i))) M := c_flat (m_atleast i lo) M (by simp) (by simp)
end My

set_option Elab.async false
set_option linter.all false
set_option maxRecDepth 100000
set_option maxHeartbeats 4000000
namespace My
open PySem PySem.Spec PyProof.Rows L2 Bk
theorem backD_any {ks : List Nat} {n : Nat} {d : D} (h : below 0 d = true) : backD ks n d = some d := by
  cases d with
  | ref k => simp [below] at h
  | _ => simp [backD, h]
theorem c_lend1 {F : List D → List MO → Bk.R D} {ds : List D} {d : D} {o o' : MO} {k : Nat} {M : List MO} (h : F (.ref 0 :: ds) [o] = .ok d [o']) (hk : M[k]? = some o) (ho : isDead o = false) (hb : belowO 0 o = true) (hb' : belowO 0 o' = true) (ha : belows 0 ds = true) (hd : below 0 d = true) : callF F (.ref k :: ds) M = .ok d (M.set k o') := by
  have l1 := lendK_nil ha
  have l2 : lendA 1 ds = ds := lendA_nil ha
  have l3 := flatArgs_of ha
  simp [callF, lendK, l1, l2, l3, getAll, hk, flatArgs, lentOk, ho, hb, lendA, h, hb', backD_any hd, setAll]
theorem inR_i {i : Int} (h0 : 0 ≤ i) (h : i ≤ 100000) : Bk.inR i = true := inR_of (by omega) (by omega)
theorem big_i {i : Int} (h0 : 0 ≤ i) (h : i ≤ 100000) : -9223372036854775808 ≤ i ∧ i < 9223372036854775808 := ⟨by omega, by omega⟩
theorem cutD_from {ds : List D} {n : Nat} : Bk.cutD ds (some (n : Int)) none = ds.drop n := by
  unfold Bk.cutD
  rw [HT.sIx_none, HT.sIx_nat]
  by_cases h : n ≤ ds.length
  · rw [Nat.min_eq_left h, List.take_of_length_le (by simp)]
  · rw [Nat.min_eq_right (by omega), List.drop_eq_nil_of_le (by omega), List.drop_eq_nil_of_le (by omega)]
    simp
theorem intR_up : ∀ (n : Nat) (lo : Int), intR (lo + 1) n = (intR lo n).map (· + 1)
  | 0, _ => rfl
  | n + 1, lo => by simp [intR, intR_up n]
theorem intR_sorted : ∀ (n : Nat) (lo : Int), (intR lo n).Pairwise (· < ·)
  | 0, _ => .nil
  | n + 1, lo => List.pairwise_cons.mpr ⟨fun y hy => by have := mem_intR.mp hy; omega, intR_sorted n _⟩
theorem zip_take_long {α β : Type} : ∀ (a : List α) (b : List β) (k : Nat), b.length ≤ k → (a.take k).zip b = a.zip b
  | [], _, _, _ => by simp
  | _ :: _, [], _, _ => by simp
  | x :: a, y :: b, 0, h => by simp at h
  | x :: a, y :: b, k + 1, h => by simp [zip_take_long a b k (by simpa using h)]
theorem zip_take_in {α β : Type} : ∀ (a : List α) (b e : List β) (k : Nat), k ≤ b.length → (a.take k).zip (b ++ e) = (a.take k).zip b
  | _, _, _, 0, _ => by simp
  | [], _, _, _ + 1, _ => by simp
  | _ :: _, [], _, k + 1, h => by simp at h
  | x :: a, y :: b, e, k + 1, h => by simp [zip_take_in a b e k (by simpa using h)]
/-! ### one number more -/
theorem zip_snoc {α β : Type} : ∀ (a : List α) (b : List β) (k : β) (p : α), a[b.length]? = some p → a.zip (b ++ [k]) = a.zip b ++ [(p, k)]
  | [], b, k, p, h => by simp at h
  | x :: a, [], k, p, h => by
    have : x = p := by simpa using h
    subst this
    simp
  | x :: a, y :: b, k, p, h => by
    have := zip_snoc a b k p (by simpa using h)
    simp [this]
theorem take_zip1 {α β : Type} : ∀ (a : List α) (b : List β) (k : Nat), (a.zip b).take k = (a.take k).zip b
  | [], _, _ => by simp
  | _ :: _, [], _ => by simp
  | _ :: _, _ :: _, 0 => by simp
  | x :: a, y :: b, k + 1 => by simp [take_zip1 a b k]
theorem minI_le : ∀ {is : List Int}, is ≠ [] → minI is ∈ is ∧ ∀ y ∈ is, minI is ≤ y
  | [], h => absurd rfl h
  | [i], _ => ⟨by simp [minI], fun y hy => by
      have e : y = i := by simpa using hy
      rw [e]
      exact Int.le_refl i⟩
  | i :: j :: r, _ => by
    obtain ⟨h1, h2⟩ := minI_le (is := j :: r) (by simp)
    have e : minI (i :: j :: r) = if i ≤ minI (j :: r) then i else minI (j :: r) := rfl
    rw [e]
    split
    · rename_i q
      refine ⟨by simp, fun y hy => ?_⟩
      rcases List.mem_cons.mp hy with z | z
      · omega
      · have := h2 y z
        omega
    · rename_i q
      refine ⟨List.mem_cons_of_mem _ h1, fun y hy => ?_⟩
      rcases List.mem_cons.mp hy with z | z
      · omega
      · exact h2 y z
theorem ints_bl (f : Int → Int) (l : List Int) : belows 0 (l.map fun d => D.int (f d)) = true := by
  have := belows_ints 0 (l.map f)
  rw [List.map_map] at this
  exact this
end My

set_option Elab.async false
set_option linter.all false
set_option maxRecDepth 100000
set_option maxHeartbeats 4000000
namespace My
open PySem PySem.Spec PyProof.Rows L2 Bk
/-! ### plans: rows in falling order -/
structure Pl (d : Nat) (rs : List (List Int)) : Prop where
  ne : rs ≠ []
  few : rs.length ≤ 900
  days : d ≤ 100
  len : ∀ r ∈ rs, r.length = d
  nums : ∀ r ∈ rs, ∀ n ∈ r, 0 ≤ n ∧ n ≤ 12
  fall : rs.Pairwise (fun a b => b < a)
/-- the levels whose rows begin with a past -/
def lvF (p : List Int) : Nat → List (List Int) → List Nat
  | _, [] => []
  | i, r :: rs => if r.take p.length = p then i :: lvF p (i + 1) rs else lvF p (i + 1) rs
def lv (rs : List (List Int)) (p : List Int) : List Nat := lvF p 0 rs
theorem lvF_app (p : List Int) : ∀ (a b : List (List Int)) (i : Nat), lvF p i (a ++ b) = lvF p i a ++ lvF p (i + a.length) b
  | [], b, i => rfl
  | r :: a, b, i => by
    rw [List.cons_append, lvF, lvF, lvF_app p a b (i + 1), List.length_cons, Nat.add_assoc, Nat.add_comm 1 a.length]
    split <;> rfl
theorem lvF_all (p : List Int) : ∀ (a : List (List Int)) (i : Nat), (∀ r ∈ a, r.take p.length = p) → lvF p i a = List.range' i a.length
  | [], i, _ => rfl
  | r :: a, i, h => by
    rw [lvF, if_pos (h r (by simp)), lvF_all p a (i + 1) fun r hr => h r (by simp [hr])]
    rfl
theorem lvF_none (p : List Int) : ∀ (a : List (List Int)) (i : Nat), (∀ r ∈ a, r.take p.length ≠ p) → lvF p i a = []
  | [], i, _ => rfl
  | r :: a, i, h => by rw [lvF, if_neg (h r (by simp)), lvF_none p a (i + 1) fun r hr => h r (by simp [hr])]
theorem mem_lvF (p : List Int) : ∀ (a : List (List Int)) (i j : Nat), j ∈ lvF p i a ↔ ∃ k r, a[k]? = some r ∧ j = i + k ∧ r.take p.length = p
  | [], i, j => by simp [lvF]
  | r :: a, i, j => by
    have ih := mem_lvF p a (i + 1) j
    have key : (∃ k r', (r :: a)[k]? = some r' ∧ j = i + k ∧ r'.take p.length = p) ↔ (j = i ∧ r.take p.length = p) ∨ ∃ k r', a[k]? = some r' ∧ j = i + 1 + k ∧ r'.take p.length = p := by
      constructor
      · rintro ⟨k, r', h1, h2, h3⟩
        cases k with
        | zero =>
          have : r = r' := by simpa using h1
          subst this
          exact .inl ⟨by omega, h3⟩
        | succ k => exact .inr ⟨k, r', by simpa using h1, by omega, h3⟩
      · rintro (⟨h1, h2⟩ | ⟨k, r', h1, h2, h3⟩)
        · exact ⟨0, r, rfl, by omega, h2⟩
        · exact ⟨k + 1, r', by simpa using h1, by omega, h3⟩
    rw [key, lvF]
    by_cases c : r.take p.length = p
    · rw [if_pos c, List.mem_cons, ih]
      simp [c]
    · rw [if_neg c, ih]
      simp [c]
theorem mem_lv {rs : List (List Int)} {p : List Int} {j : Nat} : j ∈ lv rs p ↔ ∃ r, rs[j]? = some r ∧ r.take p.length = p := by
  unfold lv
  rw [mem_lvF]
  constructor
  · rintro ⟨k, r, h1, h2, h3⟩
    have : j = k := by omega
    subst this
    exact ⟨r, h1, h3⟩
  · rintro ⟨r, h1, h2⟩
    exact ⟨j, r, h1, by omega, h2⟩
/-! the order of rows and their beginnings -/
theorem lt_take : ∀ (k : Nat) {a b : List Int}, a < b → a.take k = b.take k ∨ a.take k < b.take k
  | 0, a, b, _ => by simp
  | k + 1, [], [], h => absurd h (List.lt_irrefl _)
  | k + 1, [], y :: b, h => .inr (by simp)
  | k + 1, x :: a, [], h => by simp at h
  | k + 1, x :: a, y :: b, h => by
    rw [List.take_succ_cons, List.take_succ_cons]
    rw [List.cons_lt_cons_iff] at h ⊢
    rcases h with h | ⟨rfl, h⟩
    · exact .inr (.inl h)
    · rcases lt_take k h with e | e
      · exact .inl (by rw [e])
      · exact .inr (.inr ⟨rfl, e⟩)
theorem lt_anti {a b : List Int} (h1 : a < b) (h2 : b < a) : False := List.lt_irrefl a (List.lt_trans h1 h2)
/-- a row between two that begin alike begins so too -/
theorem take_between {k : Nat} {a b c : List Int} (h1 : c < b) (h2 : b < a) (e : a.take k = c.take k) : b.take k = a.take k := by
  rcases lt_take k h2 with x | x
  · exact x
  · rcases lt_take k h1 with y | y
    · rw [e, y]
    · rw [e] at x
      exact (lt_anti x y).elim
/-- of two rows that begin alike the greater one has no lesser number -/
theorem nth_fall : ∀ (k : Nat) {a b : List Int}, b < a → a.take k = b.take k → k < a.length → k < b.length → b.getD k 0 ≤ a.getD k 0
  | 0, x :: a, y :: b, h, _, _, _ => by
    rw [List.cons_lt_cons_iff] at h
    rcases h with h | ⟨rfl, h⟩
    · simp; omega
    · simp
  | k + 1, x :: a, y :: b, h, e, h1, h2 => by
    rw [List.take_succ_cons, List.take_succ_cons] at e
    injection e with e1 e2
    subst e1
    rw [List.cons_lt_cons_iff] at h
    rcases h with h | ⟨_, h⟩
    · omega
    · simpa using nth_fall k h e2 (by simpa using h1) (by simpa using h2)
  | _, [], _, _, _, h1, _ => by simp at h1
  | _, _ :: _, [], _, _, _, h2 => by simp at h2
/-- the rows that begin with a past stand side by side -/
theorem parts {rs : List (List Int)} (hf : rs.Pairwise (fun a b => b < a)) (p : List Int) : ∃ u v w : List (List Int), rs = u ++ v ++ w ∧ (∀ r ∈ u, r.take p.length ≠ p) ∧ (∀ r ∈ v, r.take p.length = p) ∧ (∀ r ∈ w, r.take p.length ≠ p) := by
  induction rs with
  | nil => exact ⟨[], [], [], rfl, by simp, by simp, by simp⟩
  | cons r rs ih =>
    obtain ⟨h1, h2⟩ := List.pairwise_cons.mp hf
    obtain ⟨u, v, w, e, hu, hv, hw⟩ := ih h2
    by_cases c : r.take p.length = p
    · cases v with
      | nil =>
        refine ⟨[], [r], u ++ w, by rw [e]; simp, by simp, by simpa using c, fun q hq => ?_⟩
        rcases List.mem_append.mp hq with z | z
        · exact hu q z
        · exact hw q z
      | cons v0 v =>
        cases u with
        | nil =>
          refine ⟨[], r :: v0 :: v, w, by rw [e]; simp, by simp, fun q hq => ?_, hw⟩
          rcases List.mem_cons.mp hq with z | z
          · rw [z]; exact c
          · exact hv q z
        | cons u0 u =>
          exfalso
          have m0 : u0 ∈ rs := by rw [e]; simp
          have l1 : u0 < r := h1 u0 m0
          have l2 : v0 < u0 := by
            rw [e] at h2
            have h3 : (u0 :: (u ++ (v0 :: v) ++ w)).Pairwise (fun a b => b < a) := h2
            exact (List.pairwise_cons.mp h3).1 v0 (by simp)
          have := take_between (k := p.length) l2 l1 (by rw [c, hv v0 (by simp)])
          exact hu u0 (by simp) (this.trans c)
    · refine ⟨r :: u, v, w, by rw [e]; simp, fun q hq => ?_, hv, hw⟩
      rcases List.mem_cons.mp hq with z | z
      · rw [z]; exact c
      · exact hu q z
theorem lv_parts {u v w : List (List Int)} {p : List Int} (hu : ∀ r ∈ u, r.take p.length ≠ p) (hv : ∀ r ∈ v, r.take p.length = p) (hw : ∀ r ∈ w, r.take p.length ≠ p) : lv (u ++ v ++ w) p = List.range' u.length v.length := by
  unfold lv
  rw [lvF_app, lvF_app, lvF_none p u 0 hu, lvF_all p v _ hv, lvF_none p w _ hw]
  simp
/-! how many numbers are at least so great -/
def cge (xs : List Int) (k : Int) : Nat := (xs.filter fun x => decide (k ≤ x)).length
theorem cge_fall {xs : List Int} (h : xs.Pairwise (fun a b => b ≤ a)) (k : Int) : ∀ j, (hj : j < xs.length) → (k ≤ xs[j] ↔ j < cge xs k) := by
  induction xs with
  | nil => intro j hj; simp at hj
  | cons x xs ih =>
    obtain ⟨h1, h2⟩ := List.pairwise_cons.mp h
    intro j hj
    by_cases c : k ≤ x
    · have e : cge (x :: xs) k = cge xs k + 1 := by simp [cge, c]
      rw [e]
      cases j with
      | zero => simp [c]
      | succ j =>
        have := ih h2 j (by simpa using hj)
        simp only [List.getElem_cons_succ]
        omega
    · have e : cge (x :: xs) k = 0 := by
        unfold cge
        rw [List.length_eq_zero_iff, List.filter_eq_nil_iff]
        intro y hy
        rcases List.mem_cons.mp hy with z | z
        · rw [z]; simpa using c
        · have := h1 y z
          simp
          omega
      rw [e]
      cases j with
      | zero => simp; omega
      | succ j =>
        have hj' : j < xs.length := by simpa using hj
        have := h1 xs[j] (List.getElem_mem hj')
        simp only [List.getElem_cons_succ]
        omega
theorem cge_le (xs : List Int) (k : Int) : cge xs k ≤ xs.length := List.length_filter_le _ _
end My

set_option Elab.async false
set_option linter.all false
set_option maxRecDepth 100000
set_option maxHeartbeats 4000000
namespace My
open PySem PySem.Spec PyProof.Rows L2 Bk
/-! ### tests and settled days, plainly -/
/-- the numbers behind a past, level by level -/
def nmb (rs : List (List Int)) (p : List Int) : List Int := (lv rs p).map fun l => (rs.getD l []).getD p.length 0
/-- the tests of a plan -/
def tst (rs : List (List Int)) (p : List Int) : List Int := match lv rs p with
  | [] => []
  | a :: _ => (intR 1 ((nmb rs p).getD 0 0).toNat).map fun j => (a : Int) + (cge (nmb rs p) j : Nat)
/-- the same, piece by piece -/
def belw (rs : List (List Int)) (p : List Int) (j : Int) : List Nat := (lv rs p).filter fun l => decide ((rs.getD l []).getD p.length 0 ≤ j)
theorem lv_range {d : Nat} {rs : List (List Int)} (h : Pl d rs) (p : List Int) : ∃ a m, lv rs p = List.range' a m ∧ a + m ≤ rs.length ∧ ∀ j, a ≤ j → j < a + m → ∃ r, rs[j]? = some r ∧ r.take p.length = p := by
  obtain ⟨u, v, w, rfl, hu, hv, hw⟩ := parts h.fall p
  refine ⟨u.length, v.length, lv_parts hu hv hw, by simp only [List.length_append]; omega, fun j h1 h2 => ?_⟩
  have hj : j - u.length < v.length := by omega
  refine ⟨v[j - u.length], ?_, hv _ (List.getElem_mem hj)⟩
  rw [List.append_assoc, List.getElem?_append_right h1, List.getElem?_append_left hj, List.getElem?_eq_getElem hj]
theorem nmb_fall {d : Nat} {rs : List (List Int)} (h : Pl d rs) {p : List Int} (hp : p.length < d) : (nmb rs p).Pairwise (fun a b => b ≤ a) := by
  obtain ⟨a, m, e, hm, hr⟩ := lv_range h p
  unfold nmb
  rw [e, List.pairwise_map]
  refine List.Pairwise.imp_of_mem (fun {i j} hi hj hij => ?_) (List.pairwise_lt_range' (s := a) (n := m) (step := 1))
  have hi' := List.mem_range'_1.mp hi
  have hj' := List.mem_range'_1.mp hj
  obtain ⟨r1, e1, t1⟩ := hr i hi'.1 hi'.2
  obtain ⟨r2, e2, t2⟩ := hr j hj'.1 hj'.2
  have l1 := h.len r1 (List.mem_of_getElem? e1)
  have l2 := h.len r2 (List.mem_of_getElem? e2)
  have lt : r2 < r1 := by
    obtain ⟨b1, c1⟩ := List.getElem?_eq_some_iff.mp e1
    obtain ⟨b2, c2⟩ := List.getElem?_eq_some_iff.mp e2
    have := List.pairwise_iff_getElem.mp h.fall i j b1 b2 hij
    rw [c1, c2] at this
    exact this
  have g1 : rs.getD i [] = r1 := by rw [List.getD_eq_getElem?_getD, e1]; rfl
  have g2 : rs.getD j [] = r2 := by rw [List.getD_eq_getElem?_getD, e2]; rfl
  rw [g1, g2]
  exact nth_fall p.length lt (t1.trans t2.symm) (by omega) (by omega)
theorem filter_range (P : Nat → Bool) (c : Nat) : ∀ (m a : Nat), (∀ j, j < m → (P (a + j) = true ↔ c ≤ j)) → (List.range' a m).filter P = List.range' (a + c) (m - c) := by
  intro m
  induction m generalizing c with
  | zero => intro a _; simp
  | succ m ih =>
    intro a h
    rw [List.range'_succ]
    cases c with
    | zero =>
      have h0 : P a = true := (h 0 (Nat.succ_pos _)).mpr (Nat.le_refl _)
      have := ih 0 (a + 1) fun j hj => by
        have := h (j + 1) (Nat.succ_lt_succ hj)
        rw [show a + 1 + j = a + (j + 1) by omega, this]
        simp
      rw [List.filter_cons_of_pos h0, this]
      simp only [Nat.add_zero, Nat.sub_zero]
      rw [← List.range'_succ]
    | succ c =>
      have h0 : ¬ P a = true := fun z => by
        have := (h 0 (Nat.succ_pos _)).mp z
        omega
      have := ih c (a + 1) fun j hj => by
        have := h (j + 1) (Nat.succ_lt_succ hj)
        rw [show a + 1 + j = a + (j + 1) by omega, this]
        omega
      rw [List.filter_cons_of_neg h0, this]
      congr 1 <;> omega
/-- the first level whose number is at most j, or the one behind the last -/
theorem below_first {d : Nat} {rs : List (List Int)} (h : Pl d rs) {p : List Int} (hp : p.length < d) {a m : Nat} (e : lv rs p = List.range' a (m + 1)) (j : Int) : ((belw rs p j).map fun (l : Nat) => (l : Int)) ++ [((a + m : Nat) : Int) + 1] ≠ [] ∧ (((belw rs p j).map fun (l : Nat) => (l : Int)) ++ [((a + m : Nat) : Int) + 1])[0]? = some ((a : Int) + (cge (nmb rs p) (j + 1) : Nat)) := by
  have hl : (nmb rs p).length = m + 1 := by unfold nmb; rw [e]; simp
  have cl := cge_le (nmb rs p) (j + 1)
  have hb : belw rs p j = List.range' (a + cge (nmb rs p) (j + 1)) (m + 1 - cge (nmb rs p) (j + 1)) := by
    unfold belw
    rw [e]
    refine filter_range _ _ _ _ fun i hi => ?_
    have key := cge_fall (nmb_fall h hp) (j + 1) i (by omega)
    have g : (nmb rs p)[i]'(by omega) = (rs.getD (a + i) []).getD p.length 0 := by
      unfold nmb
      simp only [e, List.getElem_map, List.getElem_range', Nat.one_mul]
    rw [g] at key
    rw [decide_eq_true_eq]
    omega
  refine ⟨by simp, ?_⟩
  rw [hb]
  by_cases c : cge (nmb rs p) (j + 1) = m + 1
  · rw [c]
    simp
    omega
  · rw [show m + 1 - cge (nmb rs p) (j + 1) = (m - cge (nmb rs p) (j + 1)) + 1 by omega, List.range'_succ]
    simp
/-! settled -/
/-- the first day on which two rows differ -/
def fdy : List Int → List Int → Nat
  | x :: a, y :: b => if x = y then fdy a b + 1 else 1
  | _, _ => 0
theorem fdy_spec : ∀ {a b : List Int}, a.length = b.length → a ≠ b → 1 ≤ fdy a b ∧ fdy a b ≤ a.length ∧ ∀ d, (a.take d ≠ b.take d ↔ fdy a b ≤ d)
  | [], [], _, h => absurd rfl h
  | [], _ :: _, e, _ => by simp at e
  | _ :: _, [], e, _ => by simp at e
  | x :: a, y :: b, e, h => by
    unfold fdy
    by_cases c : x = y
    · subst c
      have h' : a ≠ b := fun z => h (by rw [z])
      obtain ⟨h1, h2, h3⟩ := fdy_spec (by simpa using e) h'
      rw [if_pos rfl]
      refine ⟨by omega, by simp; omega, fun d => ?_⟩
      cases d with
      | zero => simp
      | succ d =>
        rw [List.take_succ_cons, List.take_succ_cons]
        have key := h3 d
        constructor
        · intro z
          have q : a.take d ≠ b.take d := fun w => z (by rw [w])
          have := key.mp q
          omega
        · intro z w
          injection w with _ w
          exact (key.mpr (by omega)) w
    · rw [if_neg c]
      refine ⟨Nat.le_refl _, by simp, fun d => ?_⟩
      cases d with
      | zero => simp
      | succ d =>
        rw [List.take_succ_cons, List.take_succ_cons]
        simp [c]
/-- the least number of days after which all rows differ -/
def mxF : List (List Int) → Nat
  | a :: b :: rs => max (fdy a b) (mxF (b :: rs))
  | _ => 0
theorem mxF_le {d : Nat} : ∀ {rs : List (List Int)}, (∀ r ∈ rs, r.length = d) → rs.Pairwise (fun a b => b < a) → mxF rs ≤ d
  | [], _, _ => Nat.zero_le _
  | [_], _, _ => Nat.zero_le _
  | a :: b :: rs, hl, hf => by
    have h1 := (List.pairwise_cons.mp hf).1 b (by simp)
    have ne : a ≠ b := fun e => by rw [e] at h1; exact List.lt_irrefl _ h1
    have := fdy_spec (a := a) (b := b) (by rw [hl a (by simp), hl b (by simp)]) ne
    have l := hl a (by simp)
    have ih := mxF_le (d := d) (rs := b :: rs) (fun r hr => hl r (by simp [hr])) (List.pairwise_cons.mp hf).2
    rw [show mxF (a :: b :: rs) = max (fdy a b) (mxF (b :: rs)) from rfl]
    omega
/-- with so many days all beginnings differ, and only then -/
theorem mxF_spec {d : Nat} (k : Nat) : ∀ {rs : List (List Int)}, (∀ r ∈ rs, r.length = d) → rs.Pairwise (fun a b => b < a) → ((rs.map (·.take k)).Nodup ↔ mxF rs ≤ k)
  | [], _, _ => by simp [mxF]
  | [_], _, _ => by simp [mxF]
  | a :: b :: rs, hl, hf => by
    obtain ⟨h1, h2⟩ := List.pairwise_cons.mp hf
    have hb := h1 b (by simp)
    have ne : a ≠ b := fun e => by rw [e] at hb; exact List.lt_irrefl _ hb
    obtain ⟨f1, f2, f3⟩ := fdy_spec (a := a) (b := b) (by rw [hl a (by simp), hl b (by simp)]) ne
    have ih := mxF_spec (d := d) k (rs := b :: rs) (fun r hr => hl r (by simp [hr])) h2
    have f4 := f3 k
    rw [List.map_cons, List.nodup_cons, ih, show mxF (a :: b :: rs) = max (fdy a b) (mxF (b :: rs)) from rfl]
    have key : (a.take k ∉ (b :: rs).map (·.take k)) ↔ a.take k ≠ b.take k := by
      constructor
      · intro h e
        exact h (by rw [e]; simp)
      · intro h m
        obtain ⟨c, hc, e⟩ := List.mem_map.mp m
        rcases List.mem_cons.mp hc with z | z
        · rw [z] at e
          exact h e.symm
        · have l1 := (List.pairwise_cons.mp h2).1 c z
          exact h (take_between (k := k) l1 hb e.symm).symm
    rw [key, f4]
    omega
theorem uniqR_len : ∀ rs : List (List Int), (uniqR rs).length ≤ rs.length ∧ ((uniqR rs).length = rs.length ↔ rs.Nodup)
  | [] => by simp [uniqR]
  | r :: rs => by
    obtain ⟨h1, h2⟩ := uniqR_len rs
    unfold uniqR
    by_cases c : r ∈ rs
    · rw [if_pos c]
      refine ⟨by simp; omega, ?_⟩
      rw [List.nodup_cons, List.length_cons]
      constructor
      · intro z; omega
      · intro z; exact absurd c z.1
    · rw [if_neg c]
      refine ⟨by simp; omega, ?_⟩
      rw [List.nodup_cons, List.length_cons, List.length_cons]
      simp [c, ← h2]
end My

set_option Elab.async false
set_option linter.all false
set_option maxRecDepth 100000
set_option maxHeartbeats 8000000
namespace My
open PySem PySem.Spec PyProof.Rows L2 Bk
/-! ### the program's functions of plans -/
abbrev rowT (r : List Int) : D := .tup (r.map D.int)
def planD (t : Bool) (rs : List (List Int)) : D := if t = true then .tup (rs.map rowT) else .lst (rs.map rowT)
abbrev rowTP (r : List Int) : PyData := .tuple (r.map PyData.int)
theorem rowT_dt (n : Nat) (r : List Int) : Dt (n + 1) (rowT r) (rowTP r) := (Dts.ints n r).tup
theorem rowsT_dt (n : Nat) (rs : List (List Int)) : Dts (n + 1) (rs.map rowT) (rs.map rowTP) := .map _ fun r _ => rowT_dt n r
@[simp] theorem rowsT_below (m : Nat) (rs : List (List Int)) : belows m (rs.map rowT) = true := (rowsT_dt 0 rs).belows
@[simp] theorem planD_below (m : Nat) (t : Bool) (rs : List (List Int)) : below m (planD t rs) = true := by cases t <;> simp [planD]
@[simp] theorem planD_items (M : List MO) (t : Bool) (rs : List (List Int)) : itemsD M (planD t rs) = some (rs.map rowT) := by cases t <;> rfl
@[simp] theorem planD_seq (t : Bool) (rs : List (List Int)) : seqD (planD t rs) = some (rs.map rowT) := by cases t <;> rfl
@[simp] theorem planD_len (M : List MO) (t : Bool) (rs : List (List Int)) : dLen M (planD t rs) = some (.int rs.length) := by cases t <;> simp [planD]
@[simp] theorem planD_isi (M : List MO) (t : Bool) (rs : List (List Int)) : dIsiT ["list", "tuple"] M (planD t rs) = some (.bl true) := by cases t <;> rfl
theorem planD_ix (M : List MO) (t : Bool) (rs : List (List Int)) {i : Nat} {r : List Int} (h : rs[i]? = some r) : dIx M (planD t rs) (.int (i : Nat)) = some (rowT r) := by
  rw [e_ix, planD_items, Option.bind_some]
  refine (Bk.atI_nat _ _).trans ?_
  rw [List.getElem?_map, h]
  rfl
theorem rowT_ix (M : List MO) (r : List Int) {i : Nat} (h : i < r.length) : dIx M (rowT r) (.int (i : Nat)) = some (.int (r.getD i 0)) := by
  rw [e_ix, itemsD_t, Option.bind_some]
  refine (Bk.atI_nat _ _).trans ?_
  simp [h]
theorem row_eqv : ∀ a b : List Int, PyData.eqvAll (a.map PyData.int) (b.map PyData.int) = decide (a = b)
  | [], [] => by simp [PyData.eqvAll]
  | [], _ :: _ => by simp [PyData.eqvAll]
  | _ :: _, [] => by simp [PyData.eqvAll]
  | x :: a, y :: b => by
    simp only [List.map_cons, PyData.eqvAll, row_eqv a b, List.cons.injEq, Bool.decide_and]
    congr 1
theorem rowT_eqP (M : List MO) (a b : List Int) : eqP M (rowT a) (rowT b) = some (decide (a = b)) := by
  rw [eqP_of (rowT_dt 0 a) (rowT_dt 0 b) (Dt.deref (rowT_dt 0 a)) (Dt.deref (rowT_dt 0 b)) (by decide) (by decide)]
  exact congrArg some ((by simp [PyData.eqv] : PyData.eqv (rowTP a) (rowTP b) = PyData.eqvAll (a.map PyData.int) (b.map PyData.int)).trans (row_eqv a b))
theorem rowT_eq (M : List MO) (a b : List Int) : dEqA M (rowT a) (rowT b) = some (.bl (decide (a = b))) := dEqA_p (x := rowT a) (rowT_eqP M a b) (fun _ h => by cases h)
theorem rowT_ne (M : List MO) (a b : List Int) : dNeA M (rowT a) (rowT b) = some (.bl !(decide (a = b))) := dNeA_p (x := rowT a) (rowT_eqP M a b) (fun _ h => by cases h)
theorem rowT_cut (M : List MO) (r : List Int) (k : Nat) : dCut M none (some (k : Int)) (rowT r) = some (rowT (r.take k)) := by
  show some (D.tup (Bk.cutD (r.map D.int) none (some (k : Int)))) = _
  rw [cutD_upto, ← List.map_take]
theorem m_nums (ns : List Int) (hl : ns.length ≤ 1000) (h : ∀ n ∈ ns, 0 ≤ n) : F_are_numbers [rowT ns] [] = .ok (.bl true) [] := by
  have key := lcL_map (gg := gTo 1) (ge := le_are_numbers_1) (Γ := [some (.tup (ns.map D.int)), none]) (M := []) (f := fun _ => .bl true) (ns.map D.int) [] (by rw [List.length_map]; exact Nat.le_trans (by simpa using hl) (by decide)) fun d hd => by
    obtain ⟨i, hi, rfl⟩ := List.mem_map.mp hd
    exact ⟨_, rfl, by simp [le_are_numbers_1, c_atleast, h i hi]⟩
  have e : (ns.map D.int).map (fun _ => D.bl true) = (ns.map fun _ => true).map D.bl := by simp
  have q : ((ns.map fun _ => true).all id) = true := by simp
  rw [e, List.nil_append] at key
  simp [F_are_numbers, b_are_numbers, runF, key, dAll, ofBls, blsD_map, -List.map_map]
theorem m_entries (t : Bool) {rs : List (List Int)} (h1 : rs ≠ []) (h2 : rs.length ≤ 1000) : F_is_entries [planD t rs] [] = .ok (.bl true) [] := by
  have l1 : 1 ≤ rs.length := List.length_pos_iff.mpr h1
  have a1 : (1 : Int) ≤ rs.length := by omega
  have a2 : (rs.length : Int) ≤ 1000 := by omega
  simp [F_is_entries, b_is_entries, runF, a1, a2]
theorem m_rowof {r : List Int} {d : Nat} (hl : r.length = d) (hd : d ≤ 100) (h : ∀ n ∈ r, 0 ≤ n ∧ n ≤ 12) : F_is_row_of [rowT r, .int (d : Nat)] [] = .ok (.bl true) [] := by
  have key := lcL_map (gg := gTo 2) (ge := le_is_row_of_1) (Γ := [some (.tup (r.map D.int)), some (.int (d : Nat)), none]) (M := []) (f := fun _ => .bl true) (r.map D.int) [] (by rw [List.length_map]; exact Nat.le_trans (by simpa using (show r.length ≤ 1000 by omega)) (by decide)) fun x hx => by
    obtain ⟨i, hi, rfl⟩ := List.mem_map.mp hx
    exact ⟨_, rfl, by simp [le_is_row_of_1, c_between, h i hi]⟩
  have e : (r.map D.int).map (fun _ => D.bl true) = (r.map fun _ => true).map D.bl := by simp
  have q : ((r.map fun _ => true).all id) = true := by simp
  rw [e, List.nil_append] at key
  have ln : ∀ M, dLen M (rowT r) = some (.int d) := fun M => by rw [e_lenT, List.length_map, hl]
  simp [-e_lenT, F_is_row_of, b_is_row_of, runF, ln, key, dAll, ofBls, blsD_map, -List.map_map]
theorem lt_split : ∀ {a b : List Int}, a.length = b.length → b < a → ∃ j, j < b.length ∧ (∀ m, m < j → b.getD m 0 = a.getD m 0) ∧ b.getD j 0 < a.getD j 0
  | [], [], _, h => absurd h (List.lt_irrefl _)
  | [], _ :: _, e, _ => by simp at e
  | _ :: _, [], e, _ => by simp at e
  | x :: a, y :: b, e, h => by
    rw [List.cons_lt_cons_iff] at h
    rcases h with h | ⟨rfl, h⟩
    · exact ⟨0, by simp, fun m hm => absurd hm (Nat.not_lt_zero _), by simpa using h⟩
    · obtain ⟨j, h1, h2, h3⟩ := lt_split (by simpa using e) h
      refine ⟨j + 1, by simpa using h1, fun m hm => ?_, by simpa using h3⟩
      cases m with
      | zero => simp
      | succ m => simpa using h2 m (by omega)
theorem m_reqrows (t : Bool) {d : Nat} {rs : List (List Int)} (h : Pl d rs) : F_require_rows [planD t rs] [] = .ok .non [] := by
  have hf := h.few
  have hd := h.days
  have ce := c_flat (m_entries t h.ne (by omega)) [] (by simp) (by simp)
  obtain ⟨r0, rs', e0⟩ := List.exists_cons_of_ne_nil h.ne
  have i0 : ∀ M, dIx M (planD t rs) (.int 0) = some (rowT r0) := fun M => planD_ix M t rs (i := 0) (by rw [e0]; rfl)
  have l0 : r0.length = d := h.len r0 (by rw [e0]; simp)
  have ln : ∀ M, dLen M (rowT r0) = some (.int d) := fun M => by rw [e_lenT, List.length_map, l0]
  have hd' : (d : Int) ≤ 100 := by omega
  have lp : ∀ (post pre : List (List Int)), pre ++ post = rs → gForL (gToT (gToCons (gTo 2) (gToCons (gTo 3) (gToNil)))) lb_require_rows_1 (enumL ((pre.length : Nat) : Int) (post.map rowT)) [some (planD t rs), some (.int d), none, none] [] = .nx [some (planD t rs), some (.int d), none, none] [] := by
    intro post
    induction post with
    | nil => intro pre _; simp [enumL]
    | cons r post ih =>
      intro pre e
      have hr : r ∈ rs := by rw [← e]; simp
      have ih' := ih (pre ++ [r]) (by rw [← e]; simp)
      have e3 : (((pre ++ [r]).length : Nat) : Int) = (pre.length : Nat) + 1 := by simp
      rw [e3] at ih'
      have cr := fun M => c_flat (m_rowof (h.len r hr) hd (h.nums r hr)) M (by simp) (by simp)
      rw [List.map_cons, enumL]
      refine (forL_cons (Γ1 := [some (planD t rs), some (.int d), some (.int (pre.length : Nat)), some (rowT r)]) (by simp) ?_).trans ih'
      cases pre with
      | nil =>
        simp [-e_ix, lb_require_rows_1, cr]
      | cons p0 pre =>
        obtain ⟨q, hq⟩ : ∃ q, rs[pre.length]? = some q := ⟨_, List.getElem?_eq_getElem (by rw [← e]; simp; omega)⟩
        have ix := fun M => planD_ix M t rs hq
        have sb : (((p0 :: pre).length : Nat) : Int) - 1 = (pre.length : Nat) := by simp
        have lt : r < q := by
          obtain ⟨b1, c1⟩ := List.getElem?_eq_some_iff.mp hq
          have b2 : pre.length + 1 < rs.length := by rw [← e]; simp
          have := List.pairwise_iff_getElem.mp h.fall pre.length (pre.length + 1) b1 b2 (by omega)
          rw [c1] at this
          have er : rs[pre.length + 1] = r := by
            have : rs[pre.length + 1]? = some r := by
              rw [← e, List.getElem?_append_right (by simp)]
              simp
            exact (List.getElem?_eq_some_iff.mp this).2
          rw [er] at this
          exact this
        obtain ⟨j, j1, j2, j3⟩ := lt_split (by rw [h.len q (List.mem_of_getElem? hq), h.len r hr]) lt
        have ge := fun M => (e_geT M r q).trans (congrArg (fun b => some (D.bl b)) (geI_less j1 (by rw [h.len q (List.mem_of_getElem? hq), ← h.len r hr]; exact j1) j2 j3))
        have p1 : (0 : Int) < (pre.length : Int) + 1 := by omega
        simp only [List.length_cons] at sb ⊢
        simp [-e_ix, lb_require_rows_1, cr, p1, ix, ge]
  have lp0 := lp rs [] rfl
  have lp1 : gForL (gToT (gToCons (gTo 2) (gToCons (gTo 3) (gToNil)))) lb_require_rows_1 (enumL 0 (rs.map rowT)) [some (planD t rs), some (.int d), none, none] [] = _ := lp0
  have sq := planD_seq t rs
  generalize planD t rs = PD at *
  simp [-e_ix, -e_lenT, F_require_rows, b_require_rows, runF, ce, i0, ln, hd', sq, lp1]
theorem c_reqrows (t : Bool) {d : Nat} {rs : List (List Int)} (h : Pl d rs) (M : List MO) : callF F_require_rows [planD t rs] M = .ok .non M := c_flat (m_reqrows t h) M (by simp) (by simp)
/-- a past of a plan -/
structure OkP (d : Nat) (p : List Int) : Prop where
  l : p.length ≤ d
  p : ∀ n ∈ p, 0 ≤ n
theorem Pl.row0 {d : Nat} {rs : List (List Int)} (h : Pl d rs) : ∃ r0, rs[0]? = some r0 ∧ r0.length = d := by
  obtain ⟨r0, rs', e0⟩ := List.exists_cons_of_ne_nil h.ne
  exact ⟨r0, by rw [e0]; rfl, h.len r0 (by rw [e0]; simp)⟩
theorem m_reqbeg (t : Bool) {d : Nat} {rs : List (List Int)} (h : Pl d rs) {p : List Int} (hp : OkP d p) : F_require_beginning [planD t rs, rowT p] [] = .ok .non [] := by
  have hd := h.days
  have hl := hp.l
  obtain ⟨r0, e0, l0⟩ := h.row0
  have i0 : ∀ M, dIx M (planD t rs) (.int 0) = some (rowT r0) := fun M => planD_ix M t rs (i := 0) e0
  have ln : ∀ M, dLen M (rowT r0) = some (.int d) := fun M => by rw [e_lenT, List.length_map, l0]
  have lq : ∀ M, dLen M (rowT p) = some (.int p.length) := fun M => by rw [e_lenT, List.length_map]
  have cn := c_flat (m_nums p (by omega) hp.p) [] (by simp) (by simp)
  have gt : ¬ (d : Int) < p.length := by omega
  generalize planD t rs = PD at *
  simp [-e_ix, -e_lenT, F_require_beginning, b_require_beginning, runF, cn, lq, i0, ln, gt]
theorem c_reqbeg (t : Bool) {d : Nat} {rs : List (List Int)} (h : Pl d rs) {p : List Int} (hp : OkP d p) (M : List MO) : callF F_require_beginning [planD t rs, rowT p] M = .ok .non M := c_flat (m_reqbeg t h hp) M (by simp) (by simp)
abbrev natD (ls : List Nat) : List D := ls.map fun (l : Nat) => D.int (l : Int)
@[simp] theorem natD_below (m : Nat) (ls : List Nat) : belows m (natD ls) = true := by
  rw [belows_all, List.all_map, List.all_eq_true]
  intro x _
  simp
theorem lvF_len (p : List Int) : ∀ (rs : List (List Int)) (i : Nat), (lvF p i rs).length ≤ rs.length
  | [], i => Nat.le_refl _
  | r :: rs, i => by
    have := lvF_len p rs (i + 1)
    rw [lvF]
    split <;> simp <;> omega
theorem lev_loop {q : D} {p : List Int} {gt : GT} (hgt : ∀ (i : Nat) (r : List Int) (M : List MO), gt [some q, some (rowT p), some (.int i), some (rowT r)] M = .ok (decide (r.take p.length = p)) M) (M : List MO) : ∀ (rs : List (List Int)) (i : Nat) (acc : List D), acc.length + rs.length ≤ 1900 →
    gLcL (gToT (gToCons (gTo 2) (gToCons (gTo 3) (gToNil)))) gt (gV 2) [some q, some (rowT p), none, none] (enumL (i : Int) (rs.map rowT)) acc M = .ok (acc ++ natD (lvF p i rs)) M
  | [], i, acc, _ => by simp [enumL, lvF, gLcL]
  | r :: rs, i, acc, h => by
    have sz : 2000 ≤ sizeLine := by rw [sizeLine_eq]; omega
    simp only [List.length_cons] at h
    have e3 : ((i + 1 : Nat) : Int) = (i : Int) + 1 := by omega
    rw [List.map_cons, enumL]
    by_cases c : r.take p.length = p
    · have ih := lev_loop hgt M rs (i + 1) (acc ++ [.int i]) (by simp; omega)
      rw [e3] at ih
      refine (lcL_take (Γ1 := [some q, some (rowT p), some (.int i), some (rowT r)]) (y := .int i) (M1 := M) (M2 := M) (by simp) (by rw [hgt]; simp [c]) (by simp) (by omega)).trans (ih.trans ?_)
      rw [lvF, if_pos c]
      simp
    · have ih := lev_loop hgt M rs (i + 1) acc (by omega)
      rw [e3] at ih
      refine (lcL_skip (Γ1 := [some q, some (rowT p), some (.int i), some (rowT r)]) (M1 := M) (by simp) (by rw [hgt]; simp [c])).trans (ih.trans ?_)
      rw [lvF, if_neg c]
theorem lev_test {q : D} {p : List Int} (i : Nat) (r : List Int) (M : List MO) : (gVal (gOp2 dEqA (gSl (gV 3) (gNoO) (gO (gCall (fn1 dLen) (gCons (gV 1) (gNil))))) (gV 1))) [some q, some (rowT p), some (.int i), some (rowT r)] M = .ok (decide (r.take p.length = p)) M := by
  have lq : ∀ M, dLen M (rowT p) = some (.int p.length) := fun M => by rw [e_lenT, List.length_map]
  have ct := fun M => rowT_cut M r p.length
  have eq := fun M => rowT_eq M (r.take p.length) p
  generalize rowT (r.take p.length) = A at *
  generalize rowT p = B at *
  generalize rowT r = C at *
  simp [-e_lenT, lq, ct, eq]
theorem m_levels (t : Bool) {rs : List (List Int)} (hl : rs.length ≤ 1900) (p : List Int) : F_levels_behind [planD t rs, rowT p] [] = .ok (.lst (natD (lv rs p))) [] := by
  have key := lev_loop (q := planD t rs) (p := p) (fun i r M => lev_test i r M) [] rs 0 [] (by simpa using hl)
  rw [List.nil_append] at key
  have key' : gLcL (gToT (gToCons (gTo 2) (gToCons (gTo 3) (gToNil)))) (gVal (gOp2 dEqA (gSl (gV 3) (gNoO) (gO (gCall (fn1 dLen) (gCons (gV 1) (gNil))))) (gV 1))) (gV 2) [some (planD t rs), some (rowT p), none, none] (enumL 0 (rs.map rowT)) [] [] = .ok (natD (lv rs p)) [] := key
  have sq := planD_seq t rs
  have bl := natD_below 0 (lv rs p)
  generalize planD t rs = PD at *
  generalize natD (lv rs p) = LV at *
  generalize rowT p = RP at *
  simp [F_levels_behind, b_levels_behind, runF, sq, key', bl]
theorem c_levels (t : Bool) {rs : List (List Int)} (hl : rs.length ≤ 1900) (p : List Int) (M : List MO) : callF F_levels_behind [planD t rs, rowT p] M = .ok (.lst (natD (lv rs p))) M := c_flat (m_levels t hl p) M (by simp) (by simpa [below] using natD_below 0 (lv rs p))
end My

set_option Elab.async false
set_option linter.all false
set_option maxRecDepth 100000
set_option maxHeartbeats 8000000
namespace My
open PySem PySem.Spec PyProof.Rows L2 Bk
/-! ### group, tests, level_of, settled -/
theorem natD_dts (n : Nat) (ls : List Nat) : Dts n (natD ls) (ls.map fun (l : Nat) => PyData.int (l : Int)) := .map _ fun l _ => .int n _
theorem natD_eqP (M : List MO) (ls : List Nat) : eqP M (.lst (natD ls)) (.lst []) = some (decide (ls = [])) := by
  rw [eqP_of (natD_dts 0 ls).lst (Dts.nil 0).lst (Dt.deref (natD_dts 0 ls).lst) (Dt.deref (Dts.nil 0).lst) (by decide) (by decide)]
  cases ls with
  | nil => rfl
  | cons x ls => rfl
theorem natD_eq (M : List MO) (ls : List Nat) : dEqA M (.lst (natD ls)) (.lst []) = some (.bl (decide (ls = []))) := dEqA_p (x := .lst (natD ls)) (natD_eqP M ls) (fun _ h => by cases h)
theorem natD_ne (M : List MO) (ls : List Nat) : dNeA M (.lst (natD ls)) (.lst []) = some (.bl !(decide (ls = []))) := dNeA_p (x := .lst (natD ls)) (natD_eqP M ls) (fun _ h => by cases h)
theorem natD_first (M : List MO) (a m : Nat) : dIx M (.lst (natD (List.range' a (m + 1)))) (.int 0) = some (.int (a : Nat)) := by
  rw [e_ix, itemsD_l, Option.bind_some]
  refine (Bk.atI_nat _ 0).trans ?_
  rw [List.range'_succ]
  rfl
theorem atI_lastN (ds : List D) (d : D) : atI (ds ++ [d]) (-1) = some d := by
  have e : ixN (ds ++ [d]).length (-1) = some ds.length := by
    simp [ixN]
    omega
  unfold atI
  rw [e]
  simp
theorem intR_lenN : ∀ (n : Nat) (lo : Int), (intR lo n).length = n
  | 0, _ => rfl
  | n + 1, lo => by simp [intR, intR_lenN n]
theorem natD_last (M : List MO) (a m : Nat) : dIx M (.lst (natD (List.range' a (m + 1)))) (.int (-1)) = some (.int ((a + m : Nat))) := by
  rw [e_ix, itemsD_l, Option.bind_some, List.range'_concat]
  unfold natD
  rw [List.map_append, List.map_cons, List.map_nil]
  refine (atI_lastN _ _).trans ?_
  simp
def grpD : List Nat → D
  | [] => .non
  | a :: ls => .tup [.int (a : Nat), .int ((a + ls.length : Nat))]
@[simp] theorem grpD_below (m : Nat) (ls : List Nat) : below m (grpD ls) = true := by cases ls <;> simp [grpD]
theorem m_group (t : Bool) {d : Nat} {rs : List (List Int)} (h : Pl d rs) {p : List Int} (hp : OkP d p) : F_group [planD t rs, rowT p] [] = .ok (grpD (lv rs p)) [] := by
  have rr := c_reqrows t h []
  have rb := c_reqbeg t h hp []
  have hf := h.few
  have cl := c_levels t (by omega : rs.length ≤ 1900) p []
  obtain ⟨a, m, e, hm, hr⟩ := lv_range h p
  have ne := fun M => natD_ne M (lv rs p)
  rw [e] at cl ne ⊢
  cases m with
  | zero =>
    have ne' : ∀ M, dNeA M (.lst (natD (List.range' a 0))) (.lst []) = some (.bl false) := fun M => (ne M).trans (by simp)
    have g0 : grpD (List.range' a 0) = .non := rfl
    rw [g0]
    generalize natD (List.range' a 0) = LV at *
    generalize planD t rs = PD at *
    generalize rowT p = RP at *
    simp [F_group, b_group, runF, rr, rb, cl, ne']
  | succ m =>
    have ne' : ∀ M, dNeA M (.lst (natD (List.range' a (m + 1)))) (.lst []) = some (.bl true) := fun M => (ne M).trans (by rw [List.range'_succ]; simp)
    have g0 : grpD (List.range' a (m + 1)) = .tup [.int (a : Nat), .int ((a + m : Nat))] := by
      rw [List.range'_succ]
      simp [grpD]
    have f0 := fun M => natD_first M a m
    have l0 := fun M => natD_last M a m
    have ls : (2 : Nat) ≤ sizeLine := by rw [sizeLine_eq]; omega
    rw [g0]
    generalize natD (List.range' a (m + 1)) = LV at *
    generalize planD t rs = PD at *
    generalize rowT p = RP at *
    simp [-e_ix, F_group, b_group, runF, rr, rb, cl, ne', f0, l0]
theorem c_group (t : Bool) {d : Nat} {rs : List (List Int)} (h : Pl d rs) {p : List Int} (hp : OkP d p) (M : List MO) : callF F_group [planD t rs, rowT p] M = .ok (grpD (lv rs p)) M := c_flat (m_group t h hp) M (by simp) (by simp)
theorem nmb_ix (M : List MO) (t : Bool) {d : Nat} {rs : List (List Int)} (h : Pl d rs) {p : List Int} (hp : p.length < d) {l : Nat} (hl : l ∈ lv rs p) : (dIx M (planD t rs) (.int (l : Nat))).bind (fun r => dIx M r (.int (p.length : Nat))) = some (.int ((rs.getD l []).getD p.length 0)) := by
  obtain ⟨r, e, _⟩ := mem_lv.mp hl
  have hr := h.len r (List.mem_of_getElem? e)
  rw [planD_ix M t rs e, Option.bind_some, rowT_ix M r (by omega)]
  rw [List.getD_eq_getElem?_getD (l := rs), e]
  rfl
theorem m_testsb (t : Bool) {d : Nat} {rs : List (List Int)} (h : Pl d rs) {p : List Int} (hp : p.length < d) : F_tests_behind [planD t rs, rowT p] [] = .ok (.ref 0) [.lst ((tst rs p).map D.int)] := by
  have sz : 2000 ≤ sizeLine := by rw [sizeLine_eq]; omega
  have hf := h.few
  have cl := c_levels t (by omega : rs.length ≤ 1900) p []
  obtain ⟨a, m, e, hm, hr⟩ := lv_range h p
  have eq := fun M => natD_eq M (lv rs p)
  cases m with
  | zero =>
    have e0 : lv rs p = [] := e
    have t0 : tst rs p = [] := by unfold tst; rw [e0]
    have eq' : ∀ M, dEqA M (.lst (natD (lv rs p))) (.lst []) = some (.bl true) := fun M => (eq M).trans (by rw [e0]; simp)
    rw [t0]
    generalize natD (lv rs p) = LV at *
    generalize planD t rs = PD at *
    generalize rowT p = RP at *
    simp [F_tests_behind, b_tests_behind, runF, cl, eq']
  | succ m =>
    have eq' : ∀ M, dEqA M (.lst (natD (lv rs p))) (.lst []) = some (.bl false) := fun M => (eq M).trans (by rw [e, List.range'_succ]; simp)
    have f0 : ∀ M, dIx M (.lst (natD (lv rs p))) (.int 0) = some (.int (a : Nat)) := fun M => by rw [e]; exact natD_first M a m
    have nl : (nmb rs p).length = m + 1 := by unfold nmb; rw [e]; simp
    have lq : ∀ M, dLen M (rowT p) = some (.int p.length) := fun M => by rw [e_lenT, List.length_map]
    have k1 := lcL_run (gg := gTo 4) (ge := le_tests_behind_1) (Γ := [some (planD t rs), some (rowT p), some (.lst (natD (lv rs p))), none, none, none, none]) (M := []) (fun (l : Nat) => D.int (l : Int)) (fun l => D.int ((rs.getD l []).getD p.length 0)) (lv rs p) [] (by rw [e]; simp; omega) fun l hl => by
      refine ⟨[some (planD t rs), some (rowT p), some (.lst (natD (lv rs p))), none, some (.int (l : Nat)), none, none], by simp, ?_⟩
      have ix := nmb_ix [] t h hp hl
      cases e1 : dIx [] (planD t rs) (.int (l : Nat)) with
      | none => rw [e1] at ix; cases ix
      | some r =>
        rw [e1, Option.bind_some] at ix
        generalize planD t rs = PD at *
        generalize natD (lv rs p) = LV at *
        generalize rowT p = RP at *
        simp [-e_ix, le_tests_behind_1, e1, lq, ix]
    have n0 : (nmb rs p)[0]? = some ((nmb rs p).getD 0 0) := by
      rw [List.getD_eq_getElem?_getD, List.getElem?_eq_getElem (by omega)]
      rfl
    have ix0 : ∀ M, dIx M (.lst ((nmb rs p).map D.int)) (.int 0) = some (.int ((nmb rs p).getD 0 0)) := fun M => by
      rw [e_ix, itemsD_l, Option.bind_some]
      refine (Bk.atI_nat _ 0).trans ?_
      rw [List.getElem?_map, n0]
      rfl
    have bd : 0 ≤ (nmb rs p).getD 0 0 ∧ (nmb rs p).getD 0 0 ≤ 12 := by
      have m0 := List.mem_of_getElem? n0
      generalize (nmb rs p).getD 0 0 = z at *
      unfold nmb at m0
      obtain ⟨l, hl, rfl⟩ := List.mem_map.mp m0
      obtain ⟨r, er, _⟩ := mem_lv.mp hl
      have lr := h.len r (List.mem_of_getElem? er)
      rw [List.getD_eq_getElem?_getD (l := rs), er]
      refine h.nums r (List.mem_of_getElem? er) _ ?_
      rw [Option.getD_some, List.getD_eq_getElem?_getD, List.getElem?_eq_getElem (by omega)]
      exact List.getElem_mem _
    have nm1 : (lv rs p).map (fun l => D.int ((rs.getD l []).getD p.length 0)) = (nmb rs p).map D.int := by
      unfold nmb
      rw [List.map_map]
      rfl
    rw [nm1, List.nil_append] at k1
    have k1 : gLcL (gTo 4) gYes le_tests_behind_1 [some (planD t rs), some (rowT p), some (.lst (natD (lv rs p))), none, none, none, none] (natD (lv rs p)) [] [] = .ok ((nmb rs p).map D.int) [] := k1
    have k2 := lcL_run (gg := gTo 5) (ge := le_tests_behind_3) (Γ := [some (planD t rs), some (rowT p), some (.lst (natD (lv rs p))), some (.lst ((nmb rs p).map D.int)), none, none, none]) (M := []) D.int (fun j => D.int ((a : Int) + (cge (nmb rs p) j : Nat))) (intR 1 ((nmb rs p).getD 0 0).toNat) [] (by rw [intR_lenN, List.length_nil]; omega) fun j hj => by
      refine ⟨[some (planD t rs), some (rowT p), some (.lst (natD (lv rs p))), some (.lst ((nmb rs p).map D.int)), none, some (.int j), none], by simp, ?_⟩
      have k3 := lcL_sel (gg := gTo 6) (gt := gVal (gOp2 dGe (gV 6) (gV 5))) (ge := gV 6) (Γ := [some (planD t rs), some (rowT p), some (.lst (natD (lv rs p))), some (.lst ((nmb rs p).map D.int)), none, some (.int j), none]) (M := []) D.int D.int (fun x => decide (j ≤ x)) (nmb rs p) [] (by simp; omega) fun x _ => ⟨[some (planD t rs), some (rowT p), some (.lst (natD (lv rs p))), some (.lst ((nmb rs p).map D.int)), none, some (.int j), some (.int x)], by simp, by simp, fun _ => by simp⟩
      have ln : ∀ M, dLen M (.lst (((nmb rs p).filter fun x => decide (j ≤ x)).map D.int)) = some (.int (cge (nmb rs p) j : Nat)) := fun M => by rw [e_lenL, List.length_map]; rfl
      rw [List.nil_append] at k3
      generalize ((nmb rs p).filter fun x => decide (j ≤ x)).map D.int = FL at *
      generalize (nmb rs p).map D.int = NB at *
      generalize planD t rs = PD at *
      generalize natD (lv rs p) = LV at *
      generalize rowT p = RP at *
      simp [-e_ix, -e_lenL, le_tests_behind_3, f0, k3, ln]
    have tt : tst rs p = (intR 1 ((nmb rs p).getD 0 0).toNat).map fun j => (a : Int) + (cge (nmb rs p) j : Nat) := by
      unfold tst
      rw [e, List.range'_succ]
    have tm : (intR 1 ((nmb rs p).getD 0 0).toNat).map (fun j => D.int ((a : Int) + (cge (nmb rs p) j : Nat))) = (tst rs p).map D.int := by rw [tt, List.map_map]; rfl
    rw [tm, List.nil_append, ← rngL_int] at k2
    have r2 : rng2 [.int 1, .int ((nmb rs p).getD 0 0 + 1)] = some (rngL 1 ((nmb rs p).getD 0 0).toNat) := by
      have i1 : Bk.inR 1 = true := rfl
      have i2 : Bk.inR ((nmb rs p).getD 0 0 + 1) = true := inR_i (by omega) (by omega)
      have q : ((nmb rs p).getD 0 0 + 1 - 1).toNat = ((nmb rs p).getD 0 0).toNat := by congr 1; omega
      rw [u_rng2, i1, i2, q]
      rfl
    have bt : belows 0 ((tst rs p).map D.int) = true := by simp
    generalize (tst rs p).map D.int = TS at *
    generalize (nmb rs p).map D.int = NB at *
    generalize (nmb rs p).getD 0 0 = z at *
    generalize planD t rs = PD at *
    generalize natD (lv rs p) = LV at *
    generalize rowT p = RP at *
    simp [-e_ix, -u_rng2, F_tests_behind, b_tests_behind, runF, cl, eq', k1, ix0, r2, k2, bt]
def tstD (d : Nat) (rs : List (List Int)) (p : List Int) : List Int := if p.length < d then tst rs p else []
theorem m_tests (t : Bool) {d : Nat} {rs : List (List Int)} (h : Pl d rs) {p : List Int} (hp : OkP d p) : F_tests [planD t rs, rowT p] [] = .ok (.ref 0) [.lst ((tstD d rs p).map D.int)] := by
  have rr := c_reqrows t h []
  have rb := c_reqbeg t h hp []
  obtain ⟨r0, e0, l0⟩ := h.row0
  have i0 : ∀ M, dIx M (planD t rs) (.int 0) = some (rowT r0) := fun M => planD_ix M t rs (i := 0) e0
  have ln : ∀ M, dLen M (rowT r0) = some (.int d) := fun M => by rw [e_lenT, List.length_map, l0]
  have lq : ∀ M, dLen M (rowT p) = some (.int p.length) := fun M => by rw [e_lenT, List.length_map]
  unfold tstD
  by_cases c : p.length < d
  · have ct := c_flatO (m_testsb t h c) [] (by simp) (by simp)
    have c' : (p.length : Int) < d := by omega
    have bt : belows 0 ((tst rs p).map D.int) = true := by simp
    rw [if_pos c]
    rw [List.length_nil, List.nil_append] at ct
    generalize (tst rs p).map D.int = TS at *
    generalize planD t rs = PD at *
    generalize rowT p = RP at *
    simp [-e_ix, -e_lenT, F_tests, b_tests, runF, rr, rb, lq, i0, ln, c', ct, bt]
  · have c' : ¬ (p.length : Int) < d := by omega
    rw [if_neg c]
    generalize planD t rs = PD at *
    generalize rowT p = RP at *
    simp [-e_ix, -e_lenT, F_tests, b_tests, runF, rr, rb, lq, i0, ln, c']
theorem c_tests (t : Bool) {d : Nat} {rs : List (List Int)} (h : Pl d rs) {p : List Int} (hp : OkP d p) (M : List MO) : callF F_tests [planD t rs, rowT p] M = .ok (.ref M.length) (M ++ [.lst ((tstD d rs p).map D.int)]) := c_flatO (m_tests t h hp) M (by simp) (by simp)
theorem lev_loopP {P : List Int → Prop} {q : D} {p : List Int} {gt : GT} (hgt : ∀ (i : Nat) (r : List Int) (M : List MO), P r → gt [some q, some (rowT p), some (.int i), some (rowT r)] M = .ok (decide (r.take p.length = p)) M) (M : List MO) : ∀ (rs : List (List Int)) (i : Nat) (acc : List D), (∀ r ∈ rs, P r) → acc.length + rs.length ≤ 1900 →
    gLcL (gToT (gToCons (gTo 2) (gToCons (gTo 3) (gToNil)))) gt (gV 2) [some q, some (rowT p), none, none] (enumL (i : Int) (rs.map rowT)) acc M = .ok (acc ++ natD (lvF p i rs)) M
  | [], i, acc, _, _ => by simp [enumL, lvF, gLcL]
  | r :: rs, i, acc, hP, h => by
    have sz : 2000 ≤ sizeLine := by rw [sizeLine_eq]; omega
    simp only [List.length_cons] at h
    have e3 : ((i + 1 : Nat) : Int) = (i : Int) + 1 := by omega
    have hr := hP r (by simp)
    rw [List.map_cons, enumL]
    by_cases c : r.take p.length = p
    · have ih := lev_loopP hgt M rs (i + 1) (acc ++ [.int i]) (fun q hq => hP q (by simp [hq])) (by simp; omega)
      rw [e3] at ih
      refine (lcL_take (Γ1 := [some q, some (rowT p), some (.int i), some (rowT r)]) (y := .int i) (M1 := M) (M2 := M) (by simp) (by rw [hgt _ _ _ hr]; simp [c]) (by simp) (by omega)).trans (ih.trans ?_)
      rw [lvF, if_pos c]
      simp
    · have ih := lev_loopP hgt M rs (i + 1) acc (fun q hq => hP q (by simp [hq])) (by omega)
      rw [e3] at ih
      refine (lcL_skip (Γ1 := [some q, some (rowT p), some (.int i), some (rowT r)]) (M1 := M) (by simp) (by rw [hgt _ _ _ hr]; simp [c])).trans (ih.trans ?_)
      rw [lvF, if_neg c]
def lofD : List Nat → D
  | [] => .non
  | a :: _ => .int (a : Nat)
theorem lof_ix (M : List MO) (ls : List Nat) : dIx M (.lst (natD ls ++ [.non])) (.int 0) = some (lofD ls) := by
  rw [e_ix, itemsD_l, Option.bind_some]
  refine (Bk.atI_nat _ 0).trans ?_
  cases ls <;> rfl
theorem m_levelof (t : Bool) {d : Nat} {rs : List (List Int)} (h : Pl d rs) {p : List Int} (hp : OkP d p) (hl : p.length = d) : F_level_of [planD t rs, rowT p] [] = .ok (lofD (lv rs p)) [] := by
  have sz : 2000 ≤ sizeLine := by rw [sizeLine_eq]; omega
  have hf := h.few
  have hd := h.days
  have rr := c_reqrows t h []
  obtain ⟨r0, e0, l0⟩ := h.row0
  have i0 : ∀ M, dIx M (planD t rs) (.int 0) = some (rowT r0) := fun M => planD_ix M t rs (i := 0) e0
  have ln : ∀ M, dLen M (rowT r0) = some (.int d) := fun M => by rw [e_lenT, List.length_map, l0]
  have lq : ∀ M, dLen M (rowT p) = some (.int d) := fun M => by rw [e_lenT, List.length_map, hl]
  have cn := c_flat (m_nums p (by omega) hp.p) [] (by simp) (by simp)
  have key := lev_loopP (P := fun r => r.length = d) (q := planD t rs) (p := p) (gt := gVal (gOp2 dEqA (gV 3) (gV 1))) (fun i r M hr => by
    have eq := rowT_eq M r p
    have ed : decide (r.take p.length = p) = decide (r = p) := by rw [List.take_of_length_le (by omega)]
    rw [ed]
    generalize planD t rs = PD at *
    generalize rowT p = RP at *
    generalize rowT r = RR at *
    simp [eq]) [] rs 0 [] h.len (by simp; omega)
  rw [List.nil_append] at key
  have key' : gLcL (gToT (gToCons (gTo 2) (gToCons (gTo 3) (gToNil)))) (gVal (gOp2 dEqA (gV 3) (gV 1))) (gV 2) [some (planD t rs), some (rowT p), none, none] (enumL 0 (rs.map rowT)) [] [] = .ok (natD (lv rs p)) [] := key
  have sq := planD_seq t rs
  have ll := lvF_len p rs 0
  have ad : ∀ M, dAdd M (.lst (natD (lv rs p))) (.lst [.non]) = some (.lst (natD (lv rs p) ++ [.non])) := fun M => by
    rw [e_addL, if_pos (by unfold lv; simp; omega)]
  have ix := fun M => lof_ix M (lv rs p)
  have bl : retR 0 [] (lofD (lv rs p)) = .ok (lofD (lv rs p)) [] := by cases lv rs p <;> simp [lofD]
  generalize natD (lv rs p) ++ [.non] = LW at *
  generalize natD (lv rs p) = LV at *
  generalize planD t rs = PD at *
  generalize rowT p = RP at *
  generalize lofD (lv rs p) = LO at *
  simp [-e_ix, -e_lenT, -e_addL, F_level_of, b_level_of, runF, rr, cn, lq, i0, ln, sq, key', ad, ix, bl]
theorem c_levelof (t : Bool) {d : Nat} {rs : List (List Int)} (h : Pl d rs) {p : List Int} (hp : OkP d p) (hl : p.length = d) (M : List MO) : callF F_level_of [planD t rs, rowT p] M = .ok (lofD (lv rs p)) M := c_flat (m_levelof t h hp hl) M (by simp) (by cases lv rs p <;> rfl)
theorem set_loop {q : D} (k : Nat) (M : List MO) : ∀ (rs acc : List (List Int)), acc.length + rs.length ≤ 63 → gScL (gTo 2) gYes le_settled_1 [some q, some (.int (k : Nat)), none] (rs.map rowT) acc M = .ok (acc ++ rs.map (·.take k)) M
  | [], acc, _ => by simp
  | r :: rs, acc, h => by
    simp only [List.length_cons] at h
    have ct := rowT_cut M r k
    rw [List.map_cons]
    refine (scL_cons (Γ1 := [some q, some (.int (k : Nat)), some (rowT r)]) (r := r.take k) (M2 := M) (by simp) ?_ (by omega)).trans ((set_loop k M rs (acc ++ [r.take k]) (by simp; omega)).trans (by simp))
    generalize rowT r = RR at *
    simp [le_settled_1, ct]
theorem m_settled (t : Bool) {d : Nat} {rs : List (List Int)} (h : Pl d rs) (hs : rs.length ≤ 63) : F_settled [planD t rs] [] = .ok (.int (mxF rs : Nat)) [] := by
  have hd := h.days
  have hm := mxF_le h.len h.fall
  have rr := c_reqrows t h []
  have sq := planD_seq t rs
  have lp : ∀ M, dLen M (planD t rs) = some (.int rs.length) := fun M => planD_len M t rs
  have test : ∀ k : Nat, lw_settled_1 [some (planD t rs), some (.int (k : Nat)), none] [] = .ok (decide (k < mxF rs)) [] := fun k => by
    have sl := set_loop (q := planD t rs) k [] rs [] (by simpa using hs)
    have sp := mxF_spec (d := d) k h.len h.fall
    obtain ⟨u1, u2⟩ := uniqR_len (rs.map (·.take k))
    rw [List.length_map] at u1 u2
    have ed : decide ((((uniqR (rs.map (·.take k))).length : Nat) : Int) < rs.length) = decide (k < mxF rs) := by
      rw [decide_eq_decide]
      rw [sp] at u2
      omega
    have ei : (uniqR (rs.map (·.take k))).length < rs.length ↔ k < mxF rs := by
      rw [sp] at u2
      omega
    rw [List.nil_append] at sl
    generalize planD t rs = PD at *
    simp [lw_settled_1, sq, sl, lp, ei]
  have key : ∀ (n k : Nat), k ≤ mxF rs → mxF rs - k < n → gWhile lw_settled_1 lb_settled_1 n [some (planD t rs), some (.int (k : Nat)), none] [] = .nx [some (planD t rs), some (.int (mxF rs : Nat)), none] [] := by
    intro n
    induction n with
    | zero => intro k _ h2; omega
    | succ n ih =>
      intro k h1 h2
      by_cases c : k < mxF rs
      · have e3 : ((k + 1 : Nat) : Int) = (k : Int) + 1 := by omega
        have ih' := ih (k + 1) (by omega) (by omega)
        rw [e3] at ih'
        exact (while_go (M1 := []) (Γ2 := [some (planD t rs), some (.int ((k : Int) + 1)), none]) (M2 := []) (by rw [test k]; simp [c]) (by simp [lb_settled_1])).trans ih'
      · refine (while_end (M1 := []) (by rw [test k]; simp [c])).trans ?_
        have : k = mxF rs := by omega
        rw [this]
  have k0 := key 1000000000 0 (Nat.zero_le _) (by omega)
  have k1 : gWhile lw_settled_1 lb_settled_1 1000000000 [some (planD t rs), some (.int 0), none] [] = .nx [some (planD t rs), some (.int (mxF rs : Nat)), none] [] := k0
  generalize planD t rs = PD at *
  simp [F_settled, b_settled, runF, rr, k1]
theorem c_settled (t : Bool) {d : Nat} {rs : List (List Int)} (h : Pl d rs) (hs : rs.length ≤ 63) (M : List MO) : callF F_settled [planD t rs] M = .ok (.int (mxF rs : Nat)) M := c_flat (m_settled t h hs) M (by simp) (by simp)
end My

set_option Elab.async false
set_option linter.all false
set_option maxRecDepth 100000
set_option maxHeartbeats 8000000
namespace My
open PySem PySem.Spec PyProof.Rows L2 Bk
/-! ### the law's functions of a plan -/
theorem m_llevels (t : Bool) {rs : List (List Int)} (hl : rs.length ≤ 1900) (p : List Int) : F_law_levels [planD t rs, rowT p] [] = .ok (.lst (natD (lv rs p))) [] := by
  have key := lev_loop (q := planD t rs) (p := p) (fun i r M => lev_test i r M) [] rs 0 [] (by simpa using hl)
  rw [List.nil_append] at key
  have key' : gLcL (gToT (gToCons (gTo 2) (gToCons (gTo 3) (gToNil)))) (gVal (gOp2 dEqA (gSl (gV 3) (gNoO) (gO (gCall (fn1 dLen) (gCons (gV 1) (gNil))))) (gV 1))) (gV 2) [some (planD t rs), some (rowT p), none, none] (enumL 0 (rs.map rowT)) [] [] = .ok (natD (lv rs p)) [] := key
  have sq := planD_seq t rs
  have bl := natD_below 0 (lv rs p)
  generalize planD t rs = PD at *
  generalize natD (lv rs p) = LV at *
  generalize rowT p = RP at *
  simp [F_law_levels, b_law_levels, runF, sq, key', bl]
theorem c_llevels (t : Bool) {rs : List (List Int)} (hl : rs.length ≤ 1900) (p : List Int) (M : List MO) : callF F_law_levels [planD t rs, rowT p] M = .ok (.lst (natD (lv rs p))) M := c_flat (m_llevels t hl p) M (by simp) (by simpa [Bk.below] using natD_below 0 (lv rs p))
theorem intR_succN (lo : Int) : ∀ n : Nat, intR lo (n + 1) = intR lo n ++ [lo + n]
  | 0 => by simp [intR]
  | n + 1 => by
    have := intR_succN (lo + 1) n
    rw [intR, this, intR]
    simp
    omega
theorem nmb_bd {d : Nat} {rs : List (List Int)} (h : Pl d rs) {p : List Int} (hp : p.length < d) : ∀ x ∈ nmb rs p, 0 ≤ x ∧ x ≤ 12 := by
  intro x hx
  unfold nmb at hx
  obtain ⟨l, hl, rfl⟩ := List.mem_map.mp hx
  obtain ⟨r, er, _⟩ := mem_lv.mp hl
  have lr := h.len r (List.mem_of_getElem? er)
  rw [List.getD_eq_getElem?_getD (l := rs), er]
  refine h.nums r (List.mem_of_getElem? er) _ ?_
  rw [Option.getD_some, List.getD_eq_getElem?_getD, List.getElem?_eq_getElem (by omega)]
  exact List.getElem_mem _
theorem m_ldue (t : Bool) {d : Nat} {rs : List (List Int)} (h : Pl d rs) {p : List Int} (hp : OkP d p) : F_law_due [planD t rs, rowT p] [] = .ok (.lst ((tstD d rs p).map D.int)) [] := by
  have sz : 2000 ≤ sizeLine := by rw [sizeLine_eq]; omega
  have hf := h.few
  have hd := h.days
  have cl := c_llevels t (by omega : rs.length ≤ 1900) p []
  obtain ⟨a, m, e, hm, hr⟩ := lv_range h p
  obtain ⟨r0, e0, l0⟩ := h.row0
  have i0 : ∀ M, dIx M (planD t rs) (.int 0) = some (rowT r0) := fun M => planD_ix M t rs (i := 0) e0
  have ln : ∀ M, dLen M (rowT r0) = some (.int d) := fun M => by rw [e_lenT, List.length_map, l0]
  have lq : ∀ M, dLen M (rowT p) = some (.int p.length) := fun M => by rw [e_lenT, List.length_map]
  have ne := fun M => natD_ne M (lv rs p)
  cases m with
  | zero =>
    have e1 : lv rs p = [] := e
    have t0 : tstD d rs p = [] := by unfold tstD tst; rw [e1]; simp
    have ne' : ∀ M, dNeA M (.lst (natD (lv rs p))) (.lst []) = some (.bl false) := fun M => (ne M).trans (by rw [e1]; simp)
    rw [t0]
    have w1 : gWhile lw_law_due_1 lb_law_due_1 1000000000 [some (planD t rs), some (rowT p), some (.lst (natD (lv rs p))), some (.ref 0), none, none] [.lst []] = .nx [some (planD t rs), some (rowT p), some (.lst (natD (lv rs p))), some (.ref 0), none, none] [.lst []] := by
      refine while_end (M1 := [.lst []]) ?_
      generalize natD (lv rs p) = LV at *
      simp [lw_law_due_1, ne']
    generalize natD (lv rs p) = LV at *
    generalize planD t rs = PD at *
    generalize rowT p = RP at *
    simp [F_law_due, b_law_due, runF, cl, w1]
  | succ m =>
    have ne' : ∀ M, dNeA M (.lst (natD (lv rs p))) (.lst []) = some (.bl true) := fun M => (ne M).trans (by rw [e, List.range'_succ]; simp)
    by_cases c : p.length < d
    · have c' : (p.length : Int) < d := by omega
      have f0 : ∀ M, dIx M (.lst (natD (lv rs p))) (.int 0) = some (.int (a : Nat)) := fun M => by rw [e]; exact natD_first M a m
      have la : ∀ M, dIx M (.lst (natD (lv rs p))) (.int (-1)) = some (.int ((a + m : Nat))) := fun M => by rw [e]; exact natD_last M a m
      have nl : (nmb rs p).length = m + 1 := by unfold nmb; rw [e]; simp
      have n0 : (nmb rs p)[0]? = some ((nmb rs p).getD 0 0) := by
        rw [List.getD_eq_getElem?_getD, List.getElem?_eq_getElem (by omega)]
        rfl
      have bd := nmb_bd h c _ (List.mem_of_getElem? n0)
      have ga : (rs.getD a []).getD p.length 0 = (nmb rs p).getD 0 0 := by
        unfold nmb
        rw [e, List.range'_succ]
        rfl
      have ix0 : ∀ M, (dIx M (planD t rs) (.int (a : Nat))).bind (fun r => dIx M r (.int (p.length : Nat))) = some (.int ((nmb rs p).getD 0 0)) := fun M => by
        rw [← ga]
        exact nmb_ix M t h c (by rw [e, List.range'_succ]; simp)
      have tt : tstD d rs p = (intR 1 ((nmb rs p).getD 0 0).toNat).map fun j => (a : Int) + (cge (nmb rs p) j : Nat) := by
        unfold tstD tst
        rw [if_pos c, e, List.range'_succ]
      obtain ⟨rA, eA, _⟩ : ∃ r, rs[a]? = some r ∧ r.take p.length = p := hr a (Nat.le_refl _) (by omega)
      have ixA : ∀ M, dIx M (planD t rs) (.int (a : Nat)) = some (rowT rA) := fun M => planD_ix M t rs eA
      have ixB : ∀ M, dIx M (rowT rA) (.int (p.length : Nat)) = some (.int ((nmb rs p).getD 0 0)) := fun M => by
        have := ix0 M
        rw [ixA, Option.bind_some] at this
        exact this
      have test : ∀ k : Nat, lw_law_due_1 [some (planD t rs), some (rowT p), some (.lst (natD (lv rs p))), some (.ref 0), none, none] [.lst ((intR 1 k).map fun j => D.int ((a : Int) + (cge (nmb rs p) j : Nat)))] = .ok (decide ((k : Int) < (nmb rs p).getD 0 0)) [.lst ((intR 1 k).map fun j => D.int ((a : Int) + (cge (nmb rs p) j : Nat)))] := fun k => by
        have lr : dLen [.lst ((intR 1 k).map fun j => D.int ((a : Int) + (cge (nmb rs p) j : Nat)))] (.ref 0) = some (.int (k : Nat)) := by
          rw [e_lenR]
          simp [listD]
        generalize [MO.lst ((intR 1 k).map fun j => D.int ((a : Int) + (cge (nmb rs p) j : Nat)))] = MM at *
        generalize (nmb rs p).getD 0 0 = z at *
        generalize natD (lv rs p) = LV at *
        generalize planD t rs = PD at *
        generalize rowT p = RP at *
        generalize rowT r0 = R0 at *
        generalize rowT rA = RA at *
        simp [-e_ix, -e_lenL, -e_lenT, -e_lenR, lw_law_due_1, ne', lq, i0, ln, c', f0, ixA, ixB, lr]
      have step : ∀ k : Nat, k ≤ 12 → lb_law_due_1 [some (planD t rs), some (rowT p), some (.lst (natD (lv rs p))), some (.ref 0), none, none] [.lst ((intR 1 k).map fun j => D.int ((a : Int) + (cge (nmb rs p) j : Nat)))] = .nx [some (planD t rs), some (rowT p), some (.lst (natD (lv rs p))), some (.ref 0), none, none] [.lst ((intR 1 (k + 1)).map fun j => D.int ((a : Int) + (cge (nmb rs p) j : Nat)))] := fun k hk => by
        have lr : dLen [.lst ((intR 1 k).map fun j => D.int ((a : Int) + (cge (nmb rs p) j : Nat)))] (.ref 0) = some (.int (k : Nat)) := by
          rw [e_lenR]
          simp [listD]
        have k1 := lcL_sel (gg := gTo 5) (gt := gVal (gOp2 dLe (gOp2 dIx (gOp2 dIx (gV 0) (gV 5)) (gCall (fn1 dLen) (gCons (gV 1) (gNil)))) (gCall (fn1 dLen) (gCons (gV 3) (gNil))))) (ge := gV 5) (Γ := [some (planD t rs), some (rowT p), some (.lst (natD (lv rs p))), some (.ref 0), none, none]) (M := [.lst ((intR 1 k).map fun j => D.int ((a : Int) + (cge (nmb rs p) j : Nat)))]) (fun (l : Nat) => D.int (l : Int)) (fun (l : Nat) => D.int (l : Int)) (fun l => decide ((rs.getD l []).getD p.length 0 ≤ (k : Int))) (lv rs p) [] (by rw [e]; simp; omega) fun l hl => by
          refine ⟨[some (planD t rs), some (rowT p), some (.lst (natD (lv rs p))), some (.ref 0), none, some (.int (l : Nat))], by simp, ?_, fun _ => by simp⟩
          have ix := nmb_ix [.lst ((intR 1 k).map fun j => D.int ((a : Int) + (cge (nmb rs p) j : Nat)))] t h c hl
          cases e1 : dIx [.lst ((intR 1 k).map fun j => D.int ((a : Int) + (cge (nmb rs p) j : Nat)))] (planD t rs) (.int (l : Nat)) with
          | none => rw [e1] at ix; cases ix
          | some r =>
            rw [e1, Option.bind_some] at ix
            generalize [MO.lst ((intR 1 k).map fun j => D.int ((a : Int) + (cge (nmb rs p) j : Nat)))] = MM at *
            generalize planD t rs = PD at *
            generalize natD (lv rs p) = LV at *
            generalize rowT p = RP at *
            generalize (rs.getD l []).getD p.length 0 = zz at *
            simp [-e_ix, -e_lenL, -e_lenT, -e_lenR, e1, lq, ix, lr]
        have k1 : gLcL (gTo 5) (gVal (gOp2 dLe (gOp2 dIx (gOp2 dIx (gV 0) (gV 5)) (gCall (fn1 dLen) (gCons (gV 1) (gNil)))) (gCall (fn1 dLen) (gCons (gV 3) (gNil))))) (gV 5) [some (planD t rs), some (rowT p), some (.lst (natD (lv rs p))), some (.ref 0), none, none] (natD (lv rs p)) [] [.lst ((intR 1 k).map fun j => D.int ((a : Int) + (cge (nmb rs p) j : Nat)))] = .ok (natD (belw rs p (k : Int))) [.lst ((intR 1 k).map fun j => D.int ((a : Int) + (cge (nmb rs p) j : Nat)))] := by
          rw [List.nil_append] at k1
          exact k1
        obtain ⟨_, bf⟩ := below_first h c e (k : Int)
        have bll : (belw rs p (k : Int)).length ≤ m + 1 := by
          have := List.length_filter_le (fun l => decide ((rs.getD l []).getD p.length 0 ≤ (k : Int))) (lv rs p)
          unfold belw
          rw [e, List.length_range'] at this
          rw [e]
          exact this
        have ad : ∀ M, dAdd M (.lst (natD (belw rs p (k : Int)))) (.lst [.int (((a + m : Nat) : Int) + 1)]) = some (.lst (natD (belw rs p (k : Int)) ++ [.int (((a + m : Nat) : Int) + 1)])) := fun M => by
          rw [e_addL, if_pos (by simp; omega)]
        have ixf : ∀ M, dIx M (.lst (natD (belw rs p (k : Int)) ++ [.int (((a + m : Nat) : Int) + 1)])) (.int 0) = some (.int ((a : Int) + (cge (nmb rs p) ((k : Int) + 1) : Nat))) := fun M => by
          rw [e_ix, itemsD_l, Option.bind_some]
          refine (Bk.atI_nat _ 0).trans ?_
          have e9 : natD (belw rs p (k : Int)) ++ [D.int (((a + m : Nat) : Int) + 1)] = (((belw rs p (k : Int)).map fun (l : Nat) => (l : Int)) ++ [((a + m : Nat) : Int) + 1]).map D.int := by simp
          rw [e9, List.getElem?_map, bf]
          rfl
        have fin1 : (intR 1 (k + 1)).map (fun j => D.int ((a : Int) + (cge (nmb rs p) j : Nat))) = (intR 1 k).map (fun j => D.int ((a : Int) + (cge (nmb rs p) j : Nat))) ++ [.int ((a : Int) + (cge (nmb rs p) ((k : Int) + 1) : Nat))] := by
          rw [intR_succN, List.map_append, Int.add_comm 1]
          rfl
        have q1 : ((intR 1 k).map fun j => D.int ((a : Int) + (cge (nmb rs p) j : Nat))).length < sizeLine := by
          rw [List.length_map, intR_lenN]
          omega
        rw [fin1]
        generalize ((a + m : Nat) : Int) = am at *
        generalize natD (belw rs p (k : Int)) ++ [.int (am + 1)] = LW at *
        generalize natD (belw rs p (k : Int)) = BW at *
        generalize (intR 1 k).map (fun j => D.int ((a : Int) + (cge (nmb rs p) j : Nat))) = IR at *
        generalize (cge (nmb rs p) ((k : Int) + 1) : Nat) = cc at *
        generalize natD (lv rs p) = LV at *
        generalize planD t rs = PD at *
        generalize rowT p = RP at *
        simp [-e_ix, -e_lenL, -e_lenT, -e_lenR, -e_addL, lb_law_due_1, k1, la, ad, ixf, listD, isListD, mutR, q1]
      obtain ⟨nn, hnn⟩ := Int.eq_ofNat_of_zero_le bd.1
      have key : ∀ (n k : Nat), k ≤ nn → nn - k < n → gWhile lw_law_due_1 lb_law_due_1 n [some (planD t rs), some (rowT p), some (.lst (natD (lv rs p))), some (.ref 0), none, none] [.lst ((intR 1 k).map fun j => D.int ((a : Int) + (cge (nmb rs p) j : Nat)))] = .nx [some (planD t rs), some (rowT p), some (.lst (natD (lv rs p))), some (.ref 0), none, none] [.lst ((intR 1 nn).map fun j => D.int ((a : Int) + (cge (nmb rs p) j : Nat)))] := by
        intro n
        induction n with
        | zero => intro k _ h2; omega
        | succ n ih =>
          intro k h1 h2
          by_cases q : k < nn
          · exact (while_go (by rw [test k, decide_eq_true (by omega)]) (step k (by omega))).trans (ih (k + 1) (by omega) (by omega))
          · refine (while_end (by rw [test k, decide_eq_false (by omega)])).trans ?_
            have : k = nn := by omega
            rw [this]
      have k0 := key 1000000000 0 (Nat.zero_le _) (by omega)
      have k0 : gWhile lw_law_due_1 lb_law_due_1 1000000000 [some (planD t rs), some (rowT p), some (.lst (natD (lv rs p))), some (.ref 0), none, none] [.lst []] = .nx [some (planD t rs), some (rowT p), some (.lst (natD (lv rs p))), some (.ref 0), none, none] [.lst ((tstD d rs p).map D.int)] := by
        rw [tt, List.map_map, hnn, Int.toNat_natCast]
        exact k0
      have bt : belows 0 ((tstD d rs p).map D.int) = true := by simp
      generalize (tstD d rs p).map D.int = TS at *
      generalize natD (lv rs p) = LV at *
      generalize planD t rs = PD at *
      generalize rowT p = RP at *
      simp [F_law_due, b_law_due, runF, cl, k0, bt]
    · have c' : ¬ (p.length : Int) < d := by omega
      have t0 : tstD d rs p = [] := by unfold tstD; rw [if_neg c]
      rw [t0]
      have w1 : gWhile lw_law_due_1 lb_law_due_1 1000000000 [some (planD t rs), some (rowT p), some (.lst (natD (lv rs p))), some (.ref 0), none, none] [.lst []] = .nx [some (planD t rs), some (rowT p), some (.lst (natD (lv rs p))), some (.ref 0), none, none] [.lst []] := by
        refine while_end (M1 := [.lst []]) ?_
        generalize natD (lv rs p) = LV at *
        generalize planD t rs = PD at *
        generalize rowT p = RP at *
        generalize rowT r0 = R0 at *
        simp [-e_ix, -e_lenT, lw_law_due_1, ne', lq, i0, ln, c']
      generalize natD (lv rs p) = LV at *
      generalize planD t rs = PD at *
      generalize rowT p = RP at *
      simp [F_law_due, b_law_due, runF, cl, w1]
theorem c_ldue (t : Bool) {d : Nat} {rs : List (List Int)} (h : Pl d rs) {p : List Int} (hp : OkP d p) (M : List MO) : callF F_law_due [planD t rs, rowT p] M = .ok (.lst ((tstD d rs p).map D.int)) M := c_flat (m_ldue t h hp) M (by simp) (by simp)
theorem filt_first (f : Int) : ∀ (n : Nat) (lo : Int), lo ≤ f → f < lo + n → ((intR lo n).filter fun x => decide (f ≤ x))[0]? = some f
  | 0, lo, h1, h2 => by omega
  | n + 1, lo, h1, h2 => by
    rw [intR]
    by_cases c : f ≤ lo
    · have : f = lo := by omega
      subst this
      simp
    · rw [List.filter_cons_of_neg (by simpa using c)]
      exact filt_first f n (lo + 1) (by omega) (by omega)
theorem m_unlike {a b : List Int} (hl : a.length = b.length) (ha : a.length ≤ 900) (h : a ≠ b) : F_law_first_unlike [rowT a, rowT b] [] = .ok (.int (fdy a b : Nat)) [] := by
  have sz : 2000 ≤ sizeLine := by rw [sizeLine_eq]; omega
  obtain ⟨f1, f2, f3⟩ := fdy_spec hl h
  have la : ∀ M, dLen M (rowT a) = some (.int a.length) := fun M => by rw [e_lenT, List.length_map]
  have k1 := lcL_sel (gg := gTo 2) (gt := gVal (gOp2 dNeA (gSl (gV 0) (gNoO) (gO (gV 2))) (gSl (gV 1) (gNoO) (gO (gV 2))))) (ge := gV 2) (Γ := [some (rowT a), some (rowT b), none]) (M := []) D.int D.int (fun x => decide ((fdy a b : Int) ≤ x)) (intR 1 a.length) [] (by rw [intR_lenN, List.length_nil]; omega) fun x hx => by
    have hx' := mem_intR.mp hx
    obtain ⟨k, rfl⟩ := Int.eq_ofNat_of_zero_le (by omega : (0 : Int) ≤ x)
    refine ⟨[some (rowT a), some (rowT b), some (.int (k : Nat))], by simp, ?_, fun _ => by simp⟩
    have c1 := fun M => rowT_cut M a k
    have c2 := fun M => rowT_cut M b k
    have ne := fun M => rowT_ne M (a.take k) (b.take k)
    have ed : (!decide (a.take k = b.take k)) = decide ((fdy a b : Int) ≤ (k : Int)) := by
      rw [← decide_not, decide_eq_decide]
      exact ⟨fun z => by have := (f3 k).mp z; omega, fun z => (f3 k).mpr (by omega)⟩
    rw [ed] at ne
    generalize rowT (a.take k) = A at *
    generalize rowT (b.take k) = B at *
    generalize rowT a = RA at *
    generalize rowT b = RB at *
    simp [c1, c2, ne]
  rw [List.nil_append, ← rngL_int] at k1
  have r2 : rng2 [.int 1, .int ((a.length : Int) + 1)] = some (rngL 1 a.length) := by
    have i1 : Bk.inR 1 = true := rfl
    have i2 : Bk.inR ((a.length : Int) + 1) = true := inR_i (by omega) (by omega)
    have q : ((a.length : Int) + 1 - 1).toNat = a.length := by omega
    rw [u_rng2, i1, i2, q]
    rfl
  have ff := filt_first (fdy a b : Int) a.length 1 (by omega) (by omega)
  have ix : ∀ M, dIx M (.lst (((intR 1 a.length).filter fun x => decide ((fdy a b : Int) ≤ x)).map D.int)) (.int 0) = some (.int (fdy a b : Nat)) := fun M => by
    rw [e_ix, itemsD_l, Option.bind_some]
    refine (Bk.atI_nat _ 0).trans ?_
    rw [List.getElem?_map, ff]
    rfl
  generalize ((intR 1 a.length).filter fun x => decide ((fdy a b : Int) ≤ x)).map D.int = FL at *
  generalize rowT a = RA at *
  generalize rowT b = RB at *
  simp [-e_ix, -e_lenT, -u_rng2, F_law_first_unlike, b_law_first_unlike, runF, la, r2, k1, ix]
theorem c_unlike {a b : List Int} (hl : a.length = b.length) (ha : a.length ≤ 900) (h : a ≠ b) (M : List MO) : callF F_law_first_unlike [rowT a, rowT b] M = .ok (.int (fdy a b : Nat)) M := c_flat (m_unlike hl ha h) M (by simp) (by simp)
end My

set_option Elab.async false
set_option linter.all false
set_option maxRecDepth 100000
set_option maxHeartbeats 8000000
namespace My
open PySem PySem.Spec PyProof.Rows L2 Bk
/-! ### drawn pasts, drawn rows -/
theorem plan_draw {rs : List (List Int)} {i : Int} (h0 : 0 ≤ i) (h1 : i < rs.length) : ∃ r, (∀ M, dIx M (.lst (rs.map rowT)) (.int i) = some (rowT r)) ∧ r ∈ rs := by
  obtain ⟨k, rfl⟩ := Int.eq_ofNat_of_zero_le h0
  have hk : k < rs.length := by omega
  exact ⟨rs[k], fun M => planD_ix M false rs (List.getElem?_eq_getElem hk), List.getElem_mem hk⟩
theorem pair2_ix {a b i : Int} (h0 : 0 ≤ i) (h1 : i < 2) : ∃ v : Int, (∀ M, dIx M (.lst [.int a, .int b]) (.int i) = some (.int v)) ∧ (v = a ∨ v = b) := by
  have : i = 0 ∨ i = 1 := by omega
  rcases this with rfl | rfl
  · exact ⟨a, fun M => by simp, .inl rfl⟩
  · exact ⟨b, fun M => by simp, .inr rfl⟩
theorem tri2_ix {a b c i : Int} (h0 : 0 ≤ i) (h1 : i < 3) : ∃ v : Int, (∀ M, dIx M (.lst [.int a, .int b, .int c]) (.int i) = some (.int v)) ∧ (v = a ∨ v = b ∨ v = c) := by
  have : i = 0 ∨ i = 1 ∨ i = 2 := by omega
  rcases this with rfl | rfl | rfl
  · exact ⟨a, fun M => by simp, .inl rfl⟩
  · exact ⟨b, fun M => by simp, .inr (.inl rfl)⟩
  · exact ⟨c, fun M => by simp, .inr (.inr rfl)⟩
theorem four_ix {a b c e i : Int} (h0 : 0 ≤ i) (h1 : i < 4) : ∃ v : Int, (∀ M, dIx M (.lst [.int a, .int b, .int c, .int e]) (.int i) = some (.int v)) ∧ (v = a ∨ v = b ∨ v = c ∨ v = e) := by
  have : i = 0 ∨ i = 1 ∨ i = 2 ∨ i = 3 := by omega
  rcases this with rfl | rfl | rfl | rfl
  · exact ⟨a, fun M => by simp, .inl rfl⟩
  · exact ⟨b, fun M => by simp, .inr (.inl rfl)⟩
  · exact ⟨c, fun M => by simp, .inr (.inr (.inl rfl))⟩
  · exact ⟨e, fun M => by simp, .inr (.inr (.inr rfl))⟩
theorem rowT_from (M : List MO) (r : List Int) (k : Nat) : dCut M (some (k : Int)) none (rowT r) = some (rowT (r.drop k)) := by
  show some (D.tup (Bk.cutD (r.map D.int) (some (k : Int)) none)) = _
  rw [cutD_from, ← List.map_drop]
theorem rowT_ret (o : MO) (r : List Int) : retR 1 [o] (rowT r) = .ok (rowT r) [o] := by simp [retR]
theorem rowT_list (M : List MO) (r : List Int) : dList M (rowT r) = some (.lst (r.map D.int)) := rfl
theorem m_lpast {d : Nat} {rs : List (List Int)} (h : Pl d rs) (s : Src3) : ∃ (p : List Int) (s' : Src3), F_law_past [.ref 0, planD false rs] [srcO s] = .ok (rowT p) [srcO s'] ∧ OkP d p := by
  have sz : 2000 ≤ sizeLine := by rw [sizeLine_eq]; omega
  have hf := h.few
  have hd := h.days
  have hp : 0 < rs.length := List.length_pos_iff.mpr h.ne
  have z1 : 0 < (rs.length : Int) := by omega
  have t1 := t_0 s (rs.length : Int) [] z1 (by omega)
  obtain ⟨r, ix, hr⟩ := plan_draw (rs := rs) (tk_lo s z1) (tk_hi s z1)
  have lr := h.len r hr
  have nr := h.nums r hr
  generalize tk s (rs.length : Int) = i1 at *
  generalize tn s (rs.length : Int) = s1 at *
  have z2 : 0 < (d : Int) + 1 := by omega
  have t2 := t_0 s1 ((d : Int) + 1) [] z2 (by omega)
  have a0 := tk_lo s1 z2
  have a1 := tk_hi s1 z2
  generalize tk s1 ((d : Int) + 1) = i2 at *
  generalize tn s1 ((d : Int) + 1) = s2 at *
  have t3 := t_0 s2 4 [] (by decide) (by decide)
  have b0 := tk_lo s2 (n := 4) (by decide)
  have b1 := tk_hi s2 (n := 4) (by decide)
  generalize tk s2 4 = i3 at *
  generalize tn s2 4 = s3 at *
  have fd : fdivOk i3 3 = true := fd_small (by decide) (by decide)
  obtain ⟨v, ev, hv⟩ := pair2_ix (a := i2) (b := (d : Int)) (i := i3 / 3) (by omega) (by omega)
  have hv2 : 0 ≤ v ∧ v ≤ d := by rcases hv with w | w <;> omega
  obtain ⟨k, rfl⟩ := Int.eq_ofNat_of_zero_le hv2.1
  have ct := fun M => rowT_cut M r k
  have lq : ∀ M, dLen M (rowT r) = some (.int d) := fun M => by rw [e_lenT, List.length_map, lr]
  have lp : ∀ M, dLen M (planD false rs) = some (.int rs.length) := fun M => planD_len M false rs
  have ix' : ∀ M, dIx M (planD false rs) (.int i1) = some (rowT r) := ix
  have hl : (r.take k).length ≤ d := by rw [List.length_take]; omega
  have hn : ∀ n ∈ r.take k, 0 ≤ n := fun n hn => (nr n (List.mem_of_mem_take hn)).1
  have ne : ∀ M, dNeA M (rowT (r.take k)) (.tup []) = some (.bl !(decide (r.take k = []))) := fun M => rowT_ne M (r.take k) []
  generalize r.take k = q at *
  by_cases hq : q = []
  · refine ⟨q, s3, ?_, hl, hn⟩
    have ne' : ∀ M, dNeA M (rowT q) (.tup []) = some (.bl false) := fun M => (ne M).trans (by simp [hq])
    have bl : below 0 (rowT q) = true := by simp
    have rt : retR 1 [srcO s3] (rowT q) = .ok (rowT q) [srcO s3] := by simp [retR]
    generalize rowT q = Q at *
    generalize rowT r = RR at *
    generalize planD false rs = PD at *
    simp [-e_ix, -e_lenT, F_law_past, b_law_past, runF, lp, t1, ix', lq, t2, t3, fd, ev, ct, ne', rt]
  · have ne' : ∀ M, dNeA M (rowT q) (.tup []) = some (.bl true) := fun M => (ne M).trans (by simp [hq])
    have t4 := t_0 s3 3 [] (by decide) (by decide)
    have lQ : ∀ M, dLen M (rowT q) = some (.int q.length) := fun M => by rw [e_lenT, List.length_map]
    generalize tk s3 3 = i4 at *
    generalize tn s3 3 = s4 at *
    by_cases h4 : i4 = 0
    · have hq2 : 0 < q.length := List.length_pos_iff.mpr hq
      have z5 : 0 < (q.length : Int) := by omega
      have t5 := t_0 s4 (q.length : Int) [] z5 (by omega)
      have c0 := tk_lo s4 z5
      have c1 := tk_hi s4 z5
      generalize tk s4 (q.length : Int) = i5 at *
      generalize tn s4 (q.length : Int) = s5 at *
      obtain ⟨pl, rfl⟩ := Int.eq_ofNat_of_zero_le c0
      have t6 := t_0 s5 14 [] (by decide) (by decide)
      have e0 := tk_lo s5 (n := 14) (by decide)
      generalize tk s5 14 = i6 at *
      generalize tn s5 14 = s6 at *
      have t7 := t_0 s6 3 [] (by decide) (by decide)
      obtain ⟨w, ew, hw⟩ := tri2_ix (a := q.getD pl 0 + 1) (b := i6) (c := 1000000000000000000000000000000) (tk_lo s6 (n := 3) (by decide)) (tk_hi s6 (n := 3) (by decide))
      generalize tk s6 3 = i7 at *
      generalize tn s6 3 = s7 at *
      have ixq := fun M => rowT_ix M q (i := pl) (by omega)
      have g0 : 0 ≤ q.getD pl 0 := by
        rw [List.getD_eq_getElem?_getD, List.getElem?_eq_getElem (by omega)]
        exact hn _ (List.getElem_mem _)
      have w0 : 0 ≤ w := by rcases hw with z | z | z <;> omega
      have pw : powOk 10 30 = true := by decide
      have ct2 := fun M => rowT_cut M q pl
      have cf : ∀ M, dCut M (some ((pl : Int) + 1)) none (rowT q) = some (rowT (q.drop (pl + 1))) := fun M => rowT_from M q (pl + 1)
      have ad1 : ∀ M, dAdd M (rowT (q.take pl)) (.tup [.int w]) = some (rowT (q.take pl ++ [w])) := fun M => by
        rw [e_addT, if_pos (by simp; omega)]
        simp
      have ad2 : ∀ M, dAdd M (rowT (q.take pl ++ [w])) (rowT (q.drop (pl + 1))) = some (rowT (q.take pl ++ [w] ++ q.drop (pl + 1))) := fun M => by
        rw [e_addT, if_pos (by simp; omega)]
        simp
      refine ⟨q.take pl ++ [w] ++ q.drop (pl + 1), s7, ?_, by simp; omega, fun n hn' => ?_⟩
      · have rt := rowT_ret (srcO s7) (q.take pl ++ [w] ++ q.drop (pl + 1))
        generalize rowT (q.take pl ++ [w] ++ q.drop (pl + 1)) = Q3 at *
        generalize rowT (q.take pl ++ [w]) = Q2 at *
        generalize rowT (q.drop (pl + 1)) = Q4 at *
        generalize rowT (q.take pl) = Q1 at *
        generalize rowT q = Q at *
        generalize rowT r = RR at *
        generalize planD false rs = PD at *
        generalize q.getD pl 0 = gg at *
        subst h4
        simp [-e_ix, -e_lenT, -e_addT, F_law_past, b_law_past, runF, lp, t1, ix', lq, t2, t3, fd, ev, ct, ne', t4, lQ, t5, ixq, t6, pw, t7, ew, ct2, cf, ad1, ad2, rt]
      · rcases List.mem_append.mp hn' with z | z
        · rcases List.mem_append.mp z with z | z
          · exact hn n (List.mem_of_mem_take z)
          · have : n = w := by simpa using z
            omega
        · exact hn n (List.mem_of_mem_drop z)
    · refine ⟨q, s4, ?_, hl, hn⟩
      have rt : retR 1 [srcO s4] (rowT q) = .ok (rowT q) [srcO s4] := by simp [retR]
      generalize rowT q = Q at *
      generalize rowT r = RR at *
      generalize planD false rs = PD at *
      simp [-e_ix, -e_lenT, F_law_past, b_law_past, runF, lp, t1, ix', lq, t2, t3, fd, ev, ct, ne', t4, h4, rt]
theorem c_lpast {d : Nat} {rs : List (List Int)} (h : Pl d rs) (s : Src3) (R : List MO) : ∃ (p : List Int) (s' : Src3), callF F_law_past [.ref 0, planD false rs] (srcO s :: R) = .ok (rowT p) (srcO s' :: R) ∧ OkP d p := by
  obtain ⟨p, s', e, hp⟩ := m_lpast h s
  exact ⟨p, s', c_lend1 (k := 0) (M := srcO s :: R) e rfl rfl rfl rfl (by simp) (by simp), hp⟩
theorem lc_rowD {x1 x2 x3 x4 x6 x7 : Option D} {top : Int} (h0 : 0 < top) (h1 : top ≤ 13) (R : List MO) : ∀ (ds : List D) (acc : List D) (s : Src3), acc.length + ds.length ≤ 1900 →
    ∃ (is : List Int) (s' : Src3), gLcL (gTo 8) gYes le_law_rows_1 [some (.ref 0), x1, x2, x3, x4, some (.int top), x6, x7, none] ds acc (srcO s :: R) = .ok (acc ++ is.map D.int) (srcO s' :: R) ∧ is.length = ds.length ∧ ∀ i ∈ is, 0 ≤ i ∧ i ≤ 12
  | [], acc, s, _ => ⟨[], s, by simp [gLcL], rfl, by simp⟩
  | d :: ds, acc, s, h => by
    have sz : 2000 ≤ sizeLine := by rw [sizeLine_eq]; omega
    simp only [List.length_cons] at h
    have t1 := t_0 s top R h0 (by omega)
    have a0 := tk_lo s h0
    have a1 := tk_hi s h0
    obtain ⟨is, s', e, l, hi⟩ := lc_rowD (x1 := x1) (x2 := x2) (x3 := x3) (x4 := x4) (x6 := x6) (x7 := x7) h0 h1 R ds (acc ++ [.int (tk s top)]) (tn s top) (by simp; omega)
    refine ⟨tk s top :: is, s', ?_, by simp [l], fun i hi' => ?_⟩
    · refine (lcL_cons (Γ1 := [some (.ref 0), x1, x2, x3, x4, some (.int top), x6, x7, some d]) (y := .int (tk s top)) (M2 := srcO (tn s top) :: R) (by simp) (by simp [le_law_rows_1, t1]) (by omega)).trans (e.trans (by simp))
    · rcases List.mem_cons.mp hi' with z | z
      · rw [z]; omega
      · exact hi i z
theorem rows_loop {d : Nat} (hd : d ≤ 100) (many : D) : ∀ (n : Nat) (lo : Int) (acc : List (List Int)) (s : Src3), acc.length + n ≤ 62 → (∀ r ∈ acc, r.length = d ∧ ∀ x ∈ r, 0 ≤ x ∧ x ≤ 12) →
    ∃ (acc' : List (List Int)) (s' : Src3), gForL (gTo 4) lb_law_rows_1 (rngL lo n) [some (.ref 0), some (.int (d : Nat)), some many, some (.ref 1), none, none, none, none, none] [srcO s, .lst (acc.map rowT)]
      = .nx [some (.ref 0), some (.int (d : Nat)), some many, some (.ref 1), none, none, none, none, none] [srcO s', .lst (acc'.map rowT)] ∧ acc'.length = acc.length + n ∧ ∀ r ∈ acc', r.length = d ∧ ∀ x ∈ r, 0 ≤ x ∧ x ≤ 12
  | 0, lo, acc, s, _, h => ⟨acc, s, by simp [rngL], rfl, h⟩
  | n + 1, lo, acc, s, hn, h => by
    have sz : 2000 ≤ sizeLine := by rw [sizeLine_eq]; omega
    have t1 := t_0 s 4 [.lst (acc.map rowT)] (by decide) (by decide)
    obtain ⟨top, et, ht⟩ := four_ix (a := 1) (b := 2) (c := 4) (e := 13) (tk_lo s (n := 4) (by decide)) (tk_hi s (n := 4) (by decide))
    generalize tk s 4 = i1 at *
    generalize tn s 4 = s1 at *
    have ht2 : 0 < top ∧ top ≤ 13 := by rcases ht with z | z | z | z <;> omega
    obtain ⟨is, s2, e2, l2, h2⟩ := lc_rowD (x1 := some (.int (d : Nat))) (x2 := some many) (x3 := some (.ref 1)) (x4 := some (.int lo)) (x6 := none) (x7 := none) ht2.1 ht2.2 [.lst (acc.map rowT)] (rngL 0 d) [] s1 (by rw [rngL_length]; simp; omega)
    rw [rngL_length] at l2
    rw [List.nil_append] at e2
    have r1 : rng1 [.int (d : Nat)] = some (rngL 0 d) := by
      rw [u_rng1, if_pos (inR_i (by omega) (by omega)), Int.toNat_natCast]
    have own : ∀ (s : Src3), dNeA [srcO s, .lst (acc.map rowT)] (.ref 1) (.lst []) = some (.bl !(decide (acc = []))) := fun s => by
      refine dNeA_p (x := .ref 1) ?_ (fun _ h => by cases h)
      rw [eqP_of (rowsT_dt 0 acc).lst (Dts.nil 0).lst ((rowsT_dt 0 acc).derefR rfl) (Dt.deref (Dts.nil 0).lst) (by decide) (by decide)]
      cases acc with
      | nil => rfl
      | cons x ls => rfl
    have done : ∀ (row : List Int) (s3 : Src3) (x5 x6 x7 : Option D), row.length = d → (∀ x ∈ row, 0 ≤ x ∧ x ≤ 12) → ∃ (acc' : List (List Int)) (s' : Src3), gForL (gTo 4) lb_law_rows_1 (rngL (lo + 1) n) [some (.ref 0), some (.int (d : Nat)), some many, some (.ref 1), none, none, none, none, none] [srcO s3, .lst (acc.map rowT ++ [rowT row])]
        = .nx [some (.ref 0), some (.int (d : Nat)), some many, some (.ref 1), none, none, none, none, none] [srcO s', .lst (acc'.map rowT)] ∧ acc'.length = acc.length + (n + 1) ∧ ∀ r ∈ acc', r.length = d ∧ ∀ x ∈ r, 0 ≤ x ∧ x ≤ 12 := fun row s3 x5 x6 x7 lr hr => by
      obtain ⟨acc', s', e, l, hh⟩ := rows_loop hd many n (lo + 1) (acc ++ [row]) s3 (by simp; omega) (fun r hr' => by
        rcases List.mem_append.mp hr' with z | z
        · exact h r z
        · have : r = row := by simpa using z
          rw [this]
          exact ⟨lr, hr⟩)
      refine ⟨acc', s', ?_, by rw [l]; simp; omega, hh⟩
      rw [List.map_append] at e
      exact e
    have tu : ∀ (M : List MO) (r : List Int), dTuple M (.lst (r.map D.int)) = some (rowT r) := fun M r => rfl
    have qa : (acc.map rowT).length < sizeLine := by rw [List.length_map]; omega
    rw [rngL]
    by_cases hc : acc = []
    · obtain ⟨acc', s', e, l, hh⟩ := done is s2 none none none l2 h2
      refine ⟨acc', s', ?_, l, hh⟩
      have own' : ∀ (s : Src3), dNeA [srcO s, .lst (acc.map rowT)] (.ref 1) (.lst []) = some (.bl false) := fun s => (own s).trans (by simp [hc])
      refine (forL_cons (Γ1 := [some (.ref 0), some (.int (d : Nat)), some many, some (.ref 1), some (.int lo), none, none, none, none]) (by simp) ?_).trans e
      have tu' := fun M => tu M is
      generalize acc.map rowT = AC at *
      generalize is.map D.int = IS at *
      generalize rowT is = RI at *
      simp [-e_ix, -u_rng1, lb_law_rows_1, t1, et, r1, e2, own', tu', listD, isListD, mutR, qa]
    · have own' : ∀ (s : Src3), dNeA [srcO s, .lst (acc.map rowT)] (.ref 1) (.lst []) = some (.bl true) := fun s => (own s).trans (by simp [hc])
      have z3 : 0 < (d : Int) + 1 := by omega
      have t3 := t_0 s2 ((d : Int) + 1) [.lst (acc.map rowT)] z3 (by omega)
      have a0 := tk_lo s2 z3
      have a1 := tk_hi s2 z3
      generalize tk s2 ((d : Int) + 1) = i3 at *
      generalize tn s2 ((d : Int) + 1) = s3 at *
      obtain ⟨sh, rfl⟩ := Int.eq_ofNat_of_zero_le a0
      have hp : 0 < acc.length := List.length_pos_iff.mpr hc
      have z4 : 0 < (acc.length : Int) := by omega
      have t4 := t_0 s3 (acc.length : Int) [.lst (acc.map rowT)] z4 (by omega)
      obtain ⟨q, ix, hq⟩ := plan_draw (rs := acc) (tk_lo s3 z4) (tk_hi s3 z4)
      generalize tk s3 (acc.length : Int) = i4 at *
      generalize tn s3 (acc.length : Int) = s4 at *
      have ixr : ∀ s : Src3, dIx [srcO s, .lst (acc.map rowT)] (.ref 1) (.int i4) = some (rowT q) := fun s => by
        have := ix []
        rw [e_ix, itemsD_l, Option.bind_some] at this
        rw [e_ix, itemsD_r]
        simp only [listD, List.getElem?_cons_succ, List.getElem?_cons_zero, Option.bind_some]
        exact this
      have lr : ∀ s : Src3, dLen [srcO s, .lst (acc.map rowT)] (.ref 1) = some (.int acc.length) := fun s => by
        rw [e_lenR]
        simp [listD]
      obtain ⟨lq, nq⟩ := h q hq
      have ct := fun M => rowT_cut M q sh
      have li := fun M => rowT_list M (q.take sh)
      have cf : ∀ M, dCut M (some (sh : Int)) none (.lst (is.map D.int)) = some (.lst ((is.drop sh).map D.int)) := fun M => by
        simp only [dCut, listD, Option.map_some]
        rw [cutD_from, ← List.map_drop]
      have ad : ∀ M, dAdd M (.lst ((q.take sh).map D.int)) (.lst ((is.drop sh).map D.int)) = some (.lst ((q.take sh ++ is.drop sh).map D.int)) := fun M => by
        rw [e_addL, if_pos (by simp; omega)]
        simp
      obtain ⟨acc', s', e, l, hh⟩ := done (q.take sh ++ is.drop sh) s4 none none none (by simp; omega) (fun x hx => by
        rcases List.mem_append.mp hx with z | z
        · exact nq x (List.mem_of_mem_take z)
        · exact h2 x (List.mem_of_mem_drop z))
      refine ⟨acc', s', ?_, l, hh⟩
      refine (forL_cons (Γ1 := [some (.ref 0), some (.int (d : Nat)), some many, some (.ref 1), some (.int lo), none, none, none, none]) (by simp) ?_).trans e
      have tu' := fun M => tu M (q.take sh ++ is.drop sh)
      generalize acc.map rowT = AC at *
      generalize (q.take sh ++ is.drop sh).map D.int = W1 at *
      generalize rowT (q.take sh ++ is.drop sh) = RI at *
      generalize (q.take sh).map D.int = W2 at *
      generalize rowT (q.take sh) = W6 at *
      generalize rowT q = W7 at *
      generalize (is.drop sh).map D.int = W3 at *
      generalize is.map D.int = IS at *
      simp [-e_ix, -u_rng1, -e_lenR, -e_addL, lb_law_rows_1, t1, et, r1, e2, own', t3, lr, t4, ixr, ct, li, cf, ad, tu', listD, isListD, mutR, qa]
theorem m_lrows {d : Nat} (hd : d ≤ 100) {n : Nat} (h1 : 1 ≤ n) (h2 : n ≤ 60) (s : Src3) : ∃ (rs : List (List Int)) (s' : Src3), F_law_rows [.ref 0, .int (d : Nat), .int (n : Nat)] [srcO s] = .ok (planD false rs) [srcO s'] ∧ Pl d rs ∧ rs.length ≤ 60 := by
  obtain ⟨acc, s', e, l, hh⟩ := rows_loop hd (.int (n : Nat)) n 0 [] s (by simp; omega) (by simp)
  have e : gForL (gTo 4) lb_law_rows_1 (rngL 0 n) [some (.ref 0), some (.int (d : Nat)), some (.int (n : Nat)), some (.ref 1), none, none, none, none, none] [srcO s, .lst []] = _ := e
  rw [List.length_nil, Nat.zero_add] at l
  have r1 : rng1 [.int (n : Nat)] = some (rngL 0 n) := by
    rw [u_rng1, if_pos (inR_i (by omega) (by omega)), Int.toNat_natCast]
  have ul := (uniqR_len acc).1
  have ok : srtOk (uniqR acc) = true := by
    unfold srtOk
    rw [Bool.or_eq_true]
    by_cases hz : d = 0
    · left
      rw [decide_eq_true_eq]
      have all : ∀ r ∈ uniqR acc, r = [] := fun r hr => List.length_eq_zero_iff.mp ((hh r (mem_uniqR.mp hr)).1.trans hz)
      have nd := uniqR_nodup acc
      rcases h9 : uniqR acc with _ | ⟨a, _ | ⟨b, rs⟩⟩
      · simp
      · simp
      · rw [h9] at all nd
        have ea := all a (by simp)
        have eb := all b (by simp)
        rw [ea, eb] at nd
        simp at nd
    · right
      rw [List.all_eq_true]
      intro r hr
      have := (hh r (mem_uniqR.mp hr)).1
      rw [decide_eq_true_eq]
      intro z
      rw [z] at this
      simp at this
      omega
  have so := e_sortS [srcO s', .dead] (rs := acc) (by omega) ok
  refine ⟨(srtR (uniqR acc)).reverse, s', ?_, ?_, ?_⟩
  · have rv : (((srtR (uniqR acc)).map tupI).reverse) = ((srtR (uniqR acc)).reverse).map rowT := by rw [List.map_reverse]
    have rv2 : D.lst (((srtR (uniqR acc)).map tupI).reverse) = planD false (srtR (uniqR acc)).reverse := by rw [rv]; rfl
    have bl := rowsT_below 0 (srtR (uniqR acc)).reverse
    have rt : retR 1 [srcO s', .dead] (planD false (srtR (uniqR acc)).reverse) = .ok (planD false (srtR (uniqR acc)).reverse) [srcO s'] := by
      have := rowsT_below 1 (srtR (uniqR acc)).reverse
      show (if Bk.below 1 (planD false (srtR (uniqR acc)).reverse) = true then _ else _) = _
      rw [if_pos (planD_below 1 false _)]
      rfl
    generalize planD false (srtR (uniqR acc)).reverse = PD at *
    generalize (srtR (uniqR acc)).map tupI = SR at *
    generalize acc.map rowT = AC at *
    simp [-u_rng1, F_law_rows, b_law_rows, runF, r1, e, so, rv2, rt]
  · have pm : (srtR (uniqR acc)).Perm (uniqR acc) := List.mergeSort_perm _ _
    have mem : ∀ r, r ∈ (srtR (uniqR acc)).reverse ↔ r ∈ acc := fun r => by rw [List.mem_reverse, pm.mem_iff, mem_uniqR]
    have lp : (srtR (uniqR acc)).reverse.length ≤ 60 := by rw [List.length_reverse, pm.length_eq]; omega
    refine ⟨?_, by omega, hd, fun r hr => (hh r ((mem r).mp hr)).1, fun r hr => (hh r ((mem r).mp hr)).2, ?_⟩
    · intro z
      have : acc ≠ [] := fun w => by rw [w] at l; simp at l; omega
      obtain ⟨x, xs, hx⟩ := List.exists_cons_of_ne_nil this
      have := (mem x).mpr (by rw [hx]; simp)
      rw [z] at this
      simp at this
    · rw [List.pairwise_reverse]
      have nd : (srtR (uniqR acc)).Nodup := pm.nodup_iff.mpr (uniqR_nodup acc)
      refine List.Pairwise.imp₂ (fun a b h1 h2 => ?_) (srtR_up (uniqR acc)) nd
      unfold leR at h1
      rw [decide_eq_true_eq] at h1
      by_cases z : a < b
      · exact z
      · exact absurd (List.le_antisymm h1 (List.not_lt.mp z)) h2
  · have pm : (srtR (uniqR acc)).Perm (uniqR acc) := List.mergeSort_perm _ _
    rw [List.length_reverse, pm.length_eq]
    omega
theorem c_lrows {d : Nat} (hd : d ≤ 100) {n : Nat} (h1 : 1 ≤ n) (h2 : n ≤ 60) (s : Src3) (R : List MO) : ∃ (rs : List (List Int)) (s' : Src3), callF F_law_rows [.ref 0, .int (d : Nat), .int (n : Nat)] (srcO s :: R) = .ok (planD false rs) (srcO s' :: R) ∧ Pl d rs ∧ rs.length ≤ 60 := by
  obtain ⟨rs, s', e, h, l⟩ := m_lrows hd h1 h2 s
  exact ⟨rs, s', c_lend1 (k := 0) (M := srcO s :: R) e rfl rfl rfl rfl (by simp) (by simp), h, l⟩
end My

set_option Elab.async false
set_option linter.all false
set_option maxRecDepth 100000
set_option maxHeartbeats 8000000
namespace My
open PySem PySem.Spec PyProof.Rows L2 Bk
/-! ### the law -/
def grpP : List Nat → PyData
  | [] => .none
  | a :: ls => .tuple [.int (a : Nat), .int ((a + ls.length : Nat))]
theorem grpD_dt (ls : List Nat) : Dt 1 (grpD ls) (grpP ls) := by
  cases ls with
  | nil => exact .non 1
  | cons a ls => exact Dts.tup (.cons (.int 0 _) (.cons (.int 0 _) (.nil 0)))
theorem grpD_ne (M : List MO) (ls : List Nat) : dNeA M (grpD ls) (grpD ls) = some (.bl false) := by
  refine dNeA_p (x := grpD ls) (b := true) ?_ (fun _ h => by cases ls <;> cases h)
  exact eqP_same (grpD_dt ls) (Dt.deref (grpD_dt ls)) (Dt.deref (grpD_dt ls)) (by decide)
theorem lofD_ne (M : List MO) (ls : List Nat) : dNeA M (lofD ls) (lofD ls) = some (.bl false) := by
  have dt : ∃ p, Dt 0 (lofD ls) p := by
    cases ls with
    | nil => exact ⟨_, .non 0⟩
    | cons a ls => exact ⟨_, .int 0 _⟩
  obtain ⟨p, dt⟩ := dt
  refine dNeA_p (x := lofD ls) (b := true) ?_ (fun _ h => by cases ls <;> cases h)
  exact eqP_same dt (Dt.deref dt) (Dt.deref dt) (by decide)
theorem own_ne {M : List MO} {k : Nat} {is : List Int} (h : M[k]? = some (.lst (is.map D.int))) : dNeA M (.ref k) (.lst (is.map D.int)) = some (.bl false) := by
  refine dNeA_p (x := .ref k) (b := true) ?_ (fun _ h => by cases h)
  exact eqP_same (Dts.ints 0 is).lst ((Dts.ints 0 is).derefR h) (Dt.deref (Dts.ints 0 is).lst) (by decide)
theorem cut_mostN (M : List MO) (ds : List D) (x : D) : dCut M none (some (-1)) (.lst (ds ++ [x])) = some (.lst ds) := by
  simp only [dCut, listD, Option.map_some]
  congr 2
  unfold Bk.cutD
  rw [HT.sIx_none]
  have e : HT.sIx (ds ++ [x]).length (ds ++ [x]).length (some (-1)) = ds.length := by
    simp [HT.sIx]
    omega
  rw [e]
  simp
abbrev EIR (rs : List (List Int)) (n k : D) (v4 v5 : Option D) : Bk.Env := [some (.ref 0), some (planD false rs), some n, some k, v4, v5, none, none, none, none, none]
theorem turn_right {d : Nat} {rs : List (List Int)} (h : Pl d rs) (n k : D) (hn : below 1 n = true) (hk : below 1 k = true) (v : Int) (s : Src3) : ∃ s' : Src3, lb_law_is_right_1 (EIR rs n k (some (.int v)) none) [srcO s] = .nx (EIR rs n k none none) [srcO s'] := by
  have sz : 2000 ≤ sizeLine := by rw [sizeLine_eq]; omega
  have hf := h.few
  have hd := h.days
  obtain ⟨p, s', e, hp⟩ := c_lpast h s []
  refine ⟨s', ?_⟩
  have cl := fun M => c_llevels false (by omega : rs.length ≤ 1900) p M
  have cg := fun M => c_group false h hp M
  have ct0 := c_tests false h hp [srcO s']
  have cd := fun M => c_ldue false h hp M
  have tt : ∀ M, dTuple M (planD false rs) = some (planD true rs) := fun M => rfl
  have ct1 := fun M => c_tests true h hp M
  have eq := fun M => natD_eq M (lv rs p)
  obtain ⟨a, m, ea, hm, hr⟩ := lv_range h p
  obtain ⟨r0, e0, l0⟩ := h.row0
  have i0 : ∀ M, dIx M (planD false rs) (.int 0) = some (rowT r0) := fun M => planD_ix M false rs (i := 0) e0
  have ln : ∀ M, dLen M (rowT r0) = some (.int d) := fun M => by rw [e_lenT, List.length_map, l0]
  have lq : ∀ M, dLen M (rowT p) = some (.int p.length) := fun M => by rw [e_lenT, List.length_map]
  have gne := fun M => grpD_ne M (lv rs p)
  have own : ∀ o, dNeA [o, .lst ((tstD d rs p).map D.int)] (.ref 1) (.lst ((tstD d rs p).map D.int)) = some (.bl false) := fun o => own_ne rfl
  have own2 : ∀ o u, dNeA [o, u, .lst ((tstD d rs p).map D.int)] (.ref 2) (.lst ((tstD d rs p).map D.int)) = some (.bl false) := fun o u => own_ne rfl
  have isl : ∀ o, dIsi "list" [o, .lst ((tstD d rs p).map D.int)] (.ref 1) = some (.bl true) := fun o => e_isi_lr rfl
  have cm := fun M => cut_mostN M ((tstD d rs p).map D.int) .non
  have tl : (tstD d rs p).length ≤ 12 := by
    unfold tstD
    split
    · rename_i c
      unfold tst
      split
      · simp
      · rename_i x y e9
        rw [List.length_map, intR_lenN]
        have n0 : (nmb rs p)[0]? = some ((nmb rs p).getD 0 0) := by
          rw [List.getD_eq_getElem?_getD, List.getElem?_eq_getElem (by unfold nmb; rw [e9]; simp)]
          rfl
        have := nmb_bd h c _ (List.mem_of_getElem? n0)
        omega
    · simp
  have qa : ((tstD d rs p).map D.int).length < sizeLine := by rw [List.length_map]; omega
  have bt : belows 1 ((tstD d rs p).map D.int ++ [.non]) = true := by simp
  have lvl : (lv rs p).length ≤ 900 := by rw [ea, List.length_range']; omega
  have ad : ∀ M, dAdd M (.lst (natD (lv rs p))) (.lst [.non]) = some (.lst (natD (lv rs p) ++ [.non])) := fun M => by
    rw [e_addL, if_pos (by simp; omega)]
  have lx := fun M => lof_ix M (lv rs p)
  have lne := fun M => lofD_ne M (lv rs p)
  have gv : ∀ (v6 v8 : Option D) (M : List MO), (gIfE (gVal (gOp2 dEqA (gV 7) (gLst (gNil)))) (gC .non) (gTup (gCons (gOp2 dIx (gV 7) (gC (.int 0))) (gCons (gOp2 dIx (gV 7) (gOp1 dNeg (gC (.int 1)))) (gNil))))) [some (.ref 0), some (planD false rs), some n, some k, some (.int v), none, v6, some (.lst (natD (lv rs p))), v8, none, none] M = .ok (grpD (lv rs p)) M := fun v6 v8 M => by
    rw [ea] at eq ⊢
    cases m with
    | zero =>
      have eq' : dEqA M (.lst (natD (List.range' a 0))) (.lst []) = some (.bl true) := (eq M).trans (by simp)
      have g0 : grpD (List.range' a 0) = .non := rfl
      rw [g0]
      generalize natD (List.range' a 0) = LV at *
      generalize planD false rs = PD at *
      simp [eq']
    | succ m =>
      have eq' : dEqA M (.lst (natD (List.range' a (m + 1)))) (.lst []) = some (.bl false) := (eq M).trans (by rw [List.range'_succ]; simp)
      have g0 : grpD (List.range' a (m + 1)) = .tup [.int (a : Nat), .int ((a + m : Nat))] := by
        rw [List.range'_succ]
        simp [grpD]
      have f0 := natD_first M a m
      have l0 := natD_last M a m
      rw [g0]
      generalize natD (List.range' a (m + 1)) = LV at *
      generalize planD false rs = PD at *
      simp [-e_ix, eq', f0, l0]
  have bP : below 1 (planD false rs) = true := by simp
  have ct0' : callF F_tests [planD false rs, rowT p] [srcO s'] = .ok (.ref 1) [srcO s', .lst ((tstD d rs p).map D.int)] := ct0
  have gF : ∀ (v6 v8 : Option D) (M : List MO), gIfE (gVal (gOp2 dEqA (gV 7) (gLst gNil))) (gC .non) (gTup (gCons (gOp2 dIx (gV 7) (gC (.int 0))) (gCons (gOp2 dIx (gV 7) (gOp1 dNeg (gC (.int 1)))) gNil))) [some (.ref 0), some (planD false rs), some n, some k, some (.int v), none, v6, some (.lst (natD (lv rs p))), v8, none, none] M = .ok (grpD (lv rs p)) M := gv
  unfold EIR
  by_cases hc : p.length = d
  · have cv := fun M => c_levelof true h hp hc M
    have hc' : (p.length : Int) = d := by omega
    have eqi : ∀ M, dEqA M (.int (p.length : Nat)) (.int (d : Nat)) = some (.bl true) := fun M => by simp [hc]
    have cc := clean
    generalize natD (lv rs p) ++ [.non] = LW at *
    generalize natD (lv rs p) = LV at *
    generalize (tstD d rs p).map D.int = TS at *
    generalize grpD (lv rs p) = GR at *
    generalize lofD (lv rs p) = LO at *
    generalize planD true rs = PT at *
    generalize planD false rs = PD at *
    generalize rowT p = RP at *
    generalize rowT r0 = R0 at *
    simp [-u_gIfE, -e_ix, -e_lenL, -e_lenT, -e_addL, lb_law_is_right_1, e, cl, cg, gF, gne, ct0', cd, own, isl, listD, isListD, mutR, qa, tt, ct1, cm, own2, lq, i0, ln, eqi, cv, ad, lx, lne, clean, cutOk, hn, hk, bP]
  · have hc' : ¬ (p.length : Int) = d := by omega
    have eqi : ∀ M, dEqA M (.int (p.length : Nat)) (.int (d : Nat)) = some (.bl false) := fun M => by simp [hc']
    generalize natD (lv rs p) ++ [.non] = LW at *
    generalize natD (lv rs p) = LV at *
    generalize (tstD d rs p).map D.int = TS at *
    generalize grpD (lv rs p) = GR at *
    generalize planD true rs = PT at *
    generalize planD false rs = PD at *
    generalize rowT p = RP at *
    generalize rowT r0 = R0 at *
    simp [-u_gIfE, -e_ix, -e_lenL, -e_lenT, -e_addL, lb_law_is_right_1, e, cl, cg, gF, gne, ct0', cd, own, isl, listD, isListD, mutR, qa, tt, ct1, cm, own2, lq, i0, ln, eqi, clean, cutOk, hn, hk, bP]
theorem turns_right {d : Nat} {rs : List (List Int)} (h : Pl d rs) (n k : D) (hn : below 1 n = true) (hk : below 1 k = true) : ∀ (m : Nat) (lo : Int) (s : Src3), ∃ s' : Src3, gForL (gTo 4) lb_law_is_right_1 (rngL lo m) (EIR rs n k none none) [srcO s] = .nx (EIR rs n k none none) [srcO s']
  | 0, lo, s => ⟨s, by simp [rngL]⟩
  | m + 1, lo, s => by
    obtain ⟨s1, e1⟩ := turn_right h n k hn hk lo s
    obtain ⟨s2, e2⟩ := turns_right h n k hn hk m (lo + 1) s1
    refine ⟨s2, ?_⟩
    rw [rngL]
    exact (forL_cons (Γ1 := EIR rs n k (some (.int lo)) none) (by simp [EIR]) e1).trans e2
theorem plan_repr {d : Nat} {rs : List (List Int)} (h : Pl d rs) (hs : rs.length ≤ 60) : ∃ k : Str, ∀ M, dRepr M (planD false rs) = some (.str k) := by
  have hd := h.days
  have sh : Shs (rs.length * (d + 1)) (rs.map rowTP) := Shs.map (b := d) rs fun r hr => by
    have := Shs.ints (is := r) fun i hi => by have := h.nums r hr i hi; omega
    rw [h.len r hr] at this
    exact this.tup
  have hb : rs.length * (d + 1) ≤ 60 * 101 := Nat.mul_le_mul hs (by omega)
  exact ⟨_, fun M => repr_of (x := planD false rs) (rowsT_dt 0 rs).lst sh.lst (Dt.deref (rowsT_dt 0 rs).lst) (by decide) (by omega) (.inr (.inl ⟨_, rfl⟩))⟩
/-- the first unlike days of neighbours -/
def nbs : List (List Int) → List Int
  | a :: b :: rs => (fdy a b : Int) :: nbs (b :: rs)
  | _ => []
theorem nbs_len : ∀ rs : List (List Int), (nbs rs).length ≤ rs.length
  | [] => Nat.le_refl _
  | [_] => by simp [nbs]
  | a :: b :: rs => by
    have := nbs_len (b :: rs)
    rw [nbs]
    simp only [List.length_cons] at this ⊢
    omega
theorem nbs_max : ∀ rs : List (List Int), (mxF rs : Int) ∈ 0 :: nbs rs ∧ ∀ y ∈ 0 :: nbs rs, y ≤ (mxF rs : Int)
  | [] => by simp [nbs, mxF]
  | [_] => by simp [nbs, mxF]
  | a :: b :: rs => by
    obtain ⟨h1, h2⟩ := nbs_max (b :: rs)
    have e : (mxF (a :: b :: rs) : Int) = if (mxF (b :: rs) : Int) ≤ (fdy a b : Int) then (fdy a b : Int) else (mxF (b :: rs) : Int) := by
      rw [show mxF (a :: b :: rs) = max (fdy a b) (mxF (b :: rs)) from rfl]
      split <;> omega
    have z : (0 : Int) ≤ mxF (b :: rs) := by omega
    rw [show nbs (a :: b :: rs) = (fdy a b : Int) :: nbs (b :: rs) from rfl]
    rw [List.mem_cons] at h1
    refine ⟨?_, fun y hy => ?_⟩
    · rw [e]
      split
      · simp
      · rcases h1 with w | w
        · rw [w]; simp
        · simp [w]
    · have e2 := e
      rcases List.mem_cons.mp hy with w | w
      · rw [w]; split at e2 <;> omega
      · rcases List.mem_cons.mp w with w | w
        · rw [w]; split at e2 <;> omega
        · have := h2 y (by simp [w])
          split at e2 <;> omega
theorem maxI_nbs (rs : List (List Int)) : maxI (0 :: nbs rs) = (mxF rs : Int) := maxI_is _ _ (nbs_max rs).1 (nbs_max rs).2
theorem dMax_intsN (M : List MO) (is : List Int) (h : is ≠ []) : dMax M (.lst (is.map D.int)) = some (.int (maxI is)) := by simp [dMax, ofInts, intsD_map, h]
theorem nb_loop {Γ0 : Bk.Env} (src pl n k v4 v5 v6 v7 v8 : Option D) (M : List MO) : ∀ (rs : List (List Int)) (acc : List D), (∀ r ∈ rs, r.length ≤ 900) → rs.Pairwise (fun a b => a.length = b.length ∧ a ≠ b) → acc.length + rs.length ≤ 1900 →
    gLcL (gToT (gToCons (gTo 9) (gToCons (gTo 10) (gToNil)))) gYes le_law_is_right_1 [src, pl, n, k, v4, v5, v6, v7, v8, none, none] (zipL (rs.map rowT) ((rs.drop 1).map rowT)) acc M = .ok (acc ++ (nbs rs).map D.int) M
  | [], acc, _, _, _ => by simp [gLcL, nbs, zipL]
  | [a], acc, _, _, _ => by simp [gLcL, nbs, zipL]
  | a :: b :: rs, acc, hl, hp, h => by
    have sz : 2000 ≤ sizeLine := by rw [sizeLine_eq]; omega
    simp only [List.length_cons] at h
    obtain ⟨h1, h2⟩ := List.pairwise_cons.mp hp
    obtain ⟨e1, e2⟩ := h1 b (by simp)
    have cu := c_unlike e1 (hl a (by simp)) e2 M
    have ih := nb_loop (Γ0 := Γ0) src pl n k v4 v5 v6 v7 v8 M (b :: rs) (acc ++ [.int (fdy a b : Nat)]) (fun r hr => hl r (by simp [hr])) h2 (by simp; omega)
    have ez : zipL ((a :: b :: rs).map rowT) (((a :: b :: rs).drop 1).map rowT) = D.tup [rowT a, rowT b] :: zipL ((b :: rs).map rowT) (((b :: rs).drop 1).map rowT) := by simp [zipL]
    rw [ez]
    refine (lcL_cons (Γ1 := [src, pl, n, k, v4, v5, v6, v7, v8, some (rowT a), some (rowT b)]) (y := .int (fdy a b : Nat)) (M2 := M) (by simp) ?_ (by omega)).trans (ih.trans (by simp [nbs]))
    generalize rowT a = A at *
    generalize rowT b = B at *
    simp [le_law_is_right_1, cu]
theorem m_right {d : Nat} {rs : List (List Int)} (h : Pl d rs) (hs : rs.length ≤ 60) {m : Nat} (hm : m ≤ 100) (s : Src3) : ∃ s' : Src3, F_law_is_right [.ref 0, planD false rs, .int (m : Nat)] [srcO s] = .ok (.bl true) [srcO s'] := by
  have sz : 2000 ≤ sizeLine := by rw [sizeLine_eq]; omega
  obtain ⟨k, hk⟩ := plan_repr h hs
  obtain ⟨s', e⟩ := turns_right h (.int (m : Nat)) (.str k) rfl rfl m 0 s
  refine ⟨s', ?_⟩
  have r1 : rng1 [.int (m : Nat)] = some (rngL 0 m) := by rw [u_rng1, if_pos (inR_i (by omega) (by omega)), Int.toNat_natCast]
  have hd := h.days
  have nb := nb_loop (Γ0 := []) (some (.ref 0)) (some (planD false rs)) (some (.int (m : Nat))) (some (.str k)) none none none none none [srcO s'] rs [] (fun r hr => by have := h.len r hr; omega) (by
    refine List.Pairwise.imp_of_mem (fun {a b} ha hb hab => ⟨(h.len a ha).trans (h.len b hb).symm, fun e => by rw [e] at hab; exact List.lt_irrefl _ hab⟩) h.fall) (by simp; omega)
  rw [List.nil_append] at nb
  have cf : ∀ M, dCut M (some 1) none (planD false rs) = some (planD false (rs.drop 1)) := fun M => by
    have := cutD_from (ds := rs.map rowT) (n := 1)
    simp only [planD, dCut, listD]
    exact congrArg some (congrArg D.lst (this.trans List.map_drop.symm))
  have zi : zipO (planD false rs) (planD false (rs.drop 1)) = some (zipL (rs.map rowT) ((rs.drop 1).map rowT)) := rfl
  have nl := nbs_len rs
  have ad : ∀ M, dAdd M (.lst [.int 0]) (.lst ((nbs rs).map D.int)) = some (.lst ((0 :: nbs rs).map D.int)) := fun M => by
    rw [e_addL, if_pos (by simp; omega)]
    simp
  have mx : ∀ M, dMax M (.lst ((0 :: nbs rs).map D.int)) = some (.int (mxF rs : Nat)) := fun M => by rw [dMax_intsN M _ (by simp), maxI_nbs]
  have cs0 := fun M => c_settled false h (by omega : rs.length ≤ 63) M
  have cs1 := fun M => c_settled true h (by omega : rs.length ≤ 63) M
  have tt : ∀ M, dTuple M (planD false rs) = some (planD true rs) := fun M => rfl
  have eqk : ∀ M, dEqA M (.str k) (.str k) = some (.bl true) := fun M => by simp
  have eqm : ∀ M, dEqA M (.int (mxF rs : Nat)) (.int (mxF rs : Nat)) = some (.bl true) := fun M => by simp
  unfold EIR at e
  generalize (0 :: nbs rs).map D.int = N1 at *
  generalize (nbs rs).map D.int = N0 at *
  generalize zipL (rs.map rowT) ((rs.drop 1).map rowT) = ZL at *
  generalize planD false (rs.drop 1) = PR at *
  generalize planD true rs = PT at *
  generalize planD false rs = PD at *
  generalize (mxF rs : Nat) = mm at *
  simp [-e_ix, -e_addL, -u_rng1, F_law_is_right, b_law_is_right, runF, hk, r1, e, cf, zi, nb, ad, mx, cs0, cs1, tt, eqk, eqm]
theorem c_right {d : Nat} {rs : List (List Int)} (h : Pl d rs) (hs : rs.length ≤ 60) {m : Nat} (hm : m ≤ 100) (s : Src3) (R : List MO) : ∃ s' : Src3, callF F_law_is_right [.ref 0, planD false rs, .int (m : Nat)] (srcO s :: R) = .ok (.bl true) (srcO s' :: R) := by
  obtain ⟨s', e⟩ := m_right h hs hm s
  exact ⟨s', c_lend1 (k := 0) (M := srcO s :: R) e rfl rfl rfl rfl (by simp) (by simp)⟩
theorem law_turn (dd : D) (hb : below 0 dd = true) (i : Int) : lb_law_1 [some dd, some (.int i), none] [] = .nx [some dd, none, none] [] := by
  have c0 := c_source i []
  have t1 := t_0 (src0 i) 9 [] (by decide) (by decide)
  have a0 := tk_lo (src0 i) (n := 9) (by decide)
  have a1 := tk_hi (src0 i) (n := 9) (by decide)
  generalize tk (src0 i) 9 = d at *
  generalize tn (src0 i) 9 = s1 at *
  obtain ⟨d, rfl⟩ := Int.eq_ofNat_of_zero_le a0
  have t2 := t_0 s1 30 [] (by decide) (by decide)
  have b0 := tk_lo s1 (n := 30) (by decide)
  have b1 := tk_hi s1 (n := 30) (by decide)
  generalize tk s1 30 = n at *
  generalize tn s1 30 = s2 at *
  obtain ⟨n, rfl⟩ := Int.eq_ofNat_of_zero_le b0
  obtain ⟨rs, s3, e3, h, hl⟩ := c_lrows (d := d) (by omega) (n := 1 + n) (by omega) (by omega) s2 []
  obtain ⟨s4, e4⟩ := c_right h hl (m := 6) (by omega) s3 []
  have e3' : callF F_law_rows [.ref 0, .int (d : Nat), .int (1 + (n : Int))] [srcO s2] = .ok (planD false rs) [srcO s3] := by
    have : ((1 + n : Nat) : Int) = 1 + (n : Int) := by omega
    rw [this] at e3
    exact e3
  have e4' : callF F_law_is_right [.ref 0, planD false rs, .int 6] [srcO s3] = .ok (.bl true) [srcO s4] := e4
  generalize planD false rs = PD at *
  simp [lb_law_1, c0, t1, t2, e3', e4', clean, cutOk, hb]
theorem law_loop (dd : D) (hb : below 0 dd = true) : ∀ is : List Int, gForL (gTo 1) lb_law_1 (is.map D.int) [some dd, none, none] [] = .nx [some dd, none, none] []
  | [] => by simp
  | i :: is => by
    rw [List.map_cons]
    exact (forL_cons (Γ1 := [some dd, some (.int i), none]) (by simp) (law_turn dd hb i)).trans (law_loop dd hb is)
theorem law_true (ns : List Int) (hl : ns.length ≤ 63) : F_law [.lst (ns.map D.int)] [] = .ok (.bl true) [] := by
  have sz : 2000 ≤ sizeLine := by rw [sizeLine_eq]; omega
  have hb : below 0 (D.lst (ns.map D.int)) = true := by simp
  have ct : ∀ M, dCut M none (some 4) (.lst (ns.map D.int)) = some (.lst ((ns.take 4).map D.int)) := fun M => by
    have := cutD_upto (ds := ns.map D.int) (n := 4)
    simp only [dCut, listD, Option.map_some]
    exact congrArg some (congrArg D.lst (this.trans List.map_take.symm))
  have ad1 : ∀ M, dAdd M (.lst [.int 0]) (.lst ((ns.take 4).map D.int)) = some (.lst ((0 :: ns.take 4).map D.int)) := fun M => by
    rw [e_addL, if_pos (by simp; omega)]
    simp
  have ad2 : ∀ M, dAdd M (.lst [.int 0]) (.lst (ns.map D.int)) = some (.lst ((0 :: ns).map D.int)) := fun M => by
    rw [e_addL, if_pos (by simp; omega)]
    simp
  obtain ⟨x, hx⟩ : ∃ x : Int, ∀ M, dIx M (.lst ((0 :: ns).map D.int)) (.int (-1)) = some (.int x) := by
    obtain ⟨l, x, e⟩ : ∃ (l : List Int) (x : Int), (0 :: ns) = l ++ [x] := ⟨(0 :: ns).dropLast, (0 :: ns).getLast (by simp), (List.dropLast_concat_getLast (by simp)).symm⟩
    refine ⟨x, fun M => ?_⟩
    rw [e, e_ix, itemsD_l, Option.bind_some, List.map_append]
    exact atI_lastN _ _
  have lp := law_loop (.lst (ns.map D.int)) hb (0 :: ns.take 4)
  have c0 := c_source x []
  have t1 := t_0 (src0 x) 100 [] (by decide) (by decide)
  have a0 := tk_lo (src0 x) (n := 100) (by decide)
  have a1 := tk_hi (src0 x) (n := 100) (by decide)
  generalize tk (src0 x) 100 = d at *
  generalize tn (src0 x) 100 = s1 at *
  obtain ⟨d, rfl⟩ := Int.eq_ofNat_of_zero_le a0
  have t2 := t_0 s1 60 [] (by decide) (by decide)
  have b0 := tk_lo s1 (n := 60) (by decide)
  have b1 := tk_hi s1 (n := 60) (by decide)
  generalize tk s1 60 = n at *
  generalize tn s1 60 = s2 at *
  obtain ⟨n, rfl⟩ := Int.eq_ofNat_of_zero_le b0
  obtain ⟨rs, s3, e3, h, hl2⟩ := c_lrows (d := 1 + d) (by omega) (n := 1 + n) (by omega) (by omega) s2 []
  obtain ⟨s4, e4⟩ := c_right h hl2 (m := 3) (by omega) s3 []
  have e3' : callF F_law_rows [.ref 0, .int (1 + (d : Int)), .int (1 + (n : Int))] [srcO s2] = .ok (planD false rs) [srcO s3] := by
    have u1 : ((1 + n : Nat) : Int) = 1 + (n : Int) := by omega
    have u2 : ((1 + d : Nat) : Int) = 1 + (d : Int) := by omega
    rw [u1, u2] at e3
    exact e3
  have e4' : callF F_law_is_right [.ref 0, planD false rs, .int 3] [srcO s3] = .ok (.bl true) [srcO s4] := e4
  have hP : Pl 0 [[]] := ⟨by simp, by simp, by omega, by simp, by simp, by simp⟩
  have pd : D.lst [.tup []] = planD false [[]] := rfl
  have cs := c_settled false hP (by simp) [srcO s4]
  have cg := c_group false hP (p := []) ⟨by simp, by simp⟩ [srcO s4]
  have cT := c_tests false hP (p := []) ⟨by simp, by simp⟩ [srcO s4]
  have m0 : mxF [[]] = 0 := rfl
  have l0 : lv [[]] [] = [0] := rfl
  have g0 : grpD [0] = .tup [.int 0, .int 0] := rfl
  have ts : tstD 0 [[]] [] = [] := rfl
  rw [m0] at cs
  rw [l0, g0] at cg
  rw [ts] at cT
  have cs' : callF F_settled [.lst [.tup []]] [srcO s4] = .ok (.int 0) [srcO s4] := cs
  have cg' : callF F_group [.lst [.tup []], .tup []] [srcO s4] = .ok (.tup [.int 0, .int 0]) [srcO s4] := cg
  have cT' : callF F_tests [.lst [.tup []], .tup []] [srcO s4] = .ok (.ref 1) [srcO s4, .lst []] := cT
  have q1 : ∀ M, dEqA M (.tup [.int 0, .int 0]) (.tup [.int 0, .int 0]) = some (.bl true) := fun M => by
    have dt : Dt 1 (.tup [.int 0, .int 0]) (.tuple [.int 0, .int 0]) := Dts.tup (.cons (.int 0 _) (.cons (.int 0 _) (.nil 0)))
    exact dEqA_p (eqP_same dt dt.deref dt.deref (by decide)) (fun _ h => by cases h)
  have q2 : dEqA [srcO s4, .lst []] (.ref 1) (.lst []) = some (.bl true) := by
    refine dEqA_p (x := .ref 1) ?_ (fun _ h => by cases h)
    exact eqP_same (Dts.nil 0).lst ((Dts.nil 0).derefR rfl) (Dt.deref (Dts.nil 0).lst) (by decide)
  have q0 : ∀ M, dEqA M (.int 0) (.int 0) = some (.bl true) := fun M => by simp
  generalize planD false rs = PD at *
  generalize (0 :: ns.take 4).map D.int = N1 at *
  generalize (ns.take 4).map D.int = N2 at *
  generalize (0 :: ns).map D.int = N3 at *
  generalize ns.map D.int = NS at *
  simp [-e_ix, -e_addL, F_law, b_law, runF, ct, ad1, lp, ad2, hx, c0, t1, t2, e3', e4', cs', cg', cT', q0, q1, q2]
end My

set_option Elab.async false
set_option linter.all false
set_option maxRecDepth 100000
set_option maxHeartbeats 8000000
namespace My
open PySem PySem.Spec PyProof.Rows L2 Bk
theorem all_mk {l : PySem.W.OpenLaw} {w : World} {K : PySem.W.Frag} {h : Heap} {mg : Str → Option Value} {fa : Addr} (X : K.In h) (G : h.Ns mainGlobals mg) (hfa : mg "law" = some (.ref fa))
    {f_is_integer : Addr} {od_is_integer an_is_integer : Option Addr} {sl_is_integer : Array (Option Value)} {oc_is_integer kV_is_integer dc_is_integer pm_is_integer cd_is_integer ct_is_integer : Value}
    (a_is_integer : PySem.W.nsIn K mainGlobals "is_integer" = some (some (.ref f_is_integer))) (l_is_integer : K.lookup f_is_integer = some ⟨oc_is_integer, od_is_integer, .func (PySem.W.fnOf "is_integer" "is_integer" (defArgs s_is_integer) (defBody s_is_integer) (defScope s_is_integer) .none kV_is_integer dc_is_integer pm_is_integer an_is_integer cd_is_integer ct_is_integer), sl_is_integer⟩) (c_is_integer : PySem.W.codeIn K cd_is_integer "is_integer" = true) (k_is_integer : PySem.W.keepIn K (.ref f_is_integer) = true)
    {f_is_at_least : Addr} {od_is_at_least an_is_at_least : Option Addr} {sl_is_at_least : Array (Option Value)} {oc_is_at_least kV_is_at_least dc_is_at_least pm_is_at_least cd_is_at_least ct_is_at_least : Value}
    (a_is_at_least : PySem.W.nsIn K mainGlobals "is_at_least" = some (some (.ref f_is_at_least))) (l_is_at_least : K.lookup f_is_at_least = some ⟨oc_is_at_least, od_is_at_least, .func (PySem.W.fnOf "is_at_least" "is_at_least" (defArgs s_is_at_least) (defBody s_is_at_least) (defScope s_is_at_least) .none kV_is_at_least dc_is_at_least pm_is_at_least an_is_at_least cd_is_at_least ct_is_at_least), sl_is_at_least⟩) (c_is_at_least : PySem.W.codeIn K cd_is_at_least "is_at_least" = true) (k_is_at_least : PySem.W.keepIn K (.ref f_is_at_least) = true)
    {f_is_between : Addr} {od_is_between an_is_between : Option Addr} {sl_is_between : Array (Option Value)} {oc_is_between kV_is_between dc_is_between pm_is_between cd_is_between ct_is_between : Value}
    (a_is_between : PySem.W.nsIn K mainGlobals "is_between" = some (some (.ref f_is_between))) (l_is_between : K.lookup f_is_between = some ⟨oc_is_between, od_is_between, .func (PySem.W.fnOf "is_between" "is_between" (defArgs s_is_between) (defBody s_is_between) (defScope s_is_between) .none kV_is_between dc_is_between pm_is_between an_is_between cd_is_between ct_is_between), sl_is_between⟩) (c_is_between : PySem.W.codeIn K cd_is_between "is_between" = true) (k_is_between : PySem.W.keepIn K (.ref f_is_between) = true)
    {f_are_numbers : Addr} {od_are_numbers an_are_numbers : Option Addr} {sl_are_numbers : Array (Option Value)} {oc_are_numbers kV_are_numbers dc_are_numbers pm_are_numbers cd_are_numbers ct_are_numbers : Value}
    (a_are_numbers : PySem.W.nsIn K mainGlobals "are_numbers" = some (some (.ref f_are_numbers))) (l_are_numbers : K.lookup f_are_numbers = some ⟨oc_are_numbers, od_are_numbers, .func (PySem.W.fnOf "are_numbers" "are_numbers" (defArgs s_are_numbers) (defBody s_are_numbers) (defScope s_are_numbers) .none kV_are_numbers dc_are_numbers pm_are_numbers an_are_numbers cd_are_numbers ct_are_numbers), sl_are_numbers⟩) (c_are_numbers : PySem.W.codeIn K cd_are_numbers "are_numbers" = true) (k_are_numbers : PySem.W.keepIn K (.ref f_are_numbers) = true)
    {f_is_entries : Addr} {od_is_entries an_is_entries : Option Addr} {sl_is_entries : Array (Option Value)} {oc_is_entries kV_is_entries dc_is_entries pm_is_entries cd_is_entries ct_is_entries : Value}
    (a_is_entries : PySem.W.nsIn K mainGlobals "is_entries" = some (some (.ref f_is_entries))) (l_is_entries : K.lookup f_is_entries = some ⟨oc_is_entries, od_is_entries, .func (PySem.W.fnOf "is_entries" "is_entries" (defArgs s_is_entries) (defBody s_is_entries) (defScope s_is_entries) .none kV_is_entries dc_is_entries pm_is_entries an_is_entries cd_is_entries ct_is_entries), sl_is_entries⟩) (c_is_entries : PySem.W.codeIn K cd_is_entries "is_entries" = true) (k_is_entries : PySem.W.keepIn K (.ref f_is_entries) = true)
    {f_is_row_of : Addr} {od_is_row_of an_is_row_of : Option Addr} {sl_is_row_of : Array (Option Value)} {oc_is_row_of kV_is_row_of dc_is_row_of pm_is_row_of cd_is_row_of ct_is_row_of : Value}
    (a_is_row_of : PySem.W.nsIn K mainGlobals "is_row_of" = some (some (.ref f_is_row_of))) (l_is_row_of : K.lookup f_is_row_of = some ⟨oc_is_row_of, od_is_row_of, .func (PySem.W.fnOf "is_row_of" "is_row_of" (defArgs s_is_row_of) (defBody s_is_row_of) (defScope s_is_row_of) .none kV_is_row_of dc_is_row_of pm_is_row_of an_is_row_of cd_is_row_of ct_is_row_of), sl_is_row_of⟩) (c_is_row_of : PySem.W.codeIn K cd_is_row_of "is_row_of" = true) (k_is_row_of : PySem.W.keepIn K (.ref f_is_row_of) = true)
    {f_require_rows : Addr} {od_require_rows an_require_rows : Option Addr} {sl_require_rows : Array (Option Value)} {oc_require_rows kV_require_rows dc_require_rows pm_require_rows cd_require_rows ct_require_rows : Value}
    (a_require_rows : PySem.W.nsIn K mainGlobals "require_rows" = some (some (.ref f_require_rows))) (l_require_rows : K.lookup f_require_rows = some ⟨oc_require_rows, od_require_rows, .func (PySem.W.fnOf "require_rows" "require_rows" (defArgs s_require_rows) (defBody s_require_rows) (defScope s_require_rows) .none kV_require_rows dc_require_rows pm_require_rows an_require_rows cd_require_rows ct_require_rows), sl_require_rows⟩) (c_require_rows : PySem.W.codeIn K cd_require_rows "require_rows" = true) (k_require_rows : PySem.W.keepIn K (.ref f_require_rows) = true)
    {f_require_beginning : Addr} {od_require_beginning an_require_beginning : Option Addr} {sl_require_beginning : Array (Option Value)} {oc_require_beginning kV_require_beginning dc_require_beginning pm_require_beginning cd_require_beginning ct_require_beginning : Value}
    (a_require_beginning : PySem.W.nsIn K mainGlobals "require_beginning" = some (some (.ref f_require_beginning))) (l_require_beginning : K.lookup f_require_beginning = some ⟨oc_require_beginning, od_require_beginning, .func (PySem.W.fnOf "require_beginning" "require_beginning" (defArgs s_require_beginning) (defBody s_require_beginning) (defScope s_require_beginning) .none kV_require_beginning dc_require_beginning pm_require_beginning an_require_beginning cd_require_beginning ct_require_beginning), sl_require_beginning⟩) (c_require_beginning : PySem.W.codeIn K cd_require_beginning "require_beginning" = true) (k_require_beginning : PySem.W.keepIn K (.ref f_require_beginning) = true)
    {f_levels_behind : Addr} {od_levels_behind an_levels_behind : Option Addr} {sl_levels_behind : Array (Option Value)} {oc_levels_behind kV_levels_behind dc_levels_behind pm_levels_behind cd_levels_behind ct_levels_behind : Value}
    (a_levels_behind : PySem.W.nsIn K mainGlobals "levels_behind" = some (some (.ref f_levels_behind))) (l_levels_behind : K.lookup f_levels_behind = some ⟨oc_levels_behind, od_levels_behind, .func (PySem.W.fnOf "levels_behind" "levels_behind" (defArgs s_levels_behind) (defBody s_levels_behind) (defScope s_levels_behind) .none kV_levels_behind dc_levels_behind pm_levels_behind an_levels_behind cd_levels_behind ct_levels_behind), sl_levels_behind⟩) (c_levels_behind : PySem.W.codeIn K cd_levels_behind "levels_behind" = true) (k_levels_behind : PySem.W.keepIn K (.ref f_levels_behind) = true)
    {f_group : Addr} {od_group an_group : Option Addr} {sl_group : Array (Option Value)} {oc_group kV_group dc_group pm_group cd_group ct_group : Value}
    (a_group : PySem.W.nsIn K mainGlobals "group" = some (some (.ref f_group))) (l_group : K.lookup f_group = some ⟨oc_group, od_group, .func (PySem.W.fnOf "group" "group" (defArgs s_group) (defBody s_group) (defScope s_group) .none kV_group dc_group pm_group an_group cd_group ct_group), sl_group⟩) (c_group : PySem.W.codeIn K cd_group "group" = true) (k_group : PySem.W.keepIn K (.ref f_group) = true)
    {f_tests_behind : Addr} {od_tests_behind an_tests_behind : Option Addr} {sl_tests_behind : Array (Option Value)} {oc_tests_behind kV_tests_behind dc_tests_behind pm_tests_behind cd_tests_behind ct_tests_behind : Value}
    (a_tests_behind : PySem.W.nsIn K mainGlobals "tests_behind" = some (some (.ref f_tests_behind))) (l_tests_behind : K.lookup f_tests_behind = some ⟨oc_tests_behind, od_tests_behind, .func (PySem.W.fnOf "tests_behind" "tests_behind" (defArgs s_tests_behind) (defBody s_tests_behind) (defScope s_tests_behind) .none kV_tests_behind dc_tests_behind pm_tests_behind an_tests_behind cd_tests_behind ct_tests_behind), sl_tests_behind⟩) (c_tests_behind : PySem.W.codeIn K cd_tests_behind "tests_behind" = true) (k_tests_behind : PySem.W.keepIn K (.ref f_tests_behind) = true)
    {f_tests : Addr} {od_tests an_tests : Option Addr} {sl_tests : Array (Option Value)} {oc_tests kV_tests dc_tests pm_tests cd_tests ct_tests : Value}
    (a_tests : PySem.W.nsIn K mainGlobals "tests" = some (some (.ref f_tests))) (l_tests : K.lookup f_tests = some ⟨oc_tests, od_tests, .func (PySem.W.fnOf "tests" "tests" (defArgs s_tests) (defBody s_tests) (defScope s_tests) .none kV_tests dc_tests pm_tests an_tests cd_tests ct_tests), sl_tests⟩) (c_tests : PySem.W.codeIn K cd_tests "tests" = true) (k_tests : PySem.W.keepIn K (.ref f_tests) = true)
    {f_level_of : Addr} {od_level_of an_level_of : Option Addr} {sl_level_of : Array (Option Value)} {oc_level_of kV_level_of dc_level_of pm_level_of cd_level_of ct_level_of : Value}
    (a_level_of : PySem.W.nsIn K mainGlobals "level_of" = some (some (.ref f_level_of))) (l_level_of : K.lookup f_level_of = some ⟨oc_level_of, od_level_of, .func (PySem.W.fnOf "level_of" "level_of" (defArgs s_level_of) (defBody s_level_of) (defScope s_level_of) .none kV_level_of dc_level_of pm_level_of an_level_of cd_level_of ct_level_of), sl_level_of⟩) (c_level_of : PySem.W.codeIn K cd_level_of "level_of" = true) (k_level_of : PySem.W.keepIn K (.ref f_level_of) = true)
    {f_settled : Addr} {od_settled an_settled : Option Addr} {sl_settled : Array (Option Value)} {oc_settled kV_settled dc_settled pm_settled cd_settled ct_settled : Value}
    (a_settled : PySem.W.nsIn K mainGlobals "settled" = some (some (.ref f_settled))) (l_settled : K.lookup f_settled = some ⟨oc_settled, od_settled, .func (PySem.W.fnOf "settled" "settled" (defArgs s_settled) (defBody s_settled) (defScope s_settled) .none kV_settled dc_settled pm_settled an_settled cd_settled ct_settled), sl_settled⟩) (c_settled : PySem.W.codeIn K cd_settled "settled" = true) (k_settled : PySem.W.keepIn K (.ref f_settled) = true)
    {f_law_mix : Addr} {od_law_mix an_law_mix : Option Addr} {sl_law_mix : Array (Option Value)} {oc_law_mix kV_law_mix dc_law_mix pm_law_mix cd_law_mix ct_law_mix : Value}
    (a_law_mix : PySem.W.nsIn K mainGlobals "_law_mix" = some (some (.ref f_law_mix))) (l_law_mix : K.lookup f_law_mix = some ⟨oc_law_mix, od_law_mix, .func (PySem.W.fnOf "_law_mix" "_law_mix" (defArgs s_law_mix) (defBody s_law_mix) (defScope s_law_mix) .none kV_law_mix dc_law_mix pm_law_mix an_law_mix cd_law_mix ct_law_mix), sl_law_mix⟩) (c_law_mix : PySem.W.codeIn K cd_law_mix "_law_mix" = true) (k_law_mix : PySem.W.keepIn K (.ref f_law_mix) = true)
    {f_law_source : Addr} {od_law_source an_law_source : Option Addr} {sl_law_source : Array (Option Value)} {oc_law_source kV_law_source dc_law_source pm_law_source cd_law_source ct_law_source : Value}
    (a_law_source : PySem.W.nsIn K mainGlobals "_law_source" = some (some (.ref f_law_source))) (l_law_source : K.lookup f_law_source = some ⟨oc_law_source, od_law_source, .func (PySem.W.fnOf "_law_source" "_law_source" (defArgs s_law_source) (defBody s_law_source) (defScope s_law_source) .none kV_law_source dc_law_source pm_law_source an_law_source cd_law_source ct_law_source), sl_law_source⟩) (c_law_source : PySem.W.codeIn K cd_law_source "_law_source" = true) (k_law_source : PySem.W.keepIn K (.ref f_law_source) = true)
    {f_law_draw : Addr} {od_law_draw an_law_draw : Option Addr} {sl_law_draw : Array (Option Value)} {oc_law_draw kV_law_draw dc_law_draw pm_law_draw cd_law_draw ct_law_draw : Value}
    (a_law_draw : PySem.W.nsIn K mainGlobals "_law_draw" = some (some (.ref f_law_draw))) (l_law_draw : K.lookup f_law_draw = some ⟨oc_law_draw, od_law_draw, .func (PySem.W.fnOf "_law_draw" "_law_draw" (defArgs s_law_draw) (defBody s_law_draw) (defScope s_law_draw) .none kV_law_draw dc_law_draw pm_law_draw an_law_draw cd_law_draw ct_law_draw), sl_law_draw⟩) (c_law_draw : PySem.W.codeIn K cd_law_draw "_law_draw" = true) (k_law_draw : PySem.W.keepIn K (.ref f_law_draw) = true)
    {f_law_rows : Addr} {od_law_rows an_law_rows : Option Addr} {sl_law_rows : Array (Option Value)} {oc_law_rows kV_law_rows dc_law_rows pm_law_rows cd_law_rows ct_law_rows : Value}
    (a_law_rows : PySem.W.nsIn K mainGlobals "_law_rows" = some (some (.ref f_law_rows))) (l_law_rows : K.lookup f_law_rows = some ⟨oc_law_rows, od_law_rows, .func (PySem.W.fnOf "_law_rows" "_law_rows" (defArgs s_law_rows) (defBody s_law_rows) (defScope s_law_rows) .none kV_law_rows dc_law_rows pm_law_rows an_law_rows cd_law_rows ct_law_rows), sl_law_rows⟩) (c_law_rows : PySem.W.codeIn K cd_law_rows "_law_rows" = true) (k_law_rows : PySem.W.keepIn K (.ref f_law_rows) = true)
    {f_law_levels : Addr} {od_law_levels an_law_levels : Option Addr} {sl_law_levels : Array (Option Value)} {oc_law_levels kV_law_levels dc_law_levels pm_law_levels cd_law_levels ct_law_levels : Value}
    (a_law_levels : PySem.W.nsIn K mainGlobals "_law_levels" = some (some (.ref f_law_levels))) (l_law_levels : K.lookup f_law_levels = some ⟨oc_law_levels, od_law_levels, .func (PySem.W.fnOf "_law_levels" "_law_levels" (defArgs s_law_levels) (defBody s_law_levels) (defScope s_law_levels) .none kV_law_levels dc_law_levels pm_law_levels an_law_levels cd_law_levels ct_law_levels), sl_law_levels⟩) (c_law_levels : PySem.W.codeIn K cd_law_levels "_law_levels" = true) (k_law_levels : PySem.W.keepIn K (.ref f_law_levels) = true)
    {f_law_due : Addr} {od_law_due an_law_due : Option Addr} {sl_law_due : Array (Option Value)} {oc_law_due kV_law_due dc_law_due pm_law_due cd_law_due ct_law_due : Value}
    (a_law_due : PySem.W.nsIn K mainGlobals "_law_due" = some (some (.ref f_law_due))) (l_law_due : K.lookup f_law_due = some ⟨oc_law_due, od_law_due, .func (PySem.W.fnOf "_law_due" "_law_due" (defArgs s_law_due) (defBody s_law_due) (defScope s_law_due) .none kV_law_due dc_law_due pm_law_due an_law_due cd_law_due ct_law_due), sl_law_due⟩) (c_law_due : PySem.W.codeIn K cd_law_due "_law_due" = true) (k_law_due : PySem.W.keepIn K (.ref f_law_due) = true)
    {f_law_first_unlike : Addr} {od_law_first_unlike an_law_first_unlike : Option Addr} {sl_law_first_unlike : Array (Option Value)} {oc_law_first_unlike kV_law_first_unlike dc_law_first_unlike pm_law_first_unlike cd_law_first_unlike ct_law_first_unlike : Value}
    (a_law_first_unlike : PySem.W.nsIn K mainGlobals "_law_first_unlike" = some (some (.ref f_law_first_unlike))) (l_law_first_unlike : K.lookup f_law_first_unlike = some ⟨oc_law_first_unlike, od_law_first_unlike, .func (PySem.W.fnOf "_law_first_unlike" "_law_first_unlike" (defArgs s_law_first_unlike) (defBody s_law_first_unlike) (defScope s_law_first_unlike) .none kV_law_first_unlike dc_law_first_unlike pm_law_first_unlike an_law_first_unlike cd_law_first_unlike ct_law_first_unlike), sl_law_first_unlike⟩) (c_law_first_unlike : PySem.W.codeIn K cd_law_first_unlike "_law_first_unlike" = true) (k_law_first_unlike : PySem.W.keepIn K (.ref f_law_first_unlike) = true)
    {f_law_past : Addr} {od_law_past an_law_past : Option Addr} {sl_law_past : Array (Option Value)} {oc_law_past kV_law_past dc_law_past pm_law_past cd_law_past ct_law_past : Value}
    (a_law_past : PySem.W.nsIn K mainGlobals "_law_past" = some (some (.ref f_law_past))) (l_law_past : K.lookup f_law_past = some ⟨oc_law_past, od_law_past, .func (PySem.W.fnOf "_law_past" "_law_past" (defArgs s_law_past) (defBody s_law_past) (defScope s_law_past) .none kV_law_past dc_law_past pm_law_past an_law_past cd_law_past ct_law_past), sl_law_past⟩) (c_law_past : PySem.W.codeIn K cd_law_past "_law_past" = true) (k_law_past : PySem.W.keepIn K (.ref f_law_past) = true)
    {f_law_is_right : Addr} {od_law_is_right an_law_is_right : Option Addr} {sl_law_is_right : Array (Option Value)} {oc_law_is_right kV_law_is_right dc_law_is_right pm_law_is_right cd_law_is_right ct_law_is_right : Value}
    (a_law_is_right : PySem.W.nsIn K mainGlobals "_law_is_right" = some (some (.ref f_law_is_right))) (l_law_is_right : K.lookup f_law_is_right = some ⟨oc_law_is_right, od_law_is_right, .func (PySem.W.fnOf "_law_is_right" "_law_is_right" (defArgs s_law_is_right) (defBody s_law_is_right) (defScope s_law_is_right) .none kV_law_is_right dc_law_is_right pm_law_is_right an_law_is_right cd_law_is_right ct_law_is_right), sl_law_is_right⟩) (c_law_is_right : PySem.W.codeIn K cd_law_is_right "_law_is_right" = true) (k_law_is_right : PySem.W.keepIn K (.ref f_law_is_right) = true)
    {f_law : Addr} {od_law an_law : Option Addr} {sl_law : Array (Option Value)} {oc_law kV_law dc_law pm_law cd_law ct_law : Value}
    (a_law : PySem.W.nsIn K mainGlobals "law" = some (some (.ref f_law))) (l_law : K.lookup f_law = some ⟨oc_law, od_law, .func (PySem.W.fnOf "law" "law" (defArgs s_law) (defBody s_law) (defScope s_law) .none kV_law dc_law pm_law an_law cd_law ct_law), sl_law⟩) (c_law : PySem.W.codeIn K cd_law "law" = true) (k_law : PySem.W.keepIn K (.ref f_law) = true)
    {t_MAX_DAYS : Tok} (v_MAX_DAYS : PySem.W.nsIn K mainGlobals "MAX_DAYS" = some (some (.int 100 t_MAX_DAYS)))
    {t_MAX_LEVELS : Tok} (v_MAX_LEVELS : PySem.W.nsIn K mainGlobals "MAX_LEVELS" = some (some (.int 1000 t_MAX_LEVELS)))
    {t_MAX_OWNED : Tok} (v_MAX_OWNED : PySem.W.nsIn K mainGlobals "MAX_OWNED" = some (some (.int 12 t_MAX_OWNED)))
    (z_abs : PySem.W.nsIn K mainGlobals "abs" = some none)
    (z_all : PySem.W.nsIn K mainGlobals "all" = some none)
    (z_bool : PySem.W.nsIn K mainGlobals "bool" = some none)
    (z_enumerate : PySem.W.nsIn K mainGlobals "enumerate" = some none)
    (z_int : PySem.W.nsIn K mainGlobals "int" = some none)
    (z_isinstance : PySem.W.nsIn K mainGlobals "isinstance" = some none)
    (z_len : PySem.W.nsIn K mainGlobals "len" = some none)
    (z_list : PySem.W.nsIn K mainGlobals "list" = some none)
    (z_max : PySem.W.nsIn K mainGlobals "max" = some none)
    (z_range : PySem.W.nsIn K mainGlobals "range" = some none)
    (z_repr : PySem.W.nsIn K mainGlobals "repr" = some none)
    (z_set : PySem.W.nsIn K mainGlobals "set" = some none)
    (z_sorted : PySem.W.nsIn K mainGlobals "sorted" = some none)
    (z_tuple : PySem.W.nsIn K mainGlobals "tuple" = some none)
    (z_zip : PySem.W.nsIn K mainGlobals "zip" = some none)
    : ∃ (fd : FuncData) (C : CT), (∀ (s : Shared) (v : Value), BindsTo s fd ⟨[v], []⟩ [("_law_script", v)]) ∧ ∀ base : Heap, K.In base → base.Ns mainGlobals mg → FnQ l.prog w K mg base C 8 fa fd ["_law_script"] F_law := by
  have e2 : fa = f_law := by
    have e := hfa.symm.trans (PySem.W.mg_of X G a_law)
    cases e
    rfl
  rw [e2]
  have F_is_integer := fun_mk (st := s_is_integer) l_is_integer c_is_integer k_is_integer
  have F_is_at_least := fun_mk (st := s_is_at_least) l_is_at_least c_is_at_least k_is_at_least
  have F_is_between := fun_mk (st := s_is_between) l_is_between c_is_between k_is_between
  have F_are_numbers := fun_mk (st := s_are_numbers) l_are_numbers c_are_numbers k_are_numbers
  have F_is_entries := fun_mk (st := s_is_entries) l_is_entries c_is_entries k_is_entries
  have F_is_row_of := fun_mk (st := s_is_row_of) l_is_row_of c_is_row_of k_is_row_of
  have F_require_rows := fun_mk (st := s_require_rows) l_require_rows c_require_rows k_require_rows
  have F_require_beginning := fun_mk (st := s_require_beginning) l_require_beginning c_require_beginning k_require_beginning
  have F_levels_behind := fun_mk (st := s_levels_behind) l_levels_behind c_levels_behind k_levels_behind
  have F_group := fun_mk (st := s_group) l_group c_group k_group
  have F_tests_behind := fun_mk (st := s_tests_behind) l_tests_behind c_tests_behind k_tests_behind
  have F_tests := fun_mk (st := s_tests) l_tests c_tests k_tests
  have F_level_of := fun_mk (st := s_level_of) l_level_of c_level_of k_level_of
  have F_settled := fun_mk (st := s_settled) l_settled c_settled k_settled
  have F_law_mix := fun_mk (st := s_law_mix) l_law_mix c_law_mix k_law_mix
  have F_law_source := fun_mk (st := s_law_source) l_law_source c_law_source k_law_source
  have F_law_draw := fun_mk (st := s_law_draw) l_law_draw c_law_draw k_law_draw
  have F_law_rows := fun_mk (st := s_law_rows) l_law_rows c_law_rows k_law_rows
  have F_law_levels := fun_mk (st := s_law_levels) l_law_levels c_law_levels k_law_levels
  have F_law_due := fun_mk (st := s_law_due) l_law_due c_law_due k_law_due
  have F_law_first_unlike := fun_mk (st := s_law_first_unlike) l_law_first_unlike c_law_first_unlike k_law_first_unlike
  have F_law_past := fun_mk (st := s_law_past) l_law_past c_law_past k_law_past
  have F_law_is_right := fun_mk (st := s_law_is_right) l_law_is_right c_law_is_right k_law_is_right
  have F_law := fun_mk (st := s_law) l_law c_law k_law
  have T : Tx K mg ⟨f_is_integer, _, f_is_at_least, _, f_is_between, _, f_are_numbers, _, f_is_entries, _, f_is_row_of, _, f_require_rows, _, f_require_beginning, _, f_levels_behind, _, f_group, _, f_tests_behind, _, f_tests, _, f_level_of, _, f_settled, _, f_law_mix, _, f_law_source, _, f_law_draw, _, f_law_rows, _, f_law_levels, _, f_law_due, _, f_law_first_unlike, _, f_law_past, _, f_law_is_right, _, f_law, _, t_MAX_DAYS, t_MAX_LEVELS, t_MAX_OWNED⟩ :=
    { g_is_integer := PySem.W.mg_of X G a_is_integer,
      F_is_integer := F_is_integer, b_is_integer := F_is_integer.binds fun _ _ _ _ _ _ us hl => match us, hl with | [_], _ => rfl,
      g_is_at_least := PySem.W.mg_of X G a_is_at_least,
      F_is_at_least := F_is_at_least, b_is_at_least := F_is_at_least.binds fun _ _ _ _ _ _ us hl => match us, hl with | [_, _], _ => rfl,
      g_is_between := PySem.W.mg_of X G a_is_between,
      F_is_between := F_is_between, b_is_between := F_is_between.binds fun _ _ _ _ _ _ us hl => match us, hl with | [_, _, _], _ => rfl,
      g_are_numbers := PySem.W.mg_of X G a_are_numbers,
      F_are_numbers := F_are_numbers, b_are_numbers := F_are_numbers.binds fun _ _ _ _ _ _ us hl => match us, hl with | [_], _ => rfl,
      g_is_entries := PySem.W.mg_of X G a_is_entries,
      F_is_entries := F_is_entries, b_is_entries := F_is_entries.binds fun _ _ _ _ _ _ us hl => match us, hl with | [_], _ => rfl,
      g_is_row_of := PySem.W.mg_of X G a_is_row_of,
      F_is_row_of := F_is_row_of, b_is_row_of := F_is_row_of.binds fun _ _ _ _ _ _ us hl => match us, hl with | [_, _], _ => rfl,
      g_require_rows := PySem.W.mg_of X G a_require_rows,
      F_require_rows := F_require_rows, b_require_rows := F_require_rows.binds fun _ _ _ _ _ _ us hl => match us, hl with | [_], _ => rfl,
      g_require_beginning := PySem.W.mg_of X G a_require_beginning,
      F_require_beginning := F_require_beginning, b_require_beginning := F_require_beginning.binds fun _ _ _ _ _ _ us hl => match us, hl with | [_, _], _ => rfl,
      g_levels_behind := PySem.W.mg_of X G a_levels_behind,
      F_levels_behind := F_levels_behind, b_levels_behind := F_levels_behind.binds fun _ _ _ _ _ _ us hl => match us, hl with | [_, _], _ => rfl,
      g_group := PySem.W.mg_of X G a_group,
      F_group := F_group, b_group := F_group.binds fun _ _ _ _ _ _ us hl => match us, hl with | [_, _], _ => rfl,
      g_tests_behind := PySem.W.mg_of X G a_tests_behind,
      F_tests_behind := F_tests_behind, b_tests_behind := F_tests_behind.binds fun _ _ _ _ _ _ us hl => match us, hl with | [_, _], _ => rfl,
      g_tests := PySem.W.mg_of X G a_tests,
      F_tests := F_tests, b_tests := F_tests.binds fun _ _ _ _ _ _ us hl => match us, hl with | [_, _], _ => rfl,
      g_level_of := PySem.W.mg_of X G a_level_of,
      F_level_of := F_level_of, b_level_of := F_level_of.binds fun _ _ _ _ _ _ us hl => match us, hl with | [_, _], _ => rfl,
      g_settled := PySem.W.mg_of X G a_settled,
      F_settled := F_settled, b_settled := F_settled.binds fun _ _ _ _ _ _ us hl => match us, hl with | [_], _ => rfl,
      g_law_mix := PySem.W.mg_of X G a_law_mix,
      F_law_mix := F_law_mix, b_law_mix := F_law_mix.binds fun _ _ _ _ _ _ us hl => match us, hl with | [_, _], _ => rfl,
      g_law_source := PySem.W.mg_of X G a_law_source,
      F_law_source := F_law_source, b_law_source := F_law_source.binds fun _ _ _ _ _ _ us hl => match us, hl with | [_], _ => rfl,
      g_law_draw := PySem.W.mg_of X G a_law_draw,
      F_law_draw := F_law_draw, b_law_draw := F_law_draw.binds fun _ _ _ _ _ _ us hl => match us, hl with | [_, _], _ => rfl,
      g_law_rows := PySem.W.mg_of X G a_law_rows,
      F_law_rows := F_law_rows, b_law_rows := F_law_rows.binds fun _ _ _ _ _ _ us hl => match us, hl with | [_, _, _], _ => rfl,
      g_law_levels := PySem.W.mg_of X G a_law_levels,
      F_law_levels := F_law_levels, b_law_levels := F_law_levels.binds fun _ _ _ _ _ _ us hl => match us, hl with | [_, _], _ => rfl,
      g_law_due := PySem.W.mg_of X G a_law_due,
      F_law_due := F_law_due, b_law_due := F_law_due.binds fun _ _ _ _ _ _ us hl => match us, hl with | [_, _], _ => rfl,
      g_law_first_unlike := PySem.W.mg_of X G a_law_first_unlike,
      F_law_first_unlike := F_law_first_unlike, b_law_first_unlike := F_law_first_unlike.binds fun _ _ _ _ _ _ us hl => match us, hl with | [_, _], _ => rfl,
      g_law_past := PySem.W.mg_of X G a_law_past,
      F_law_past := F_law_past, b_law_past := F_law_past.binds fun _ _ _ _ _ _ us hl => match us, hl with | [_, _], _ => rfl,
      g_law_is_right := PySem.W.mg_of X G a_law_is_right,
      F_law_is_right := F_law_is_right, b_law_is_right := F_law_is_right.binds fun _ _ _ _ _ _ us hl => match us, hl with | [_, _, _], _ => rfl,
      g_law := PySem.W.mg_of X G a_law,
      F_law := F_law, b_law := F_law.binds fun _ _ _ _ _ _ us hl => match us, hl with | [_], _ => rfl,
      m_abs := PySem.W.mg_none_of X G z_abs,
      m_all := PySem.W.mg_none_of X G z_all,
      m_bool := PySem.W.mg_none_of X G z_bool,
      m_enumerate := PySem.W.mg_none_of X G z_enumerate,
      m_int := PySem.W.mg_none_of X G z_int,
      m_isinstance := PySem.W.mg_none_of X G z_isinstance,
      m_len := PySem.W.mg_none_of X G z_len,
      m_list := PySem.W.mg_none_of X G z_list,
      m_max := PySem.W.mg_none_of X G z_max,
      m_range := PySem.W.mg_none_of X G z_range,
      m_repr := PySem.W.mg_none_of X G z_repr,
      m_set := PySem.W.mg_none_of X G z_set,
      m_sorted := PySem.W.mg_none_of X G z_sorted,
      m_tuple := PySem.W.mg_none_of X G z_tuple,
      m_zip := PySem.W.mg_none_of X G z_zip,
      c_MAX_DAYS := PySem.W.mg_of X G v_MAX_DAYS,
      c_MAX_LEVELS := PySem.W.mg_of X G v_MAX_LEVELS,
      c_MAX_OWNED := PySem.W.mg_of X G v_MAX_OWNED }
  exact ⟨_, ⟨fun _ => 0, fun _ => Str.empty⟩, fun s v => .of_eq rfl, fun base _ _ => ok_law T⟩
end My
open PySem PySem.W PyProof.Rows
set_option maxRecDepth 100000 in
set_option maxHeartbeats 0 in
theorem PySem.Challenge.cw_breakrows_k26_groups_and_settled_days_holds : PySem.Challenge.rw_breakrows_k26_groups_and_settled_days.Holds := by
  w_on; o_law; k_head; (case hw => w_witness2)
  k_fill
  refine Bk.walk_q (l := PySem.Challenge.rw_breakrows_k26_groups_and_settled_days) (n := 63) (k := 8) (x := "_law_script") (F := My.F_law) rfl (by decide) rfl ⟨rfl, by decide, by decide⟩ (fun w h Y => PySem.W.kIn_of Y) ?F My.law_true
  case F =>
    intro w mg fa h KX G hmg
    refine' My.all_mk KX G hmg ?a_is_integer ?l_is_integer ?c_is_integer ?k_is_integer ?a_is_at_least ?l_is_at_least ?c_is_at_least ?k_is_at_least ?a_is_between ?l_is_between ?c_is_between ?k_is_between ?a_are_numbers ?l_are_numbers ?c_are_numbers ?k_are_numbers ?a_is_entries ?l_is_entries ?c_is_entries ?k_is_entries ?a_is_row_of ?l_is_row_of ?c_is_row_of ?k_is_row_of ?a_require_rows ?l_require_rows ?c_require_rows ?k_require_rows ?a_require_beginning ?l_require_beginning ?c_require_beginning ?k_require_beginning ?a_levels_behind ?l_levels_behind ?c_levels_behind ?k_levels_behind ?a_group ?l_group ?c_group ?k_group ?a_tests_behind ?l_tests_behind ?c_tests_behind ?k_tests_behind ?a_tests ?l_tests ?c_tests ?k_tests ?a_level_of ?l_level_of ?c_level_of ?k_level_of ?a_settled ?l_settled ?c_settled ?k_settled ?a_law_mix ?l_law_mix ?c_law_mix ?k_law_mix ?a_law_source ?l_law_source ?c_law_source ?k_law_source ?a_law_draw ?l_law_draw ?c_law_draw ?k_law_draw ?a_law_rows ?l_law_rows ?c_law_rows ?k_law_rows ?a_law_levels ?l_law_levels ?c_law_levels ?k_law_levels ?a_law_due ?l_law_due ?c_law_due ?k_law_due ?a_law_first_unlike ?l_law_first_unlike ?c_law_first_unlike ?k_law_first_unlike ?a_law_past ?l_law_past ?c_law_past ?k_law_past ?a_law_is_right ?l_law_is_right ?c_law_is_right ?k_law_is_right ?a_law ?l_law ?c_law ?k_law ?v_MAX_DAYS ?v_MAX_LEVELS ?v_MAX_OWNED ?z_abs ?z_all ?z_bool ?z_enumerate ?z_int ?z_isinstance ?z_len ?z_list ?z_max ?z_range ?z_repr ?z_set ?z_sorted ?z_tuple ?z_zip
    (case a_is_integer => k_is); (case l_is_integer => k_is); (case c_is_integer => k_is); (case k_is_integer => k_is); (case a_is_at_least => k_is); (case l_is_at_least => k_is); (case c_is_at_least => k_is); (case k_is_at_least => k_is); (case a_is_between => k_is); (case l_is_between => k_is); (case c_is_between => k_is); (case k_is_between => k_is); (case a_are_numbers => k_is); (case l_are_numbers => k_is); (case c_are_numbers => k_is); (case k_are_numbers => k_is); (case a_is_entries => k_is); (case l_is_entries => k_is); (case c_is_entries => k_is); (case k_is_entries => k_is); (case a_is_row_of => k_is); (case l_is_row_of => k_is); (case c_is_row_of => k_is); (case k_is_row_of => k_is); (case a_require_rows => k_is); (case l_require_rows => k_is); (case c_require_rows => k_is); (case k_require_rows => k_is); (case a_require_beginning => k_is); (case l_require_beginning => k_is); (case c_require_beginning => k_is); (case k_require_beginning => k_is); (case a_levels_behind => k_is); (case l_levels_behind => k_is); (case c_levels_behind => k_is); (case k_levels_behind => k_is); (case a_group => k_is); (case l_group => k_is); (case c_group => k_is); (case k_group => k_is); (case a_tests_behind => k_is); (case l_tests_behind => k_is); (case c_tests_behind => k_is); (case k_tests_behind => k_is); (case a_tests => k_is); (case l_tests => k_is); (case c_tests => k_is); (case k_tests => k_is); (case a_level_of => k_is); (case l_level_of => k_is); (case c_level_of => k_is); (case k_level_of => k_is); (case a_settled => k_is); (case l_settled => k_is); (case c_settled => k_is); (case k_settled => k_is); (case a_law_mix => k_is); (case l_law_mix => k_is); (case c_law_mix => k_is); (case k_law_mix => k_is); (case a_law_source => k_is); (case l_law_source => k_is); (case c_law_source => k_is); (case k_law_source => k_is); (case a_law_draw => k_is); (case l_law_draw => k_is); (case c_law_draw => k_is); (case k_law_draw => k_is); (case a_law_rows => k_is); (case l_law_rows => k_is); (case c_law_rows => k_is); (case k_law_rows => k_is); (case a_law_levels => k_is); (case l_law_levels => k_is); (case c_law_levels => k_is); (case k_law_levels => k_is); (case a_law_due => k_is); (case l_law_due => k_is); (case c_law_due => k_is); (case k_law_due => k_is); (case a_law_first_unlike => k_is); (case l_law_first_unlike => k_is); (case c_law_first_unlike => k_is); (case k_law_first_unlike => k_is); (case a_law_past => k_is); (case l_law_past => k_is); (case c_law_past => k_is); (case k_law_past => k_is); (case a_law_is_right => k_is); (case l_law_is_right => k_is); (case c_law_is_right => k_is); (case k_law_is_right => k_is); (case a_law => k_is); (case l_law => k_is); (case c_law => k_is); (case k_law => k_is); (case v_MAX_DAYS => k_is); (case v_MAX_LEVELS => k_is); (case v_MAX_OWNED => k_is); (case z_abs => k_is); (case z_all => k_is); (case z_bool => k_is); (case z_enumerate => k_is); (case z_int => k_is); (case z_isinstance => k_is); (case z_len => k_is); (case z_list => k_is); (case z_max => k_is); (case z_range => k_is); (case z_repr => k_is); (case z_set => k_is); (case z_sorted => k_is); (case z_tuple => k_is); (case z_zip => k_is)

