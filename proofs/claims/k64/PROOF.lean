import PyProof.Rows.All
import HandS.Conv
import HandS.Deep
import HandS.DictComp
import HandS.ExcOwn
import HandS.ForExc
import HandS.ForMost
import HandS.IsInst
import HandS.Iter
import HandS.Rev
import HandS.SetFor
import HandS.SortInts
import HandS.SortKw
import HandS.SortRule
import HandS.Style
import HandS.TupAny
import HandS.TupLe
import HandS.TupLen
import HandS.TupMul
import HandS.Wide
import KE.DataCmp
import KE.GoesEnum
import KE.GoesMore
import KE.GoesZip
import KE.KDictCopyH
import KE.KDictDisplayH
import KE.KDictKeyed
import KE.KDictPairs
import KE.KDictSum
import KE.KDictWalk
import KE.KDictZip
import KE.KTupSum
import KE.KeyNested
import KE.SortData
import OpenK.AllK
import PyProof.DictRoadsH
import PySem.Challenge.RW_breakrows_k64_pieces_waiting_and_mended
import Wide.All
import Wide.FinOn
set_option Elab.async false
set_option linter.all false
set_option maxRecDepth 100000
set_option maxHeartbeats 1000000
/-! A layer of trees over the hand layer: values are trees D, what may be changed lies in a small store M of our own; each construct has a function that computes its result, and a theorem that the hand layer's reading follows from it. -/
namespace Bk
open PySem PySem.Spec PyProof.Rows L2

/-! ### data, the store, results -/
inductive D where
  | non | bl (b : Bool) | int (i : Int) | str (x : Str)
  | tup (xs : List D) | lst (xs : List D) | ref (k : Nat) | dct (ks vs : List D) | ptu (xs : List D)
inductive MO where
  | dead | lst (xs : List D) | obj (nm : Str) (fs : List (Str × D)) | dct (ks vs : List D) | dki (kvs : List (Int × D))
inductive R (α : Type) where
  | ok (a : α) (M : List MO) | exc (c : Nat) (d : D) (M : List MO) | bad
def R.bind {α β : Type} (r : R α) (f : α → List MO → R β) : R β := match r with
  | .ok a M => f a M
  | .exc c d M => .exc c d M
  | .bad => .bad
abbrev Env := List (Option D)
abbrev GE := Env → List MO → R D
abbrev GT := Env → List MO → R Bool
abbrev GA := Env → List MO → R (List D)
inductive RS where
  | nx (Γ : Env) (M : List MO) | rt (d : D) (M : List MO) | bk (Γ : Env) (M : List MO) | ct (Γ : Env) (M : List MO)
  | exc (c : Nat) (d : D) (Γ : Env) (M : List MO) | bad
abbrev GS := Env → List MO → RS

/-- a list, tracked or written, and no more than that -/
def ExL (K : PySem.W.Frag) (H : Hp) (a : Addr) (xs : List V) : Prop :=
  Rd H a (.lst xs) ∨ ∃ (its : Array Value) (m : Nat), K.lookup a = some { cls := .type "list", data := .seq its m } ∧ its.size ≤ sizeLine ∧ Vals xs its.toList
theorem ExL.sq {K : PySem.W.Frag} {H : Hp} {a : Addr} {xs : List V} : ExL K H a xs → SqL K H a xs
  | .inl h => .inl h
  | .inr ⟨its, m, h1, h2, h3⟩ => .inr ⟨_, its, m, h1, rfl, rfl, rfl, h2, h3⟩
theorem ExL.at_ {X : Cx} {pins : List (Addr × Obj)} {σ : L2.St} {H : Hp} {s : Shared} {a : Addr} {xs : List V} (I : Inv X pins σ H s) (h : ExL X.K H a xs) : ∃ (its : List Value) (m : Nat), Vals xs its ∧ s.heap.get? a = some { cls := .type "list", data := .seq its.toArray m } ∧ xs.length ≤ sizeLine := by
  rcases h with h | ⟨its, m, h1, h2, h3⟩
  · obtain ⟨z, its, m, r, e⟩ := h.ok I.hok
    exact ⟨its, m, r, e, z⟩
  · refine ⟨its.toList, m, h3, by simpa using I.kIn a _ h1, ?_⟩
    have e := h3.length
    rw [Array.length_toList] at e
    exact Nat.le_trans (Nat.le_of_eq e) h2
/-! dicts: their keys nested tuples of whole numbers and None -/
section
variable (K : PySem.W.Frag) (Z : Hp)
mutual
inductive KeyV : NestedKey → V → Prop
  | non : KeyV .none .non
  | int (i : Int) : KeyV (.num i) (.int i)
  | tup {ks : List NestedKey} {a : Addr} {xs : List V} : SqT K Z a xs → KeyVs ks xs → KeyV (.tup ks) (.ref a)
inductive KeyVs : List NestedKey → List V → Prop
  | nil : KeyVs [] []
  | cons {k : NestedKey} {v : V} {ks : List NestedKey} {vs : List V} : KeyV k v → KeyVs ks vs → KeyVs (k :: ks) (v :: vs)
end
/-- the entries of a dict: keys, where they stand, values -/
inductive Ents : List NestedKey → List V → List V → List DictEntry → Prop
  | nil : Ents [] [] [] []
  | cons {k : NestedKey} {y : V} {ku : Value} {v : V} {u : Value} {hs : Int} {ks : List NestedKey} {kv vs : List V} {es : List DictEntry} : KeyV K Z k y → RelV y ku → k.depth ≤ 8 → (∀ w : World, hs = k.hash w) → RelV v u → Ents ks kv vs es → Ents (k :: ks) (y :: kv) (v :: vs) (⟨hs, ku, u⟩ :: es)
end
/-- a tuple that is known to have no dict of its own -/
def PlT (Z : Hp) (a : Addr) (xs : List V) : Prop := ∃ o : Obj, Z a = some (.frz o (.tup xs)) ∧ o.dict = none
theorem PlT.sq {K : PySem.W.Frag} {Z : Hp} {a : Addr} {xs : List V} : PlT Z a xs → SqT K Z a xs
  | ⟨o, h, _⟩ => .inl (.inr ⟨o, h⟩)
def dnO (a : Addr) (es : Array DictEntry) (ep : Nat) : HO := .ext fun h => ∃ o, h.get? a = some o ∧ o.ExactDict ∧ o.data = .dict es ep
/-- all keys are objects -/
def AllRef (ks : List V) : Prop := ∀ x ∈ ks, ∃ b, x = V.ref b
/-- a dict that stands at a and may change: its keys lean on what is frozen -/
def DR (K : PySem.W.Frag) (H Z : Hp) (a : Addr) (nks : List NestedKey) (ks vs : List V) : Prop := ∃ (es : Array DictEntry) (ep : Nat), H a = some (dnO a es ep) ∧ (a == sysModules) = false ∧ ks.length ≤ sizeLine ∧ nks.Nodup ∧ Ents K Z nks ks vs es.toList
/-- a dict that stands at a -/
def ExD (K : PySem.W.Frag) (Z : Hp) (a : Addr) (nks : List NestedKey) (ks vs : List V) : Prop := ∃ (es : Array DictEntry) (ep : Nat), Z a = some (dnO a es ep) ∧ (a == sysModules) = false ∧ ks.length ≤ sizeLine ∧ nks.Nodup ∧ Ents K Z nks ks vs es.toList
section
variable (K : PySem.W.Frag) (Z : Hp) (ι : Nat → Addr) (n : Nat)
mutual
inductive Rp : D → V → Prop
  | non : Rp .non .non
  | bl (b : Bool) : Rp (.bl b) (.bl b)
  | int (i : Int) : Rp (.int i) (.int i)
  | str (x : Str) : Rp (.str x) (.str x)
  | tup {ds : List D} {a : Addr} {xs : List V} : SqT K Z a xs → Rps ds xs → Rp (.tup ds) (.ref a)
  | lst {ds : List D} {a : Addr} {xs : List V} : ExL K Z a xs → Rps ds xs → Rp (.lst ds) (.ref a)
  | ref {k : Nat} : k < n → Rp (.ref k) (.ref (ι k))
  | dct {ks vs : List D} {a : Addr} {nks : List NestedKey} {kx xs : List V} : ExD K Z a nks kx xs → Rps ks kx → Rps vs xs → Rp (.dct ks vs) (.ref a)
  | ptu {ds : List D} {a : Addr} {xs : List V} : PlT Z a xs → Rps ds xs → Rp (.ptu ds) (.ref a)
inductive Rps : List D → List V → Prop
  | nil : Rps [] []
  | cons {d : D} {v : V} {ds : List D} {vs : List V} : Rp d v → Rps ds vs → Rps (d :: ds) (v :: vs)
end
end

abbrev Sub (Z Z' : Hp) : Prop := ∀ a o, Z a = some o → Z' a = some o
theorem subL {K : PySem.W.Frag} {Z Z' : Hp} (h : Sub Z Z') {a : Addr} {xs : List V} : ExL K Z a xs → ExL K Z' a xs
  | .inl (.inl e) => .inl (.inl (h _ _ e))
  | .inl (.inr ⟨o, e⟩) => .inl (.inr ⟨o, h _ _ e⟩)
  | .inr q => .inr q
theorem subT {K : PySem.W.Frag} {Z Z' : Hp} (h : Sub Z Z') {a : Addr} {xs : List V} : SqT K Z a xs → SqT K Z' a xs
  | .inl (.inl e) => .inl (.inl (h _ _ e))
  | .inl (.inr ⟨o, e⟩) => .inl (.inr ⟨o, h _ _ e⟩)
  | .inr q => .inr q

section
variable {K : PySem.W.Frag} {Z Z' : Hp}
mutual
theorem KeyV.sub (hz : Sub Z Z') : ∀ (k : NestedKey) (v : V), KeyV K Z k v → KeyV K Z' k v
  | .none, _, h => by cases h; exact .non
  | .num i, _, h => by cases h; exact .int i
  | .text x, _, h => by cases h
  | .tup ks, _, h => by
    cases h with
    | tup s r => exact .tup (subT hz s) (KeyVs.sub hz ks _ r)
theorem KeyVs.sub (hz : Sub Z Z') : ∀ (ks : List NestedKey) (vs : List V), KeyVs K Z ks vs → KeyVs K Z' ks vs
  | [], _, h => by cases h; exact .nil
  | k :: ks, _, h => by
    cases h with
    | cons r s => exact .cons (KeyV.sub hz k _ r) (KeyVs.sub hz ks _ s)
end
theorem Ents.sub (hz : Sub Z Z') : ∀ {ks : List NestedKey} {kv vs : List V} {es : List DictEntry}, Ents K Z ks kv vs es → Ents K Z' ks kv vs es
  | _, _, _, _, .nil => .nil
  | _, _, _, _, .cons a y b c d e => .cons (KeyV.sub hz _ _ a) y b c d (Ents.sub hz e)
theorem subD (hz : Sub Z Z') {a : Addr} {nks : List NestedKey} {ks vs : List V} : ExD K Z a nks ks vs → ExD K Z' a nks ks vs
  | ⟨es, ep, h1, h2, h3, h4, h5⟩ => ⟨es, ep, hz _ _ h1, h2, h3, h4, h5.sub hz⟩
end

section
variable {K : PySem.W.Frag} {Z Z' : Hp} {ι ι' : Nat → Addr} {n n' : Nat}
mutual
theorem Rp.mono (hz : Sub Z Z') (hi : ∀ k, k < n → ι' k = ι k) (hn : n ≤ n') : ∀ (d : D) (v : V), Rp K Z ι n d v → Rp K Z' ι' n' d v
  | .non, _, h => by cases h; exact .non
  | .bl b, _, h => by cases h; exact .bl b
  | .int i, _, h => by cases h; exact .int i
  | .str x, _, h => by cases h; exact .str x
  | .tup ds, _, h => by
    cases h with
    | tup s r => exact .tup (subT hz s) (Rps.mono hz hi hn ds _ r)
  | .lst ds, _, h => by
    cases h with
    | lst s r => exact .lst (subL hz s) (Rps.mono hz hi hn ds _ r)
  | .ref k, _, h => by
    cases h with
    | ref q => rw [← hi k q]; exact .ref (Nat.lt_of_lt_of_le q hn)
  | .dct ks vs, _, h => by
    cases h with
    | dct s r t => exact .dct (subD hz s) (Rps.mono hz hi hn ks _ r) (Rps.mono hz hi hn vs _ t)
  | .ptu ds, _, h => by
    cases h with
    | ptu s r => exact .ptu (let ⟨o, a, b⟩ := s; ⟨o, hz _ _ a, b⟩) (Rps.mono hz hi hn ds _ r)
theorem Rps.mono (hz : Sub Z Z') (hi : ∀ k, k < n → ι' k = ι k) (hn : n ≤ n') : ∀ (ds : List D) (vs : List V), Rps K Z ι n ds vs → Rps K Z' ι' n' ds vs
  | [], _, h => by cases h; exact .nil
  | d :: ds, _, h => by
    cases h with
    | cons r s => exact .cons (Rp.mono hz hi hn d _ r) (Rps.mono hz hi hn ds _ s)
end
theorem Rps.length : ∀ {ds : List D} {vs : List V}, Rps K Z ι n ds vs → ds.length = vs.length
  | [], _, h => by cases h; rfl
  | _ :: _, _, h => by
    cases h with
    | cons _ s => rw [List.length_cons, List.length_cons, Rps.length s]
theorem Rps.get : ∀ {ds : List D} {vs : List V} {i : Nat} {d : D}, Rps K Z ι n ds vs → ds[i]? = some d → ∃ v, vs[i]? = some v ∧ Rp K Z ι n d v
  | [], _, _, _, _, e => by simp at e
  | _ :: _, _, 0, _, h, e => by
    cases h with
    | cons r _ =>
      simp at e
      subst e
      exact ⟨_, rfl, r⟩
  | _ :: _, _, i + 1, _, h, e => by
    cases h with
    | cons _ s =>
      obtain ⟨v, h1, h2⟩ := Rps.get s (i := i) (by simpa using e)
      exact ⟨v, by simpa using h1, h2⟩
theorem Rps.append : ∀ {ds es : List D} {vs us : List V}, Rps K Z ι n ds vs → Rps K Z ι n es us → Rps K Z ι n (ds ++ es) (vs ++ us)
  | [], _, _, _, h, q => by cases h; exact q
  | _ :: _, _, _, _, h, q => by
    cases h with
    | cons r s => exact .cons r (Rps.append s q)
theorem Rps.set : ∀ {ds : List D} {vs : List V} {d : D} {v : V} (i : Nat), Rps K Z ι n ds vs → Rp K Z ι n d v → Rps K Z ι n (ds.set i d) (vs.set i v)
  | [], _, _, _, _, h, _ => by cases h; exact .nil
  | _ :: _, _, _, _, 0, h, q => by
    cases h with
    | cons _ s => exact .cons q s
  | _ :: _, _, _, _, i + 1, h, q => by
    cases h with
    | cons r s => exact .cons r (Rps.set i s q)
theorem Rps.take : ∀ {ds : List D} {vs : List V} (i : Nat), Rps K Z ι n ds vs → Rps K Z ι n (ds.take i) (vs.take i)
  | _, _, 0, _ => by rw [List.take_zero, List.take_zero]; exact .nil
  | [], _, _ + 1, h => by cases h; exact .nil
  | _ :: _, _, i + 1, h => by
    cases h with
    | cons r s => exact .cons r (Rps.take i s)
theorem Rps.drop : ∀ {ds : List D} {vs : List V} (i : Nat), Rps K Z ι n ds vs → Rps K Z ι n (ds.drop i) (vs.drop i)
  | _, _, 0, h => h
  | [], _, _ + 1, h => by cases h; exact .nil
  | _ :: _, _, i + 1, h => by
    cases h with
    | cons r s => exact Rps.drop i s
theorem Rps.erase : ∀ {ds : List D} {vs : List V} (i : Nat), Rps K Z ι n ds vs → Rps K Z ι n (ds.eraseIdx i) (vs.eraseIdx i)
  | [], _, _, h => by cases h; exact .nil
  | _ :: _, _, 0, h => by
    cases h with
    | cons r s => exact s
  | _ :: _, _, i + 1, h => by
    cases h with
    | cons r s => exact .cons r (Rps.erase i s)
theorem Rps.rep {ds : List D} {vs : List V} (h : Rps K Z ι n ds vs) : ∀ k : Nat, Rps K Z ι n (List.replicate k ds).flatten (List.replicate k vs).flatten
  | 0 => .nil
  | k + 1 => by
    rw [List.replicate_succ, List.replicate_succ, List.flatten_cons, List.flatten_cons]
    exact h.append (Rps.rep h k)
theorem Rps.rev : ∀ {ds : List D} {vs : List V}, Rps K Z ι n ds vs → Rps K Z ι n ds.reverse vs.reverse
  | [], _, h => by cases h; exact .nil
  | _ :: _, _, h => by
    cases h with
    | cons r s =>
      rw [List.reverse_cons, List.reverse_cons]
      exact (Rps.rev s).append (.cons r .nil)
theorem Rps.ints : ∀ {is : List Int} {vs : List V}, Rps K Z ι n (is.map D.int) vs → vs = is.map V.int
  | [], _, h => by cases h; rfl
  | _ :: _, _, h => by
    cases h with
    | cons r s =>
      cases r
      rw [List.map_cons, Rps.ints s]
theorem Rps.of_ints : ∀ (is : List Int), Rps K Z ι n (is.map D.int) (is.map V.int)
  | [] => .nil
  | i :: is => .cons (.int i) (Rps.of_ints is)
end

/-! refs below a bound -/
mutual
def below (m : Nat) : D → Bool
  | .tup ds => belows m ds
  | .lst ds => belows m ds
  | .ref k => decide (k < m)
  | .dct ks vs => belows m ks && belows m vs
  | .ptu ds => belows m ds
  | _ => true
def belows (m : Nat) : List D → Bool
  | [] => true
  | d :: ds => below m d && belows m ds
end
section
variable {K : PySem.W.Frag} {Z : Hp} {ι : Nat → Addr} {n m : Nat}
mutual
theorem Rp.shrink : ∀ (d : D) (v : V), Rp K Z ι n d v → below m d = true → Rp K Z ι m d v
  | .non, _, h, _ => by cases h; exact .non
  | .bl b, _, h, _ => by cases h; exact .bl b
  | .int i, _, h, _ => by cases h; exact .int i
  | .str x, _, h, _ => by cases h; exact .str x
  | .tup ds, _, h, b => by
    cases h with
    | tup s r => exact .tup s (Rps.shrink ds _ r (by simpa [below] using b))
  | .lst ds, _, h, b => by
    cases h with
    | lst s r => exact .lst s (Rps.shrink ds _ r (by simpa [below] using b))
  | .ref k, _, h, b => by
    cases h with
    | ref q => exact .ref (by simpa [below] using b)
  | .dct ks vs, _, h, b => by
    cases h with
    | dct s r t =>
      have b' : (belows m ks && belows m vs) = true := b
      rw [Bool.and_eq_true] at b'
      exact .dct s (Rps.shrink ks _ r b'.1) (Rps.shrink vs _ t b'.2)
  | .ptu ds, _, h, b => by
    cases h with
    | ptu s r => exact .ptu s (Rps.shrink ds _ r (by simpa [below] using b))
theorem Rps.shrink : ∀ (ds : List D) (vs : List V), Rps K Z ι n ds vs → belows m ds = true → Rps K Z ι m ds vs
  | [], _, h, _ => by cases h; exact .nil
  | d :: ds, _, h, b => by
    cases h with
    | cons r s =>
      simp only [belows, Bool.and_eq_true] at b
      exact .cons (Rp.shrink d _ r b.1) (Rps.shrink ds _ s b.2)
end
end

/-! ### the heap holds the store -/
def belowO (m : Nat) : MO → Bool
  | .dead => true
  | .lst ds => belows m ds
  | .obj _ fs => belows m (fs.map (·.2))
  | .dct ks vs => belows m ks && belows m vs
  | .dki kvs => belows m (kvs.map (·.2))
def OR (K : PySem.W.Frag) (H Z : Hp) (ι : Nat → Addr) (n : Nat) : MO → Addr → Prop
  | .dead, _ => True
  | .lst ds, a => ∃ xs, H a = some (.lst xs) ∧ Rps K Z ι n ds xs
  | .obj nm fs, a => ∃ C dx gs, PySem.W.nsIn K mainGlobals nm = some (some (.ref C)) ∧ H a = some (.ins C dx gs) ∧ gs.map (·.1) = fs.map (·.1) ∧ Rps K Z ι n (fs.map (·.2)) (gs.map (·.2))
  | .dct ks vs, a => ∃ nks kx xs, DR K H Z a nks kx xs ∧ Rps K Z ι n ks kx ∧ Rps K Z ι n vs xs
  | .dki kvs, a => ∃ gs : List (L2.Key × V), H a = some (.dK gs) ∧ gs.map (·.1) = kvs.map (fun p => Sum.inl p.1) ∧ Rps K Z ι n (kvs.map (·.2)) (gs.map (·.2))
section
variable {K : PySem.W.Frag} {H Z : Hp} {ι : Nat → Addr} {n : Nat}
theorem OR.mono {Z' : Hp} {ι' : Nat → Addr} {n' : Nat} {H' : Hp} {u : MO} {a : Addr} (hz : Sub Z Z') (hi : ∀ k, k < n → ι' k = ι k) (hn : n ≤ n') (hh : ∀ o, H a = some o → H' a = some o) (h : OR K H Z ι n u a) : OR K H' Z' ι' n' u a := by
  cases u with
  | dead => trivial
  | lst ds =>
    obtain ⟨xs, e1, r⟩ := h
    exact ⟨xs, hh _ e1, Rps.mono hz hi hn _ _ r⟩
  | obj nm fs =>
    obtain ⟨C, dx, gs, e0, e1, e2, r⟩ := h
    exact ⟨C, dx, gs, e0, hh _ e1, e2, Rps.mono hz hi hn _ _ r⟩
  | dct ks vs =>
    obtain ⟨nks, kx, xs, ⟨es, ep, h1, h2, h3, h4, h5⟩, r, q⟩ := h
    exact ⟨nks, kx, xs, ⟨es, ep, hh _ h1, h2, h3, h4, h5.sub hz⟩, Rps.mono hz hi hn _ _ r, Rps.mono hz hi hn _ _ q⟩
  | dki kvs =>
    obtain ⟨gs, e1, e2, r⟩ := h
    exact ⟨gs, hh _ e1, e2, Rps.mono hz hi hn _ _ r⟩
theorem OR.shrink {u : MO} {a : Addr} {m : Nat} (h : OR K H Z ι n u a) (b : belowO m u = true) : OR K H Z ι m u a := by
  cases u with
  | dead => trivial
  | lst ds =>
    obtain ⟨xs, e1, r⟩ := h
    exact ⟨xs, e1, Rps.shrink _ _ r b⟩
  | obj nm fs =>
    obtain ⟨C, dx, gs, e0, e1, e2, r⟩ := h
    exact ⟨C, dx, gs, e0, e1, e2, Rps.shrink _ _ r b⟩
  | dct ks vs =>
    obtain ⟨nks, kx, xs, d, r, q⟩ := h
    have b' : (belows m ks && belows m vs) = true := b
    rw [Bool.and_eq_true] at b'
    exact ⟨nks, kx, xs, d, Rps.shrink _ _ r b'.1, Rps.shrink _ _ q b'.2⟩
  | dki kvs =>
    obtain ⟨gs, e1, e2, r⟩ := h
    exact ⟨gs, e1, e2, Rps.shrink _ _ r b⟩
/-- what leans on nothing of ours -/
theorem OR.low {ι' : Nat → Addr} {n' : Nat} {u : MO} {a : Addr} (h : OR K H Z ι n u a) (b : belowO 0 u = true) : OR K H Z ι' n' u a :=
  OR.mono (fun _ _ z => z) (fun _ z => absurd z (Nat.not_lt_zero _)) (Nat.zero_le _) (fun _ z => z) (h.shrink b)
end
structure HR (K : PySem.W.Frag) (H Z : Hp) (ι : Nat → Addr) (M : List MO) : Prop where
  sub : Sub Z H
  ali : ∀ k, k < M.length → ∃ o, H (ι k) = some o
  sep : ∀ (k : Nat) (o : MO), M[k]? = some o → o ≠ .dead → Z (ι k) = none
  inj : ∀ (j k : Nat) (o u : MO), M[j]? = some o → M[k]? = some u → o ≠ .dead → u ≠ .dead → ι j = ι k → j = k
  obj : ∀ (k : Nat) (o : MO), M[k]? = some o → OR K H Z ι M.length o (ι k)
  ded : ∀ (k : Nat), M[k]? = some .dead → ∃ o, Z (ι k) = some o
theorem HR.apart {K : PySem.W.Frag} {H Z : Hp} {ι : Nat → Addr} {M : List MO} (h : HR K H Z ι M) {j k : Nat} {o : MO} (hj : j < M.length) (hk : M[k]? = some o) (d : o ≠ .dead) (ne : j ≠ k) : ι j ≠ ι k := fun e => by
  have ej : M[j]? = some M[j] := List.getElem?_eq_getElem hj
  by_cases dj : M[j] = .dead
  · rw [dj] at ej
    obtain ⟨u, hu⟩ := h.ded j ej
    rw [e, h.sep k o hk d] at hu
    cases hu
  · exact ne (h.inj j k _ o ej hk dj d e)
structure Ext (H Z : Hp) (ι : Nat → Addr) (n : Nat) (H' Z' : Hp) (ι' : Nat → Addr) (n' : Nat) : Prop where
  zz : Sub Z Z'
  ii : ∀ k, k < n → ι' k = ι k
  fr : ∀ a o, H a = some o → (∀ k, k < n → a ≠ ι k) → H' a = some o
  nw : ∀ k, n ≤ k → k < n' → H (ι' k) = none
  ln : n ≤ n'
  zn : ∀ a o, Z' a = some o → Z a = some o ∨ H a = none ∨ ∃ k, k < n ∧ a = ι k
theorem Ext.refl {H Z : Hp} {ι : Nat → Addr} {n : Nat} : Ext H Z ι n H Z ι n :=
  ⟨fun _ _ h => h, fun _ _ => rfl, fun _ _ h _ => h, fun k h1 h2 => absurd h2 (Nat.not_lt.mpr h1), Nat.le_refl _, fun _ _ h => .inl h⟩
theorem Ext.trans {H Z H1 Z1 H2 Z2 : Hp} {ι ι1 ι2 : Nat → Addr} {n n1 n2 : Nat} (a : Ext H Z ι n H1 Z1 ι1 n1) (b : Ext H1 Z1 ι1 n1 H2 Z2 ι2 n2) (al : ∀ k, k < n1 → ∃ o, H1 (ι1 k) = some o) : Ext H Z ι n H2 Z2 ι2 n2 where
  zz := fun x o h => b.zz x o (a.zz x o h)
  ii := fun k h => (b.ii k (Nat.lt_of_lt_of_le h a.ln)).trans (a.ii k h)
  fr := fun x o h hk => by
    refine b.fr x o (a.fr x o h hk) fun k hk1 e => ?_
    by_cases hn : k < n
    · exact hk k hn (e.trans (a.ii k hn))
    · have q := a.nw k (Nat.le_of_not_lt hn) hk1
      rw [← e, h] at q
      cases q
  nw := fun k h1 h2 => by
    by_cases hn : k < n1
    · rw [b.ii k hn]
      exact a.nw k h1 hn
    · have q := b.nw k (Nat.le_of_not_lt hn) h2
      cases e : H (ι2 k) with
      | none => rfl
      | some o =>
        by_cases z : ∀ j, j < n → ι2 k ≠ ι j
        · rw [a.fr _ _ e z] at q
          cases q
        · exfalso
          apply z
          intro j hj ej
          obtain ⟨u, hu⟩ := al j (Nat.lt_of_lt_of_le hj a.ln)
          rw [a.ii j hj, ← ej, q] at hu
          cases hu
  ln := Nat.le_trans a.ln b.ln
  zn := fun x o h => by
    have low : ∀ u, H1 x = none → H x = some u → ∃ k, k < n ∧ x = ι k := fun u h1 hu => by
      refine Classical.byContradiction fun z => ?_
      rw [a.fr x u hu fun k hk e => z ⟨k, hk, e⟩] at h1
      cases h1
    have fin : H1 x = none → Z x = some o ∨ H x = none ∨ ∃ k, k < n ∧ x = ι k := fun h1 => by
      cases e : H x with
      | none => exact .inr (.inl rfl)
      | some u => exact .inr (.inr (low u h1 e))
    rcases b.zn x o h with h | h | ⟨k, hk, e⟩
    · exact a.zn x o h
    · exact fin h
    · by_cases hn : k < n
      · exact .inr (.inr ⟨k, hn, e.trans (a.ii k hn)⟩)
      · exact .inr (.inl (by rw [e]; exact a.nw k (Nat.le_of_not_lt hn) hk))
/-- the store is cut -/
theorem Ext.cut {H Z H1 Z1 : Hp} {ι ι1 : Nat → Addr} {n n1 m : Nat} (a : Ext H Z ι n H1 Z1 ι1 n1) (h1 : n ≤ m) (h2 : m ≤ n1) : Ext H Z ι n H1 Z1 ι1 m :=
  ⟨a.zz, a.ii, a.fr, fun k q1 q2 => a.nw k q1 (Nat.lt_of_lt_of_le q2 h2), h1, a.zn⟩
section
variable {K : PySem.W.Frag} {H Z H' Z' : Hp} {ι ι' : Nat → Addr} {M : List MO} {n' : Nat}
theorem Rp.ext {d : D} {v : V} {n : Nat} (r : Rp K Z ι n d v) (e : Ext H Z ι n H' Z' ι' n') : Rp K Z' ι' n' d v := Rp.mono e.zz e.ii e.ln d v r
theorem Rps.ext {ds : List D} {vs : List V} {n : Nat} (r : Rps K Z ι n ds vs) (e : Ext H Z ι n H' Z' ι' n') : Rps K Z' ι' n' ds vs := Rps.mono e.zz e.ii e.ln ds vs r
/-- a new thing that will not be changed -/
theorem HR.frozen (h : HR K H Z ι M) {p : Addr} {o : HO} (hp : H p = none) : HR K (upd H p o) (upd Z p o) ι M ∧ Ext H Z ι M.length (upd H p o) (upd Z p o) ι M.length := by
  have zp : Z p = none := by
    cases e : Z p with
    | none => rfl
    | some u =>
      rw [h.sub _ _ e] at hp
      cases hp
  have ne : ∀ k, k < M.length → ι k ≠ p := fun k hk e => by
    obtain ⟨u, hu⟩ := h.ali k hk
    rw [e, hp] at hu
    cases hu
  have lt : ∀ {k : Nat} {u : MO}, M[k]? = some u → k < M.length := fun e => (List.getElem?_eq_some_iff.mp e).1
  have s1 : Sub Z (upd Z p o) := fun a u e => by rw [upd_ne (ne_of_none e zp)]; exact e
  refine ⟨⟨fun a u e => ?_, fun k hk => ?_, fun k u e d => ?_, h.inj, fun k u e => ?_, fun k e => ?_⟩, s1, fun _ _ => rfl, fun a u e _ => ?_, fun k h1 h2 => absurd h2 (Nat.not_lt.mpr h1), Nat.le_refl _, fun a u e => ?_⟩
  · by_cases ha : a = p
    · subst ha
      rw [upd_same] at e ⊢
      exact e
    · rw [upd_ne ha] at e ⊢
      exact h.sub _ _ e
  · rw [upd_ne (ne k hk)]
    exact h.ali k hk
  · rw [upd_ne (ne k (lt e))]
    exact h.sep k u e d
  · exact OR.mono s1 (fun _ _ => rfl) (Nat.le_refl _) (fun o z => by rw [upd_ne (ne k (lt e))]; exact z) (h.obj k u e)
  · obtain ⟨u, hu⟩ := h.ded k e
    exact ⟨u, s1 _ _ hu⟩
  · rw [upd_ne (ne_of_none e hp)]
    exact e
  · by_cases ha : a = p
    · subst ha
      exact .inr (.inl hp)
    · rw [upd_ne ha] at e
      exact .inl e
def put (ι : Nat → Addr) (m : Nat) (p : Addr) : Nat → Addr := fun k => if k = m then p else ι k
theorem put_at {ι : Nat → Addr} {m : Nat} {p : Addr} : put ι m p m = p := if_pos rfl
theorem put_lt {ι : Nat → Addr} {m k : Nat} {p : Addr} (h : k < m) : put ι m p k = ι k := if_neg (Nat.ne_of_lt h)
/-- a new thing of ours -/
theorem HR.owned (h : HR K H Z ι M) {p : Addr} {ds : List D} {xs : List V} (hp : H p = none) (r : Rps K Z ι M.length ds xs) :
    HR K (upd H p (.lst xs)) Z (put ι M.length p) (M ++ [.lst ds]) ∧ Ext H Z ι M.length (upd H p (.lst xs)) Z (put ι M.length p) (M ++ [MO.lst ds]).length := by
  have zp : Z p = none := by
    cases e : Z p with
    | none => rfl
    | some u =>
      rw [h.sub _ _ e] at hp
      cases hp
  have ne : ∀ k, k < M.length → ι k ≠ p := fun k hk e => by
    obtain ⟨u, hu⟩ := h.ali k hk
    rw [e, hp] at hu
    cases hu
  have ii : ∀ k, k < M.length → (put ι M.length p) k = ι k := fun k hk => put_lt hk
  have il : (put ι M.length p) M.length = p := put_at
  have cs : ∀ {k : Nat} {u : MO}, (M ++ [MO.lst ds])[k]? = some u → (k < M.length ∧ M[k]? = some u) ∨ (k = M.length ∧ u = .lst ds) := fun {k u} e => by
    by_cases hk : k < M.length
    · rw [List.getElem?_append_left hk] at e
      exact .inl ⟨hk, e⟩
    · rw [List.getElem?_append_right (Nat.le_of_not_lt hk)] at e
      by_cases hz : k - M.length = 0
      · rw [hz] at e
        exact .inr ⟨by omega, (Option.some.inj e).symm⟩
      · rw [List.getElem?_eq_none (by simp; omega)] at e
        cases e
  have ln : (M ++ [MO.lst ds]).length = M.length + 1 := by simp
  refine ⟨⟨fun a u e => ?_, fun k hk => ?_, fun k u e d => ?_, fun j k o u e1 e2 d1 d2 e => ?_, fun k u e => ?_, fun k e => ?_⟩, fun _ _ e => e, ii, fun a u e _ => ?_, fun k h1 h2 => ?_, by rw [ln]; omega, fun _ _ e => .inl e⟩
  · rw [upd_ne (ne_of_none e zp)]
    exact h.sub _ _ e
  · rw [ln] at hk
    by_cases hk' : k < M.length
    · rw [ii k hk', upd_ne (ne k hk')]
      exact h.ali k hk'
    · have : k = M.length := by omega
      subst this
      exact ⟨_, by rw [il, upd_same]⟩
  · rcases cs e with ⟨hk, e⟩ | ⟨rfl, rfl⟩
    · rw [ii k hk]
      exact h.sep k u e d
    · rw [il]
      exact zp
  · rcases cs e1 with ⟨hj, e1⟩ | ⟨rfl, rfl⟩ <;> rcases cs e2 with ⟨hk, e2⟩ | ⟨rfl, rfl⟩
    · rw [ii j hj, ii k hk] at e
      exact h.inj j k o u e1 e2 d1 d2 e
    · rw [ii j hj, il] at e
      exact absurd e (ne j hj)
    · rw [ii k hk, il] at e
      exact absurd e.symm (ne k hk)
    · rfl
  · rcases cs e with ⟨hk, e⟩ | ⟨rfl, rfl⟩
    · rw [ii k hk]
      exact OR.mono (fun _ _ z => z) ii (by rw [ln]; omega) (fun o z => by rw [upd_ne (ne k hk)]; exact z) (h.obj k u e)
    · rw [il]
      exact ⟨xs, upd_same, Rps.mono (fun _ _ z => z) ii (by rw [ln]; omega) _ _ r⟩
  · rcases cs e with ⟨hk, e⟩ | ⟨_, e⟩
    · rw [ii k hk]
      exact h.ded k e
    · cases e
  · rw [upd_ne (ne_of_none e hp)]
    exact e
  · rw [ln] at h2
    have : k = M.length := by omega
    subst this
    rw [il]
    exact hp
/-- one of ours is changed -/
theorem HR.change (h : HR K H Z ι M) {j : Nat} {es ds : List D} {xs : List V} (hj : M[j]? = some (.lst es)) (r : Rps K Z ι M.length ds xs) :
    HR K (upd H (ι j) (.lst xs)) Z ι (M.set j (.lst ds)) ∧ Ext H Z ι M.length (upd H (ι j) (.lst xs)) Z ι (M.set j (.lst ds)).length := by
  have lt : j < M.length := (List.getElem?_eq_some_iff.mp hj).1
  have ln : (M.set j (MO.lst ds)).length = M.length := List.length_set
  have zj : Z (ι j) = none := h.sep j _ hj (by simp)
  have cs : ∀ {k : Nat} {u : MO}, (M.set j (.lst ds))[k]? = some u → (k ≠ j ∧ M[k]? = some u) ∨ (k = j ∧ u = .lst ds) := fun {k u} e => by
    by_cases hk : k = j
    · subst hk
      rw [List.getElem?_set_self lt] at e
      exact .inr ⟨rfl, (Option.some.inj e).symm⟩
    · rw [List.getElem?_set_ne (Ne.symm hk)] at e
      exact .inl ⟨hk, e⟩
  have apart : ∀ {k : Nat} {u : MO}, k ≠ j → M[k]? = some u → u ≠ .dead → ι k ≠ ι j := fun {k u} hk e d z => hk (h.inj k j u _ e hj d (by simp) z)
  refine ⟨⟨fun a u e => ?_, fun k hk => ?_, fun k u e d => ?_, fun a b o u e1 e2 d1 d2 e => ?_, fun k u e => ?_, fun k e => ?_⟩, fun _ _ e => e, fun _ _ => rfl, fun a u e z => ?_, fun k h1 h2 => absurd h2 (by rw [ln]; exact Nat.not_lt.mpr h1), by rw [ln]; exact Nat.le_refl _, fun _ _ e => .inl e⟩
  · rw [upd_ne (ne_of_none e zj)]
    exact h.sub _ _ e
  · rw [ln] at hk
    by_cases e : ι k = ι j
    · exact ⟨_, by rw [e, upd_same]⟩
    · rw [upd_ne e]
      exact h.ali k hk
  · rcases cs e with ⟨hk, e⟩ | ⟨rfl, rfl⟩
    · exact h.sep k u e d
    · exact zj
  · have live : ∀ {k : Nat} {u : MO}, (M.set j (.lst ds))[k]? = some u → u ≠ .dead → ∃ u', M[k]? = some u' ∧ u' ≠ .dead := fun {k u} e d => by
      rcases cs e with ⟨_, e⟩ | ⟨rfl, rfl⟩
      · exact ⟨u, e, d⟩
      · exact ⟨_, hj, by simp⟩
    obtain ⟨o', e1', d1'⟩ := live e1 d1
    obtain ⟨u', e2', d2'⟩ := live e2 d2
    exact h.inj a b o' u' e1' e2' d1' d2' e
  · rw [ln]
    rcases cs e with ⟨hk, e⟩ | ⟨rfl, rfl⟩
    · by_cases du : u = .dead
      · subst du
        trivial
      · exact OR.mono (fun _ _ z => z) (fun _ _ => rfl) (Nat.le_refl _) (fun o z => by rw [upd_ne (apart hk e du)]; exact z) (h.obj k u e)
    · exact ⟨xs, upd_same, r⟩
  · rcases cs e with ⟨_, e⟩ | ⟨_, e⟩
    · exact h.ded k e
    · cases e
  · rw [upd_ne (z j lt)]
    exact e
/-- one of ours will not be changed any more -/
theorem HR.freezeG (h : HR K H Z ι M) {j : Nat} {o : MO} {ho : HO} (hj : M[j]? = some o) (hd : o ≠ .dead) (e1 : H (ι j) = some ho) :
    HR K H (upd Z (ι j) ho) ι (M.set j .dead) ∧ Ext H Z ι M.length H (upd Z (ι j) ho) ι (M.set j MO.dead).length ∧ Sub Z (upd Z (ι j) ho) := by
  have lt : j < M.length := (List.getElem?_eq_some_iff.mp hj).1
  have ln : (M.set j MO.dead).length = M.length := List.length_set
  have zj : Z (ι j) = none := h.sep j _ hj hd
  have s1 : Sub Z (upd Z (ι j) ho) := fun a u e => by rw [upd_ne (ne_of_none e zj)]; exact e
  have cs : ∀ {k : Nat} {u : MO}, (M.set j .dead)[k]? = some u → u ≠ .dead → k ≠ j ∧ M[k]? = some u := fun {k u} e d => by
    by_cases hk : k = j
    · subst hk
      rw [List.getElem?_set_self lt] at e
      exact absurd (Option.some.inj e).symm d
    · rw [List.getElem?_set_ne (Ne.symm hk)] at e
      exact ⟨hk, e⟩
  refine ⟨⟨fun a u e => ?_, fun k hk => h.ali k (by rw [ln] at hk; exact hk), fun k u e d => ?_, fun a b o u q1 q2 d1 d2 e => ?_, fun k u e => ?_, fun k e => ?_⟩, ⟨s1, fun _ _ => rfl, fun a u e _ => e, fun k h1 h2 => absurd h2 (by rw [ln]; exact Nat.not_lt.mpr h1), by rw [ln]; exact Nat.le_refl _, fun a u e => ?_⟩, s1⟩
  · by_cases ha : a = ι j
    · subst ha
      rw [upd_same] at e
      cases e
      exact e1
    · rw [upd_ne ha] at e
      exact h.sub _ _ e
  · obtain ⟨hk, e⟩ := cs e d
    rw [upd_ne fun z => hk (h.inj k j u _ e hj d hd z)]
    exact h.sep k u e d
  · exact h.inj a b o u (cs q1 d1).2 (cs q2 d2).2 d1 d2 e
  · rw [ln]
    by_cases du : u = .dead
    · subst du
      trivial
    · exact OR.mono s1 (fun _ _ => rfl) (Nat.le_refl _) (fun _ z => z) (h.obj k u (cs e du).2)
  · by_cases hk : k = j
    · subst hk
      exact ⟨_, upd_same⟩
    · rw [List.getElem?_set_ne (Ne.symm hk)] at e
      obtain ⟨u, hu⟩ := h.ded k e
      exact ⟨u, s1 _ _ hu⟩
  · by_cases ha : a = ι j
    · exact .inr (.inr ⟨j, lt, ha⟩)
    · rw [upd_ne ha] at e
      exact .inl e
/-- a list of ours will not be changed any more -/
theorem HR.freeze (h : HR K H Z ι M) {j : Nat} {ds : List D} (hj : M[j]? = some (.lst ds)) :
    ∃ xs, Rps K Z ι M.length ds xs ∧ HR K H (upd Z (ι j) (.lst xs)) ι (M.set j .dead) ∧ Ext H Z ι M.length H (upd Z (ι j) (.lst xs)) ι (M.set j MO.dead).length ∧ Rp K (upd Z (ι j) (.lst xs)) ι (M.set j MO.dead).length (.lst ds) (.ref (ι j)) := by
  have ln : (M.set j MO.dead).length = M.length := List.length_set
  obtain ⟨xs, e1, r⟩ := h.obj j _ hj
  obtain ⟨a, b, s1⟩ := h.freezeG hj (by simp) e1
  refine ⟨xs, r, a, b, ?_⟩
  rw [ln]
  exact .lst (.inl (.inl upd_same)) (Rps.mono s1 (fun _ _ => rfl) (Nat.le_refl _) _ _ r)
/-- a dict of ours will not be changed any more -/
theorem HR.freezeD (h : HR K H Z ι M) {j : Nat} {ks vs : List D} (hj : M[j]? = some (.dct ks vs)) :
    ∃ ho, H (ι j) = some ho ∧ HR K H (upd Z (ι j) ho) ι (M.set j .dead) ∧ Ext H Z ι M.length H (upd Z (ι j) ho) ι (M.set j MO.dead).length ∧ Rp K (upd Z (ι j) ho) ι (M.set j MO.dead).length (.dct ks vs) (.ref (ι j)) := by
  have ln : (M.set j MO.dead).length = M.length := List.length_set
  obtain ⟨nks, kx, xs, ⟨es, ep, h1, h2, h3, h4, h5⟩, r, q⟩ := h.obj j _ hj
  obtain ⟨a, b, s1⟩ := h.freezeG hj (by simp) h1
  refine ⟨_, h1, a, b, ?_⟩
  rw [ln]
  exact .dct ⟨es, ep, upd_same, h2, h3, h4, h5.sub s1⟩ (Rps.mono s1 (fun _ _ => rfl) (Nat.le_refl _) _ _ r) (Rps.mono s1 (fun _ _ => rfl) (Nat.le_refl _) _ _ q)
end
/-- a cut: what is left leans on nothing that was cut off -/
def cutOk (m : Nat) (M : List MO) : Bool := (M.take m).all (belowO m)
theorem HR.cut {K : PySem.W.Frag} {H Z : Hp} {ι : Nat → Addr} {M : List MO} (h : HR K H Z ι M) {m : Nat} (hm : m ≤ M.length) (c : cutOk m M = true) : HR K H Z ι (M.take m) := by
  have ln : (M.take m).length = m := by rw [List.length_take]; omega
  have cs : ∀ {k : Nat} {u : MO}, (M.take m)[k]? = some u → M[k]? = some u ∧ belowO m u = true := fun {k u} e => by
    have lk : k < m := by
      have := (List.getElem?_eq_some_iff.mp e).1
      rw [ln] at this
      exact this
    have e' := e
    rw [List.getElem?_take_of_lt lk] at e'
    exact ⟨e', List.all_eq_true.mp c u (List.mem_of_getElem? e)⟩
  refine ⟨h.sub, fun k hk => h.ali k (by rw [ln] at hk; omega), fun k u e d => h.sep k u (cs e).1 d, fun a b o u e1 e2 d1 d2 e => h.inj a b o u (cs e1).1 (cs e2).1 d1 d2 e, fun k u e => ?_, fun k e => h.ded k (cs e).1⟩
  rw [ln]
  obtain ⟨e1, b⟩ := cs e
  exact (h.obj k u e1).shrink b
end Bk

set_option Elab.async false
set_option linter.all false
set_option maxRecDepth 100000
set_option maxHeartbeats 1000000
namespace Bk
open PySem PySem.Spec PyProof.Rows L2

/-! ### what is shown of a piece of syntax -/
abbrev St := L2.St
/-- the classes of errors: where each stands, and its one attribute -/
structure CT where
  at_ : Nat → Addr
  nm : Nat → Str
def ExcR (K : PySem.W.Frag) (C : CT) (H Z : Hp) (ι : Nat → Addr) (n c : Nat) (d : D) (cls : Value) (dd : Option Addr) : Prop :=
  cls = .ref (C.at_ c) ∧ ∃ a v, dd = some a ∧ H a = some (.xd [(C.nm c, v)]) ∧ Rp K Z ι n d v
def Slots (K : PySem.W.Frag) (Z : Hp) (ι : Nat → Addr) (n : Nat) (Γ : Env) (σ : St) : Prop :=
  Γ.length = σ.length ∧ ∀ (i : Nat) (d : D), Γ[i]? = some (some d) → ∃ v, σ[i]? = some (some v) ∧ Rp K Z ι n d v
theorem Slots.ext {K : PySem.W.Frag} {H Z H' Z' : Hp} {ι ι' : Nat → Addr} {n n' : Nat} {Γ : Env} {σ : St} (s : Slots K Z ι n Γ σ) (e : Ext H Z ι n H' Z' ι' n') : Slots K Z' ι' n' Γ σ :=
  ⟨s.1, fun i d h => let ⟨v, h1, h2⟩ := s.2 i d h; ⟨v, h1, h2.ext e⟩⟩
theorem Slots.set {K : PySem.W.Frag} {Z : Hp} {ι : Nat → Addr} {n : Nat} {Γ : Env} {σ : St} (s : Slots K Z ι n Γ σ) (i : Nat) {d : D} {v : V} (r : Rp K Z ι n d v) : Slots K Z ι n (Γ.set i (some d)) (σ.set i (some v)) := by
  refine ⟨by rw [List.length_set, List.length_set]; exact s.1, fun j e h => ?_⟩
  by_cases hj : i = j
  · subst hj
    have lt : i < Γ.length := by
      have := (List.getElem?_eq_some_iff.mp h).1
      rw [List.length_set] at this
      exact this
    rw [List.getElem?_set_self lt] at h
    have q := Option.some.inj (Option.some.inj h)
    subst q
    exact ⟨v, List.getElem?_set_self (by rw [← s.1]; exact lt), r⟩
  · rw [List.getElem?_set_ne hj] at h
    rw [List.getElem?_set_ne hj]
    exact s.2 j e h
/-- slots are forgotten -/
def forget (Γ : Env) : List Nat → Env
  | [] => Γ
  | i :: is => forget (Γ.set i none) is
theorem Slots.forget {K : PySem.W.Frag} {Z : Hp} {ι : Nat → Addr} {n : Nat} {σ : St} : ∀ (is : List Nat) {Γ : Env}, Slots K Z ι n Γ σ → Slots K Z ι n (forget Γ is) σ
  | [], _, s => s
  | i :: is, Γ, s => Slots.forget is ⟨by rw [List.length_set]; exact s.1, fun j e h => by
      by_cases hj : i = j
      · subst hj
        have lt : i < Γ.length := by
          have := (List.getElem?_eq_some_iff.mp h).1
          rw [List.length_set] at this
          exact this
        rw [List.getElem?_set_self lt] at h
        cases h
      · rw [List.getElem?_set_ne hj] at h
        exact s.2 j e h⟩
/-- what leans on nothing that is cut off stays -/
def clean (m : Nat) (Γ : Env) : Env := Γ.map fun o => match o with
  | some d => if below m d = true then some d else none
  | none => none
theorem Slots.cut {K : PySem.W.Frag} {Z : Hp} {ι : Nat → Addr} {n m : Nat} {Γ : Env} {σ : St} (s : Slots K Z ι n Γ σ) : Slots K Z ι m (clean m Γ) σ := by
  refine ⟨by unfold clean; rw [List.length_map]; exact s.1, fun i d h => ?_⟩
  unfold clean at h
  rw [List.getElem?_map] at h
  cases e : Γ[i]? with
  | none => rw [e] at h; cases h
  | some o =>
    cases o with
    | none => rw [e] at h; cases h
    | some d' =>
      rw [e] at h
      have h' : (if below m d' = true then some d' else none) = some d := Option.some.inj h
      by_cases hb : below m d' = true
      · rw [if_pos hb] at h'
        have q := Option.some.inj h'
        subst q
        obtain ⟨v, h1, h2⟩ := s.2 i d' e
        exact ⟨v, h1, h2.shrink _ _ hb⟩
      · rw [if_neg hb] at h'
        cases h'

abbrev RpK (α β : Type) := Hp → (Nat → Addr) → Nat → α → β → Prop
abbrev rpE (K : PySem.W.Frag) : RpK D V := fun Z ι n d v => Rp K Z ι n d v
abbrev rpA (K : PySem.W.Frag) : RpK (List D) (List V) := fun Z ι n d v => Rps K Z ι n d v
abbrev rpT : RpK Bool Bool := fun _ _ _ a b => a = b
def Post {α β : Type} (X : Cx) (C : CT) (W : WX) (rp : RpK α β) (σ : St) (H Z : Hp) (ι : Nat → Addr) (M : List MO) (r : R α) (Q : β → Hp → Prop) : Prop := match r with
  | .ok a M' => ∀ (b : β) (H' Z' : Hp) (ι' : Nat → Addr), Ext H Z ι M.length H' Z' ι' M'.length → HR X.K H' Z' ι' M' → rp Z' ι' M'.length a b → Q b H'
  | .exc c d M' => ∀ (cls : Value) (dd : Option Addr) (H' Z' : Hp) (ι' : Nat → Addr), Ext H Z ι M.length H' Z' ι' M'.length → HR X.K H' Z' ι' M' → ExcR X.K C H' Z' ι' M'.length c d cls dd → W cls dd σ H'
  | .bad => False
section
variable {X : Cx} {C : CT} {W : WX} {σ : St} {H Z H1 Z1 : Hp} {ι ι1 : Nat → Addr} {M M1 : List MO}
theorem Post.shift {α β : Type} {rp : RpK α β} {r : R α} {Q : β → Hp → Prop} (h : Post X C W rp σ H Z ι M r Q) (e : Ext H Z ι M.length H1 Z1 ι1 M1.length) (hr : HR X.K H1 Z1 ι1 M1) : Post X C W rp σ H1 Z1 ι1 M1 r Q := by
  cases r with
  | ok a M' => exact fun b H' Z' ι' e' hr' rb => h b H' Z' ι' (e.trans e' hr.ali) hr' rb
  | exc c d M' => exact fun cls dd H' Z' ι' e' hr' rb => h cls dd H' Z' ι' (e.trans e' hr.ali) hr' rb
  | bad => exact h
theorem Post.bind {α β γ δ : Type} {rp1 : RpK α β} {rp2 : RpK γ δ} {r : R α} {f : α → List MO → R γ} {Q : δ → Hp → Prop} {Q1 : β → Hp → Prop} (h : Post X C W rp2 σ H Z ι M (r.bind f) Q)
    (k : ∀ (a : α) (M1 : List MO) (b : β) (H1 Z1 : Hp) (ι1 : Nat → Addr), Ext H Z ι M.length H1 Z1 ι1 M1.length → HR X.K H1 Z1 ι1 M1 → rp1 Z1 ι1 M1.length a b → Post X C W rp2 σ H1 Z1 ι1 M1 (f a M1) Q → Q1 b H1) :
    Post X C W rp1 σ H Z ι M r Q1 := by
  cases r with
  | ok a M' => exact fun b H' Z' ι' e' hr' rb => k a M' b H' Z' ι' e' hr' rb (Post.shift (r := f a M') h e' hr')
  | exc c d M' => exact h
  | bad => exact h
end

/-- an expression is computed by g -/
def QE (X : Cx) (C : CT) (W : WX) (e : Expr) (g : GE) : Prop := ∃ te, PE X e te ∧ ∀ (σ : St) (H Z : Hp) (ι : Nat → Addr) (Γ : Env) (M : List MO) (Q : VK), Slots X.K Z ι M.length Γ σ → HR X.K H Z ι M → Post X C W (rpE X.K) σ H Z ι M (g Γ M) Q → te σ H Q
def QT (X : Cx) (C : CT) (W : WX) (e : Expr) (g : GT) : Prop := ∃ te, PT X e te ∧ ∀ (σ : St) (H Z : Hp) (ι : Nat → Addr) (Γ : Env) (M : List MO) (Q : Bool → Hp → Prop), Slots X.K Z ι M.length Γ σ → HR X.K H Z ι M → Post X C W rpT σ H Z ι M (g Γ M) Q → te σ H Q
def QW (X : Cx) (C : CT) (W : WX) (e : Expr) (g : GT) : Prop := ∃ te, PW X e te ∧ ∀ (σ : St) (H Z : Hp) (ι : Nat → Addr) (Γ : Env) (M : List MO) (Q : Bool → Hp → Prop), Slots X.K Z ι M.length Γ σ → HR X.K H Z ι M → Post X C W rpT σ H Z ι M (g Γ M) Q → te σ H Q
def QA (X : Cx) (C : CT) (W : WX) (es : List Expr) (g : GA) : Prop := ∃ te, PA X es te ∧ ∀ (σ : St) (H Z : Hp) (ι : Nat → Addr) (Γ : Env) (M : List MO) (Q : List V → Hp → Prop), Slots X.K Z ι M.length Γ σ → HR X.K H Z ι M → Post X C W (rpA X.K) σ H Z ι M (g Γ M) Q → te σ H Q

/-! ### the functions that compute -/
def opR {α : Type} (o : Option α) (M : List MO) : R α := match o with
  | some a => .ok a M
  | none => .bad
def gV (i : Nat) : GE := fun Γ M => match Γ[i]? with
  | some (some d) => .ok d M
  | _ => .bad
def gC (d : D) : GE := fun _ M => .ok d M
def gOp2 (f : List MO → D → D → Option D) (ga gb : GE) : GE := fun Γ M => (ga Γ M).bind fun x M1 => (gb Γ M1).bind fun y M2 => opR (f M2 x y) M2
def gOp1 (f : List MO → D → Option D) (ga : GE) : GE := fun Γ M => (ga Γ M).bind fun x M1 => opR (f M1 x) M1
def gNil : GA := fun _ M => .ok [] M
def gCons (ga : GE) (gr : GA) : GA := fun Γ M => (ga Γ M).bind fun x M1 => (gr Γ M1).bind fun xs M2 => .ok (x :: xs) M2
def gTup (ga : GA) : GE := fun Γ M => (ga Γ M).bind fun xs M1 => if xs.length ≤ sizeLine then .ok (.tup xs) M1 else .bad
def gLst (ga : GA) : GE := fun Γ M => (ga Γ M).bind fun xs M1 => if xs.length ≤ sizeLine then .ok (.lst xs) M1 else .bad
def gLstO (ga : GA) : GE := fun Γ M => (ga Γ M).bind fun xs M1 => if xs.length ≤ sizeLine then .ok (.ref M1.length) (M1 ++ [.lst xs]) else .bad
def gCall (f : List MO → List D → Option D) (ga : GA) : GE := fun Γ M => (ga Γ M).bind fun xs M1 => opR (f M1 xs) M1
def toBl : D → Option Bool
  | .bl b => some b
  | _ => none
def gVal (ga : GE) : GT := fun Γ M => (ga Γ M).bind fun x M1 => opR (toBl x) M1
def gAndT (a b : GT) : GT := fun Γ M => (a Γ M).bind fun c M1 => if c = true then b Γ M1 else .ok false M1
def gOrT (a b : GT) : GT := fun Γ M => (a Γ M).bind fun c M1 => if c = true then .ok true M1 else b Γ M1
def gNotT (a : GT) : GT := fun Γ M => (a Γ M).bind fun c M1 => .ok (!c) M1
def gIfE (c : GT) (a b : GE) : GE := fun Γ M => (c Γ M).bind fun k M1 => if k = true then a Γ M1 else b Γ M1
def gAndV (a b : GE) : GE := fun Γ M => (a Γ M).bind fun x M1 => match x with
  | .bl c => if c = true then b Γ M1 else .ok (.bl false) M1
  | _ => .bad
def gOrV (a b : GE) : GE := fun Γ M => (a Γ M).bind fun x M1 => match x with
  | .bl c => if c = true then .ok (.bl true) M1 else b Γ M1
  | _ => .bad
def gChain (f f' : List MO → D → D → Option D) (ga gb gc : GE) : GE := fun Γ M => (ga Γ M).bind fun x M1 => (gb Γ M1).bind fun y M2 => (opR (f M2 x y) M2).bind fun k M3 => match k with
  | .bl c => if c = true then (gc Γ M3).bind fun z M4 => opR (f' M4 y z) M4 else .ok (.bl false) M3
  | _ => .bad

section
variable {X : Cx} {C : CT} {W : WX}
/-- a result that is new and will not be changed, or an old one -/
def After (X : Cx) (H Z : Hp) (ι : Nat → Addr) (M : List MO) (d : D) (Q : VK) : Prop := ∀ (v : V) (H' Z' : Hp), Ext H Z ι M.length H' Z' ι M.length → HR X.K H' Z' ι M → Rp X.K Z' ι M.length d v → Q v H'
theorem After.now {H Z : Hp} {ι : Nat → Addr} {M : List MO} {d : D} {Q : VK} {v : V} (h : After X H Z ι M d Q) (hr : HR X.K H Z ι M) (r : Rp X.K Z ι M.length d v) : Q v H := h v H Z .refl hr r
theorem After.lst {H Z : Hp} {ι : Nat → Addr} {M : List MO} {ds : List D} {Q : VK} {xs : List V} (h : After X H Z ι M (.lst ds) Q) (hr : HR X.K H Z ι M) (r : Rps X.K Z ι M.length ds xs) : ∀ p, H p = none → Q (.ref p) (upd H p (.lst xs)) := fun p hp => by
  obtain ⟨h1, e1⟩ := hr.frozen (o := .lst xs) hp
  exact h _ _ _ e1 h1 (.lst (.inl (.inl upd_same)) (r.ext e1))
theorem After.tup {H Z : Hp} {ι : Nat → Addr} {M : List MO} {ds : List D} {Q : VK} {xs : List V} (h : After X H Z ι M (.tup ds) Q) (hr : HR X.K H Z ι M) (r : Rps X.K Z ι M.length ds xs) : ∀ p, H p = none → Q (.ref p) (upd H p (.tup xs)) := fun p hp => by
  obtain ⟨h1, e1⟩ := hr.frozen (o := .tup xs) hp
  exact h _ _ _ e1 h1 (.tup (.inl (.inl upd_same)) (r.ext e1))
theorem Post.after {σ : St} {H Z : Hp} {ι : Nat → Addr} {M : List MO} {d : D} {Q : VK} (h : Post X C W (rpE X.K) σ H Z ι M (.ok d M) Q) : After X H Z ι M d Q := fun v H' Z' e hr r => h v H' Z' ι e hr r
/-- an operation on values is computed by f -/
def Ok2 (X : Cx) (r : R2) (f : List MO → D → D → Option D) : Prop := ∀ (x y : V) (H Z : Hp) (ι : Nat → Addr) (M : List MO) (dx dy d : D) (Q : VK), HR X.K H Z ι M → Rp X.K Z ι M.length dx x → Rp X.K Z ι M.length dy y → f M dx dy = some d → After X H Z ι M d Q → r x y H Q
def Ok1 (X : Cx) (r : V → Hp → VK → Prop) (f : List MO → D → Option D) : Prop := ∀ (x : V) (H Z : Hp) (ι : Nat → Addr) (M : List MO) (dx d : D) (Q : VK), HR X.K H Z ι M → Rp X.K Z ι M.length dx x → f M dx = some d → After X H Z ι M d Q → r x H Q
def OkA (X : Cx) (r : List V → Hp → VK → Prop) (f : List MO → List D → Option D) : Prop := ∀ (xs : List V) (H Z : Hp) (ι : Nat → Addr) (M : List MO) (ds : List D) (d : D) (Q : VK), HR X.K H Z ι M → Rps X.K Z ι M.length ds xs → f M ds = some d → After X H Z ι M d Q → r xs H Q
theorem Post.of_opR {α β γ δ : Type} {rp1 : RpK α β} {σ : St} {H Z : Hp} {ι : Nat → Addr} {M : List MO} {o : Option α} {Q : β → Hp → Prop} (h : Post X C W rp1 σ H Z ι M (opR o M) Q) : ∃ a, o = some a ∧ Post X C W rp1 σ H Z ι M (.ok a M) Q := by
  cases o with
  | none => exact h.elim
  | some a => exact ⟨a, rfl, h⟩

/-! ### the rules -/
theorem qe_v (i : Nat) {x : Str} {pos : Pos} (hN : X.N[i]? = some x := by rfl) (hv : Vis X.env.scope x := by first | exact Or.inl rfl | exact Or.inr (Or.inl rfl) | exact Or.inr (Or.inr rfl)) (hd : (x == ("__debug__" : Str)) = false := by decide)
    (hcd : (x == ("__classdict__" : Str)) = false := by decide) : QE X C W (.Name x pos) (gV i) := by
  refine ⟨_, pe_var hN hv hd hcd, fun σ H Z ι Γ M Q sl hr h => ?_⟩
  unfold gV at h
  cases e : Γ[i]? with
  | none => rw [e] at h; exact h.elim
  | some o =>
    cases o with
    | none => rw [e] at h; exact h.elim
    | some d =>
      rw [e] at h
      obtain ⟨v, h1, h2⟩ := sl.2 i d e
      exact ⟨v, h1, h v H Z ι .refl hr h2⟩
theorem qe_int {i : Int} {j pos} : QE X C W (.Constant (.int i) j pos) (gC (.int i)) := ⟨_, pe_int, fun σ H Z ι Γ M Q sl hr h => h _ H Z ι .refl hr (.int i)⟩
theorem qe_bl {b : Bool} {j pos} : QE X C W (.Constant (.bool b) j pos) (gC (.bl b)) := ⟨_, pe_bl, fun σ H Z ι Γ M Q sl hr h => h _ H Z ι .refl hr (.bl b)⟩
theorem qe_non {j pos} : QE X C W (.Constant .none j pos) (gC .non) := ⟨_, pe_non, fun σ H Z ι Γ M Q sl hr h => h _ H Z ι .refl hr .non⟩
theorem qe_str {x : Str} {j pos} : QE X C W (.Constant (.str x) j pos) (gC (.str x)) := ⟨_, pe_str, fun σ H Z ι Γ M Q sl hr h => h _ H Z ι .refl hr (.str x)⟩
/-- a module's number -/
theorem qe_gint {x : Str} {i : Int} {t : Tok} {pos : Pos} (hg : Gl X x) (hm : X.mg x = some (.int i t)) (hd : (x == ("__debug__" : Str)) = false := by decide) : QE X C W (.Name x pos) (gC (.int i)) :=
  ⟨_, pe_glob (v := .int i) hg hm ⟨t, rfl⟩ hd, fun σ H Z ι Γ M Q sl hr h => h _ H Z ι .refl hr (.int i)⟩
variable {e a b c : Expr} {es : List Expr} {ga gb gc g : GE} {gt gu : GT} {gs : GA} {pos : Pos} {f f' : List MO → D → D → Option D}
abbrev Rd1 (X : Cx) (C : CT) (W : WX) (g : GE) (te : TE) : Prop := ∀ (σ : St) (H Z : Hp) (ι : Nat → Addr) (Γ : Env) (M : List MO) (Q : VK), Slots X.K Z ι M.length Γ σ → HR X.K H Z ι M → Post X C W (rpE X.K) σ H Z ι M (g Γ M) Q → te σ H Q
theorem op_read {r : R2} {ta tb : TE} (hf : Ok2 X r f) (qa : Rd1 X C W ga ta) (qb : Rd1 X C W gb tb) : Rd1 X C W (gOp2 f ga gb) (tOp r ta tb) := fun σ H Z ι Γ M Q sl hr h =>
  qa σ H Z ι Γ M _ sl hr (Post.bind h fun x M1 v H1 Z1 ι1 e1 hr1 r1 h1 => qb σ H1 Z1 ι1 Γ M1 _ (sl.ext e1) hr1 (h1.bind fun y M2 u H2 Z2 ι2 e2 hr2 r2 h2 => by
    obtain ⟨d, hd, h3⟩ := Post.of_opR (γ := D) (δ := V) h2
    exact hf v u H2 Z2 ι2 M2 x y d Q hr2 (r1.ext e2) r2 hd h3.after))
theorem qe_bin {op : Operator} {r : R2} (ho : OpR X (binaryOp op) r) (hf : Ok2 X r f) (ha : QE X C W a ga) (hb : QE X C W b gb) : QE X C W (.BinOp a op b pos) (gOp2 f ga gb) := by
  obtain ⟨ta, pa, qa⟩ := ha
  obtain ⟨tb, pb, qb⟩ := hb
  exact ⟨_, pe_op ho pa pb, op_read hf qa qb⟩
theorem qe_cmp {op : CmpOp} {r : R2} (ho : OpR X (compareOp op) r) (hf : Ok2 X r f) (ha : QE X C W a ga) (hb : QE X C W b gb) (hm : behindInMarks op b = false) : QE X C W (.Compare a [op] [b] pos) (gOp2 f ga gb) := by
  obtain ⟨ta, pa, qa⟩ := ha
  obtain ⟨tb, pb, qb⟩ := hb
  exact ⟨_, pe_cmpR ho pa pb hm, op_read hf qa qb⟩
theorem qe_ix {r : R2} (ho : IxR X r) (hf : Ok2 X r f) (ha : QE X C W a ga) (hb : QE X C W b gb) (hs : PlainIx b := by exact fun _ _ => rfl) : QE X C W (.Subscript a b pos) (gOp2 f ga gb) := by
  obtain ⟨ta, pa, qa⟩ := ha
  obtain ⟨tb, pb, qb⟩ := hb
  exact ⟨_, pe_ix ho pa pb hs, op_read hf qa qb⟩
theorem qe_un {op : UnaryOp} {r : V → Hp → VK → Prop} {f : List MO → D → Option D} (ho : UnR X (unaryOp op) r) (hf : Ok1 X r f) (ha : QE X C W a ga) : QE X C W (.UnaryOp op a pos) (gOp1 f ga) := by
  obtain ⟨ta, pa, qa⟩ := ha
  refine ⟨_, pe_un ho pa, fun σ H Z ι Γ M Q sl hr h => qa σ H Z ι Γ M _ sl hr (h.bind fun x M1 v H1 Z1 ι1 e1 hr1 r1 h1 => ?_)⟩
  obtain ⟨d, hd, h3⟩ := Post.of_opR (γ := D) (δ := V) h1
  exact hf v H1 Z1 ι1 M1 x d Q hr1 r1 hd h3.after
theorem chain_read {r r' : R2} {ta tb tc : TE} (hf : Ok2 X r f) (hf' : Ok2 X r' f') (qa : Rd1 X C W ga ta) (qb : Rd1 X C W gb tb) (qc : Rd1 X C W gc tc) : Rd1 X C W (gChain f f' ga gb gc) (tChain r r' ta tb tc) := by
  intro σ H Z ι Γ M Q sl hr h
  refine qa σ H Z ι Γ M _ sl hr (Post.bind h fun x M1 v H1 Z1 ι1 e1 hr1 r1 h1 => qb σ H1 Z1 ι1 Γ M1 _ (sl.ext e1) hr1 (h1.bind fun y M2 u H2 Z2 ι2 e2 hr2 r2 h2 => ?_))
  cases hd : f M2 x y with
  | none => rw [hd] at h2; exact h2.elim
  | some d =>
    rw [hd] at h2
    refine hf v u H2 Z2 ι2 M2 x y d _ hr2 (r1.ext e2) r2 hd fun w H3 Z3 e3 hr3 r3 => ?_
    have h3 := Post.shift h2 e3 hr3
    cases r3 with
    | bl k =>
      refine ⟨k, rfl, ?_⟩
      cases k with
      | false => exact h3 _ H3 Z3 ι2 .refl hr3 (.bl false)
      | true =>
        have h4 : Post X C W (rpE X.K) σ H3 Z3 ι2 M2 ((gc Γ M2).bind fun z M4 => opR (f' M4 y z) M4) Q := h3
        refine qc σ H3 Z3 ι2 Γ M2 _ ((sl.ext e1).ext e2 |>.ext e3) hr3 (h4.bind fun z M4 w' H4 Z4 ι4 e4 hr4 r4 h5 => ?_)
        obtain ⟨d', hd', h6⟩ := Post.of_opR (γ := D) (δ := V) h5
        exact hf' u w' H4 Z4 ι4 M4 y z d' Q hr4 ((r2.ext e3).ext e4) r4 hd' h6.after
    | _ => exact h3.elim
theorem qe_chain {op op' : CmpOp} {r r' : R2} (ho : OpR X (compareOp op) r) (hf : Ok2 X r f) (ho' : OpR X (compareOp op') r') (hf' : Ok2 X r' f') (ha : QE X C W a ga) (hb : QE X C W b gb) (hc : QE X C W c gc) (hm : lastMarks [op, op'] [b, c] = false := by with_unfolding_all rfl) :
    QE X C W (.Compare a [op, op'] [b, c] pos) (gChain f f' ga gb gc) := by
  obtain ⟨ta, pa, qa⟩ := ha
  obtain ⟨tb, pb, qb⟩ := hb
  obtain ⟨tc, pc, qc⟩ := hc
  exact ⟨_, pe_chain ho ho' pa pb pc (hm := hm), chain_read hf hf' qa qb qc⟩
theorem qa_nil : QA X C W [] gNil := ⟨_, pa_nil, fun σ H Z ι Γ M Q sl hr h => h [] H Z ι .refl hr .nil⟩
theorem qa_cons (ha : QE X C W e g) (hb : QA X C W es gs) (hs : starEach (e :: es) X.env = (false, eval e X.env) :: starEach es X.env := by rfl) : QA X C W (e :: es) (gCons g gs) := by
  obtain ⟨ta, pa, qa⟩ := ha
  obtain ⟨tb, pb, qb⟩ := hb
  exact ⟨_, pa_cons pa pb hs, fun σ H Z ι Γ M Q sl hr h => qa σ H Z ι Γ M _ sl hr (h.bind fun x M1 v H1 Z1 ι1 e1 hr1 r1 h1 => qb σ H1 Z1 ι1 Γ M1 _ (sl.ext e1) hr1 (h1.bind fun y M2 u H2 Z2 ι2 e2 hr2 r2 h2 => h2 _ H2 Z2 ι2 .refl hr2 (.cons (r1.ext e2) r2)))⟩
theorem qe_tup {x1} (ha : QA X C W es gs) : QE X C W (.Tuple es x1 pos) (gTup gs) := by
  obtain ⟨ta, pa, qa⟩ := ha
  refine ⟨_, pe_tup pa, fun σ H Z ι Γ M Q sl hr h => qa σ H Z ι Γ M _ sl hr (h.bind fun x M1 v H1 Z1 ι1 e1 hr1 r1 h1 => ?_)⟩
  by_cases hz : x.length ≤ sizeLine
  · rw [if_pos hz] at h1
    exact ⟨by rw [← r1.length]; exact hz, h1.after.tup hr1 r1⟩
  · rw [if_neg hz] at h1
    exact h1.elim
theorem qe_lst (ha : QA X C W es gs) : QE X C W (.List es pos) (gLst gs) := by
  obtain ⟨ta, pa, qa⟩ := ha
  refine ⟨_, pe_lst pa, fun σ H Z ι Γ M Q sl hr h => qa σ H Z ι Γ M _ sl hr (h.bind fun x M1 v H1 Z1 ι1 e1 hr1 r1 h1 => ?_)⟩
  by_cases hz : x.length ≤ sizeLine
  · rw [if_pos hz] at h1
    exact ⟨by rw [← r1.length]; exact hz, h1.after.lst hr1 r1⟩
  · rw [if_neg hz] at h1
    exact h1.elim
theorem qe_lstO (ha : QA X C W es gs) : QE X C W (.List es pos) (gLstO gs) := by
  obtain ⟨ta, pa, qa⟩ := ha
  refine ⟨_, pe_lst pa, fun σ H Z ι Γ M Q sl hr h => qa σ H Z ι Γ M _ sl hr (h.bind fun x M1 v H1 Z1 ι1 e1 hr1 r1 h1 => ?_)⟩
  by_cases hz : x.length ≤ sizeLine
  · rw [if_pos hz] at h1
    refine ⟨by rw [← r1.length]; exact hz, fun p hp => ?_⟩
    obtain ⟨hr2, e2⟩ := hr1.owned hp r1
    refine h1 _ _ _ _ e2 hr2 ?_
    have q : Rp X.K Z1 (put ι1 M1.length p) (M1 ++ [MO.lst x]).length (.ref M1.length) (.ref (put ι1 M1.length p M1.length)) := .ref (by simp)
    rw [put_at] at q
    exact q
  · rw [if_neg hz] at h1
    exact h1.elim
theorem qe_callB {x : Str} {p : Pos} {id : String} {r : List V → Hp → VK → Prop} {f : List MO → List D → Option D} (ho : CallR X (.builtin id) r) (hf : OkA X r f) (hg : Gl X x) (hm : X.mg x = none) (hv : bootBuiltins x = some (.builtin id)) (ha : QA X C W (e :: es) gs)
    (hn : x ≠ "__name__" := by decide) (hdb : (x == ("__debug__" : Str)) = false := by decide) (he : starEach (e :: es) X.env = (false, eval e X.env) :: starEach es X.env := by rfl) (hpl : (backTo pos (starEach es X.env)).any (·.1) = false := by rfl) :
    QE X C W (.Call (.Name x p) (e :: es) [] pos) (gCall f gs) := by
  obtain ⟨ta, pa, qa⟩ := ha
  refine ⟨_, pe_callB ho hg hm hv pa hn hdb he hpl, fun σ H Z ι Γ M Q sl hr h => qa σ H Z ι Γ M _ sl hr (h.bind fun x M1 v H1 Z1 ι1 e1 hr1 r1 h1 => ?_)⟩
  obtain ⟨d, hd, h3⟩ := Post.of_opR (γ := D) (δ := V) h1
  exact hf v H1 Z1 ι1 M1 x d Q hr1 r1 hd h3.after
theorem qe_callTy {x T : Str} {p : Pos} {id : String} {r : List V → Hp → VK → Prop} {f : List MO → List D → Option D} (ho : CallR X (.type id) r) (hf : OkA X r f) (hg : Gl X x) (hm : X.mg x = none) (hv : bootBuiltins x = some (.type id)) (ha : QA X C W (e :: es) gs)
    (hn : x ≠ "__name__" := by decide) (hdb : (x == ("__debug__" : Str)) = false := by decide) (he : starEach (e :: es) X.env = (false, eval e X.env) :: starEach es X.env := by rfl) (hpl : (backTo pos (starEach es X.env)).any (·.1) = false := by rfl) :
    QE X C W (.Call (.Name x p) (e :: es) [] pos) (gCall f gs) := by
  obtain ⟨ta, pa, qa⟩ := ha
  refine ⟨_, pe_callTy ho hg hm hv pa hn hdb he hpl, fun σ H Z ι Γ M Q sl hr h => qa σ H Z ι Γ M _ sl hr (h.bind fun x M1 v H1 Z1 ι1 e1 hr1 r1 h1 => ?_)⟩
  obtain ⟨d, hd, h3⟩ := Post.of_opR (γ := D) (δ := V) h1
  exact hf v H1 Z1 ι1 M1 x d Q hr1 r1 hd h3.after

/-! tests -/
theorem qt_val (ha : QE X C W a ga) (he : ∀ whole, isTrue a X.env whole = (do let v ← whole; standAt a.pos; holding [v] (truthy v)) := by intro _; rfl) : QT X C W a (gVal ga) := by
  obtain ⟨ta, pa, qa⟩ := ha
  refine ⟨_, pt_val pa he, fun σ H Z ι Γ M Q sl hr h => qa σ H Z ι Γ M _ sl hr (h.bind fun x M1 v H1 Z1 ι1 e1 hr1 r1 h1 => ?_)⟩
  cases r1 with
  | bl k => exact ⟨k, rfl, h1 k H1 Z1 ι1 .refl hr1 rfl⟩
  | _ => exact h1.elim
theorem val_read {te : TE} (q : Rd1 X C W ga te) (σ : St) (H Z : Hp) (ι : Nat → Addr) (Γ : Env) (M : List MO) (Q : Bool → Hp → Prop) (sl : Slots X.K Z ι M.length Γ σ) (hr : HR X.K H Z ι M) (h : Post X C W rpT σ H Z ι M (gVal ga Γ M) Q) : tTest te σ H Q :=
  q σ H Z ι Γ M _ sl hr (Post.bind h fun x M1 v H1 Z1 ι1 e1 hr1 r1 h1 => by
    cases r1 with
    | bl k => exact ⟨k, rfl, h1 k H1 Z1 ι1 .refl hr1 rfl⟩
    | _ => exact h1.elim)
theorem qt_cmp {op : CmpOp} {r : R2} (ho : OpR X (compareOp op) r) (hf : Ok2 X r f) (ha : QE X C W a ga) (hb : QE X C W b gb) (hm : behindInMarks op b = false) : QT X C W (.Compare a [op] [b] pos) (gVal (gOp2 f ga gb)) := by
  obtain ⟨ta, pa, qa⟩ := ha
  obtain ⟨tb, pb, qb⟩ := hb
  exact ⟨_, pt_cmpR ho pa pb hm, val_read (op_read hf qa qb)⟩
theorem qt_chain {op op' : CmpOp} {r r' : R2} (ho : OpR X (compareOp op) r) (hf : Ok2 X r f) (ho' : OpR X (compareOp op') r') (hf' : Ok2 X r' f') (ha : QE X C W a ga) (hb : QE X C W b gb) (hc : QE X C W c gc) (hm : lastMarks [op, op'] [b, c] = false := by with_unfolding_all rfl) :
    QT X C W (.Compare a [op, op'] [b, c] pos) (gVal (gChain f f' ga gb gc)) := by
  obtain ⟨ta, pa, qa⟩ := ha
  obtain ⟨tb, pb, qb⟩ := hb
  obtain ⟨tc, pc, qc⟩ := hc
  exact ⟨_, pt_chain ho ho' pa pb pc (hm := hm), val_read (chain_read hf hf' qa qb qc)⟩
theorem qt_of (h : QW X C W a gt) : QT X C W a gt := let ⟨t, p, q⟩ := h; ⟨t, p.pt, q⟩
theorem qw_and1 (h : QT X C W a gt) : QW X C W (.BoolOp .And [a] pos) gt := let ⟨t, p, q⟩ := h; ⟨t, pw_and1 p, q⟩
theorem qw_or1 (h : QT X C W a gt) : QW X C W (.BoolOp .Or [a] pos) gt := let ⟨t, p, q⟩ := h; ⟨t, pw_or1 p, q⟩
theorem qw_and {rest : List Expr} (ha : QT X C W a gt) (hb : QW X C W (.BoolOp .And (b :: rest) pos) gu) : QW X C W (.BoolOp .And (a :: b :: rest) pos) (gAndT gt gu) := by
  obtain ⟨ta, pa, qa⟩ := ha
  obtain ⟨tb, pb, qb⟩ := hb
  refine ⟨_, pw_and pa pb, fun σ H Z ι Γ M Q sl hr h => qa σ H Z ι Γ M _ sl hr (h.bind fun x M1 v H1 Z1 ι1 e1 hr1 r1 h1 => ?_)⟩
  have r1' : x = v := r1
  subst r1'
  cases x with
  | true => exact qb σ H1 Z1 ι1 Γ M1 _ (sl.ext e1) hr1 h1
  | false => exact h1 false H1 Z1 ι1 .refl hr1 rfl
theorem qw_or {rest : List Expr} (ha : QT X C W a gt) (hb : QW X C W (.BoolOp .Or (b :: rest) pos) gu) : QW X C W (.BoolOp .Or (a :: b :: rest) pos) (gOrT gt gu) := by
  obtain ⟨ta, pa, qa⟩ := ha
  obtain ⟨tb, pb, qb⟩ := hb
  refine ⟨_, pw_or pa pb, fun σ H Z ι Γ M Q sl hr h => qa σ H Z ι Γ M _ sl hr (h.bind fun x M1 v H1 Z1 ι1 e1 hr1 r1 h1 => ?_)⟩
  have r1' : x = v := r1
  subst r1'
  cases x with
  | true => exact h1 true H1 Z1 ι1 .refl hr1 rfl
  | false => exact qb σ H1 Z1 ι1 Γ M1 _ (sl.ext e1) hr1 h1
theorem qt_not (ha : QT X C W a gt) : QT X C W (.UnaryOp .Not a pos) (gNotT gt) := by
  obtain ⟨ta, pa, qa⟩ := ha
  refine ⟨_, pt_not pa, fun σ H Z ι Γ M Q sl hr h => qa σ H Z ι Γ M _ sl hr (h.bind fun x M1 v H1 Z1 ι1 e1 hr1 r1 h1 => ?_)⟩
  have r1' : x = v := r1
  subst r1'
  exact h1 _ H1 Z1 ι1 .refl hr1 rfl
theorem qe_if (hc : QT X C W c gt) (ha : QE X C W a ga) (hb : QE X C W b gb) : QE X C W (.IfExp c a b pos) (gIfE gt ga gb) := by
  obtain ⟨tc, pc, qc⟩ := hc
  obtain ⟨ta, pa, qa⟩ := ha
  obtain ⟨tb, pb, qb⟩ := hb
  refine ⟨_, pe_ifExp pc pa pb, fun σ H Z ι Γ M Q sl hr h => qc σ H Z ι Γ M _ sl hr (h.bind fun x M1 v H1 Z1 ι1 e1 hr1 r1 h1 => ?_)⟩
  have r1' : x = v := r1
  subst r1'
  cases x with
  | true => exact qa σ H1 Z1 ι1 Γ M1 _ (sl.ext e1) hr1 h1
  | false => exact qb σ H1 Z1 ι1 Γ M1 _ (sl.ext e1) hr1 h1
theorem qe_one {op} (h : QE X C W a ga) : QE X C W (.BoolOp op [a] pos) ga := let ⟨t, p, q⟩ := h; ⟨t, pe_one p, q⟩
theorem qe_and {rest : List Expr} (ha : QE X C W a ga) (hb : QE X C W (.BoolOp .And (b :: rest) pos) gb) : QE X C W (.BoolOp .And (a :: b :: rest) pos) (gAndV ga gb) := by
  obtain ⟨ta, pa, qa⟩ := ha
  obtain ⟨tb, pb, qb⟩ := hb
  refine ⟨_, pe_and pa pb, fun σ H Z ι Γ M Q sl hr h => qa σ H Z ι Γ M _ sl hr (h.bind fun x M1 v H1 Z1 ι1 e1 hr1 r1 h1 => ?_)⟩
  cases r1 with
  | bl k =>
    refine ⟨k, rfl, ?_⟩
    cases k with
    | true => exact qb σ H1 Z1 ι1 Γ M1 _ (sl.ext e1) hr1 h1
    | false => exact h1 _ H1 Z1 ι1 .refl hr1 (.bl false)
  | _ => exact h1.elim
theorem qe_or {rest : List Expr} (ha : QE X C W a ga) (hb : QE X C W (.BoolOp .Or (b :: rest) pos) gb) : QE X C W (.BoolOp .Or (a :: b :: rest) pos) (gOrV ga gb) := by
  obtain ⟨ta, pa, qa⟩ := ha
  obtain ⟨tb, pb, qb⟩ := hb
  refine ⟨_, pe_or pa pb, fun σ H Z ι Γ M Q sl hr h => qa σ H Z ι Γ M _ sl hr (h.bind fun x M1 v H1 Z1 ι1 e1 hr1 r1 h1 => ?_)⟩
  cases r1 with
  | bl k =>
    refine ⟨k, rfl, ?_⟩
    cases k with
    | true => exact h1 _ H1 Z1 ι1 .refl hr1 (.bl true)
    | false => exact qb σ H1 Z1 ι1 Γ M1 _ (sl.ext e1) hr1 h1
  | _ => exact h1.elim
def dNot (_ : List MO) : D → Option D
  | .bl b => some (.bl (!b))
  | _ => none
theorem qe_not (ha : QE X C W a ga) : QE X C W (.UnaryOp .Not a pos) (gOp1 dNot ga) := by
  obtain ⟨ta, pa, qa⟩ := ha
  refine ⟨_, pe_not pa, fun σ H Z ι Γ M Q sl hr h => qa σ H Z ι Γ M _ sl hr (h.bind fun x M1 v H1 Z1 ι1 e1 hr1 r1 h1 => ?_)⟩
  cases r1 with
  | bl k => exact ⟨k, rfl, h1 _ H1 Z1 ι1 .refl hr1 (.bl _)⟩
  | _ => exact h1.elim
end
end Bk

set_option Elab.async false
set_option linter.all false
set_option maxRecDepth 100000
set_option maxHeartbeats 1000000
namespace Bk
open PySem PySem.Spec PyProof.Rows L2

/-! ### what is walked -/
abbrev GI := GA
/-- cd: what must hold of the store at each turn -/
def ItC (cd : List MO → Prop) (K : PySem.W.Frag) (J : It) (items : List D) (Z : Hp) (ι : Nat → Addr) (n : Nat) : Prop :=
  ∀ (i : Nat) (H' Z' : Hp) (ι' : Nat → Addr) (M' : List MO), Sub Z Z' → (∀ k, k < n → ι' k = ι k) → n ≤ M'.length → HR K H' Z' ι' M' → cd M' →
    (items.length = i → J.stop i H') ∧ ∀ d, items[i]? = some d → J.go i H' ∧ ∀ x H2, J.yld i H' x H2 → ∃ Z2, Ext H' Z' ι' M'.length H2 Z2 ι' M'.length ∧ HR K H2 Z2 ι' M' ∧ Rp K Z2 ι' M'.length d x
abbrev anyM : List MO → Prop := fun _ => True
abbrev ItR := ItC anyM
abbrev rpI (K : PySem.W.Frag) : RpK (List D) It := fun Z ι n items J => ItR K J items Z ι n
def QI (X : Cx) (C : CT) (W : WX) (tg e : Expr) (g : GI) : Prop := ∃ wi, PI X tg e wi ∧ ∀ (σ : St) (H Z : Hp) (ι : Nat → Addr) (Γ : Env) (M : List MO) (Q : It → Hp → Prop), Slots X.K Z ι M.length Γ σ → HR X.K H Z ι M → Post X C W (rpI X.K) σ H Z ι M (g Γ M) Q → wi σ H Q
def rngL (lo : Int) : Nat → List D
  | 0 => []
  | n + 1 => .int lo :: rngL (lo + 1) n
theorem rngL_get : ∀ (n : Nat) (lo : Int) (i : Nat) (d : D), (rngL lo n)[i]? = some d → i < n ∧ d = .int (lo + i)
  | 0, _, _, _, h => by simp [rngL] at h
  | n + 1, lo, 0, d, h => by
    simp [rngL] at h
    exact ⟨Nat.succ_pos _, by rw [← h]; simp⟩
  | n + 1, lo, i + 1, d, h => by
    simp only [rngL, List.getElem?_cons_succ] at h
    obtain ⟨h1, h2⟩ := rngL_get n (lo + 1) i d h
    refine ⟨Nat.succ_lt_succ h1, ?_⟩
    rw [h2]
    congr 1
    push_cast
    omega
theorem rngL_length : ∀ (n : Nat) (lo : Int), (rngL lo n).length = n
  | 0, _ => rfl
  | n + 1, lo => by simp [rngL, rngL_length n]
def seqD : D → Option (List D)
  | .lst ds => some ds
  | .tup ds => some ds
  | .ptu ds => some ds
  | _ => none
def gSeqI (ge : GE) : GI := fun Γ M => (ge Γ M).bind fun d M1 => opR (seqD d) M1
def inR (i : Int) : Bool := decide (-(2 ^ 62) ≤ i) && decide (i < 2 ^ 62)
def rng1 : List D → Option (List D)
  | [.int j] => if inR j then some (rngL 0 j.toNat) else none
  | _ => none
def rng2 : List D → Option (List D)
  | [.int i, .int j] => if inR i && inR j then some (rngL i (j - i).toNat) else none
  | _ => none
def gRng1 (ga : GA) : GI := fun Γ M => (ga Γ M).bind fun ds M1 => opR (rng1 ds) M1
def gRng2 (ga : GA) : GI := fun Γ M => (ga Γ M).bind fun ds M1 => opR (rng2 ds) M1
section
variable {X : Cx} {C : CT} {W : WX} {tg e a b : Expr} {g ga gb : GE} {gs : GA} {pos : Pos}
theorem itr_l {K : PySem.W.Frag} {Z : Hp} {ι : Nat → Addr} {n : Nat} {a : Addr} {xs : List V} {ds : List D} (s : ExL K Z a xs) (r : Rps K Z ι n ds xs) : ItR K (Itl K a) ds Z ι n := by
  intro i H' Z' ι' M' hz hi hn hr _
  have sH : SqL K H' a xs := (subL (fun a o h => hr.sub _ _ (hz _ _ h)) s).sq
  refine ⟨fun hl => ⟨xs, sH, by rw [← r.length]; exact Nat.le_of_eq hl⟩, fun d hd => ?_⟩
  obtain ⟨v, hv, rv⟩ := r.get hd
  refine ⟨⟨xs, v, sH, hv⟩, fun x H2 hy => ?_⟩
  obtain ⟨rfl, hx⟩ := hy
  have ex : xs[i]? = some x := hx _ sH
  rw [hv] at ex
  cases ex
  exact ⟨Z', .refl, hr, Rp.mono hz hi hn _ _ rv⟩
theorem itr_t {K : PySem.W.Frag} {Z : Hp} {ι : Nat → Addr} {n : Nat} {a : Addr} {xs : List V} {ds : List D} (s : SqT K Z a xs) (r : Rps K Z ι n ds xs) : ItR K (Itt K a) ds Z ι n := by
  intro i H' Z' ι' M' hz hi hn hr _
  have sH : SqT K H' a xs := subT (fun a o h => hr.sub _ _ (hz _ _ h)) s
  refine ⟨fun hl => ⟨xs, sH, by rw [← r.length]; exact Nat.le_of_eq hl⟩, fun d hd => ?_⟩
  obtain ⟨v, hv, rv⟩ := r.get hd
  refine ⟨⟨xs, v, sH, hv⟩, fun x H2 hy => ?_⟩
  obtain ⟨rfl, hx⟩ := hy
  have ex : xs[i]? = some x := hx _ sH
  rw [hv] at ex
  cases ex
  exact ⟨Z', .refl, hr, Rp.mono hz hi hn _ _ rv⟩
theorem itr_r {K : PySem.W.Frag} {Z : Hp} {ι : Nat → Addr} {n : Nat} {lo : Int} {m : Nat} : ItR K (Itr lo m) (rngL lo m) Z ι n := by
  intro i H' Z' ι' M' hz hi hn hr _
  refine ⟨fun hl => by rw [rngL_length] at hl; exact Nat.le_of_eq hl, fun d hd => ?_⟩
  obtain ⟨h1, rfl⟩ := rngL_get _ _ _ _ hd
  refine ⟨h1, fun x H2 hy => ?_⟩
  obtain ⟨rfl, rfl⟩ := hy
  exact ⟨Z', .refl, hr, .int _⟩
/-- a list or a tuple -/
def iSeq (K : PySem.W.Frag) (tl : TE) : TI := fun σ H R => tl σ H fun x H1 => ∃ a, x = .ref a ∧ (((∃ xs, SqL K H1 a xs) ∧ R (Itl K a) H1) ∨ ((∃ xs, SqT K H1 a xs) ∧ R (Itt K a) H1))
theorem pi_seq {tl : TE} (hl : PE X e tl) : PI X tg e (iSeq X.K tl) := by
  refine ⟨fun pins s σ H R I h => thn (hl.run pins s σ H _ I h) fun v s1 ⟨x, H1, J1, r1, a, ex, q1⟩ => ?_⟩
  subst ex
  cases r1
  have fp : ∀ b ∈ [s1.heap.objs.size], H1 b = none ∧ FpOk X pins H1 b := fun b hb => by
    obtain rfl : b = s1.heap.objs.size := by simpa using hb
    have z := J1.hok.fresh (Nat.le_refl _)
    exact ⟨z, J1.fpOk (Nat.le_refl _) z⟩
  rcases q1 with ⟨⟨xs, hq⟩, q⟩ | ⟨⟨xs, hq⟩, q⟩
  · obtain ⟨its, rv, p, hz⟩ := J1.list hq
    refine wpAny_pyIter_list p.isList ⟨_, _, _, _, H1, rfl, J1.kept (t' := s1.toks) fun b o e => Heap.get?_push_of_some _ e, turn_list a s1.heap.objs.size, ⟨_, Heap.get?_push_size _ rfl, rfl, rfl⟩, fun b hb => (fp b hb).2, q⟩
  · obtain ⟨its, rv, p, hz⟩ := J1.tuple hq
    refine wpAny_pyIter_tuple (show s1.heap.IsTuple a its.toArray from p) ⟨_, _, _, _, H1, rfl, J1.kept (t' := s1.toks) fun b o e => Heap.get?_push_of_some _ e, turn_tuple a s1.heap.objs.size, ⟨_, Heap.get?_push_size _ rfl, rfl, rfl⟩, fun b hb => (fp b hb).2, q⟩
theorem qi_seq (ha : QE X C W e g) : QI X C W tg e (gSeqI g) := by
  obtain ⟨ta, pa, qa⟩ := ha
  refine ⟨_, pi_seq pa, fun σ H Z ι Γ M Q sl hr h => qa σ H Z ι Γ M _ sl hr (h.bind fun x M1 v H1 Z1 ι1 e1 hr1 r1 h1 => ?_)⟩
  obtain ⟨ds, hd, h2⟩ := Post.of_opR (γ := D) (δ := V) h1
  cases r1 with
  | lst s r =>
    cases hd
    exact ⟨_, rfl, .inl ⟨⟨_, (subL hr1.sub s).sq⟩, h2 _ H1 Z1 ι1 .refl hr1 (itr_l s r)⟩⟩
  | tup s r =>
    cases hd
    exact ⟨_, rfl, .inr ⟨⟨_, subT hr1.sub s⟩, h2 _ H1 Z1 ι1 .refl hr1 (itr_t s r)⟩⟩
  | ptu s r =>
    cases hd
    exact ⟨_, rfl, .inr ⟨⟨_, subT hr1.sub s.sq⟩, h2 _ H1 Z1 ι1 .refl hr1 (itr_t s.sq r)⟩⟩
  | _ => cases hd
theorem qi_rng1 {p : Pos} (hg : Gl X "range") (hm : X.mg "range" = none) (ha : QA X C W [a] gs) (hs : starEach [a] X.env = [(false, eval a X.env)] := by rfl) : QI X C W tg (.Call (.Name "range" p) [a] [] pos) (gRng1 gs) := by
  obtain ⟨ta, pa, qa⟩ := ha
  refine ⟨_, pi_range1 hg hm pa hs, fun σ H Z ι Γ M Q sl hr h => qa σ H Z ι Γ M _ sl hr (h.bind fun x M1 v H1 Z1 ι1 e1 hr1 r1 h1 => ?_)⟩
  obtain ⟨ds, hd, h2⟩ := Post.of_opR (γ := D) (δ := V) h1
  unfold rng1 at hd
  split at hd
  · rename_i j
    cases r1 with
    | cons r rr =>
      cases r
      cases rr
      by_cases hj : inR j = true
      · rw [if_pos hj] at hd
        cases hd
        simp only [inR, Bool.and_eq_true, decide_eq_true_eq] at hj
        exact ⟨j, rfl, hj.1, hj.2, h2 _ H1 Z1 ι1 .refl hr1 itr_r⟩
      · rw [if_neg hj] at hd
        cases hd
  · cases hd
theorem qi_rng2 {p : Pos} (hg : Gl X "range") (hm : X.mg "range" = none) (ha : QA X C W [a, b] gs) (hs : starEach [a, b] X.env = [(false, eval a X.env), (false, eval b X.env)] := by rfl) (hs2 : starEach [b] X.env = [(false, eval b X.env)] := by rfl) : QI X C W tg (.Call (.Name "range" p) [a, b] [] pos) (gRng2 gs) := by
  obtain ⟨ta, pa, qa⟩ := ha
  refine ⟨_, pi_range2 hg hm pa hs (hs2 := hs2), fun σ H Z ι Γ M Q sl hr h => qa σ H Z ι Γ M _ sl hr (h.bind fun x M1 v H1 Z1 ι1 e1 hr1 r1 h1 => ?_)⟩
  obtain ⟨ds, hd, h2⟩ := Post.of_opR (γ := D) (δ := V) h1
  unfold rng2 at hd
  split at hd
  · rename_i i j
    cases r1 with
    | cons r rr =>
      cases r
      cases rr with
      | cons r2 rr =>
        cases r2
        cases rr
        by_cases hj : (inR i && inR j) = true
        · rw [if_pos hj] at hd
          cases hd
          simp only [inR, Bool.and_eq_true, decide_eq_true_eq] at hj
          exact ⟨i, j, rfl, ⟨hj.1.1, hj.1.2, hj.2.1, hj.2.2⟩, h2 _ H1 Z1 ι1 .refl hr1 itr_r⟩
        · rw [if_neg hj] at hd
          cases hd
  · cases hd
end

/-! ### targets -/
abbrev GG := D → Env → Option Env
abbrev GGs := List D → Env → Option Env
def gTo (i : Nat) : GG := fun d Γ => some (Γ.set i (some d))
def gToT (gs : GGs) : GG := fun d Γ => match d with
  | .tup ds => gs ds Γ
  | _ => none
def gToNil : GGs := fun ds Γ => match ds with
  | [] => some Γ
  | _ :: _ => none
def gToCons (g : GG) (gs : GGs) : GGs := fun ds Γ => match ds with
  | [] => none
  | d :: r => (g d Γ).bind fun Γ1 => gs r Γ1
def Wip (is : List Nat) (σ σ' : St) : Prop := ∀ vs : List Nat, (∀ i ∈ is, i ∈ vs) → wipe σ' vs = wipe σ vs
theorem wipe_set {σ : St} {i : Nat} {v : V} : ∀ {vs : List Nat}, i ∈ vs → wipe (σ.set i (some v)) vs = wipe σ vs
  | [], h => nomatch h
  | j :: vs, h => by
    show (wipe (σ.set i (some v)) vs).set j none = (wipe σ vs).set j none
    by_cases hm : i ∈ vs
    · rw [wipe_set hm]
    · have e : i = j := by
        rcases List.mem_cons.mp h with e | e
        · exact e
        · exact absurd e hm
      subst e
      have z : ∀ vs : List Nat, i ∉ vs → wipe (σ.set i (some v)) vs = (wipe σ vs).set i (some v) := by
        intro vs
        induction vs with
        | nil => intro _; rfl
        | cons k vs ih =>
          intro hk
          show (wipe (σ.set i (some v)) vs).set k none = ((wipe σ vs).set k none).set i (some v)
          rw [ih fun q => hk (List.mem_cons_of_mem _ q), List.set_comm _ _ (fun q => hk (by rw [q]; exact List.mem_cons_self))]
      rw [z vs hm, List.set_set]
def QG (X : Cx) (tg : Expr) (g : GG) (is : List Nat) : Prop := ∃ t, PG X tg t ∧ ∀ (v : V) (σ : St) (H Z : Hp) (ι : Nat → Addr) (n : Nat) (d : D) (Γ Γ' : Env) (Q : L2.St → Hp → Prop), Sub Z H → Slots X.K Z ι n Γ σ → Rp X.K Z ι n d v → g d Γ = some Γ' →
  (∀ σ', Slots X.K Z ι n Γ' σ' → Wip is σ σ' → Q σ' H) → t v σ H Q
def QGs (X : Cx) (tgs : List Expr) (g : GGs) (is : List Nat) : Prop := ∃ t, PGs X tgs t ∧ ∀ (vs : List V) (σ : St) (H Z : Hp) (ι : Nat → Addr) (n : Nat) (ds : List D) (Γ Γ' : Env) (Q : L2.St → Hp → Prop), Sub Z H → Slots X.K Z ι n Γ σ → Rps X.K Z ι n ds vs → g ds Γ = some Γ' →
  (∀ σ', Slots X.K Z ι n Γ' σ' → Wip is σ σ' → Q σ' H) → t vs σ H Q
section
variable {X : Cx} {e : Expr} {es : List Expr} {g : GG} {gs : GGs} {is js : List Nat} {pos : Pos}
theorem qg_name (i : Nat) {x : Str} (hN : X.N.Nodup) (hi : X.N[i]? = some x := by rfl) (hx : Loc X.env.scope x := by first | exact Or.inl rfl | exact Or.inr rfl)
    (hf : X.fn x = true ∨ X.env.scope.names.lookup x = some .local := by first | exact Or.inl rfl | exact Or.inr rfl) : QG X (.Name x pos) (gTo i) [i] := by
  refine ⟨_, pg_name hN hi hx hf, fun v σ H Z ι n d Γ Γ' Q hs sl r e h => ?_⟩
  cases e
  exact h _ (sl.set i r) fun vs hv => wipe_set (hv i (by simp))
theorem qgs_nil : QGs X [] gToNil [] := by
  refine ⟨_, pgs_nil, fun vs σ H Z ι n ds Γ Γ' Q hs sl r e h => ?_⟩
  cases r with
  | nil =>
    cases e
    exact ⟨rfl, h _ sl fun _ _ => rfl⟩
  | cons _ _ => cases e
theorem qgs_cons (h1 : QG X e g is) (h2 : QGs X es gs js) (hs : (assignEach (e :: es) X.env).map (·.2) = assign e X.env :: (assignEach es X.env).map (·.2) := by rfl) : QGs X (e :: es) (gToCons g gs) (is ++ js) := by
  obtain ⟨t1, p1, q1⟩ := h1
  obtain ⟨t2, p2, q2⟩ := h2
  refine ⟨_, pgs_cons p1 p2 hs, fun vs σ H Z ι n ds Γ Γ' Q hs sl r e h => ?_⟩
  cases r with
  | nil => cases e
  | cons r1 r2 =>
    rename_i d v ds vs
    have e' : (g d Γ).bind (fun Γ1 => gs ds Γ1) = some Γ' := e
    cases eg : g d Γ with
    | none => rw [eg] at e'; cases e'
    | some Γ1 =>
      rw [eg] at e'
      refine ⟨v, vs, rfl, q1 v σ H Z ι n d Γ Γ1 _ hs sl r1 eg fun σ1 s1 w1 => q2 vs σ1 H Z ι n ds Γ1 Γ' _ hs s1 r2 e' fun σ2 s2 w2 => h σ2 s2 fun us hu => ?_⟩
      rw [w2 us fun i hi => hu i (List.mem_append_right _ hi), w1 us fun i hi => hu i (List.mem_append_left _ hi)]
theorem qg_tup {k : Nat} {n : Nat} (hc : X.calm = true) (h : QGs X es gs is) (hn : (assignEach es X.env).length = n := by rfl) (hst : (assignEach es X.env).findIdx? (·.1) = none := by rfl) (hlen : ∀ ds Γ Γ', gs ds Γ = some Γ' → ds.length = n) : QG X (.Tuple es k pos) (gToT gs) is := by
  obtain ⟨t, p, q⟩ := h
  refine ⟨_, pg_tup hc p hn (hst := hst), fun v σ H Z ι m d Γ Γ' Q hs sl r e h => ?_⟩
  cases r with
  | tup s r =>
    have e' : gs _ Γ = some Γ' := e
    exact ⟨_, _, rfl, subT hs s, by rw [← r.length]; exact hlen _ _ _ e', q _ σ H Z ι m _ Γ Γ' Q hs sl r e' h⟩
  | _ => cases e
theorem len_nil : ∀ (ds : List D) (Γ Γ' : Env), gToNil ds Γ = some Γ' → ds.length = 0 := fun ds Γ Γ' e => by
  cases ds with
  | nil => rfl
  | cons _ _ => cases e
theorem len_cons {g : GG} {gs : GGs} {n : Nat} (h : ∀ (ds : List D) (Γ Γ' : Env), gs ds Γ = some Γ' → ds.length = n) : ∀ (ds : List D) (Γ Γ' : Env), gToCons g gs ds Γ = some Γ' → ds.length = n + 1 := fun ds Γ Γ' e => by
  cases ds with
  | nil => cases e
  | cons d ds =>
    have e' : (g d Γ).bind (fun Γ1 => gs ds Γ1) = some Γ' := e
    cases eg : g d Γ with
    | none => rw [eg] at e'; cases e'
    | some Γ1 =>
      rw [eg] at e'
      rw [List.length_cons, h _ _ _ e']
end

/-! ### statements -/
def PostS (X : Cx) (C : CT) (W : WX) (H Z : Hp) (ι : Nat → Addr) (M : List MO) (r : RS) (Dd : Ends) : Prop := match r with
  | .nx Γ M' => ∀ (σ' : L2.St) (H' Z' : Hp) (ι' : Nat → Addr), Ext H Z ι M.length H' Z' ι' M'.length → HR X.K H' Z' ι' M' → Slots X.K Z' ι' M'.length Γ σ' → Dd.nx σ' H'
  | .bk Γ M' => ∀ (σ' : L2.St) (H' Z' : Hp) (ι' : Nat → Addr), Ext H Z ι M.length H' Z' ι' M'.length → HR X.K H' Z' ι' M' → Slots X.K Z' ι' M'.length Γ σ' → Dd.bk σ' H'
  | .ct Γ M' => ∀ (σ' : L2.St) (H' Z' : Hp) (ι' : Nat → Addr), Ext H Z ι M.length H' Z' ι' M'.length → HR X.K H' Z' ι' M' → Slots X.K Z' ι' M'.length Γ σ' → Dd.ct σ' H'
  | .rt d M' => ∀ (v : V) (H' Z' : Hp) (ι' : Nat → Addr), Ext H Z ι M.length H' Z' ι' M'.length → HR X.K H' Z' ι' M' → Rp X.K Z' ι' M'.length d v → Dd.rt v H'
  | .exc c d Γ M' => ∀ (cls : Value) (dd : Option Addr) (σ' : L2.St) (H' Z' : Hp) (ι' : Nat → Addr), Ext H Z ι M.length H' Z' ι' M'.length → HR X.K H' Z' ι' M' → Slots X.K Z' ι' M'.length Γ σ' → ExcR X.K C H' Z' ι' M'.length c d cls dd → W cls dd σ' H'
  | .bad => False
def QS (X : Cx) (C : CT) (W : WX) (st : Stmt) (g : GS) : Prop := ∃ ts, PS X st ts ∧ ∀ (Dd : Ends) (σ : L2.St) (H Z : Hp) (ι : Nat → Addr) (Γ : Env) (M : List MO), Slots X.K Z ι M.length Γ σ → HR X.K H Z ι M → PostS X C W H Z ι M (g Γ M) Dd → ts Dd σ H
def QSs (X : Cx) (C : CT) (W : WX) (st : List Stmt) (g : GS) : Prop := ∃ ts, PSs X st ts ∧ ∀ (Dd : Ends) (σ : L2.St) (H Z : Hp) (ι : Nat → Addr) (Γ : Env) (M : List MO), Slots X.K Z ι M.length Γ σ → HR X.K H Z ι M → PostS X C W H Z ι M (g Γ M) Dd → ts Dd σ H
def R.thenS {α : Type} (Γ : Env) (r : R α) (f : α → List MO → RS) : RS := match r with
  | .ok a M => f a M
  | .exc c d M => .exc c d Γ M
  | .bad => .bad
def RS.next (r : RS) (f : Env → List MO → RS) : RS := match r with
  | .nx Γ M => f Γ M
  | r => r
def gPass : GS := fun Γ M => .nx Γ M
def gSeq (a b : GS) : GS := fun Γ M => (a Γ M).next b
def gExpr (ge : GE) : GS := fun Γ M => (ge Γ M).thenS Γ fun _ M1 => .nx Γ M1
def gRet (ge : GE) : GS := fun Γ M => (ge Γ M).thenS Γ fun d M1 => .rt d M1
def gRetN : GS := fun _ M => .rt .non M
def gIf (c : GT) (a b : GS) : GS := fun Γ M => (c Γ M).thenS Γ fun k M1 => if k = true then a Γ M1 else b Γ M1
def gAsg (ge : GE) (gg : GG) : GS := fun Γ M => (ge Γ M).thenS Γ fun d M1 => match gg d Γ with
  | some Γ' => .nx Γ' M1
  | none => .bad
def gBad : GS := fun _ _ => .bad
def gForget (is : List Nat) : GS := fun Γ M => .nx (forget Γ is) M
/-- a list of ours that stands in a slot is left as it is from now on -/
def gFz (i : Nat) : GS := fun Γ M => match Γ[i]? with
  | some (some (.ref k)) => match M[k]? with
    | some (.lst ds) => .nx (Γ.set i (some (.lst ds))) (M.set k .dead)
    | some (.dct ks vs) => .nx (Γ.set i (some (.dct ks vs))) (M.set k .dead)
    | _ => .bad
  | _ => .bad
/-- what the turn has made is dropped -/
def gCut (m : Nat) (r : RS) : RS := match r with
  | .nx Γ M => if m ≤ M.length ∧ cutOk m M = true then .nx (clean m Γ) (M.take m) else .bad
  | .ct Γ M => if m ≤ M.length ∧ cutOk m M = true then .ct (clean m Γ) (M.take m) else .bad
  | r => r
def gScope (a : GS) : GS := fun Γ M => gCut M.length (a Γ M)
/-- behind a loop's turn -/
def RS.turn (r : RS) (f : Env → List MO → RS) : RS := match r with
  | .nx Γ M => f Γ M
  | .ct Γ M => f Γ M
  | .bk Γ M => .nx Γ M
  | r => r
def optS (o : Option Env) (f : Env → RS) : RS := match o with
  | some Γ => f Γ
  | none => .bad
def gForL (gg : GG) (body : GS) : List D → GS
  | [] => gPass
  | d :: ds => fun Γ M => optS (gg d Γ) fun Γ1 => (body Γ1 M).turn (gForL gg body ds)
def gFor (gi : GI) (gg : GG) (body : GS) : GS := fun Γ M => (gi Γ M).thenS Γ fun ds M1 => gForL gg body ds Γ M1
def gWhile (gt : GT) (body : GS) : Nat → GS
  | 0 => gBad
  | n + 1 => fun Γ M => (gt Γ M).thenS Γ fun k M1 => if k = true then (body Γ M1).turn (gWhile gt body n) else .nx Γ M1
section
variable {X : Cx} {C : CT} {W : WX} {H Z H1 Z1 : Hp} {ι ι1 : Nat → Addr} {M M1 : List MO} {Dd : Ends}
theorem PostS.shift {r : RS} (h : PostS X C W H Z ι M r Dd) (e : Ext H Z ι M.length H1 Z1 ι1 M1.length) (hr : HR X.K H1 Z1 ι1 M1) : PostS X C W H1 Z1 ι1 M1 r Dd := by
  cases r with
  | nx Γ M' => exact fun σ' H' Z' ι' e' => h σ' H' Z' ι' (e.trans e' hr.ali)
  | bk Γ M' => exact fun σ' H' Z' ι' e' => h σ' H' Z' ι' (e.trans e' hr.ali)
  | ct Γ M' => exact fun σ' H' Z' ι' e' => h σ' H' Z' ι' (e.trans e' hr.ali)
  | rt d M' => exact fun σ' H' Z' ι' e' => h σ' H' Z' ι' (e.trans e' hr.ali)
  | exc c d Γ M' => exact fun cls dd σ' H' Z' ι' e' => h cls dd σ' H' Z' ι' (e.trans e' hr.ali)
  | bad => exact h
theorem PostS.bind {α β : Type} {rp1 : RpK α β} {r : R α} {f : α → List MO → RS} {Γ : Env} {σ : St} {Q1 : β → Hp → Prop} (h : PostS X C W H Z ι M (r.thenS Γ f) Dd) (sl : Slots X.K Z ι M.length Γ σ)
    (k : ∀ (a : α) (M1 : List MO) (b : β) (H1 Z1 : Hp) (ι1 : Nat → Addr), Ext H Z ι M.length H1 Z1 ι1 M1.length → HR X.K H1 Z1 ι1 M1 → rp1 Z1 ι1 M1.length a b → PostS X C W H1 Z1 ι1 M1 (f a M1) Dd → Q1 b H1) :
    Post X C W rp1 σ H Z ι M r Q1 := by
  cases r with
  | ok a M' => exact fun b H' Z' ι' e' hr' rb => k a M' b H' Z' ι' e' hr' rb (PostS.shift (r := f a M') h e' hr')
  | exc c d M' => exact fun cls dd H' Z' ι' e' hr' rb => h cls dd σ H' Z' ι' e' hr' (sl.ext e') rb
  | bad => exact h
theorem PostS.next {r : RS} {f : Env → List MO → RS} {nx : L2.St → Hp → Prop} (h : PostS X C W H Z ι M (r.next f) Dd)
    (k : ∀ (Γ1 : Env) (M1 : List MO) (σ1 : L2.St) (H1 Z1 : Hp) (ι1 : Nat → Addr), Ext H Z ι M.length H1 Z1 ι1 M1.length → HR X.K H1 Z1 ι1 M1 → Slots X.K Z1 ι1 M1.length Γ1 σ1 → PostS X C W H1 Z1 ι1 M1 (f Γ1 M1) Dd → nx σ1 H1) :
    PostS X C W H Z ι M r { Dd with nx := nx } := by
  cases r with
  | nx Γ M' => exact fun σ' H' Z' ι' e' hr' sl => k Γ M' σ' H' Z' ι' e' hr' sl (PostS.shift (r := f Γ M') h e' hr')
  | bk Γ M' => exact h
  | ct Γ M' => exact h
  | rt d M' => exact h
  | exc c d Γ M' => exact h
  | bad => exact h
variable {st : Stmt} {rest : List Stmt} {e tg : Expr} {ge : GE} {gt : GT} {gg : GG} {g g2 : GS} {pos : Pos}
theorem qss_nil : QSs X C W [] gPass := ⟨_, pss_nil, fun Dd σ H Z ι Γ M sl hr h => h σ H Z ι .refl hr sl⟩
theorem qss_cons (h1 : QS X C W st g) (h2 : QSs X C W rest g2) : QSs X C W (st :: rest) (gSeq g g2) := by
  obtain ⟨t1, p1, q1⟩ := h1
  obtain ⟨t2, p2, q2⟩ := h2
  exact ⟨_, pss_cons p1 p2, fun Dd σ H Z ι Γ M sl hr h => q1 _ σ H Z ι Γ M sl hr (PostS.next h fun Γ1 M1 σ1 H1 Z1 ι1 e1 hr1 sl1 h1 => q2 Dd σ1 H1 Z1 ι1 Γ1 M1 sl1 hr1 h1)⟩
theorem qss_one (h1 : QS X C W st g) : QSs X C W [st] g := let ⟨t, p, q⟩ := h1; ⟨t, pss_one p, q⟩
theorem qss_never {sts : List Stmt} : QSs X C W sts gBad := ⟨_, pss_never, fun Dd σ H Z ι Γ M sl hr h => h⟩
theorem qs_never : QS X C W st gBad := ⟨_, ps_never, fun Dd σ H Z ι Γ M sl hr h => h⟩
theorem qs_pass : QS X C W (.Pass pos) gPass := ⟨_, ps_pass, fun Dd σ H Z ι Γ M sl hr h => h σ H Z ι .refl hr sl⟩
/-- a step of our own behind a statement -/
theorem qs_ghost {g3 : GS} (h1 : QS X C W st g) (h : ∀ (Dd : Ends) (σ : L2.St) (H Z : Hp) (ι : Nat → Addr) (Γ : Env) (M : List MO), Slots X.K Z ι M.length Γ σ → HR X.K H Z ι M → PostS X C W H Z ι M (g3 Γ M) Dd → Dd.nx σ H) : QS X C W st (gSeq g g3) := by
  obtain ⟨t1, p1, q1⟩ := h1
  exact ⟨_, p1, fun Dd σ H Z ι Γ M sl hr hp => q1 Dd σ H Z ι Γ M sl hr (PostS.next (nx := Dd.nx) hp fun Γ1 M1 σ1 H1 Z1 ι1 e1 hr1 sl1 h1 => h Dd σ1 H1 Z1 ι1 Γ1 M1 sl1 hr1 h1)⟩
theorem qs_forget (is : List Nat) (h1 : QS X C W st g) : QS X C W st (gSeq g (gForget is)) := qs_ghost h1 fun Dd σ H Z ι Γ M sl hr h => h σ H Z ι .refl hr (sl.forget is)
theorem qs_fz (i : Nat) (h1 : QS X C W st g) : QS X C W st (gSeq g (gFz i)) := qs_ghost h1 fun Dd σ H Z ι Γ M sl hr h => by
  unfold gFz at h
  cases e : Γ[i]? with
  | none => rw [e] at h; exact h.elim
  | some o =>
    rw [e] at h
    cases o with
    | none => exact h.elim
    | some d =>
      cases d with
      | ref k =>
        simp only at h
        cases e2 : M[k]? with
        | none => rw [e2] at h; exact h.elim
        | some u =>
          rw [e2] at h
          cases u with
          | dead => exact h.elim
          | dki kvs0 => exact h.elim
          | obj nm fs => exact h.elim
          | lst ds =>
            obtain ⟨xs, r, hr1, x1, rp⟩ := hr.freeze e2
            obtain ⟨v, hv, rv⟩ := sl.2 i _ e
            cases rv
            have q := (sl.ext x1).set i rp
            have es : σ.set i (some (V.ref (ι k))) = σ := by
              have lt : i < σ.length := (List.getElem?_eq_some_iff.mp hv).1
              have ev : σ[i] = some (V.ref (ι k)) := (List.getElem?_eq_some_iff.mp hv).2
              rw [← ev, List.set_getElem_self]
            rw [es] at q
            exact h σ H _ ι x1 hr1 q
          | dct ks vs =>
            obtain ⟨ho, r, hr1, x1, rp⟩ := hr.freezeD e2
            obtain ⟨v, hv, rv⟩ := sl.2 i _ e
            cases rv
            have q := (sl.ext x1).set i rp
            have es : σ.set i (some (V.ref (ι k))) = σ := by
              have lt : i < σ.length := (List.getElem?_eq_some_iff.mp hv).1
              have ev : σ[i] = some (V.ref (ι k)) := (List.getElem?_eq_some_iff.mp hv).2
              rw [← ev, List.set_getElem_self]
            rw [es] at q
            exact h σ H _ ι x1 hr1 q
      | _ => exact h.elim
theorem qs_expr (ha : QE X C W e ge) (hs : swapsWith e none pos.line X.env = pure false := by rfl) : QS X C W (.Expr e pos) (gExpr ge) := by
  obtain ⟨ta, pa, qa⟩ := ha
  exact ⟨_, ps_expr pa hs, fun Dd σ H Z ι Γ M sl hr h => qa σ H Z ι Γ M _ sl hr (PostS.bind h sl fun x M1 v H1 Z1 ι1 e1 hr1 r1 h1 => h1 σ H1 Z1 ι1 .refl hr1 (sl.ext e1))⟩
theorem qs_ret (ha : QE X C W e ge) : QS X C W (.Return (some e) pos) (gRet ge) := by
  obtain ⟨ta, pa, qa⟩ := ha
  exact ⟨_, ps_ret pa, fun Dd σ H Z ι Γ M sl hr h => qa σ H Z ι Γ M _ sl hr (PostS.bind h sl fun x M1 v H1 Z1 ι1 e1 hr1 r1 h1 => h1 v H1 Z1 ι1 .refl hr1 r1)⟩
theorem qs_retN : QS X C W (.Return none pos) gRetN := ⟨_, ps_retN, fun Dd σ H Z ι Γ M sl hr h => h _ H Z ι .refl hr .non⟩
theorem qs_if {c : Expr} {a b : List Stmt} (hc : QT X C W c gt) (ha : QSs X C W a g) (hb : QSs X C W b g2) : QS X C W (.If c a b pos) (gIf gt g g2) := by
  obtain ⟨tc, pc, qc⟩ := hc
  obtain ⟨ta, pa, qa⟩ := ha
  obtain ⟨tb, pb, qb⟩ := hb
  refine ⟨_, ps_if pc pa pb, fun Dd σ H Z ι Γ M sl hr h => qc σ H Z ι Γ M _ sl hr (PostS.bind h sl fun x M1 v H1 Z1 ι1 e1 hr1 r1 h1 => ?_)⟩
  have r1' : x = v := r1
  subst r1'
  cases x with
  | true => exact qa Dd σ H1 Z1 ι1 Γ M1 (sl.ext e1) hr1 h1
  | false => exact qb Dd σ H1 Z1 ι1 Γ M1 (sl.ext e1) hr1 h1
theorem qs_asg {is : List Nat} (ha : QE X C W e ge) (hg : QG X tg gg is) (hs : swapsWithSole [tg] e pos.line X.env = pure false := by rfl) (hp : swappedStores [tg] e X.env = pure none := by rfl) (h1 : (assignEach [tg] X.env).map (·.2) = [assign tg X.env] := by rfl) : QS X C W (.Assign [tg] e pos) (gAsg ge gg) := by
  obtain ⟨ta, pa, qa⟩ := ha
  obtain ⟨t2, p2, q2⟩ := hg
  refine ⟨_, ps_asg pa p2 hs (hw := hp) (h1 := h1), fun Dd σ H Z ι Γ M sl hr h => qa σ H Z ι Γ M _ sl hr (PostS.bind h sl fun x M1 v H1 Z1 ι1 e1 hr1 r1 h1 => ?_)⟩
  cases eg : gg x Γ with
  | none => rw [eg] at h1; exact h1.elim
  | some Γ' =>
    rw [eg] at h1
    exact q2 v σ H1 Z1 ι1 M1.length x Γ Γ' _ hr1.sub (sl.ext e1) r1 eg fun σ' s' _ => h1 σ' H1 Z1 ι1 .refl hr1 s'

theorem qss_scope (h1 : QSs X C W rest g) : QSs X C W rest (gScope g) := by
  obtain ⟨t1, p1, q1⟩ := h1
  refine ⟨_, p1, fun Dd σ H Z ι Γ M sl hr h => q1 Dd σ H Z ι Γ M sl hr ?_⟩
  have h' : PostS X C W H Z ι M (gCut M.length (g Γ M)) Dd := h
  cases er : g Γ M with
  | nx Γ' M' =>
    rw [er] at h'
    by_cases hc : M.length ≤ M'.length ∧ cutOk M.length M' = true
    · have h2 : PostS X C W H Z ι M (if M.length ≤ M'.length ∧ cutOk M.length M' = true then .nx (clean M.length Γ') (M'.take M.length) else .bad) Dd := h'
      rw [if_pos hc] at h2
      have ln : (M'.take M.length).length = M.length := by rw [List.length_take]; omega
      intro σ' H' Z' ι' e1 hr1 sl1
      refine h2 σ' H' Z' ι' (by rw [ln]; exact e1.cut (Nat.le_refl _) hc.1) (hr1.cut hc.1 hc.2) (by rw [ln]; exact sl1.cut)
    · have h2 : PostS X C W H Z ι M (if M.length ≤ M'.length ∧ cutOk M.length M' = true then .nx (clean M.length Γ') (M'.take M.length) else .bad) Dd := h'
      rw [if_neg hc] at h2
      exact h2.elim
  | ct Γ' M' =>
    rw [er] at h'
    by_cases hc : M.length ≤ M'.length ∧ cutOk M.length M' = true
    · have h2 : PostS X C W H Z ι M (if M.length ≤ M'.length ∧ cutOk M.length M' = true then .ct (clean M.length Γ') (M'.take M.length) else .bad) Dd := h'
      rw [if_pos hc] at h2
      have ln : (M'.take M.length).length = M.length := by rw [List.length_take]; omega
      intro σ' H' Z' ι' e1 hr1 sl1
      refine h2 σ' H' Z' ι' (by rw [ln]; exact e1.cut (Nat.le_refl _) hc.1) (hr1.cut hc.1 hc.2) (by rw [ln]; exact sl1.cut)
    · have h2 : PostS X C W H Z ι M (if M.length ≤ M'.length ∧ cutOk M.length M' = true then .ct (clean M.length Γ') (M'.take M.length) else .bad) Dd := h'
      rw [if_neg hc] at h2
      exact h2.elim
  | bk Γ' M' => rw [er] at h'; exact h'
  | rt d M' => rw [er] at h'; exact h'
  | exc c d Γ' M' => rw [er] at h'; exact h'
  | bad => rw [er] at h'; exact h'
/-- a loop's turn: what is wanted behind it -/
theorem PostS.turn {r : RS} {f : Env → List MO → RS} {N : L2.St → Hp → Prop} (h : PostS X C W H Z ι M (r.turn f) Dd)
    (k : ∀ (Γ1 : Env) (M1 : List MO) (σ1 : L2.St) (H1 Z1 : Hp) (ι1 : Nat → Addr), Ext H Z ι M.length H1 Z1 ι1 M1.length → HR X.K H1 Z1 ι1 M1 → Slots X.K Z1 ι1 M1.length Γ1 σ1 → PostS X C W H1 Z1 ι1 M1 (f Γ1 M1) Dd → N σ1 H1) :
    PostS X C W H Z ι M r { Dd with nx := N, ct := N, bk := Dd.nx } := by
  cases r with
  | nx Γ M' => exact fun σ' H' Z' ι' e' hr' sl => k Γ M' σ' H' Z' ι' e' hr' sl (PostS.shift (r := f Γ M') h e' hr')
  | ct Γ M' => exact fun σ' H' Z' ι' e' hr' sl => k Γ M' σ' H' Z' ι' e' hr' sl (PostS.shift (r := f Γ M') h e' hr')
  | bk Γ M' => exact h
  | rt d M' => exact h
  | exc c d Γ M' => exact h
  | bad => exact h
theorem qs_for {iter : Expr} {body : List Stmt} {gi : GI} {is : List Nat} (hp : PassesOwn (model X.prog X.w) X.A X.env X.xe) (hc : X.calm = true) (hi : QI X C W tg iter gi) (hg : QG X tg gg is) (hb : QSs X C W body g)
    (hs : ∀ x, foldedSetIterable iter X.env x = pure x := by intro _; rfl) : QS X C W (.For tg iter body [] pos) (gFor gi gg g) := by
  obtain ⟨wi, pi, qi⟩ := hi
  obtain ⟨tg', pg, qg⟩ := hg
  obtain ⟨tb, pb, qb⟩ := hb
  refine ⟨_, ps_for hp hc pi pg pb hs, fun Dd σ H Z ι Γ M sl hr h => qi σ H Z ι Γ M _ sl hr (PostS.bind h sl fun ds M1 J H1 Z1 ι1 e1 hr1 rJ h1 => ?_)⟩
  refine ⟨fun i m σ' H' => ∃ (Z' : Hp) (ι' : Nat → Addr) (Γ' : Env) (M' : List MO), m = ds.length - i ∧ i ≤ ds.length ∧ Sub Z1 Z' ∧ (∀ k, k < M1.length → ι' k = ι1 k) ∧ M1.length ≤ M'.length ∧ HR X.K H' Z' ι' M' ∧ Slots X.K Z' ι' M'.length Γ' σ' ∧
    PostS X C W H' Z' ι' M' (gForL gg g (ds.drop i) Γ' M') Dd, ⟨ds.length, Z1, ι1, Γ, M1, rfl, Nat.zero_le _, fun _ _ z => z, fun _ _ => rfl, Nat.le_refl _, hr1, sl.ext e1, h1⟩, ?_⟩
  rintro i m σ' H' ⟨Z', ι', Γ', M', em, hle, hz, hii, hn, hr', sl', hp'⟩
  obtain ⟨hstop, hgo⟩ := rJ i H' Z' ι' M' hz hii hn hr' trivial
  by_cases hi : i < ds.length
  · refine .inr ?_
    have ed : ds.drop i = ds[i] :: ds.drop (i + 1) := List.drop_eq_getElem_cons hi
    obtain ⟨go, yl⟩ := hgo ds[i] (List.getElem?_eq_getElem hi)
    refine ⟨go, fun σ2 H2 => ∃ (Z2 : Hp) (ι2 : Nat → Addr) (Γ2 : Env) (M2 : List MO), Sub Z1 Z2 ∧ (∀ k, k < M1.length → ι2 k = ι1 k) ∧ M1.length ≤ M2.length ∧ HR X.K H2 Z2 ι2 M2 ∧ Slots X.K Z2 ι2 M2.length Γ2 σ2 ∧
      PostS X C W H2 Z2 ι2 M2 (gForL gg g (ds.drop (i + 1)) Γ2 M2) Dd, fun σ2 H2 hN => ?_, fun x H2 hy => ?_⟩
    · obtain ⟨Z2, ι2, Γ2, M2, a1, a2, a3, a4, a5, a6⟩ := hN
      exact ⟨ds.length - (i + 1), by omega, Z2, ι2, Γ2, M2, rfl, by omega, a1, a2, a3, a4, a5, a6⟩
    · obtain ⟨Z2, e2, hr2, rx⟩ := yl x H2 hy
      rw [ed] at hp'
      have hp2 := PostS.shift hp' e2 hr2
      have hb : PostS X C W H2 Z2 ι' M' (optS (gg ds[i] Γ') fun Γ1 => (g Γ1 M').turn (gForL gg g (ds.drop (i + 1)))) Dd := hp2
      cases eg : gg ds[i] Γ' with
      | none =>
        rw [eg] at hb
        exact hb.elim
      | some Γ1 =>
        rw [eg] at hb
        exact qg x σ' H2 Z2 ι' M'.length ds[i] Γ' Γ1 _ hr2.sub (sl'.ext e2) rx eg fun σ3 s3 _ => qb _ σ3 H2 Z2 ι' Γ1 M' s3 hr2 (PostS.turn hb fun Γ4 M4 σ4 H4 Z4 ι4 e4 hr4 s4 h4 =>
          ⟨Z4, ι4, Γ4, M4, fun a o z => e4.zz _ _ (e2.zz _ _ (hz _ _ z)), fun k hk => (e4.ii k (Nat.lt_of_lt_of_le hk hn)).trans (hii k hk), Nat.le_trans hn e4.ln, hr4, s4, h4⟩)
  · refine .inl ⟨hstop (by omega), ?_⟩
    rw [List.drop_eq_nil_of_le (Nat.le_of_not_lt hi)] at hp'
    exact hp' σ' H' Z' ι' .refl hr' sl'
theorem qs_while {c : Expr} {body : List Stmt} (n : Nat) (hp : PassesOwn (model X.prog X.w) X.A X.env X.xe) (hc : QT X C W c gt) (hb : QSs X C W body g) : QS X C W (.While c body [] pos) (gWhile gt g n) := by
  obtain ⟨tc, pc, qc⟩ := hc
  obtain ⟨tb, pb, qb⟩ := hb
  refine ⟨_, ps_while hp pc pb, fun Dd σ H Z ι Γ M sl hr h => ?_⟩
  refine ⟨fun m σ' H' => ∃ (Z' : Hp) (ι' : Nat → Addr) (Γ' : Env) (M' : List MO), HR X.K H' Z' ι' M' ∧ Slots X.K Z' ι' M'.length Γ' σ' ∧ PostS X C W H' Z' ι' M' (gWhile gt g m Γ' M') Dd, ⟨n, Z, ι, Γ, M, hr, sl, h⟩, ?_⟩
  rintro m σ' H' ⟨Z', ι', Γ', M', hr', sl', hp'⟩
  cases m with
  | zero => exact hp'.elim
  | succ m =>
    refine qc σ' H' Z' ι' Γ' M' _ sl' hr' (PostS.bind hp' sl' fun x M1 v H1 Z1 ι1 e1 hr1 r1 h1 => ?_)
    have r1' : x = v := r1
    subst r1'
    cases x with
    | false => exact h1 σ' H1 Z1 ι1 .refl hr1 (sl'.ext e1)
    | true =>
      refine ⟨fun σ2 H2 => ∃ (Z2 : Hp) (ι2 : Nat → Addr) (Γ2 : Env) (M2 : List MO), HR X.K H2 Z2 ι2 M2 ∧ Slots X.K Z2 ι2 M2.length Γ2 σ2 ∧ PostS X C W H2 Z2 ι2 M2 (gWhile gt g m Γ2 M2) Dd, fun σ2 H2 hN => ⟨m, Nat.lt_succ_self _, hN⟩, ?_⟩
      exact qb _ σ' H1 Z1 ι1 Γ' M1 (sl'.ext e1) hr1 (PostS.turn h1 fun Γ4 M4 σ4 H4 Z4 ι4 e4 hr4 s4 h4 => ⟨Z4, ι4, Γ4, M4, hr4, s4, h4⟩)
end
end Bk

set_option Elab.async false
set_option linter.all false
set_option maxRecDepth 100000
set_option maxHeartbeats 2000000
namespace Bk
open PySem PySem.Spec PyProof.Rows L2

/-! ### a list made by a comprehension -/
/-- nothing may be raised -/
abbrev noW : WX := fun _ _ _ _ => False
theorem takes_no {X : Cx} : Takes X noW := fun u s' h => by
  unfold XE at h
  obtain ⟨_, _, _, _, _, _, _, h⟩ := h
  simp_all
/-- no exception goes on -/
def R.only {α β : Type} (r : R α) (f : α → List MO → R β) : R β := match r with
  | .ok a M => f a M
  | _ => .bad
def gLcL (gg : GG) (gt : GT) (ge : GE) (Γ : Env) : List D → List D → List MO → R (List D)
  | [], acc, M => .ok acc M
  | d :: ds, acc, M => match gg d Γ with
    | none => .bad
    | some Γ1 => (gt Γ1 M).only fun k M1 => if k = true then (ge Γ1 M1).only fun y M2 => if acc.length < sizeLine then gLcL gg gt ge Γ ds (acc ++ [y]) M2 else .bad else gLcL gg gt ge Γ ds acc M1
def gYes : GT := fun _ M => .ok true M
/-- the new list will not be changed -/
def gLc (gi : GI) (gg : GG) (gt : GT) (ge : GE) (own : List Nat) : GE := fun Γ M => (gi Γ M).bind fun ds M1 => (gLcL gg gt ge (forget Γ own) ds [] M1).bind fun acc M2 => .ok (.lst acc) M2
/-- the new list is ours -/
def gLcO (gi : GI) (gg : GG) (gt : GT) (ge : GE) (own : List Nat) : GE := fun Γ M => (gi Γ M).bind fun ds M1 => (gLcL gg gt ge (forget Γ own) ds [] M1).bind fun acc M2 => .ok (.ref M2.length) (M2 ++ [.lst acc])

section
variable {K : PySem.W.Frag} {H Z H0 Z0 : Hp} {ι ι0 : Nat → Addr} {M : List MO} {n0 : Nat} {p : Addr} {xs : List V} {ds : List D} {o : HO}
/-- a thing that is neither frozen nor ours -/
structure Odd (Z : Hp) (ι : Nat → Addr) (n : Nat) (p : Addr) : Prop where
  z : Z p = none
  i : ∀ k, k < n → ι k ≠ p
theorem HR.odd (h : HR K H Z ι M) (q : Odd Z ι M.length p) : HR K (upd H p o) Z ι M := by
  have lt : ∀ {k : Nat} {u : MO}, M[k]? = some u → k < M.length := fun e => (List.getElem?_eq_some_iff.mp e).1
  refine ⟨fun a u e => by rw [upd_ne (ne_of_none e q.z)]; exact h.sub _ _ e, fun k hk => by rw [upd_ne (q.i k hk)]; exact h.ali k hk, h.sep, h.inj, fun k u e => ?_, h.ded⟩
  exact OR.mono (fun _ _ z => z) (fun _ _ => rfl) (Nat.le_refl _) (fun o z => by rw [upd_ne (q.i k (lt e))]; exact z) (h.obj k u e)
theorem Odd.new (h : HR K H Z ι M) (hp : H p = none) : Odd Z ι M.length p := by
  refine ⟨?_, fun k hk e => ?_⟩
  · cases e : Z p with
    | none => rfl
    | some u =>
      rw [h.sub _ _ e] at hp
      cases hp
  · obtain ⟨u, hu⟩ := h.ali k hk
    rw [e, hp] at hu
    cases hu
theorem Odd.ext {H1 Z1 : Hp} {ι1 : Nat → Addr} {n n1 : Nat} {u : HO} (q : Odd Z ι n p) (hp : H p = some u) (e : Ext H Z ι n H1 Z1 ι1 n1) : Odd Z1 ι1 n1 p ∧ H1 p = some u := by
  refine ⟨⟨?_, fun k hk z => ?_⟩, e.fr p u hp fun k hk z => q.i k hk z.symm⟩
  · cases z : Z1 p with
    | none => rfl
    | some w =>
      rcases e.zn p w z with a | a | ⟨k, hk, a⟩
      · rw [q.z] at a; cases a
      · rw [hp] at a; cases a
      · exact absurd a.symm (q.i k hk)
  · by_cases hn : k < n
    · exact q.i k hn ((e.ii k hn).symm.trans z)
    · have w := e.nw k (Nat.le_of_not_lt hn) hk
      rw [z, hp] at w
      cases w
theorem Ext.touch {n : Nat} (e : Ext H0 Z0 ι0 n0 H Z ι n) (hp : H0 p = none) : Ext H0 Z0 ι0 n0 (upd H p o) Z ι n :=
  ⟨e.zz, e.ii, fun a u h1 h2 => by rw [upd_ne (ne_of_none h1 hp)]; exact e.fr a u h1 h2, e.nw, e.ln, e.zn⟩
theorem HR.adoptZ (h : HR K H Z ι M) (q : Odd Z ι M.length p) (hp : H p = some o) : HR K H (upd Z p o) ι M := by
  have s1 : Sub Z (upd Z p o) := fun a u e => by rw [upd_ne (ne_of_none e q.z)]; exact e
  refine ⟨fun a u e => ?_, h.ali, fun k u e d => by rw [upd_ne (q.i k (List.getElem?_eq_some_iff.mp e).1)]; exact h.sep k u e d, h.inj, fun k u e => ?_, fun k e => let ⟨u, hu⟩ := h.ded k e; ⟨u, s1 _ _ hu⟩⟩
  · by_cases ha : a = p
    · subst ha
      rw [upd_same] at e
      rw [← e]
      exact hp
    · rw [upd_ne ha] at e
      exact h.sub _ _ e
  · exact OR.mono s1 (fun _ _ => rfl) (Nat.le_refl _) (fun _ z => z) (h.obj k u e)
theorem Ext.adoptZ {n : Nat} (e : Ext H0 Z0 ι0 n0 H Z ι n) (hz : Z p = none) (hp : H0 p = none) : Ext H0 Z0 ι0 n0 H (upd Z p o) ι n :=
  ⟨fun a u h => by rw [upd_ne (ne_of_none (e.zz _ _ h) hz)]; exact e.zz _ _ h, e.ii, e.fr, e.nw, e.ln, fun a u h => by
    by_cases ha : a = p
    · subst ha
      exact .inr (.inl hp)
    · rw [upd_ne ha] at h
      exact e.zn a u h⟩
theorem HR.adoptM (h : HR K H Z ι M) (q : Odd Z ι M.length p) (hp : H p = some (.lst xs)) (r : Rps K Z ι M.length ds xs) : HR K H Z (put ι M.length p) (M ++ [.lst ds]) := by
  have ln : (M ++ [MO.lst ds]).length = M.length + 1 := by simp
  have cs : ∀ {k : Nat} {u : MO}, (M ++ [MO.lst ds])[k]? = some u → (k < M.length ∧ M[k]? = some u) ∨ (k = M.length ∧ u = .lst ds) := fun {k u} e => by
    by_cases hk : k < M.length
    · rw [List.getElem?_append_left hk] at e
      exact .inl ⟨hk, e⟩
    · rw [List.getElem?_append_right (Nat.le_of_not_lt hk)] at e
      by_cases hz : k - M.length = 0
      · rw [hz] at e
        exact .inr ⟨by omega, (Option.some.inj e).symm⟩
      · rw [List.getElem?_eq_none (by simp; omega)] at e
        cases e
  refine ⟨h.sub, fun k hk => ?_, fun k u e d => ?_, fun j k o u e1 e2 d1 d2 e => ?_, fun k u e => ?_, fun k e => ?_⟩
  · rw [ln] at hk
    by_cases hk' : k < M.length
    · rw [put_lt hk']
      exact h.ali k hk'
    · have : k = M.length := by omega
      subst this
      exact ⟨_, by rw [put_at]; exact hp⟩
  · rcases cs e with ⟨hk, e⟩ | ⟨rfl, rfl⟩
    · rw [put_lt hk]
      exact h.sep k u e d
    · rw [put_at]
      exact q.z
  · rcases cs e1 with ⟨hj, e1⟩ | ⟨rfl, rfl⟩ <;> rcases cs e2 with ⟨hk, e2⟩ | ⟨rfl, rfl⟩
    · rw [put_lt hj, put_lt hk] at e
      exact h.inj j k o u e1 e2 d1 d2 e
    · rw [put_lt hj, put_at] at e
      exact absurd e (q.i j hj)
    · rw [put_lt hk, put_at] at e
      exact absurd e.symm (q.i k hk)
    · rfl
  · rcases cs e with ⟨hk, e⟩ | ⟨rfl, rfl⟩
    · rw [put_lt hk]
      exact OR.mono (fun _ _ z => z) (fun _ z => put_lt z) (by rw [ln]; omega) (fun _ z => z) (h.obj k u e)
    · rw [put_at]
      exact ⟨xs, hp, Rps.mono (fun _ _ z => z) (fun _ z => put_lt z) (by rw [ln]; omega) _ _ r⟩
  · rcases cs e with ⟨hk, e⟩ | ⟨_, e⟩
    · rw [put_lt hk]
      exact h.ded k e
    · cases e
theorem Ext.adoptM (e : Ext H0 Z0 ι0 n0 H Z ι M.length) (hp : H0 p = none) : Ext H0 Z0 ι0 n0 H Z (put ι M.length p) (M ++ [MO.lst ds]).length := by
  have ln : (M ++ [MO.lst ds]).length = M.length + 1 := by simp
  refine ⟨e.zz, fun k hk => (put_lt (Nat.lt_of_lt_of_le hk e.ln)).trans (e.ii k hk), e.fr, fun k h1 h2 => ?_, by rw [ln]; have := e.ln; omega, e.zn⟩
  rw [ln] at h2
  by_cases hk : k < M.length
  · rw [put_lt hk]
    exact e.nw k h1 hk
  · have : k = M.length := by omega
    subst this
    rw [put_at]
    exact hp
end
theorem wipe_at {σ : St} : ∀ (vs : List Nat) (i : Nat), (wipe σ vs)[i]? = if i ∈ vs ∧ i < σ.length then some none else σ[i]?
  | [], i => by simp [wipe]
  | v :: vs, i => by
    have ih := wipe_at (σ := σ) vs i
    have ln := wipe_length σ vs
    show ((wipe σ vs).set v none)[i]? = _
    by_cases hv : v = i
    · subst hv
      by_cases hl : v < σ.length
      · rw [List.getElem?_set_self (by rw [ln]; exact hl), if_pos ⟨List.mem_cons_self, hl⟩]
      · rw [if_neg (fun z => hl z.2), List.getElem?_eq_none (by rw [List.length_set, ln]; omega), List.getElem?_eq_none (by omega)]
    · rw [List.getElem?_set_ne hv, ih]
      have : (i ∈ v :: vs) ↔ i ∈ vs := by simp only [List.mem_cons]; exact ⟨fun z => z.elim (fun e => absurd e.symm hv) id, .inr⟩
      simp only [this]
theorem wipe_wipe {σ : St} (vs : List Nat) : wipe (wipe σ vs) vs = wipe σ vs := by
  refine List.ext_getElem? fun i => ?_
  rw [wipe_at, wipe_length, wipe_at]
  split <;> rfl
theorem slots_wipe {K : PySem.W.Frag} {Z : Hp} {ι : Nat → Addr} {n : Nat} {σ : St} : ∀ (vs : List Nat) {Γ : Env}, Slots K Z ι n Γ σ → Slots K Z ι n (forget Γ vs) (wipe σ vs) := by
  have one : ∀ (vs : List Nat) (Γ : Env) (i : Nat) (d : D), (forget Γ vs)[i]? = some (some d) → Γ[i]? = some (some d) ∧ i ∉ vs := by
    intro vs
    induction vs with
    | nil => intro Γ i d h; exact ⟨h, by simp⟩
    | cons v vs ih =>
      intro Γ i d h
      obtain ⟨h1, h2⟩ := ih (Γ.set v none) i d h
      by_cases hv : v = i
      · subst hv
        have lt : v < Γ.length := by
          have := (List.getElem?_eq_some_iff.mp h1).1
          rw [List.length_set] at this
          exact this
        rw [List.getElem?_set_self lt] at h1
        cases h1
      · rw [List.getElem?_set_ne hv] at h1
        exact ⟨h1, by simp only [List.mem_cons, not_or]; exact ⟨fun e => hv e.symm, h2⟩⟩
  have keep : ∀ (vs : List Nat) (i : Nat), i ∉ vs → (wipe σ vs)[i]? = σ[i]? := by
    intro vs
    induction vs with
    | nil => intro i _; rfl
    | cons v vs ih =>
      intro i h
      show ((wipe σ vs).set v none)[i]? = _
      rw [List.getElem?_set_ne (fun e => h (by rw [e]; exact List.mem_cons_self))]
      exact ih i fun z => h (List.mem_cons_of_mem _ z)
  have len : ∀ (vs : List Nat) (Γ : Env), (forget Γ vs).length = Γ.length := by
    intro vs
    induction vs with
    | nil => intro Γ; rfl
    | cons v vs ih => intro Γ; exact (ih _).trans List.length_set
  intro vs Γ sl
  refine ⟨by rw [len, wipe_length]; exact sl.1, fun i d h => ?_⟩
  obtain ⟨h1, h2⟩ := one vs Γ i d h
  obtain ⟨v, e, r⟩ := sl.2 i d h1
  exact ⟨v, by rw [keep vs i h2]; exact e, r⟩
section
variable {X : Cx} {C : CT} {W : WX}
abbrev Blk (X : Cx) (scope : Scope) (F : Cx → Prop) : Prop := ∀ (s : Shared) (H : Hp) (c : Addr) (cl : List (Str × Addr)) (fp : List Addr), F (X.blk s H scope (compEnvC scope cl c X.env) fp)
/-- the readings that the functions are: the same in every block -/
def liftE (K : PySem.W.Frag) (X : Cx) (C : CT) (W : WX) (g : GE) : TE := fun σ H Q => ∃ (Z : Hp) (ι : Nat → Addr) (Γ : Env) (M : List MO), Slots K Z ι M.length Γ σ ∧ HR K H Z ι M ∧ Post X C W (rpE K) σ H Z ι M (g Γ M) Q
def liftT (K : PySem.W.Frag) (X : Cx) (C : CT) (W : WX) (g : GT) : TT := fun σ H Q => ∃ (Z : Hp) (ι : Nat → Addr) (Γ : Env) (M : List MO), Slots K Z ι M.length Γ σ ∧ HR K H Z ι M ∧ Post X C W rpT σ H Z ι M (g Γ M) Q
def liftG (K : PySem.W.Frag) (g : GG) (is : List Nat) : TG := fun v σ H Q => ∃ (Z : Hp) (ι : Nat → Addr) (n : Nat) (d : D) (Γ Γ' : Env), Sub Z H ∧ Slots K Z ι n Γ σ ∧ Rp K Z ι n d v ∧ g d Γ = some Γ' ∧ ∀ σ', Slots K Z ι n Γ' σ' → Wip is σ σ' → Q σ' H
def QTs (X : Cx) (C : CT) (W : WX) (es : List Expr) (g : GT) : Prop := ∃ te, PTs X es te ∧ ∀ (σ : St) (H Z : Hp) (ι : Nat → Addr) (Γ : Env) (M : List MO) (Q : Bool → Hp → Prop), Slots X.K Z ι M.length Γ σ → HR X.K H Z ι M → Post X C W rpT σ H Z ι M (g Γ M) Q → te σ H Q
theorem qts_nil : QTs X C W [] gYes := ⟨_, pts_nil, fun σ H Z ι Γ M Q sl hr h => h true H Z ι .refl hr rfl⟩
theorem qts_one {c : Expr} {g : GT} (h : QT X C W c g) : QTs X C W [c] g := let ⟨t, p, q⟩ := h; ⟨t, pts_one p, q⟩
theorem Post.blk {α β : Type} {X Y : Cx} {rp : RpK α β} {σ : St} {H Z : Hp} {ι : Nat → Addr} {M : List MO} {r : R α} {Q : β → Hp → Prop} (e : X.K = Y.K) (h : Post X C W rp σ H Z ι M r Q) : Post Y C W rp σ H Z ι M r Q := by
  cases r with
  | ok a M' =>
    intro b H' Z' ι' e' hr rb
    exact h b H' Z' ι' e' (by rw [e]; exact hr) rb
  | exc c d M' =>
    intro cls dd H' Z' ι' e' hr rb
    exact h cls dd H' Z' ι' e' (by rw [e]; exact hr) (by rw [e]; exact rb)
  | bad => exact h
theorem gLcL_run {cd : List MO → Prop} {gg : GG} {gt : GT} {ge : GE} {is own : List Nat} {σ : St} {Γ0 : Env} {fin : List D → List MO → R D} {Q : VK} {J : It} {p : Addr}
    {ds : List D} {H0 Z0 : Hp} {ι0 : Nat → Addr} {M0 : List MO} (hsub : ∀ i ∈ is, i ∈ own) (sl : Slots X.K Z0 ι0 M0.length Γ0 (wipe σ own)) (rJ : ItC cd X.K J ds Z0 ι0 M0.length) (cd0 : cd M0) (cdt : ∀ Γ M d M', gt Γ M = .ok d M' → cd M → cd M') (cde : ∀ Γ M d M', ge Γ M = .ok d M' → cd M → cd M') (hp0 : H0 p = none) (hr0 : HR X.K H0 Z0 ι0 M0)
    (h : Post X C W (rpE X.K) σ H0 Z0 ι0 M0 ((gLcL gg gt ge Γ0 ds [] M0).bind fin) Q)
    (hfin : ∀ (acc : List D) (accV : List V) (M : List MO) (H Z : Hp) (ι : Nat → Addr), Ext H0 Z0 ι0 M0.length H Z ι M.length → HR X.K H Z ι M → Odd Z ι M.length p → H p = some (.lst accV) → Rps X.K Z ι M.length acc accV → Post X C W (rpE X.K) σ H0 Z0 ι0 M0 (fin acc M) Q → Q (.ref p) H) :
    ∃ Wv : Nat → Nat → Hp → Prop, (∃ m, Wv 0 m (upd H0 p (.lst []))) ∧ ∀ i m H, Wv i m H →
      (J.stop i H ∧ Q (.ref p) H) ∨ (J.go i H ∧ ∃ Nx : Hp → Prop, (∀ H', Nx H' → ∃ m', m' < m ∧ Wv (i + 1) m' H') ∧ ∀ x H', J.yld i H x H' → liftG X.K gg is x (wipe σ own) H' fun σ2 H2 => wipe σ2 own = wipe σ own ∧ liftT X.K X C noW gt σ2 H2 fun b H3 =>
        if b = true then liftE X.K X C noW ge σ2 H3 fun y H4 => ∃ acc, H4 p = some (.lst acc) ∧ acc.length < sizeLine ∧ Nx (upd H4 p (.lst (acc ++ [y]))) else Nx H3) := by
  let Inv' : Nat → Hp → Prop := fun i H => ∃ (Z : Hp) (ι : Nat → Addr) (M : List MO) (acc : List D) (accV : List V), Ext H0 Z0 ι0 M0.length H Z ι M.length ∧ HR X.K H Z ι M ∧ Odd Z ι M.length p ∧ H p = some (.lst accV) ∧ Rps X.K Z ι M.length acc accV ∧ cd M ∧
    Post X C W (rpE X.K) σ H0 Z0 ι0 M0 ((gLcL gg gt ge Γ0 (ds.drop i) acc M).bind fin) Q
  have q0 : Odd Z0 ι0 M0.length p := .new hr0 hp0
  refine ⟨fun i m H => m = ds.length - i ∧ i ≤ ds.length ∧ Inv' i H, ⟨ds.length, rfl, Nat.zero_le _, Z0, ι0, M0, [], [], (Ext.refl).touch hp0, hr0.odd q0, q0, upd_same, .nil, cd0, h⟩, ?_⟩
  rintro i m H ⟨em, hle, Z, ι, M, acc, accV, e1, hr1, od, hp, ra, cdM, hpost⟩
  obtain ⟨hstop, hgo⟩ := rJ i H Z ι M e1.zz e1.ii e1.ln hr1 cdM
  by_cases hi : i < ds.length
  · refine .inr ?_
    have ed : ds.drop i = ds[i] :: ds.drop (i + 1) := List.drop_eq_getElem_cons hi
    obtain ⟨go, yl⟩ := hgo ds[i] (List.getElem?_eq_getElem hi)
    refine ⟨go, Inv' (i + 1), fun H' hN => ⟨ds.length - (i + 1), by omega, rfl, by omega, hN⟩, fun x H2 hy => ?_⟩
    obtain ⟨Z2, e2, hr2, rx⟩ := yl x H2 hy
    obtain ⟨od2, hp2⟩ := od.ext hp e2
    have e12 := e1.trans e2 hr1.ali
    rw [ed] at hpost
    cases eg : gg ds[i] Γ0 with
    | none =>
      have z : gLcL gg gt ge Γ0 (ds[i] :: ds.drop (i + 1)) acc M = .bad := by
        unfold gLcL
        rw [eg]
      rw [z] at hpost
      exact hpost.elim
    | some Γ1 =>
      have z : gLcL gg gt ge Γ0 (ds[i] :: ds.drop (i + 1)) acc M = ((gt Γ1 M).only fun k M1 => if k = true then (ge Γ1 M1).only fun y M2 => if acc.length < sizeLine then gLcL gg gt ge Γ0 (ds.drop (i + 1)) (acc ++ [y]) M2 else .bad
          else gLcL gg gt ge Γ0 (ds.drop (i + 1)) acc M1) := by
        conv => lhs; unfold gLcL
        rw [eg]
      rw [z] at hpost
      refine ⟨Z2, ι, M.length, ds[i], Γ0, Γ1, hr2.sub, sl.ext e12, rx, eg, fun σ2 s2 w2 => ⟨(w2 own hsub).trans (wipe_wipe own), Z2, ι, Γ1, M, s2, hr2, ?_⟩⟩
      cases et : gt Γ1 M with
      | bad => rw [et] at hpost; exact hpost.elim
      | exc c d M' => rw [et] at hpost; exact hpost.elim
      | ok k M3 =>
        rw [et] at hpost
        intro b H3 Z3 ι3 e3 hr3 hb
        have hb' : k = b := hb
        subst hb'
        obtain ⟨od3, hp3⟩ := od2.ext hp2 e3
        have e13 := e12.trans e3 hr2.ali
        have ra3 := (ra.ext e2).ext e3
        cases k with
        | false => exact ⟨Z3, ι3, M3, acc, accV, e13, hr3, od3, hp3, ra3, cdt _ _ _ _ et cdM, hpost⟩
        | true =>
          rw [if_pos rfl]
          refine ⟨Z3, ι3, Γ1, M3, s2.ext e3, hr3, ?_⟩
          have hpost2 : Post X C W (rpE X.K) σ H0 Z0 ι0 M0 (((ge Γ1 M3).only fun y M2 => if acc.length < sizeLine then gLcL gg gt ge Γ0 (ds.drop (i + 1)) (acc ++ [y]) M2 else .bad).bind fin) Q := hpost
          cases ee : ge Γ1 M3 with
          | bad => rw [ee] at hpost2; exact hpost2.elim
          | exc c d M' => rw [ee] at hpost2; exact hpost2.elim
          | ok y M4 =>
            rw [ee] at hpost2
            have hpost3 : Post X C W (rpE X.K) σ H0 Z0 ι0 M0 ((if acc.length < sizeLine then gLcL gg gt ge Γ0 (ds.drop (i + 1)) (acc ++ [y]) M4 else .bad).bind fin) Q := hpost2
            by_cases hz : acc.length < sizeLine
            · rw [if_pos hz] at hpost3
              intro v H4 Z4 ι4 e4 hr4 rv
              obtain ⟨od4, hp4⟩ := od3.ext hp3 e4
              have ra4 := ra3.ext e4
              exact ⟨accV, hp4, by rw [← ra4.length]; exact hz, Z4, ι4, M4, acc ++ [y], accV ++ [v], (e13.trans e4 hr3.ali).touch hp0, hr4.odd od4, od4, upd_same, ra4.append (.cons rv .nil), cde _ _ _ _ ee (cdt _ _ _ _ et cdM), hpost3⟩
            · rw [if_neg hz] at hpost3
              exact hpost3.elim
  · refine .inl ⟨hstop (by omega), ?_⟩
    rw [List.drop_eq_nil_of_le (Nat.le_of_not_lt hi)] at hpost
    exact hfin acc accV M H Z ι e1 hr1 od hp ra hpost

theorem lc_read {own : List Nat} {gi : GI} {gg : GG} {gt : GT} {ge : GE} {is : List Nat} {wi : TI} {fin : List D → List MO → R D}
    (qi : ∀ (σ : St) (H Z : Hp) (ι : Nat → Addr) (Γ : Env) (M : List MO) (Q : It → Hp → Prop), Slots X.K Z ι M.length Γ σ → HR X.K H Z ι M → Post X C W (rpI X.K) σ H Z ι M (gi Γ M) Q → wi σ H Q) (hsub : ∀ i ∈ is, i ∈ own)
    (hfin : ∀ (σ : St) (H0 Z0 : Hp) (ι0 : Nat → Addr) (M0 : List MO) (p : Addr) (Q : VK) (acc : List D) (accV : List V) (M : List MO) (H Z : Hp) (ι : Nat → Addr), H0 p = none → Ext H0 Z0 ι0 M0.length H Z ι M.length → HR X.K H Z ι M → Odd Z ι M.length p → H p = some (.lst accV) →
      Rps X.K Z ι M.length acc accV → Post X C W (rpE X.K) σ H0 Z0 ι0 M0 (fin acc M) Q → Q (.ref p) H)
    (σ : St) (H Z : Hp) (ι : Nat → Addr) (Γ : Env) (M : List MO) (Q : VK) (sl : Slots X.K Z ι M.length Γ σ) (hr : HR X.K H Z ι M)
    (h : Post X C W (rpE X.K) σ H Z ι M ((gi Γ M).bind fun ds M1 => (gLcL gg gt ge (forget Γ own) ds [] M1).bind fin) Q) :
    tLc wi (liftG X.K gg is) (liftT X.K X C noW gt) (liftE X.K X C noW ge) own σ H Q :=
  qi σ H Z ι Γ M _ sl hr (h.bind fun ds M1 J H1 Z1 ι1 e1 hr1 rJ h1 => fun p hp =>
    gLcL_run hsub (slots_wipe _ (sl.ext e1)) rJ trivial (fun _ _ _ _ _ _ => trivial) (fun _ _ _ _ _ _ => trivial) hp hr1 h1 fun acc accV M' H' Z' ι' a1 a2 a3 a4 a5 a6 => hfin σ H1 Z1 ι1 M1 p Q acc accV M' H' Z' ι' hp a1 a2 a3 a4 a5 a6)
theorem blk_g {tg : Expr} {scope : Scope} {gg : GG} {is : List Nat} (hg : Blk X scope fun Y => QG Y tg gg is) : Blk X scope fun Y => PG Y tg (liftG X.K gg is) := fun s H c cl fp => by
  obtain ⟨t, p, q⟩ := hg s H c cl fp
  exact ⟨fun pins s σ H v u Q I r h => p.run pins s σ H v u Q I r (let ⟨Z, ι, n, d, Γ, Γ', h1, h2, h3, h4, h5⟩ := h; q v σ H Z ι n d Γ Γ' Q h1 h2 h3 h4 h5)⟩
theorem blk_t {ifs : List Expr} {scope : Scope} {gt : GT} (ht : Blk X scope fun Y => QTs Y C noW ifs gt) : Blk X scope fun Y => PTs Y ifs (liftT X.K X C noW gt) := fun s H c cl fp => by
  obtain ⟨t, p, q⟩ := ht s H c cl fp
  exact ⟨fun pins s σ H Q I h => p.run pins s σ H Q I (let ⟨Z, ι, Γ, M, h1, h2, h3⟩ := h; q σ H Z ι Γ M Q h1 h2 (h3.blk rfl))⟩
theorem blk_e {elt : Expr} {scope : Scope} {ge : GE} (he : Blk X scope fun Y => QE Y C noW elt ge) : Blk X scope fun Y => PE Y elt (liftE X.K X C noW ge) := fun s H c cl fp => by
  obtain ⟨t, p, q⟩ := he s H c cl fp
  exact ⟨fun pins s σ H Q I h => p.run pins s σ H Q I (let ⟨Z, ι, Γ, M, h1, h2, h3⟩ := h; q σ H Z ι Γ M Q h1 h2 (h3.blk rfl))⟩
theorem fin_z {σ : St} {H0 Z0 : Hp} {ι0 : Nat → Addr} {M0 : List MO} {p : Addr} {Q : VK} {acc : List D} {accV : List V} {M : List MO} {H Z : Hp} {ι : Nat → Addr} (h0 : H0 p = none) (e : Ext H0 Z0 ι0 M0.length H Z ι M.length) (hr : HR X.K H Z ι M) (od : Odd Z ι M.length p) (hp : H p = some (.lst accV))
    (ra : Rps X.K Z ι M.length acc accV) (h : Post X C W (rpE X.K) σ H0 Z0 ι0 M0 (.ok (.lst acc) M) Q) : Q (.ref p) H :=
  h _ H _ ι (e.adoptZ od.z h0) (hr.adoptZ od hp) (.lst (.inl (.inl upd_same)) (Rps.mono (fun a u q => by rw [upd_ne (ne_of_none q od.z)]; exact q) (fun _ _ => rfl) (Nat.le_refl _) _ _ ra))
theorem fin_m {σ : St} {H0 Z0 : Hp} {ι0 : Nat → Addr} {M0 : List MO} {p : Addr} {Q : VK} {acc : List D} {accV : List V} {M : List MO} {H Z : Hp} {ι : Nat → Addr} (h0 : H0 p = none) (e : Ext H0 Z0 ι0 M0.length H Z ι M.length) (hr : HR X.K H Z ι M) (od : Odd Z ι M.length p) (hp : H p = some (.lst accV))
    (ra : Rps X.K Z ι M.length acc accV) (h : Post X C W (rpE X.K) σ H0 Z0 ι0 M0 (.ok (.ref M.length) (M ++ [.lst acc])) Q) : Q (.ref p) H := by
  have q : Rp X.K Z (put ι M.length p) (M ++ [MO.lst acc]).length (.ref M.length) (.ref (put ι M.length p M.length)) := .ref (by simp)
  rw [put_at] at q
  exact h _ H Z _ (e.adoptM h0) (hr.adoptM od hp ra) q
section
variable {elt tg iter : Expr} {ifs : List Expr} {scope : Scope} {own : List (Str × Nat)} {pos spos py : Pos} {gi : GI} {gg : GG} {gt : GT} {ge : GE} {is ixs : List Nat}
theorem qe_lc (hc : X.calm = true) (hN : X.N.Nodup) (hi : QI X C W tg iter gi) (ok : BlkOk X.N X.env.scope scope own)
    (hg : Blk X scope fun Y => QG Y tg gg is) (ht : Blk X scope fun Y => QTs Y C noW ifs gt) (he : Blk X scope fun Y => QE Y C noW elt ge) (hix : ixs = own.map (·.2) := by rfl) (hsub : ∀ i ∈ is, i ∈ own.map (·.2) := by decide) (hs : ∀ x, foldedSetIterable iter X.env x = pure x := by intro _; rfl) :
    QE X C W (.ListComp elt [⟨tg, iter, ifs, 0⟩] scope pos) (gLc gi gg gt ge ixs) := by
  subst hix
  obtain ⟨wi, pi, qi⟩ := hi
  exact ⟨_, pe_lc hc hN pi ok (blk_g hg) (blk_t ht) (blk_e he) hs, lc_read qi hsub fun σ H0 Z0 ι0 M0 p Q acc accV M H Z ι h0 e hr od hp ra h => fin_z h0 e hr od hp ra h⟩
theorem qe_lcO (hc : X.calm = true) (hN : X.N.Nodup) (hi : QI X C W tg iter gi) (ok : BlkOk X.N X.env.scope scope own)
    (hg : Blk X scope fun Y => QG Y tg gg is) (ht : Blk X scope fun Y => QTs Y C noW ifs gt) (he : Blk X scope fun Y => QE Y C noW elt ge) (hix : ixs = own.map (·.2) := by rfl) (hsub : ∀ i ∈ is, i ∈ own.map (·.2) := by decide) (hs : ∀ x, foldedSetIterable iter X.env x = pure x := by intro _; rfl) :
    QE X C W (.ListComp elt [⟨tg, iter, ifs, 0⟩] scope pos) (gLcO gi gg gt ge ixs) := by
  subst hix
  obtain ⟨wi, pi, qi⟩ := hi
  exact ⟨_, pe_lc hc hN pi ok (blk_g hg) (blk_t ht) (blk_e he) hs, lc_read qi hsub fun σ H0 Z0 ι0 M0 p Q acc accV M H Z ι h0 e hr od hp ra h => fin_m h0 e hr od hp ra h⟩
/-- y = [..]: the model stores the list within the comprehension -/
theorem qs_lc {i : Nat} {y : Str} (hc : X.calm = true) (hN : X.N.Nodup) (hy : X.N[i]? = some y) (hyl : X.env.scope.names.lookup y = some .local) (hsw : swapsWith (.ListComp elt [⟨tg, iter, ifs, 0⟩] scope pos) (some (.Name y py)) spos.line X.env = pure true)
    (hi : QI X C W tg iter gi) (ok : BlkOk X.N X.env.scope scope own) (hg : Blk X scope fun Y => QG Y tg gg is) (ht : Blk X scope fun Y => QTs Y C noW ifs gt) (he : Blk X scope fun Y => QE Y C noW elt ge)
    (hix : ixs = own.map (·.2) := by rfl) (hsub : ∀ i ∈ is, i ∈ own.map (·.2) := by decide) (hs : ∀ x, foldedSetIterable iter X.env x = pure x := by intro _; rfl) : QS X C W (.Assign [.Name y py] (.ListComp elt [⟨tg, iter, ifs, 0⟩] scope pos) spos) (gAsg (gLc gi gg gt ge ixs) (gTo i)) := by
  subst hix
  obtain ⟨wi, pi, qi⟩ := hi
  refine ⟨_, ps_setLc hc hN hy hyl hsw pi ok (blk_g hg) (blk_t ht) (blk_e he) hs, fun Dd σ H Z ι Γ M sl hr h => ?_⟩
  refine lc_read qi hsub (fin := fun acc M2 => .ok (.lst acc) M2) (fun σ H0 Z0 ι0 M0 p Q acc accV M H Z ι h0 e hr od hp ra h => fin_z h0 e hr od hp ra h) σ H Z ι Γ M _ sl hr (PostS.bind (Γ := Γ) h sl fun x M1 v H1 Z1 ι1 e1 hr1 r1 h1 => ?_)
  exact h1 _ H1 Z1 ι1 .refl hr1 ((sl.ext e1).set i r1)
theorem qs_lcO {i : Nat} {y : Str} (hc : X.calm = true) (hN : X.N.Nodup) (hy : X.N[i]? = some y) (hyl : X.env.scope.names.lookup y = some .local) (hsw : swapsWith (.ListComp elt [⟨tg, iter, ifs, 0⟩] scope pos) (some (.Name y py)) spos.line X.env = pure true)
    (hi : QI X C W tg iter gi) (ok : BlkOk X.N X.env.scope scope own) (hg : Blk X scope fun Y => QG Y tg gg is) (ht : Blk X scope fun Y => QTs Y C noW ifs gt) (he : Blk X scope fun Y => QE Y C noW elt ge)
    (hix : ixs = own.map (·.2) := by rfl) (hsub : ∀ i ∈ is, i ∈ own.map (·.2) := by decide) (hs : ∀ x, foldedSetIterable iter X.env x = pure x := by intro _; rfl) : QS X C W (.Assign [.Name y py] (.ListComp elt [⟨tg, iter, ifs, 0⟩] scope pos) spos) (gAsg (gLcO gi gg gt ge ixs) (gTo i)) := by
  subst hix
  obtain ⟨wi, pi, qi⟩ := hi
  refine ⟨_, ps_setLc hc hN hy hyl hsw pi ok (blk_g hg) (blk_t ht) (blk_e he) hs, fun Dd σ H Z ι Γ M sl hr h => ?_⟩
  refine lc_read qi hsub (fin := fun acc M2 => .ok (.ref M2.length) (M2 ++ [MO.lst acc])) (fun σ H0 Z0 ι0 M0 p Q acc accV M H Z ι h0 e hr od hp ra h => fin_m h0 e hr od hp ra h) σ H Z ι Γ M _ sl hr (PostS.bind (Γ := Γ) h sl fun x M1 v H1 Z1 ι1 e1 hr1 r1 h1 => ?_)
  exact h1 _ H1 Z1 ι1 .refl hr1 ((sl.ext e1).set i r1)
end
end
end Bk

set_option Elab.async false
set_option linter.all false
set_option maxRecDepth 100000
set_option maxHeartbeats 2000000
namespace Bk
open PySem PySem.Spec PyProof.Rows L2

/-! ### calls: what of ours is handed over is lent, and comes back changed -/
/-- the arguments as the callee sees them, and which things of ours are lent -/
def lendA : Nat → List D → List D
  | _, [] => []
  | m, .ref _ :: r => .ref m :: lendA (m + 1) r
  | m, d :: r => d :: lendA m r
def lendK : List D → List Nat
  | [] => []
  | .ref k :: r => k :: lendK r
  | _ :: r => lendK r
def getAll (M : List MO) : List Nat → Option (List MO)
  | [] => some []
  | k :: ks => match M[k]?, getAll M ks with
    | some o, some os => some (o :: os)
    | _, _ => none
def setAll (M : List MO) : List Nat → List MO → List MO
  | k :: ks, o :: os => setAll (M.set k o) ks os
  | _, _ => M
def isDead : MO → Bool
  | .dead => true
  | _ => false
/-- no refs but at the top -/
def flatArgs : List D → Bool
  | [] => true
  | .ref _ :: r => flatArgs r
  | d :: r => below 0 d && flatArgs r
def lentOk (os : List MO) : Bool := os.all fun o => !isDead o && belowO 0 o
def backD (ks : List Nat) (n : Nat) : D → Option D
  | .ref j => if j < ks.length then (ks[j]?).map D.ref else some (.ref (n + (j - ks.length)))
  | d => if below 0 d = true then some d else none
/-- nothing is lent: nothing comes back -/
def callF (F : List D → List MO → R D) (ds : List D) (M : List MO) : R D := match getAll M (lendK ds) with
  | none => .bad
  | some os => if (lendK ds).Nodup ∧ flatArgs ds = true ∧ lentOk os = true then
      match F (lendA 0 ds) os with
      | .ok d os' => if (lendK ds).length ≤ os'.length ∧ os'.all (belowO 0) = true then
          match backD (lendK ds) M.length d with
          | some d' => .ok d' (setAll M (lendK ds) os' ++ os'.drop (lendK ds).length)
          | none => .bad
        else .bad
      | .exc c d os' => if (lendK ds).length ≤ os'.length ∧ os'.all (belowO 0) = true ∧ below 0 d = true then .exc c d (setAll M (lendK ds) os' ++ os'.drop (lendK ds).length) else .bad
      | .bad => .bad
    else .bad
def gCallF (n : Nat) (F : List D → List MO → R D) (ga : GA) : GE := fun Γ M => (ga Γ M).bind fun ds M1 => if ds.length = n then callF F ds M1 else .bad
/-- positional values, then the keywords' values, in the parameters' order -/
def pick {α : Type} (l : List α) : List Nat → List α
  | [] => []
  | i :: is => match l[i]? with
    | some a => a :: pick l is
    | none => pick l is
def gCallK (n : Nat) (F : List D → List MO → R D) (is : List Nat) (ga gk : GA) : GE := fun Γ M => (ga Γ M).bind fun ds M1 => (gk Γ M1).bind fun es M2 => if (pick (ds ++ es) is).length = n then callF F (pick (ds ++ es) is) M2 else .bad

section
variable {K : PySem.W.Frag} {Z : Hp} {ι : Nat → Addr} {n : Nat}
/-- which address stands for which lent thing -/
def lentι (ι : Nat → Addr) (ks : List Nat) : Nat → Addr := fun j => ι (ks.getD j 0)
theorem lend_rps : ∀ (ds : List D) (vs : List V) (pre : List Nat), flatArgs ds = true → Rps K Z ι n ds vs → Rps K Z (lentι ι (pre ++ lendK ds)) (pre ++ lendK ds).length (lendA pre.length ds) vs
  | [], _, _, _, h => by cases h; exact .nil
  | .ref k :: r, _, pre, hf, h => by
    cases h with
    | cons r1 rs =>
      cases r1 with
      | ref hk =>
        have ih := lend_rps r _ (pre ++ [k]) (by simpa [flatArgs] using hf) rs
        have e : pre ++ [k] ++ lendK r = pre ++ lendK (.ref k :: r) := by simp [lendK]
        rw [e] at ih
        have el : (pre ++ [k]).length = pre.length + 1 := by simp
        rw [el] at ih
        refine .cons ?_ ih
        have q : Rp K Z (lentι ι (pre ++ lendK (.ref k :: r))) (pre ++ lendK (.ref k :: r)).length (.ref pre.length) (.ref (lentι ι (pre ++ lendK (.ref k :: r)) pre.length)) := .ref (by simp [lendK])
        have ek : lentι ι (pre ++ lendK (.ref k :: r)) pre.length = ι k := by
          unfold lentι
          congr 1
          simp [lendK]
        rw [ek] at q
        exact q
  | .non :: r, _, pre, hf, h => by
    cases h with
    | cons r1 rs =>
      cases r1
      exact .cons .non (lend_rps r _ pre (by simpa [flatArgs, below] using hf) rs)
  | .bl b :: r, _, pre, hf, h => by
    cases h with
    | cons r1 rs =>
      cases r1
      exact .cons (.bl b) (lend_rps r _ pre (by simpa [flatArgs, below] using hf) rs)
  | .int i :: r, _, pre, hf, h => by
    cases h with
    | cons r1 rs =>
      cases r1
      exact .cons (.int i) (lend_rps r _ pre (by simpa [flatArgs, below] using hf) rs)
  | .str x :: r, _, pre, hf, h => by
    cases h with
    | cons r1 rs =>
      cases r1
      exact .cons (.str x) (lend_rps r _ pre (by simpa [flatArgs, below] using hf) rs)
  | .tup ds :: r, _, pre, hf, h => by
    cases h with
    | cons r1 rs =>
      have hf' : below 0 (.tup ds) = true ∧ flatArgs r = true := by simpa [flatArgs] using hf
      exact .cons (Rp.mono (fun _ _ z => z) (fun k hk => absurd hk (Nat.not_lt_zero _)) (Nat.zero_le _) _ _ (r1.shrink _ _ hf'.1)) (lend_rps r _ pre hf'.2 rs)
  | .lst ds :: r, _, pre, hf, h => by
    cases h with
    | cons r1 rs =>
      have hf' : below 0 (.lst ds) = true ∧ flatArgs r = true := by simpa [flatArgs] using hf
      exact .cons (Rp.mono (fun _ _ z => z) (fun k hk => absurd hk (Nat.not_lt_zero _)) (Nat.zero_le _) _ _ (r1.shrink _ _ hf'.1)) (lend_rps r _ pre hf'.2 rs)
  | .dct ks ws :: r, _, pre, hf, h => by
    cases h with
    | cons r1 rs =>
      have hf' : below 0 (.dct ks ws) = true ∧ flatArgs r = true := by simpa [flatArgs] using hf
      exact .cons (Rp.mono (fun _ _ z => z) (fun k hk => absurd hk (Nat.not_lt_zero _)) (Nat.zero_le _) _ _ (r1.shrink _ _ hf'.1)) (lend_rps r _ pre hf'.2 rs)
  | .ptu ds :: r, _, pre, hf, h => by
    cases h with
    | cons r1 rs =>
      have hf' : below 0 (.ptu ds) = true ∧ flatArgs r = true := by simpa [flatArgs] using hf
      exact .cons (Rp.mono (fun _ _ z => z) (fun k hk => absurd hk (Nat.not_lt_zero _)) (Nat.zero_le _) _ _ (r1.shrink _ _ hf'.1)) (lend_rps r _ pre hf'.2 rs)
theorem getAll_at {M : List MO} : ∀ {ks : List Nat} {os : List MO}, getAll M ks = some os → os.length = ks.length ∧ ∀ (j : Nat) (o : MO), os[j]? = some o → ∃ k, ks[j]? = some k ∧ M[k]? = some o
  | [], os, h => by
    cases h
    exact ⟨rfl, fun j o e => by simp at e⟩
  | k :: ks, os, h => by
    unfold getAll at h
    cases e1 : M[k]? with
    | none => rw [e1] at h; simp at h
    | some o =>
      cases e2 : getAll M ks with
      | none => rw [e1, e2] at h; simp at h
      | some os' =>
        rw [e1, e2] at h
        cases h
        obtain ⟨l, f⟩ := getAll_at e2
        refine ⟨by simp [l], fun j o' e => ?_⟩
        cases j with
        | zero =>
          simp at e
          subst e
          exact ⟨k, rfl, e1⟩
        | succ j =>
          obtain ⟨k', h1, h2⟩ := f j o' (by simpa using e)
          exact ⟨k', by simpa using h1, h2⟩
theorem setAll_length : ∀ (ks : List Nat) (os : List MO) (M : List MO), (setAll M ks os).length = M.length
  | [], _, _ => by simp [setAll]
  | _ :: _, [], _ => by simp [setAll]
  | k :: ks, o :: os, M => by
    show (setAll (M.set k o) ks os).length = _
    rw [setAll_length ks os, List.length_set]
/-- what stands where, behind -/
theorem setAll_at : ∀ (ks : List Nat) (os : List MO) (M : List MO) (k : Nat) (o : MO), ks.Nodup → ks.length ≤ os.length → (setAll M ks os)[k]? = some o → (k ∉ ks ∧ M[k]? = some o) ∨ ∃ j : Nat, j < ks.length ∧ ks[j]? = some k ∧ os[j]? = some o
  | [], _, M, k, o, _, _, h => .inl ⟨by simp, by simpa [setAll] using h⟩
  | _ :: _, [], _, _, _, _, hl, _ => by simp at hl
  | k0 :: ks, o0 :: os, M, k, o, nd, hl, h => by
    have nd' := List.nodup_cons.mp nd
    rcases setAll_at ks os (M.set k0 o0) k o nd'.2 (by simpa using hl) h with ⟨h1, h2⟩ | ⟨j, h1, h2, h3⟩
    · by_cases e : k0 = k
      · subst e
        have lt : k0 < M.length := by
          have := (List.getElem?_eq_some_iff.mp h2).1
          rw [List.length_set] at this
          exact this
        rw [List.getElem?_set_self lt] at h2
        exact .inr ⟨0, by simp, rfl, by simpa using h2⟩
      · rw [List.getElem?_set_ne e] at h2
        exact .inl ⟨by simp only [List.mem_cons, not_or]; exact ⟨fun z => e z.symm, h1⟩, h2⟩
    · exact .inr ⟨j + 1, by simp; omega, by simpa using h2, by simpa using h3⟩
end
/-- the things that are lent, as the callee has them -/
theorem HR.lend {K : PySem.W.Frag} {H Z : Hp} {ι : Nat → Addr} {M os : List MO} {ks : List Nat} (h : HR K H Z ι M) (nd : ks.Nodup) (g : getAll M ks = some os) (lo : lentOk os = true) : HR K H Z (lentι ι ks) os := by
  obtain ⟨l, f⟩ := getAll_at g
  have at_ : ∀ {j k : Nat}, ks[j]? = some k → lentι ι ks j = ι k := fun {j k} e => by
    unfold lentι
    rw [List.getD_eq_getElem?_getD, e]
    rfl
  have ok : ∀ {j : Nat} {o : MO}, os[j]? = some o → belowO 0 o = true ∧ o ≠ .dead := fun {j o} e => by
    have q := List.all_eq_true.mp lo o (List.mem_of_getElem? e)
    simp only [Bool.and_eq_true, Bool.not_eq_true'] at q
    exact ⟨q.2, fun z => by rw [z] at q; exact absurd q.1 (by simp [isDead])⟩
  refine ⟨h.sub, fun j hj => ?_, fun j o e d => ?_, fun i j o u e1 e2 d1 d2 e => ?_, fun j o e => ?_, fun j e => absurd rfl (ok e).2⟩
  · obtain ⟨k, h1, h2⟩ := f j os[j] (List.getElem?_eq_getElem hj)
    rw [at_ h1]
    exact h.ali k (List.getElem?_eq_some_iff.mp h2).1
  · obtain ⟨k, h1, h2⟩ := f j o e
    rw [at_ h1]
    exact h.sep k o h2 d
  · obtain ⟨k1, a1, b1⟩ := f i o e1
    obtain ⟨k2, a2, b2⟩ := f j u e2
    rw [at_ a1, at_ a2] at e
    have ek := h.inj k1 k2 o u b1 b2 d1 d2 e
    subst ek
    obtain ⟨i1, i2⟩ := List.getElem?_eq_some_iff.mp a1
    obtain ⟨j1, j2⟩ := List.getElem?_eq_some_iff.mp a2
    exact (List.getElem_inj nd).mp (i2.trans j2.symm)
  · obtain ⟨k, h1, h2⟩ := f j o e
    rw [at_ h1]
    exact (h.obj k o h2).low (ok e).1
/-- where everything stands behind a call -/
def backι (ι ι' : Nat → Addr) (n m : Nat) : Nat → Addr := fun k => if k < n then ι k else ι' (m + (k - n))
theorem HR.back {K : PySem.W.Frag} {H Z H' Z' : Hp} {ι ι' : Nat → Addr} {M os os' : List MO} {ks : List Nat} (h : HR K H Z ι M) (nd : ks.Nodup) (g : getAll M ks = some os) (lo : lentOk os = true) (e : Ext H Z (lentι ι ks) os.length H' Z' ι' os'.length) (h' : HR K H' Z' ι' os')
    (hl : ks.length ≤ os'.length) (hb : os'.all (belowO 0) = true) :
    HR K H' Z' (backι ι ι' M.length ks.length) (setAll M ks os' ++ os'.drop ks.length) ∧ Ext H Z ι M.length H' Z' (backι ι ι' M.length ks.length) (setAll M ks os' ++ os'.drop ks.length).length := by
  obtain ⟨l, f⟩ := getAll_at g
  have ln : (setAll M ks os' ++ os'.drop ks.length).length = M.length + (os'.length - ks.length) := by rw [List.length_append, setAll_length, List.length_drop]
  have bl : ∀ {k : Nat}, k < M.length → backι ι ι' M.length ks.length k = ι k := fun hk => if_pos hk
  have bn : ∀ {k : Nat}, ¬ k < M.length → backι ι ι' M.length ks.length k = ι' (ks.length + (k - M.length)) := fun hk => if_neg hk
  have at_ : ∀ {j k : Nat}, ks[j]? = some k → lentι ι ks j = ι k := fun {j k} e => by
    unfold lentι
    rw [List.getD_eq_getElem?_getD, e]
    rfl
  have at' : ∀ {j k : Nat}, ks[j]? = some k → ι' j = ι k := fun {j k} z => (e.ii j (by rw [l]; exact (List.getElem?_eq_some_iff.mp z).1)).trans (at_ z)
  have cs : ∀ {k : Nat} {o : MO}, (setAll M ks os' ++ os'.drop ks.length)[k]? = some o → (k < M.length ∧ k ∉ ks ∧ M[k]? = some o) ∨ (k < M.length ∧ ∃ j : Nat, ks[j]? = some k ∧ os'[j]? = some o) ∨ (¬ k < M.length ∧ os'[ks.length + (k - M.length)]? = some o) := fun {k o} z => by
    by_cases hk : k < M.length
    · rw [List.getElem?_append_left (by rw [setAll_length]; exact hk)] at z
      rcases setAll_at ks os' M k o nd hl z with ⟨h1, h2⟩ | ⟨j, _, h2, h3⟩
      · exact .inl ⟨hk, h1, h2⟩
      · exact .inr (.inl ⟨hk, j, h2, h3⟩)
    · rw [List.getElem?_append_right (by rw [setAll_length]; exact Nat.le_of_not_lt hk), setAll_length, List.getElem?_drop] at z
      exact .inr (.inr ⟨hk, z⟩)
  have dd : ∀ {j : Nat} {o : MO}, os[j]? = some o → o ≠ .dead := fun {j o} e => by
    have q := List.all_eq_true.mp lo o (List.mem_of_getElem? e)
    simp only [Bool.and_eq_true, Bool.not_eq_true'] at q
    exact fun z => by rw [z] at q; exact absurd q.1 (by simp [isDead])
  -- a live thing that was not lent stands apart from all that were
  have apart : ∀ {k j : Nat} {o : MO}, k ∉ ks → M[k]? = some o → o ≠ .dead → j < os.length → ι k ≠ lentι ι ks j := fun {k j o} hk ho hd hj z => by
    obtain ⟨k', h1, h2⟩ := f j os[j] (List.getElem?_eq_getElem hj)
    rw [at_ h1] at z
    have ek := h.inj k k' o os[j] ho h2 hd (dd (List.getElem?_eq_getElem hj)) z
    subst ek
    exact hk (List.mem_of_getElem? h1)
  have old : ∀ {k : Nat}, k < M.length → ∃ u, H (ι k) = some u := fun hk => h.ali _ hk
  have nw : ∀ {k j : Nat}, k < M.length → os.length ≤ j → j < os'.length → ι k ≠ ι' j := fun {k j} hk h1 h2 z => by
    obtain ⟨u, hu⟩ := old hk
    have w := e.nw j h1 h2
    rw [← z, hu] at w
    cases w
  refine ⟨⟨h'.sub, fun k hk => ?_, fun k o z d => ?_, fun a b o u z1 z2 d1 d2 z => ?_, fun k o z => ?_, fun k z => ?_⟩, e.zz, fun k hk => bl hk, fun a o h1 h2 => e.fr a o h1 fun j hj z => ?_, fun k h1 h2 => ?_, by rw [ln]; omega, fun a o z => ?_⟩
  · by_cases hk' : k < M.length
    · rw [bl hk']
      obtain ⟨u, hu⟩ := old hk'
      by_cases z : ∃ j, j < os.length ∧ ι k = lentι ι ks j
      · obtain ⟨j, hj, z⟩ := z
        rw [z, ← e.ii j hj]
        exact h'.ali j (Nat.lt_of_lt_of_le hj e.ln)
      · exact ⟨u, e.fr _ _ hu fun j hj q => z ⟨j, hj, q⟩⟩
    · rw [bn hk']
      rw [ln] at hk
      exact h'.ali _ (by omega)
  · rcases cs z with ⟨hk, hn, ho⟩ | ⟨hk, j, hj, ho⟩ | ⟨hk, ho⟩
    · rw [bl hk]
      cases q : Z' (ι k) with
      | none => rfl
      | some w =>
        rcases e.zn _ _ q with a | a | ⟨j, hj, a⟩
        · rw [h.sep k o ho d] at a; cases a
        · obtain ⟨u, hu⟩ := old hk
          rw [hu] at a; cases a
        · exact absurd a (apart hn ho d hj)
    · rw [bl hk, ← at' hj]
      exact h'.sep j o ho d
    · rw [bn hk]
      exact h'.sep _ o ho d
  · rcases cs z1 with ⟨ha, hn, ho⟩ | ⟨ha, i, hi, ho⟩ | ⟨ha, ho⟩ <;> rcases cs z2 with ⟨hb', hn', hu⟩ | ⟨hb', j, hj, hu⟩ | ⟨hb', hu⟩
    · rw [bl ha, bl hb'] at z
      exact h.inj a b o u ho hu d1 d2 z
    · rw [bl ha, bl hb'] at z
      exact absurd (z.trans (at_ hj).symm) (apart hn ho d1 (by rw [l]; exact (List.getElem?_eq_some_iff.mp hj).1))
    · rw [bl ha, bn hb'] at z
      exact absurd z (nw ha (by rw [l]; omega) (List.getElem?_eq_some_iff.mp hu).1)
    · rw [bl ha, bl hb'] at z
      exact absurd (z.symm.trans (at_ hi).symm) (apart hn' hu d2 (by rw [l]; exact (List.getElem?_eq_some_iff.mp hi).1))
    · rw [bl ha, bl hb', ← at' hi, ← at' hj] at z
      have ij := h'.inj i j o u ho hu d1 d2 z
      subst ij
      rw [hi] at hj
      exact Option.some.inj hj
    · rw [bl ha, bn hb', ← at' hi] at z
      have ij := h'.inj i _ o u ho hu d1 d2 z
      have := (List.getElem?_eq_some_iff.mp hi).1
      omega
    · rw [bn ha, bl hb'] at z
      exact absurd z.symm (nw hb' (by rw [l]; omega) (List.getElem?_eq_some_iff.mp ho).1)
    · rw [bn ha, bl hb', ← at' hj] at z
      have ij := h'.inj _ j o u ho hu d1 d2 z
      have := (List.getElem?_eq_some_iff.mp hj).1
      omega
    · rw [bn ha, bn hb'] at z
      have ij := h'.inj _ _ o u ho hu d1 d2 z
      omega
  · have low : ∀ {j : Nat} {o : MO}, os'[j]? = some o → belowO 0 o = true := fun q => List.all_eq_true.mp hb _ (List.mem_of_getElem? q)
    rcases cs z with ⟨hk, hn, ho⟩ | ⟨hk, j, hj, ho⟩ | ⟨hk, ho⟩
    · rw [bl hk]
      by_cases du : o = .dead
      · subst du
        trivial
      · exact OR.mono e.zz (fun k hk => bl hk) (by rw [ln]; omega) (fun u z => e.fr _ _ z fun j hj => apart hn ho du hj) (h.obj k o ho)
    · rw [bl hk, ← at' hj]
      exact (h'.obj j o ho).low (low ho)
    · rw [bn hk]
      exact (h'.obj _ o ho).low (low ho)
  · rcases cs z with ⟨hk, _, ho⟩ | ⟨hk, j, hj, ho⟩ | ⟨hk, ho⟩
    · rw [bl hk]
      obtain ⟨u, hu⟩ := h.ded k ho
      exact ⟨u, e.zz _ _ hu⟩
    · rw [bl hk, ← at' hj]
      exact h'.ded j ho
    · rw [bn hk]
      exact h'.ded _ ho
  · obtain ⟨k, q1, q2⟩ := f j os[j] (List.getElem?_eq_getElem hj)
    rw [at_ q1] at z
    exact h2 k (List.getElem?_eq_some_iff.mp q2).1 z
  · rw [bn (Nat.not_lt.mpr h1)]
    rw [ln] at h2
    exact e.nw _ (by rw [l]; omega) (by omega)
  · rcases e.zn a o z with q | q | ⟨j, hj, q⟩
    · exact .inl q
    · exact .inr (.inl q)
    · obtain ⟨k, q1, q2⟩ := f j os[j] (List.getElem?_eq_getElem hj)
      rw [at_ q1] at q
      exact .inr (.inr ⟨k, (List.getElem?_eq_some_iff.mp q2).1, q⟩)
theorem backD_rp {K : PySem.W.Frag} {Z' : Hp} {ι ι' : Nat → Addr} {ks : List Nat} {n m N : Nat} {d d' : D} {v : V} (hk : ∀ k ∈ ks, k < n) (hi : ∀ (j k : Nat), ks[j]? = some k → ι' j = ι k) (hN : n + (m - ks.length) ≤ N) (r : Rp K Z' ι' m d v) (h : backD ks n d = some d') :
    Rp K Z' (backι ι ι' n ks.length) N d' v := by
  have flat : ∀ {d : D}, below 0 d = true → Rp K Z' ι' m d v → Rp K Z' (backι ι ι' n ks.length) N d v := fun b r => Rp.mono (fun _ _ z => z) (fun _ z => absurd z (Nat.not_lt_zero _)) (Nat.zero_le _) _ _ (r.shrink _ _ b)
  cases r with
  | ref hj =>
    rename_i j
    have h' : (if j < ks.length then (ks[j]?).map D.ref else some (.ref (n + (j - ks.length)))) = some d' := h
    by_cases hl : j < ks.length
    · rw [if_pos hl, List.getElem?_eq_getElem hl] at h'
      cases h'
      have hk' := hk _ (List.getElem_mem hl)
      have q : Rp K Z' (backι ι ι' n ks.length) N (.ref ks[j]) (.ref (backι ι ι' n ks.length ks[j])) := .ref (by omega)
      rw [show backι ι ι' n ks.length ks[j] = ι' j by unfold backι; rw [if_pos hk']; exact (hi j _ (List.getElem?_eq_getElem hl)).symm] at q
      exact q
    · rw [if_neg hl] at h'
      cases h'
      have q : Rp K Z' (backι ι ι' n ks.length) N (.ref (n + (j - ks.length))) (.ref (backι ι ι' n ks.length (n + (j - ks.length)))) := .ref (by omega)
      rw [show backι ι ι' n ks.length (n + (j - ks.length)) = ι' j by unfold backι; rw [if_neg (by omega)]; congr 1; omega] at q
      exact q
  | non => cases h; exact .non
  | bl b => cases h; exact .bl b
  | int i => cases h; exact .int i
  | str x => cases h; exact .str x
  | tup s r =>
    rename_i ds a xs
    have h' : (if below 0 (.tup ds) = true then some (D.tup ds) else none) = some d' := h
    by_cases b : below 0 (.tup ds) = true
    · rw [if_pos b] at h'
      cases h'
      exact flat b (.tup s r)
    · rw [if_neg b] at h'
      cases h'
  | lst s r =>
    rename_i ds a xs
    have h' : (if below 0 (.lst ds) = true then some (D.lst ds) else none) = some d' := h
    by_cases b : below 0 (.lst ds) = true
    · rw [if_pos b] at h'
      cases h'
      exact flat b (.lst s r)
    · rw [if_neg b] at h'
      cases h'
  | dct s r t =>
    rename_i ks ws a nks kx xs
    have h' : (if below 0 (.dct ks ws) = true then some (D.dct ks ws) else none) = some d' := h
    by_cases b : below 0 (.dct ks ws) = true
    · rw [if_pos b] at h'
      cases h'
      exact flat b (.dct s r t)
    · rw [if_neg b] at h'
      cases h'
  | ptu s r =>
    rename_i ds a xs
    have h' : (if below 0 (.ptu ds) = true then some (D.ptu ds) else none) = some d' := h
    by_cases b : below 0 (.ptu ds) = true
    · rw [if_pos b] at h'
      cases h'
      exact flat b (.ptu s r)
    · rw [if_neg b] at h'
      cases h'
end Bk

set_option Elab.async false
set_option linter.all false
set_option maxRecDepth 100000
set_option maxHeartbeats 2000000
namespace Bk
open PySem PySem.Spec PyProof.Rows L2

/-! ### defs -/
def PostF (K : PySem.W.Frag) (C : CT) (E : XK) (H Z : Hp) (ι : Nat → Addr) (M : List MO) (r : R D) (Q : VK) : Prop := match r with
  | .ok d M' => ∀ (v : V) (H' Z' : Hp) (ι' : Nat → Addr), Ext H Z ι M.length H' Z' ι' M'.length → HR K H' Z' ι' M' → Rp K Z' ι' M'.length d v → Q v H'
  | .exc c d M' => ∀ (cls : Value) (dd : Option Addr) (H' Z' : Hp) (ι' : Nat → Addr), Ext H Z ι M.length H' Z' ι' M'.length → HR K H' Z' ι' M' → ExcR K C H' Z' ι' M'.length c d cls dd → E cls dd H'
  | .bad => False
/-- the def at f computes F, by at most k calls one in another -/
structure FnQ (P : Program) (w : World) (K : PySem.W.Frag) (mg : Str → Option Value) (base : Heap) (C : CT) (k : Nat) (f : Addr) (fd : FuncData) (ps : List Str) (F : List D → List MO → R D) : Prop where
  run : ∀ (A : Around) (outer : List PySem.Env) (s : Shared) (H : Hp) (args : Args) (us : List Value) (vs : List V) (Q : VK) (E : XK) (ds : List D) (Z : Hp) (ι : Nat → Addr) (M : List MO), Room k A → A.guards = some [] → Env0 P w K mg base A outer s H →
    BindsTo s fd args (ps.zip us) → Vals vs us → vs.length = ps.length → Rps K Z ι M.length ds vs → HR K H Z ι M → PostF K C E H Z ι M (F ds M) Q → codeAny (model P w) A (.call (.ref f) args) (CR (L2.CX P w) outer P w H s Q E) s
theorem FnQ.mono {P : Program} {w : World} {K : PySem.W.Frag} {mg : Str → Option Value} {base : Heap} {C : CT} {j k : Nat} {f : Addr} {fd : FuncData} {ps : List Str} {F : List D → List MO → R D} (x : FnQ P w K mg base C j f fd ps F) (h : j ≤ k) : FnQ P w K mg base C k f fd ps F :=
  ⟨fun A outer s H args us vs Q E ds Z ι M hr => x.run A outer s H args us vs Q E ds Z ι M (hr.mono h)⟩
/-- what a body's end gives the caller: what it made besides is dropped -/
def retR (m : Nat) (M' : List MO) : D → R D
  | .ref k => if k < m then .ok (.ref k) (M'.take m) else match M'[k]? with
    | some (.lst ds) => if belows m ds = true then .ok (.ref m) (M'.take m ++ [.lst ds]) else .bad
    | _ => .bad
  | d => if below m d = true then .ok d (M'.take m) else .bad
def fin (m : Nat) : RS → R D
  | .rt d M' => if m ≤ M'.length ∧ cutOk m M' = true then retR m M' d else .bad
  | .nx _ M' => if m ≤ M'.length ∧ cutOk m M' = true then .ok .non (M'.take m) else .bad
  | .exc c d _ M' => if m ≤ M'.length ∧ cutOk m M' = true ∧ below m d = true then .exc c d (M'.take m) else .bad
  | _ => .bad
/-- a def of n names with the body g -/
def runF (n : Nat) (g : GS) (ds : List D) (M : List MO) : R D := fin M.length (g (ds.map some ++ List.replicate (n - ds.length) none) M)

section
variable {K : PySem.W.Frag} {C : CT} {H Z H' Z' : Hp} {ι ι' : Nat → Addr} {M M' : List MO} {E : XK} {Q : VK}
theorem take_len {α : Type} {l : List α} {m : Nat} (h : m ≤ l.length) : (l.take m).length = m := by rw [List.length_take]; omega
theorem retR_run {d : D} {v : V} (e : Ext H Z ι M.length H' Z' ι' M'.length) (hr : HR K H' Z' ι' M') (r : Rp K Z' ι' M'.length d v) (c1 : M.length ≤ M'.length) (c2 : cutOk M.length M' = true) (h : PostF K C E H Z ι M (retR M.length M' d) Q) : Q v H' := by
  have ln := take_len c1
  have flat : ∀ {d : D}, Rp K Z' ι' M'.length d v → PostF K C E H Z ι M (if below M.length d = true then .ok d (M'.take M.length) else .bad) Q → Q v H' := fun {d} r h => by
    by_cases b : below M.length d = true
    · rw [if_pos b] at h
      exact h v H' Z' ι' (by rw [ln]; exact e.cut (Nat.le_refl _) c1) (hr.cut c1 c2) (by rw [ln]; exact r.shrink _ _ b)
    · rw [if_neg b] at h
      exact h.elim
  cases r with
  | ref hk =>
    rename_i k
    have h2 : PostF K C E H Z ι M (if k < M.length then .ok (.ref k) (M'.take M.length) else match M'[k]? with
      | some (.lst ds) => if belows M.length ds = true then .ok (.ref M.length) (M'.take M.length ++ [.lst ds]) else .bad
      | _ => .bad) Q := h
    by_cases hm : k < M.length
    · rw [if_pos hm] at h2
      exact h2 _ H' Z' ι' (by rw [ln]; exact e.cut (Nat.le_refl _) c1) (hr.cut c1 c2) (by rw [ln]; exact .ref hm)
    · rw [if_neg hm] at h2
      cases e1 : M'[k]? with
      | none => rw [e1] at h2; exact h2.elim
      | some o =>
        rw [e1] at h2
        cases o with
        | dead => exact h2.elim
        | dct ks0 vs0 => exact h2.elim
        | dki kvs0 => exact h2.elim
        | obj nm fs => exact h2.elim
        | lst ds =>
          have h3 : PostF K C E H Z ι M (if belows M.length ds = true then .ok (.ref M.length) (M'.take M.length ++ [.lst ds]) else .bad) Q := h2
          by_cases b : belows M.length ds = true
          · rw [if_pos b] at h3
            obtain ⟨xs, e2, r2⟩ := hr.obj k _ e1
            have hc := hr.cut c1 c2
            have lk : k < M'.length := (List.getElem?_eq_some_iff.mp e1).1
            have od : Odd Z' ι' (M'.take M.length).length (ι' k) := ⟨hr.sep k _ e1 (by simp), fun j hj => by
              rw [ln] at hj
              exact hr.apart (by omega) e1 (by simp) (by omega)⟩
            have q : Rp K Z' (put ι' (M'.take M.length).length (ι' k)) (M'.take M.length ++ [MO.lst ds]).length (.ref (M'.take M.length).length) (.ref (put ι' (M'.take M.length).length (ι' k) (M'.take M.length).length)) := .ref (by simp)
            rw [put_at] at q
            have n0 : H (ι' k) = none := e.nw k (by omega) lk
            have x := Ext.adoptM (M := M'.take M.length) (ds := ds) (p := ι' k) (by rw [ln]; exact e.cut (Nat.le_refl _) c1) n0
            have z := hc.adoptM od e2 (by rw [ln]; exact Rps.shrink _ _ r2 b)
            have h4 : PostF K C E H Z ι M (.ok (.ref (M'.take M.length).length) (M'.take M.length ++ [.lst ds])) Q := by rw [ln]; exact h3
            exact h4 _ H' Z' _ x z q
          · rw [if_neg b] at h3
            exact h3.elim
  | non => exact flat .non h
  | bl b => exact flat (.bl b) h
  | int i => exact flat (.int i) h
  | str x => exact flat (.str x) h
  | tup s r => exact flat (.tup s r) h
  | lst s r => exact flat (.lst s r) h
  | dct s r t => exact flat (.dct s r t) h
  | ptu s r => exact flat (.ptu s r) h

theorem fin_run {X : Cx} {W : WX} {r : RS} (hW : ∀ c d σ H, E c d H → W c d σ H) (eK : X.K = K) (h : PostF K C E H Z ι M (fin M.length r) Q) : PostS X C W H Z ι M r { nx := fun _ H' => Q .non H', rt := Q } := by
  subst eK
  cases r with
  | bad => exact h
  | bk Γ M' => exact h.elim
  | ct Γ M' => exact h.elim
  | nx Γ M' =>
    have h2 : PostF X.K C E H Z ι M (if M.length ≤ M'.length ∧ cutOk M.length M' = true then .ok .non (M'.take M.length) else .bad) Q := h
    by_cases c : M.length ≤ M'.length ∧ cutOk M.length M' = true
    · rw [if_pos c] at h2
      intro σ' H' Z' ι' e hr sl
      have ln := take_len c.1
      exact h2 .non H' Z' ι' (by rw [ln]; exact e.cut (Nat.le_refl _) c.1) (hr.cut c.1 c.2) .non
    · rw [if_neg c] at h2
      exact h2.elim
  | rt d M' =>
    have h2 : PostF X.K C E H Z ι M (if M.length ≤ M'.length ∧ cutOk M.length M' = true then retR M.length M' d else .bad) Q := h
    by_cases c : M.length ≤ M'.length ∧ cutOk M.length M' = true
    · rw [if_pos c] at h2
      intro v H' Z' ι' e hr r
      exact retR_run e hr r c.1 c.2 h2
    · rw [if_neg c] at h2
      exact h2.elim
  | exc n d Γ M' =>
    have h2 : PostF X.K C E H Z ι M (if M.length ≤ M'.length ∧ cutOk M.length M' = true ∧ below M.length d = true then .exc n d (M'.take M.length) else .bad) Q := h
    by_cases c : M.length ≤ M'.length ∧ cutOk M.length M' = true ∧ below M.length d = true
    · rw [if_pos c] at h2
      intro cls dd σ' H' Z' ι' e hr sl x
      have ln := take_len c.1
      obtain ⟨x1, a, v, x2, x3, x4⟩ := x
      exact hW _ _ _ _ (h2 cls dd H' Z' ι' (by rw [ln]; exact e.cut (Nat.le_refl _) c.1) (hr.cut c.1 c.2.1) ⟨x1, a, v, x2, x3, by rw [ln]; exact x4.shrink _ _ c.2.2⟩)
    · rw [if_neg c] at h2
      exact h2.elim
theorem slots_start {ds : List D} {vs : List V} {N : List Str} {n : Nat} (r : Rps K Z ι n ds vs) (hl : vs.length ≤ N.length) : Slots K Z ι n (ds.map some ++ List.replicate (N.length - ds.length) none) (L2.start N vs) := by
  have l := r.length
  refine ⟨by unfold L2.start; simp [l], fun i d h => ?_⟩
  by_cases hi : i < ds.length
  · rw [List.getElem?_append_left (by simpa using hi), List.getElem?_map] at h
    cases e : ds[i]? with
    | none => rw [e] at h; cases h
    | some d' =>
      rw [e] at h
      cases h
      obtain ⟨v, e2, r2⟩ := r.get e
      refine ⟨v, ?_, r2⟩
      unfold L2.start
      rw [List.getElem?_append_left (by rw [List.length_map, ← l]; exact hi), List.getElem?_map, e2]
      rfl
  · rw [List.getElem?_append_right (by simpa using Nat.le_of_not_lt hi), List.getElem?_replicate] at h
    split at h <;> cases h
end
section
variable {P : Program} {w : World} {K : PySem.W.Frag} {mg : Str → Option Value} {base : Heap} {C : CT}
/-- THE RULE for a def: its body computes g -/
theorem fq_of {x qual : Str} {st : Stmt} {f : Addr} {fd : FuncData} {N ps : List Str} {k : Nat} {g : GS} (F : Fun K x qual st f fd) (S : FnScope N ps (defScope st))
    (hbody : ∀ (cdv : Value) (A : Around) (outer : List PySem.Env) (s : Shared) (H : Hp) (E : XK), Room k (A.deeper (envOfC qual (defScope st) s.heap.objs.size f cdv)) → A.guards = some [] →
      QSs (cxOf (L2.CX P w) P w K mg base N qual (defScope st) f cdv A outer s H E) C (fun cls d _ H => E cls d H) (defBody st) g) : FnQ P w K mg base C (k + 1) f fd ps (runF N.length g) := by
  obtain ⟨oc, od, kV, doc, pm, an, cdv, ct, osl, rfl, lk, hcd⟩ := F.ex
  refine ⟨fun A outer s H args us vs Q E ds Z ι M room hgu env0 hbind rvs hlen rds hr hpost => ?_⟩
  have hK : K.In s.heap := env0.mod.kin.keeps fun b o z => (env0.bs b o z).1
  have hlim : s.heap.NoLimit := env0.mod.nolimit.keeps fun b o z => (env0.bs b o z).1
  have kinds : ∀ y ∈ ps.zip us, (defScope st).names.lookup y.1 = some .local ∨ ((defScope st).names.lookup y.1 = some .cell ∧ ((cellsFrom (s.heap.objs.size + 1) (defScope st).names []).lookup y.1).isSome = true) := fun y hy => by
    rcases S.par y.1 (List.of_mem_zip (a := y.1) (b := y.2) hy).1 with z | z
    · exact .inl z
    · exact .inr ⟨z, PySem.W.cellsFrom_some _ _ _ (.inl z)⟩
  refine codeAny_call_function room.depth (hK _ _ lk) rfl S.co S.gen rfl (PySem.W.codeRec_of hK hcd) (hbind _ _ _ _ (wpAny_newFunctionEnv_cells S.kind kinds fun env he s1 ic => ?_))
  subst he
  refine ⟨hlim.keeps ic.toInCall.keep, codeAny_func ?_⟩
  obtain ⟨ts, pts, qts⟩ := hbody cdv A outer s H E (room.deeper _) hgu
  have J : Inv (cxOf (L2.CX P w) P w K mg base N qual (defScope st) f cdv A outer s H E) [] (L2.start N vs) H s1 := inv_start S room.hd env0 hlen rvs ic
  have lN : vs.length ≤ N.length := by
    have z := congrArg List.length S.pre
    rw [List.length_take] at z
    omega
  have hq := qts _ (L2.start N vs) H Z ι _ M (slots_start rds lN) hr (fin_run (E := E) (fun _ _ _ _ z => z) rfl hpost)
  refine wpAny_mono (pts.run [] s1 _ H _ J hq) (fun fl s' hs => ?_) fun _ _ hs => hs
  have ends : ∀ {σ' : L2.St} {H' : Hp} {v : V} {u : Value}, Inv (cxOf (L2.CX P w) P w K mg base N qual (defScope st) f cdv A outer s H E) [] σ' H' s' → RelV v u → Q v H' → CE outer P w H s Q u s' :=
    fun {σ' H' v u} J2 rv q => ⟨v, H', J2.os, J2.bare, J2.base, J2.hok, rv, q⟩
  cases fl with
  | ret u => exact let ⟨v, σ', H', J2, rv, q⟩ := hs; ends J2 rv q
  | next => exact let ⟨σ', H', J2, q⟩ := hs; ends (v := V.non) (u := Value.none) J2 rfl q
  | brk => exact let ⟨_, _, _, q⟩ := hs; q.elim
  | cont => exact let ⟨_, _, _, q⟩ := hs; q.elim
end

/-! ### calls of defs -/
section
variable {X : Cx} {C : CT} {W : WX} {k : Nat} {f : Addr} {fd : FuncData} {ps : List Str} {F : List D → List MO → R D} {x : Str} {p pos : Pos} {e : Expr} {es : List Expr} {gs : GA}
/-- what a call asks -/
def rCallQ (K : PySem.W.Frag) (C : CT) (ps : List Str) (F : List D → List MO → R D) (E : XK) (vs : List V) (H : Hp) (Q : VK) : Prop :=
  vs.length = ps.length ∧ ∃ (ds : List D) (Z : Hp) (ι : Nat → Addr) (M : List MO), Rps K Z ι M.length ds vs ∧ HR K H Z ι M ∧ PostF K C E H Z ι M (F ds M) Q
theorem run_q {pins : List (Addr × Obj)} {σ : St} {H : Hp} {s : Shared} {Q : VK} {vs : List V} {us : List Value} {args : Args} (F0 : FnQ X.prog X.w X.K X.mg X.base C k f fd ps F) (hr : Room k X.A) (hgu : X.A.guards = some []) (tk : Takes X W) (I : Inv X pins σ H s)
    (hb : BindsTo s fd args (ps.zip us)) (r : Vals vs us) (h : rCallQ X.K C ps F (WE W σ) vs H Q) : codeAny (model X.prog X.w) X.A (.call (.ref f) args) (fun r s' => match r with
      | .ok (.ret u) => EP X pins σ Q u s'
      | .ok _ => False
      | .error e => X.xe e s') s := by
  obtain ⟨hl, ds, Z, ι, M, rd, hr', hp⟩ := h
  refine codeAny_mono (F0.run X.A X.stack s H args us vs Q (WE W σ) ds Z ι M hr hgu I.env0 hb r hl rd hr' hp) fun r s' hq => ?_
  cases r with
  | error e => exact passAt tk σ pins H s e s' I hq
  | ok fl =>
    cases fl with
    | ret u => exact I.after hq
    | next => exact hq.elim
    | brk => exact hq.elim
    | cont => exact hq.elim
theorem lent_post {σ : St} {H Z : Hp} {ι : Nat → Addr} {ds : List D} {vs : List V} {M : List MO} {Q : VK} (hr : HR X.K H Z ι M) (r : Rps X.K Z ι M.length ds vs) (hl : vs.length = ps.length) (h : Post X C W (rpE X.K) σ H Z ι M (callF F ds M) Q) : rCallQ X.K C ps F (WE W σ) vs H Q := by
  unfold callF at h
  cases eg : getAll M (lendK ds) with
  | none => rw [eg] at h; exact h.elim
  | some os =>
    rw [eg] at h
    simp only at h
    by_cases c : (lendK ds).Nodup ∧ flatArgs ds = true ∧ lentOk os = true
    · rw [if_pos c] at h
      obtain ⟨l, fa⟩ := getAll_at eg
      have r2 := lend_rps ds vs [] c.2.1 r
      simp only [List.nil_append, List.length_nil] at r2
      rw [← l] at r2
      have hr2 := hr.lend c.1 eg c.2.2
      refine ⟨hl, lendA 0 ds, Z, lentι ι (lendK ds), os, r2, hr2, ?_⟩
      have kl : ∀ k ∈ lendK ds, k < M.length := fun k hk => by
        obtain ⟨j, hj, ej⟩ := List.mem_iff_getElem.mp hk
        obtain ⟨k', q1, q2⟩ := fa j os[j] (List.getElem?_eq_getElem (by rw [l]; exact hj))
        rw [List.getElem?_eq_getElem hj] at q1
        cases q1
        rw [← ej]
        exact (List.getElem?_eq_some_iff.mp q2).1
      cases eF : F (lendA 0 ds) os with
      | bad => rw [eF] at h; exact h.elim
      | exc n d os' =>
        rw [eF] at h
        simp only at h
        by_cases c2 : (lendK ds).length ≤ os'.length ∧ os'.all (belowO 0) = true ∧ below 0 d = true
        · rw [if_pos c2] at h
          intro cls dd H' Z' ι' e' hr' x
          obtain ⟨b1, b2⟩ := hr.back c.1 eg c.2.2 e' hr' c2.1 c2.2.1
          obtain ⟨x1, a, v, x2, x3, x4⟩ := x
          exact h cls dd H' Z' _ b2 b1 ⟨x1, a, v, x2, x3, Rp.mono (fun _ _ z => z) (fun _ z => absurd z (Nat.not_lt_zero _)) (Nat.zero_le _) _ _ (x4.shrink _ _ c2.2.2)⟩
        · rw [if_neg c2] at h
          exact h.elim
      | ok d os' =>
        rw [eF] at h
        simp only at h
        by_cases c2 : (lendK ds).length ≤ os'.length ∧ os'.all (belowO 0) = true
        · rw [if_pos c2] at h
          intro v H' Z' ι' e' hr' x
          obtain ⟨b1, b2⟩ := hr.back c.1 eg c.2.2 e' hr' c2.1 c2.2
          cases eb : backD (lendK ds) M.length d with
          | none => rw [eb] at h; exact h.elim
          | some d' =>
            rw [eb] at h
            have ln : (setAll M (lendK ds) os' ++ os'.drop (lendK ds).length).length = M.length + (os'.length - (lendK ds).length) := by rw [List.length_append, setAll_length, List.length_drop]
            refine h v H' Z' _ b2 b1 (backD_rp kl (fun j k q => ?_) (by rw [ln]; exact Nat.le_refl _) x eb)
            rw [e'.ii j (by rw [l]; exact (List.getElem?_eq_some_iff.mp q).1)]
            unfold lentι
            rw [List.getD_eq_getElem?_getD, q]
            rfl
        · rw [if_neg c2] at h
          exact h.elim
    · rw [if_neg c] at h
      exact h.elim
/-- the callee runs, its arguments bound -/
theorem run_call {pins : List (Addr × Obj)} {σ : St} {H : Hp} {s : Shared} {Q : VK} {vs : List V} {us ts : List Value} {kw : List (Str × Value)} (F0 : FnQ X.prog X.w X.K X.mg X.base C k f fd ps F) (hr : Room k X.A) (hgu : X.A.guards = some []) (tk : Takes X W) (I : Inv X pins σ H s)
    (hb : BindsTo s fd ⟨us, kw⟩ (ps.zip ts)) (r : Vals vs ts) (h : rCallQ X.K C ps F (WE W σ) vs H Q) : wpAny (model X.prog X.w) X.A (call (.ref f) us kw) (EP X pins σ Q) X.xe s :=
  wpAny_call (codeAny_mono (run_q F0 hr hgu tk I hb r h) fun r s' hq => by
    cases r with
    | error e => exact hq
    | ok fl =>
      cases fl with
      | ret u => exact hq
      | next => exact hq.elim
      | brk => exact hq.elim
      | cont => exact hq.elim)
/-- f(e, ..) -/
theorem qe_call {n : Nat} (F0 : FnQ X.prog X.w X.K X.mg X.base C k f fd ps F) (hr : Room k X.A) (hgu : X.A.guards = some []) (tk : Takes X W) (hg : Gl X x) (hm : X.mg x = some (.ref f)) (hk : PySem.W.keepIn X.K (.ref f) = true) (hb : Binds X.K fd ps []) (ha : QA X C W (e :: es) gs) (hn : n = ps.length := by rfl)
    (hdb : (x == ("__debug__" : Str)) = false := by decide) (he : starEach (e :: es) X.env = (false, eval e X.env) :: starEach es X.env := by rfl) (hpl : (backTo pos (starEach es X.env)).any (·.1) = false := by rfl) :
    QE X C W (.Call (.Name x p) (e :: es) [] pos) (gCallF n F gs) := by
  subst hn
  obtain ⟨ta, pa, qa⟩ := ha
  refine ⟨fun σ H Q => ta σ H fun vs H1 => rCallQ X.K C ps F (WE W σ) vs H1 Q, ⟨fun pins s σ H Q I h => wpAny_Call_Name_kw (ld_glob I hg hm ?_ hdb)⟩, fun σ H Z ι Γ M Q sl hr h => qa σ H Z ι Γ M _ sl hr (h.bind fun ds M1 vs H1 Z1 ι1 e1 hr1 r1 h1 => ?_)⟩
  · refine PySem.W.callWith_K (h₀ := X.base) I.ok.mod.kin hk (thn (pa.run pos pins s σ H _ I h) fun us s1 hh => ?_) he hpl
    obtain ⟨vs, H1, J, r, q⟩ := hh
    have hl : us.length = ps.length := r.length.symm.trans q.1
    have hbb := hb s1 us J.kIn (by rw [List.append_nil]; exact hl)
    rw [List.append_nil] at hbb
    exact ⟨J.kIn, run_call F0 hr hgu tk J hbb r q⟩
  · by_cases c : ds.length = ps.length
    · rw [if_pos c] at h1
      exact lent_post hr1 r1 (by rw [← r1.length]; exact c) h1
    · rw [if_neg c] at h1
      exact h1.elim
theorem qe_call0 {n : Nat} (F0 : FnQ X.prog X.w X.K X.mg X.base C k f fd ps F) (hr : Room k X.A) (hgu : X.A.guards = some []) (tk : Takes X W) (hg : Gl X x) (hm : X.mg x = some (.ref f)) (hk : PySem.W.keepIn X.K (.ref f) = true) (hb : Binds X.K fd ps []) (hn : n = ps.length := by rfl)
    (hdb : (x == ("__debug__" : Str)) = false := by decide) : QE X C W (.Call (.Name x p) [] [] pos) (gCallF n F gNil) := by
  subst hn
  refine ⟨fun σ H Q => rCallQ X.K C ps F (WE W σ) [] H Q, ⟨fun pins s σ H Q I h => wpAny_Call_Name_kw (ld_glob I hg hm (PySem.W.callWith_K0 I.kIn hk ?_) hdb)⟩, fun σ H Z ι Γ M Q sl hr h => ?_⟩
  · have hbb := hb s [] I.kIn (by simpa using h.1)
    exact run_call (us := []) (ts := []) F0 hr hgu tk I (by simpa using hbb) .nil h
  · have h1 : Post X C W (rpE X.K) σ H Z ι M (if ([] : List D).length = ps.length then callF F [] M else .bad) Q := h
    by_cases c : ([] : List D).length = ps.length
    · rw [if_pos c] at h1
      exact lent_post hr .nil c h1
    · rw [if_neg c] at h1
      exact h1.elim
theorem vals_pick {vs : List V} {us : List Value} (r : Vals vs us) : ∀ is : List Nat, Vals (pick vs is) (pick us is)
  | [] => .nil
  | i :: is => by
    unfold pick
    cases e : vs[i]? with
    | none =>
      rw [r.none_of e]
      exact vals_pick r is
    | some v =>
      obtain ⟨u, e2, r2⟩ := r.get e
      rw [e2]
      exact .cons r2 (vals_pick r is)
theorem rps_pick {K : PySem.W.Frag} {Z : Hp} {ι : Nat → Addr} {n : Nat} {ds : List D} {vs : List V} (r : Rps K Z ι n ds vs) : ∀ is : List Nat, Rps K Z ι n (pick ds is) (pick vs is)
  | [] => .nil
  | i :: is => by
    unfold pick
    cases e : ds[i]? with
    | none =>
      have l := r.length
      have : vs[i]? = none := by
        rw [List.getElem?_eq_none_iff] at e ⊢
        omega
      rw [this]
      exact rps_pick r is
    | some d =>
      obtain ⟨v, e2, r2⟩ := r.get e
      rw [e2]
      exact .cons r2 (rps_pick r is)
/-- how a call with keywords binds -/
def KwBinds (K : PySem.W.Frag) (fd : FuncData) (ps ks : List Str) (np : Nat) (is : List Nat) : Prop := ∀ (s : Shared) (us ws : List Value), K.In s.heap → us.length = np → ws.length = ks.length → BindsTo s fd ⟨us, ks.zip ws⟩ (ps.zip (pick (us ++ ws) is))
def QK (X : Cx) (C : CT) (W : WX) (es : List Keyword) (g : GA) : Prop := ∃ te, PK X es te ∧ ∀ (σ : St) (H Z : Hp) (ι : Nat → Addr) (Γ : Env) (M : List MO) (Q : List V → Hp → Prop), Slots X.K Z ι M.length Γ σ → HR X.K H Z ι M → Post X C W (rpA X.K) σ H Z ι M (g Γ M) Q → te σ H Q
theorem qk_nil : QK X C W [] gNil := ⟨_, pk_nil, fun σ H Z ι Γ M Q sl hr h => h [] H Z ι .refl hr .nil⟩
theorem qk_cons {nm : Option Str} {kpos : Pos} {kws : List Keyword} {g : GE} (ha : QE X C W e g) (hb : QK X C W kws gs) : QK X C W (⟨nm, e, kpos⟩ :: kws) (gCons g gs) := by
  obtain ⟨ta, pa, qa⟩ := ha
  obtain ⟨tb, pb, qb⟩ := hb
  exact ⟨_, pk_cons pa pb, fun σ H Z ι Γ M Q sl hr h => qa σ H Z ι Γ M _ sl hr (h.bind fun x M1 v H1 Z1 ι1 e1 hr1 r1 h1 => qb σ H1 Z1 ι1 Γ M1 _ (sl.ext e1) hr1 (h1.bind fun y M2 u H2 Z2 ι2 e2 hr2 r2 h2 => h2 _ H2 Z2 ι2 .refl hr2 (.cons (r1.ext e2) r2)))⟩
variable {kws : List Keyword} {gk : GA} {ks : List Str} {is : List Nat} {np : Nat}
/-- f(k = v, ..) -/
theorem qe_callK0 {n : Nat} (F0 : FnQ X.prog X.w X.K X.mg X.base C k f fd ps F) (hr : Room k X.A) (hgu : X.A.guards = some []) (tk : Takes X W) (hg : Gl X x) (hm : X.mg x = some (.ref f)) (hk : PySem.W.keepIn X.K (.ref f) = true) (hb : KwBinds X.K fd ps ks 0 is) (hkw : QK X C W kws gk)
    (hlen : ∀ (Γ : Env) (M M' : List MO) (ds : List D), gk Γ M = .ok ds M' → ds.length = ks.length) (hn : n = ps.length := by rfl)
    (hall : (backToKw pos (keywordEach kws X.env)).all (·.1.isSome) = true := by rfl) (hks : (backToKw pos (keywordEach kws X.env)).filterMap (·.1) = ks := by rfl) (hdb : (x == ("__debug__" : Str)) = false := by decide)
    (hpl : ((backTo pos (starEach [] X.env)).any (·.1) || (backToKw pos (keywordEach kws X.env)).any (·.1.isNone)) = false := by rfl) :
    QE X C W (.Call (.Name x p) [] kws pos) (gCallK n F is gNil gk) := by
  subst hn
  obtain ⟨tk', pk, qk⟩ := hkw
  refine ⟨fun σ H Q => tk' σ H fun zs H2 => zs.length = ks.length ∧ rCallQ X.K C ps F (WE W σ) (pick zs is) H2 Q, ⟨fun pins s σ H Q I h => wpAny_Call_Name_kw (ld_glob I hg hm ?_ hdb)⟩, fun σ H Z ι Γ M Q sl hr h => ?_⟩
  · refine PySem.W.callWith_KW0 (h₀ := X.base) I.ok.mod.kin hk hall (thn (pk.run pos pins s σ H _ I h) fun ws s2 hh => ?_) hpl
    obtain ⟨zs, H2, J, r, hz, q⟩ := hh
    have hl : ws.length = ks.length := r.length.symm.trans hz
    refine ⟨J.kIn, ?_⟩
    rw [hks]
    exact run_call (us := []) F0 hr hgu tk J (by simpa using hb s2 [] ws J.kIn rfl hl) (vals_pick r is) q
  · have h1 : Post X C W (rpE X.K) σ H Z ι M ((gk Γ M).bind fun es M2 => if (pick ([] ++ es) is).length = ps.length then callF F (pick ([] ++ es) is) M2 else .bad) Q := h
    cases eg : gk Γ M with
    | bad => rw [eg] at h1; exact h1.elim
    | exc c d M' =>
      refine qk σ H Z ι Γ M _ sl hr ?_
      rw [eg] at h1 ⊢
      exact h1
    | ok es M' =>
      refine qk σ H Z ι Γ M _ sl hr ?_
      have hle := hlen _ _ _ _ eg
      rw [eg] at h1 ⊢
      intro vs H1 Z1 ι1 e1 hr1 r1
      have h2 : Post X C W (rpE X.K) σ H Z ι M (if (pick es is).length = ps.length then callF F (pick es is) M' else .bad) Q := h1
      have r2 := rps_pick r1 is
      refine ⟨by rw [← r1.length]; exact hle, ?_⟩
      by_cases c : (pick es is).length = ps.length
      · rw [if_pos c] at h2
        exact lent_post hr1 r2 (by rw [← r2.length]; exact c) (Post.shift h2 e1 hr1)
      · rw [if_neg c] at h2
        exact h2.elim
/-- f(e, .., k = v, ..) -/
theorem qe_callK {n : Nat} (F0 : FnQ X.prog X.w X.K X.mg X.base C k f fd ps F) (hr : Room k X.A) (hgu : X.A.guards = some []) (tk : Takes X W) (hg : Gl X x) (hm : X.mg x = some (.ref f)) (hk : PySem.W.keepIn X.K (.ref f) = true) (hb : KwBinds X.K fd ps ks np is) (ha : QA X C W (e :: es) gs) (hkw : QK X C W kws gk)
    (hlen : ∀ (Γ : Env) (M M' : List MO) (ds : List D), gk Γ M = .ok ds M' → ds.length = ks.length) (hlen1 : ∀ (Γ : Env) (M M' : List MO) (ds : List D), gs Γ M = .ok ds M' → ds.length = np) (hn : n = ps.length := by rfl)
    (hall : (backToKw pos (keywordEach kws X.env)).all (·.1.isSome) = true := by rfl) (hks : (backToKw pos (keywordEach kws X.env)).filterMap (·.1) = ks := by rfl) (hdb : (x == ("__debug__" : Str)) = false := by decide)
    (he : starEach (e :: es) X.env = (false, eval e X.env) :: starEach es X.env := by rfl) (hpl : ((backTo pos (starEach (e :: es) X.env)).any (·.1) || (backToKw pos (keywordEach kws X.env)).any (·.1.isNone)) = false := by rfl) :
    QE X C W (.Call (.Name x p) (e :: es) kws pos) (gCallK n F is gs gk) := by
  subst hn
  obtain ⟨ta, pa, qa⟩ := ha
  obtain ⟨tk', pk, qk⟩ := hkw
  refine ⟨fun σ H Q => ta σ H fun vs H1 => tk' σ H1 fun zs H2 => vs.length = np ∧ zs.length = ks.length ∧ rCallQ X.K C ps F (WE W σ) (pick (vs ++ zs) is) H2 Q, ⟨fun pins s σ H Q I h => wpAny_Call_Name_kw (ld_glob I hg hm ?_ hdb)⟩, fun σ H Z ι Γ M Q sl hr h => ?_⟩
  · refine PySem.W.callWith_KW (h₀ := X.base) I.ok.mod.kin hk hall (thn (pa.run pos pins s σ H _ I h) fun us s1 hh => ?_) hpl he
    obtain ⟨vs, H1, J1, r1, q1⟩ := hh
    refine thn (pk.run pos pins s1 σ H1 _ J1 q1) fun ws s2 hh => ?_
    obtain ⟨zs, H2, J, r, hv, hz, q⟩ := hh
    refine ⟨J.kIn, ?_⟩
    rw [hks]
    exact run_call (us := us) F0 hr hgu tk J (hb s2 us ws J.kIn (r1.length.symm.trans hv) (r.length.symm.trans hz)) (vals_pick (r1.append r) is) q
  · have h1 : Post X C W (rpE X.K) σ H Z ι M ((gs Γ M).bind fun ds M1 => (gk Γ M1).bind fun es M2 => if (pick (ds ++ es) is).length = ps.length then callF F (pick (ds ++ es) is) M2 else .bad) Q := h
    cases eg : gs Γ M with
    | bad => rw [eg] at h1; exact h1.elim
    | exc c d M' =>
      refine qa σ H Z ι Γ M _ sl hr ?_
      rw [eg] at h1 ⊢
      exact h1
    | ok ds M' =>
      refine qa σ H Z ι Γ M _ sl hr ?_
      have hld := hlen1 _ _ _ _ eg
      rw [eg] at h1 ⊢
      intro vs H1 Z1 ι1 e1 hr1 r1
      have h2 : Post X C W (rpE X.K) σ H Z ι M ((gk Γ M').bind fun es M2 => if (pick (ds ++ es) is).length = ps.length then callF F (pick (ds ++ es) is) M2 else .bad) Q := h1
      have h3 := Post.shift h2 e1 hr1
      cases eg2 : gk Γ M' with
      | bad => rw [eg2] at h3; exact h3.elim
      | exc c d M2 =>
        refine qk σ H1 Z1 ι1 Γ M' _ (sl.ext e1) hr1 ?_
        rw [eg2] at h3 ⊢
        exact h3
      | ok es M2 =>
        refine qk σ H1 Z1 ι1 Γ M' _ (sl.ext e1) hr1 ?_
        have hle := hlen _ _ _ _ eg2
        rw [eg2] at h3 ⊢
        intro zs H2 Z2 ι2 e2 hr2 r2
        have h4 : Post X C W (rpE X.K) σ H1 Z1 ι1 M' (if (pick (ds ++ es) is).length = ps.length then callF F (pick (ds ++ es) is) M2 else .bad) Q := h3
        have r3 := rps_pick ((r1.ext e2).append r2) is
        refine ⟨by rw [← r1.length]; exact hld, by rw [← r2.length]; exact hle, ?_⟩
        by_cases c : (pick (ds ++ es) is).length = ps.length
        · rw [if_pos c] at h4
          exact lent_post hr2 r3 (by rw [← r3.length]; exact c) (Post.shift h4 e2 hr2)
        · rw [if_neg c] at h4
          exact h4.elim
end
/-- an argument list's length -/
theorem gNil_len {Γ : Env} {M M' : List MO} {ds : List D} (h : gNil Γ M = .ok ds M') : ds.length = 0 := by cases h; rfl
theorem gCons_len {g : GE} {gs : GA} {n : Nat} (hs : ∀ (Γ : Env) (M M' : List MO) (ds : List D), gs Γ M = .ok ds M' → ds.length = n) (Γ : Env) (M M' : List MO) (ds : List D) (h : gCons g gs Γ M = .ok ds M') : ds.length = n + 1 := by
  unfold gCons at h
  cases e : g Γ M with
  | bad => rw [e] at h; cases h
  | exc c d M1 => rw [e] at h; cases h
  | ok d M1 =>
    rw [e] at h
    have h2 : ((gs Γ M1).bind fun xs M2 => (.ok (d :: xs) M2 : R (List D))) = .ok ds M' := h
    cases e2 : gs Γ M1 with
    | bad => rw [e2] at h2; cases h2
    | exc c d M1 => rw [e2] at h2; cases h2
    | ok xs M2 =>
      rw [e2] at h2
      cases h2
      rw [List.length_cons, hs _ _ _ _ e2]
end Bk

set_option Elab.async false
set_option linter.all false
set_option maxRecDepth 100000
set_option maxHeartbeats 2000000
namespace Bk
open PySem PySem.Spec PyProof.Rows L2

/-! ### the law's own call -/
theorem no_cx {P : Program} {w : World} {outer : List PySem.Env} {H : Hp} {s s' : Shared} {u : Value} : ¬ L2.CX P w outer H s (fun _ _ _ => False) u s' := by
  intro h
  unfold L2.CX at h
  simp_all
theorem rps_ints {K : PySem.W.Frag} {Z : Hp} {ι : Nat → Addr} {n : Nat} (is : List Int) : Rps K Z ι n (is.map D.int) (is.map V.int) := Rps.of_ints is
theorem law_q {P : Program} {w : World} {K : PySem.W.Frag} {mg mb : Str → Option Value} {C : CT} {k : Nat} {fa a : Addr} {fd : FuncData} {x : Str} {F : List D → List MO → R D} {s₁ : Shared} {vs : List Value} {ns : List Int}
    (KX : K.In s₁.heap) (hns : s₁.heap.Ns mainGlobals mg) (hb : s₁.heap.Ns builtinsNs mb) (hbb : ∀ x : Str, x ≠ "__name__" → mb x = bootBuiltins x) (hlim : s₁.heap.NoLimit) (hg : s₁.gens = #[])
    (ha : s₁.heap.get? a = some { cls := .type "list", data := .seq vs.toArray }) (hi : IntsAre vs ns) (hl : ns.length ≤ sizeLine) (hr : Room k callerA)
    (hF : ∀ base : Heap, K.In base → base.Ns mainGlobals mg → FnQ P w K mg base C k fa fd [x] F) (hbind : ∀ (s : Shared) (u : Value), BindsTo s fd ⟨[u], []⟩ [(x, u)]) (hlaw : F [.lst (ns.map D.int)] [] = .ok (.bl true) []) :
    codeAny (model P w) callerA (.call (.ref fa) ⟨[.ref a], []⟩) (fun r s' => r = .ok (.ret (.bool true)) ∧ OldK s₁.heap s'.heap ∧ s'.os = s₁.os ∧ AllBare s'.gens) s₁ := by
  have hvals := vals_ints hi
  have hlen := hi.length
  have main : ∀ H : Hp, Only H → ExL K H a (ns.map V.int) → HOk P w H s₁.heap → (∀ b, H b ≠ none → b = a) → (H a ≠ none → K.lookup a = none) →
      codeAny (model P w) callerA (.call (.ref fa) ⟨[.ref a], []⟩) (fun r s' => r = .ok (.ret (.bool true)) ∧ OldK s₁.heap s'.heap ∧ s'.os = s₁.os ∧ AllBare s'.gens) s₁ := by
    intro H only seq hok alone apart
    have free : ∀ {b : Addr} {o : Obj} {es : Array DictEntry} {ep : Nat}, s₁.heap.get? b = some o → o.data = .dict es ep → H b = none := fun {b o es ep} e d => by
      refine Classical.byContradiction fun z => ?_
      have eb : b = a := alone b z
      rw [eb, ha] at e
      cases e
      cases (show Data.seq vs.toArray _ = Data.dict es ep from d)
    have stays : ∀ {b : Addr} {m : Str → Option Value}, s₁.heap.Ns b m → (hidT s₁.heap H).Ns b m := fun {b m} z =>
      let ⟨o, es, ep, e, d, r⟩ := z
      ⟨o, es, ep, hidT_get e (free e d), d, r⟩
    have kin : K.In (hidT s₁.heap H) := fun b o e => hidT_get (KX b o e) (by
      refine Classical.byContradiction fun z => ?_
      have eb : b = a := alone b z
      subst eb
      rw [apart z] at e
      cases e)
    have hmod : Mod K mg (hidT s₁.heap H) := ⟨kin, stays hns, ⟨mb, stays hb, hbb⟩, let ⟨m, h1, h2⟩ := hlim; ⟨m, stays h1, h2⟩⟩
    have env0 : Env0 P w K mg (hidT s₁.heap H) callerA [] s₁ H :=
      ⟨rfl, hmod, fun b o e => of_hidT e, Nat.le_of_eq (hidT_size _ _), trivial, fun b z => absurd (show b ∈ ([] : List Addr) from z) (by simp), hok, AllBare.of_eq hg⟩
    have hr0 : HR K H H (fun _ => 0) [] := ⟨fun _ _ h => h, fun k h => absurd h (Nat.not_lt_zero _), fun k o h => by simp at h, fun j k o u h => by simp at h, fun k o h => by simp at h, fun k h => by simp at h⟩
    refine codeAny_mono ((hF _ kin (stays hns)).run callerA [] s₁ H ⟨[.ref a], []⟩ [.ref a] [.ref a] (fun v _ => v = .bl true) (fun _ _ _ => False) [.lst (ns.map D.int)] H (fun _ => 0) [] hr rfl env0 (hbind s₁ (.ref a)) (.cons rfl .nil) rfl
      (.cons (.lst seq (rps_ints ns)) .nil) hr0 ?_) fun r s' h => ?_
    · rw [hlaw]
      intro v H' Z' ι' _ _ rv
      cases rv
      rfl
    · cases r with
      | error e => exact absurd h no_cx
      | ok fl =>
        cases fl with
        | next => exact h.elim
        | brk => exact h.elim
        | cont => exact h.elim
        | ret u =>
          obtain ⟨v, H', os, bare, un, hok', rv, q⟩ := h
          obtain rfl : v = .bl true := q
          obtain rfl : u = Value.bool true := rv
          refine ⟨rfl, .of_keep fun b o e => ?_, os, bare⟩
          cases hb2 : H b with
          | none => exact un.keep b o e hb2 (fun z => absurd (show b ∈ ([] : List Addr) from z) (by simp)) (by simp)
          | some u =>
            rcases only b with z | ⟨ob, xs, z⟩
            · rw [hb2] at z
              cases z
            · have e1 := (hok b _ z).1
              have e2 := (hok' b _ (un.frzs b ob _ z)).1
              rw [e] at e1
              cases e1
              exact e2
  cases hk : K.lookup a with
  | some o =>
    have e := KX a o hk
    rw [ha] at e
    cases e
    exact main (fun _ => none) (fun _ => .inl rfl) (.inr ⟨vs.toArray, _, hk, by rw [List.size_toArray, hlen]; exact hl, by simpa using hvals⟩) (fun b u z => absurd z (by simp)) (fun b z => absurd rfl z) fun z => absurd rfl z
  | none =>
    have at_ : ∀ b u, (if b = a then some (HO.frz { cls := .type "list", data := .seq vs.toArray } (.lst (ns.map V.int))) else none) = some u → b = a ∧ u = HO.frz { cls := .type "list", data := .seq vs.toArray } (.lst (ns.map V.int)) := fun b u z => by
      by_cases hb : b = a
      · rw [if_pos hb] at z
        exact ⟨hb, (Option.some.inj z).symm⟩
      · rw [if_neg hb] at z
        cases z
    refine main (fun b => if b = a then some (.frz { cls := .type "list", data := .seq vs.toArray } (.lst (ns.map V.int))) else none) (fun b => ?_) (.inl (.inr ⟨_, if_pos rfl⟩)) (fun b u z => ?_) (fun b z => ?_) fun _ => hk
    · by_cases hb : b = a
      · exact .inr ⟨_, _, if_pos hb⟩
      · exact .inl (if_neg hb)
    · obtain ⟨rfl, rfl⟩ := at_ b u z
      exact ⟨ha, by rw [List.length_map]; exact hl, vs, _, hvals, ha⟩
    · exact Classical.byContradiction fun hb => z (if_neg hb)
/-- what k_head leaves -/
theorem walk_q {l : PySem.W.OpenLaw} {n k : Nat} {q : Program} {loose : List Str} {XP : (Str → Option Value) → Heap → Prop} {YP : World → Heap → Prop} {d : DefRec} {K : Params → PySem.W.Frag} {x : Str} {F : List D → List MO → R D}
    (hn : l.most = some n) (hn2 : n ≤ sizeLine) (hdf : d.params.defaults = []) (hr : Room k callerA) (hY : ∀ (w : World) (h : Heap), YP w h → (K w.params).In h)
    (hF : ∀ (w : World) (mg : Str → Option Value) (fa : Addr) (h : Heap), (K w.params).In h → h.Ns mainGlobals mg → mg d.name = some (.ref fa) →
      ∃ (fd : FuncData) (C : CT), (∀ (s : Shared) (u : Value), BindsTo s fd ⟨[u], []⟩ [(x, u)]) ∧ ∀ base : Heap, (K w.params).In base → base.Ns mainGlobals mg → FnQ l.prog w (K w.params) mg base C k fa fd [x] F)
    (hlaw : ∀ ns : List Int, ns.length ≤ n → F [.lst (ns.map D.int)] [] = .ok (.bl true) []) :
    PySem.W.WalkO q loose XP YP l.row.toRowW d [] (fun f vs => PySem.call f vs) := by
  refine Att.attach_call hn hdf fun w s₀ s₁ mg mb fa o pm cd doc a vs ns G Y ho hd hcd hmg hobj hints hlen hg => ?_
  have kx := hY w _ Y
  obtain ⟨fd, C, hb, hF'⟩ := hF w mg fa _ kx G.T.g hmg
  exact law_q kx G.T.g G.T.b G.T.builtins G.T.nolimit hg hobj hints (Nat.le_trans hlen hn2) hr hF' hb (hlaw ns hlen)
end Bk

set_option Elab.async false
set_option linter.all false
set_option maxRecDepth 100000
set_option maxHeartbeats 2000000
namespace Bk
open PySem PySem.Spec PyProof.Rows L2

/-! ### what operations compute -/
def listD (M : List MO) : D → Option (List D)
  | .lst ds => some ds
  | .ref k => match M[k]? with
    | some (.lst ds) => some ds
    | _ => none
  | _ => none
def tupD : D → Option (List D)
  | .tup ds => some ds
  | _ => none
def itemsD (M : List MO) : D → Option (List D)
  | .tup ds => some ds
  | .ptu ds => some ds
  | d => listD M d
section
variable {K : PySem.W.Frag} {H Z : Hp} {ι : Nat → Addr} {M : List MO} {d : D} {ds : List D} {v : V}
theorem listD_run (hr : HR K H Z ι M) (r : Rp K Z ι M.length d v) (h : listD M d = some ds) : ∃ a xs, v = .ref a ∧ ExL K H a xs ∧ Rps K Z ι M.length ds xs := by
  cases r with
  | lst s r =>
    cases h
    exact ⟨_, _, rfl, subL hr.sub s, r⟩
  | ref hk =>
    rename_i k
    have h' : (match M[k]? with
      | some (.lst ds) => some ds
      | _ => none) = some ds := h
    cases e : M[k]? with
    | none => rw [e] at h'; cases h'
    | some o =>
      rw [e] at h'
      cases o with
      | dead => cases h'
      | dct ks0 vs0 => cases h'
      | dki kvs0 => cases h'
      | obj nm fs => cases h'
      | lst es =>
        cases h'
        obtain ⟨xs, e1, r1⟩ := hr.obj k _ e
        exact ⟨_, xs, rfl, .inl (.of e1), r1⟩
  | _ => cases h
theorem tupD_run (hr : HR K H Z ι M) (r : Rp K Z ι M.length d v) (h : tupD d = some ds) : ∃ a xs, v = .ref a ∧ SqT K H a xs ∧ Rps K Z ι M.length ds xs := by
  cases r with
  | tup s r =>
    cases h
    exact ⟨_, _, rfl, subT hr.sub s, r⟩
  | _ => cases h
theorem itemsD_run (hr : HR K H Z ι M) (r : Rp K Z ι M.length d v) (h : itemsD M d = some ds) : ∃ a xs, v = .ref a ∧ (ExL K H a xs ∨ SqT K H a xs) ∧ Rps K Z ι M.length ds xs := by
  cases r with
  | tup s r =>
    cases h
    exact ⟨_, _, rfl, .inr (subT hr.sub s), r⟩
  | ptu s r =>
    cases h
    exact ⟨_, _, rfl, .inr (subT hr.sub s.sq), r⟩
  | lst s r =>
    obtain ⟨a, xs, h1, h2, h3⟩ := listD_run hr (.lst s r) h
    exact ⟨a, xs, h1, .inl h2, h3⟩
  | ref hk =>
    obtain ⟨a, xs, h1, h2, h3⟩ := listD_run hr (.ref hk) h
    exact ⟨a, xs, h1, .inl h2, h3⟩
  | _ => cases h
end
/-- an owned thing is that thing -/
theorem listD_owned {K : PySem.W.Frag} {H Z : Hp} {ι : Nat → Addr} {M : List MO} {k : Nat} {ds : List D} {v : V} (hr : HR K H Z ι M) (r : Rp K Z ι M.length (.ref k) v) (h : M[k]? = some (.lst ds)) : ∃ xs, v = .ref (ι k) ∧ H (ι k) = some (.lst xs) ∧ Rps K Z ι M.length ds xs := by
  cases r with
  | ref hk =>
    obtain ⟨xs, e1, r1⟩ := hr.obj k _ h
    exact ⟨xs, rfl, e1, r1⟩

def iop (c : Int → Int → Bool) (g : Int → Int → D) (_ : List MO) : D → D → Option D
  | .int i, .int j => if c i j = true then some (g i j) else none
  | _, _ => none
section
variable {X : Cx}
theorem OpR.or {f : Value → Value → Sem Value} {r r' : R2} (h : OpR X f r) (h' : OpR X f r') : OpR X f (fun x y H Q => r x y H Q ∨ r' x y H Q) := fun pins s σ H x y v u Q I rx ry q =>
  q.elim (h pins s σ H x y v u Q I rx ry) (h' pins s σ H x y v u Q I rx ry)
theorem UnR.or {f : Value → Sem Value} {r r' : V → Hp → VK → Prop} (h : UnR X f r) (h' : UnR X f r') : UnR X f (fun x H Q => r x H Q ∨ r' x H Q) := fun pins s σ H x v Q I rx q => q.elim (h pins s σ H x v Q I rx) (h' pins s σ H x v Q I rx)
/-- either of two functions, as the second finds none -/
def orD (f f' : List MO → D → D → Option D) (M : List MO) (x y : D) : Option D := (f M x y).or (f' M x y)
theorem Ok2.or {r r' : R2} {f f' : List MO → D → D → Option D} (h : Ok2 X r f) (h' : Ok2 X r' f') : Ok2 X (fun x y H Q => r x y H Q ∨ r' x y H Q) (orD f f') := fun x y H Z ι M dx dy d Q hr rx ry e q => by
  unfold orD at e
  cases e1 : f M dx dy with
  | some d' =>
    rw [e1] at e
    cases e
    exact .inl (h x y H Z ι M dx dy _ Q hr rx ry e1 q)
  | none =>
    rw [e1] at e
    exact .inr (h' x y H Z ι M dx dy _ Q hr rx ry e q)
/-- how a value without parts is handed on -/
def flatVD : V → Option D
  | .non => some .non
  | .bl b => some (.bl b)
  | .int i => some (.int i)
  | .str x => some (.str x)
  | _ => none
theorem flat_rp {K : PySem.W.Frag} {Z : Hp} {ι : Nat → Addr} {n : Nat} {v : V} {d : D} (h : flatVD v = some d) : Rp K Z ι n d v := by
  cases v with
  | non => cases h; exact .non
  | bl b => cases h; exact .bl b
  | int i => cases h; exact .int i
  | str x => cases h; exact .str x
  | _ => cases h
theorem ok_rI {P : Int → Int → Prop} {gV : Int → Int → V} {c : Int → Int → Bool} {g : Int → Int → D} (hc : ∀ i j, c i j = true → P i j) (hg : ∀ i j, flatVD (gV i j) = some (g i j)) : Ok2 X (rI P gV) (iop c g) := fun x y H Z ι M dx dy d Q hr rx ry e q => by
  cases rx with
  | int i =>
    cases ry with
    | int j =>
      have e' : (if c i j = true then some (g i j) else none) = some d := e
      by_cases hh : c i j = true
      · rw [if_pos hh] at e'
        cases e'
        exact ⟨i, j, rfl, rfl, hc i j hh, q.now hr (flat_rp (hg i j))⟩
      · rw [if_neg hh] at e'
        cases e'
    | _ => cases e
  | _ => cases ry <;> cases e
def yes2 (_ _ : Int) : Bool := true
theorem ok_rI0 {gV : Int → Int → V} {g : Int → Int → D} (hg : ∀ i j, flatVD (gV i j) = some (g i j)) : Ok2 X (rI0 gV) (iop yes2 g) := fun x y H Z ι M dx dy d Q hr rx ry e q => by
  cases rx with
  | int i =>
    cases ry with
    | int j =>
      cases e
      exact ⟨i, j, rfl, rfl, q.now hr (flat_rp (hg i j))⟩
    | _ => cases e
  | _ => cases ry <;> cases e
/-! numbers -/
def dSub := iop yes2 fun i j => .int (i - j)
def mulOk (i j : Int) : Bool := (decide (-(2 ^ 64) < i) && decide (i < 2 ^ 64)) || (decide (-(2 ^ 64) < j) && decide (j < 2 ^ 64)) || decide (i.natAbs.log2 + j.natAbs.log2 < 1000000)
def fdivOk (_ j : Int) : Bool := decide (0 < j) && decide (j.natAbs.log2 < 9000)
def dFdiv := iop fdivOk fun i j => .int (i / j)
def modOk (_ j : Int) : Bool := decide (0 < j)
def dMod := iop modOk fun i j => .int (i % j)
def dMul := iop mulOk fun i j => .int (i * j)
def powOk (i j : Int) : Bool := decide (0 ≤ j) && decide (j ≤ 1000000) && decide (i.natAbs < 2 ^ 64)
def dPow := iop powOk fun i j => .int (i ^ j.toNat)
theorem ok_sub : Ok2 X (rI0 fun i j => .int (i - j)) dSub := ok_rI0 fun _ _ => rfl
theorem ok_fdiv : Ok2 X (rI CDivW fun i j => .int (i / j)) dFdiv := ok_rI (fun i j h => by
  simp only [fdivOk, Bool.and_eq_true, decide_eq_true_eq] at h
  exact h) fun _ _ => rfl
theorem op_modP : OpR X (binaryOp .Mod) (rI (fun _ j => 0 < j) fun i j => .int (i % j)) := fun pins s σ H x y v u Q I rx ry ⟨i, j, h1, h2, h3, q⟩ =>
  op_modN pins s σ H x y v u Q I rx ry ⟨i, j, h1, h2, by omega, by
    have h4 : (0 : Int) < j := h3
    show Q (V.int (i.fmod j)) H
    rw [Int.fmod_eq_emod_of_nonneg i (by omega)]
    exact q⟩
theorem ok_mod : Ok2 X (rI (fun _ j => 0 < j) fun i j => .int (i % j)) dMod := ok_rI (fun i j h => of_decide_eq_true h) fun _ _ => rfl
theorem op_mulA : OpR X (binaryOp .Mult) (rI (fun i j => mulOk i j = true) fun i j => .int (i * j)) := fun pins s σ H x y v u Q I rx ry ⟨i, j, h1, h2, h3, q⟩ => by
  simp only [mulOk, Bool.or_eq_true, Bool.and_eq_true, decide_eq_true_eq] at h3
  rcases h3 with h3 | h3
  · exact op_mul pins s σ H x y v u Q I rx ry ⟨i, j, h1, h2, h3, q⟩
  · exact op_mulW pins s σ H x y v u Q I rx ry ⟨i, j, h1, h2, h3, q⟩
theorem ok_mul : Ok2 X (rI (fun i j => mulOk i j = true) fun i j => .int (i * j)) dMul := ok_rI (fun i j h => h) fun _ _ => rfl
theorem ok_pow : Ok2 X (rI CPow fun i j => .int (i ^ j.toNat)) dPow := ok_rI (fun i j h => by
  simp only [powOk, Bool.and_eq_true, decide_eq_true_eq] at h
  exact ⟨h.1.1, h.1.2, h.2⟩) fun _ _ => rfl
def dLt := iop yes2 fun i j => .bl (decide (i < j))
def dLe := iop yes2 fun i j => .bl (decide (i ≤ j))
def dGt := iop yes2 fun i j => .bl (decide (j < i))
def dGe := iop yes2 fun i j => .bl (decide (j ≤ i))
theorem ok_lt : Ok2 X (rI0 fun i j => .bl (decide (i < j))) dLt := ok_rI0 fun _ _ => rfl
theorem ok_le : Ok2 X (rI0 fun i j => .bl (decide (i ≤ j))) dLe := ok_rI0 fun _ _ => rfl
theorem ok_gt : Ok2 X (rI0 fun i j => .bl (decide (j < i))) dGt := ok_rI0 fun _ _ => rfl
theorem ok_ge : Ok2 X (rI0 fun i j => .bl (decide (j ≤ i))) dGe := ok_rI0 fun _ _ => rfl

/-! adding -/
def catT (_ : List MO) : D → D → Option D
  | .tup a, .tup b => if a.length + b.length ≤ sizeLine then some (.tup (a ++ b)) else none
  | _, _ => none
def catL (M : List MO) (x y : D) : Option D := match listD M x, listD M y with
  | some a, some b => if a.length + b.length ≤ sizeLine then some (.lst (a ++ b)) else none
  | _, _ => none
def addI (M : List MO) : D → D → Option D
  | .int i, .int j => some (.int (i + j))
  | .str x, .str y => if x.length + y.length ≤ sizeLine then some (.str (x ++ y)) else none
  | .tup a, y => catT M (.tup a) y
  | x, y => catL M x y
def dAdd := addI
def rCatS (K : PySem.W.Frag) : R2 := fun x y H Q => ∃ l b xs zs, x = .ref l ∧ y = .ref b ∧ ExL K H l xs ∧ ExL K H b zs ∧ xs.length + zs.length ≤ sizeLine ∧ ∀ p, H p = none → Q (.ref p) (upd H p (.lst (xs ++ zs)))
theorem op_catS : OpR X (binaryOp .Add) (rCatS X.K) := by
  intro pins s σ H x y v u Q I rx ry h
  obtain ⟨l, b, xs, zs, rfl, rfl, hx, hz, hs, q⟩ := h
  cases rx
  cases ry
  obtain ⟨its, m1, r1, e1, _⟩ := hx.at_ I
  obtain ⟨its2, m2, r2, e2, _⟩ := hz.at_ I
  refine PySem.P.add_list e1 e2 ?_ (by rw [List.size_toArray, List.size_toArray, ← r1.length, ← r2.length]; exact hs)
  have ea : its.toArray ++ its2.toArray = (its ++ its2).toArray := by simp
  rw [ea]
  exact ⟨.ref _, _, I.lnew (t' := s.toks) (r1.append r2) (by rw [List.length_append]; exact hs), rfl, q _ I.fresh⟩
abbrev rAdd (K : PySem.W.Frag) : R2 := fun x y H Q => (rI0 (fun i j => .int (i + j)) x y H Q ∨ (∃ i j, x = .str i ∧ y = .str j ∧ i.length + j.length ≤ sizeLine ∧ Q (.str (i ++ j)) H)) ∨ (rCatA K x y H Q ∨ rCatS K x y H Q)
theorem op_addA : OpR X (binaryOp .Add) (rAdd X.K) := (op_add.or op_add_str).or (op_catA.or op_catS)
theorem ok_add : Ok2 X (rAdd X.K) dAdd := fun x y H Z ι M dx dy d Q hr rx ry e q => by
  have lists : ∀ {dx : D}, Rp X.K Z ι M.length dx x → catL M dx dy = some d → rAdd X.K x y H Q := fun {dx} rx e => by
    unfold catL at e
    cases e1 : listD M dx with
    | none => rw [e1] at e; cases e
    | some a =>
      cases e2 : listD M dy with
      | none => rw [e1, e2] at e; cases e
      | some b =>
        rw [e1, e2] at e
        simp only at e
        by_cases c : a.length + b.length ≤ sizeLine
        · rw [if_pos c] at e
          cases e
          obtain ⟨p1, xs, rfl, s1, r1⟩ := listD_run hr rx e1
          obtain ⟨p2, ys, rfl, s2, r2⟩ := listD_run hr ry e2
          exact .inr (.inr ⟨p1, p2, xs, ys, rfl, rfl, s1, s2, by rw [← r1.length, ← r2.length]; exact c, q.lst hr (r1.append r2)⟩)
        · rw [if_neg c] at e
          cases e
  cases rx with
  | int i =>
    cases ry with
    | int j =>
      cases e
      exact .inl (.inl ⟨i, j, rfl, rfl, q.now hr (.int _)⟩)
    | _ => cases e
  | dct s r t => cases e
  | ptu s r => cases e
  | str a =>
    cases ry with
    | str b =>
      have e' : (if a.length + b.length ≤ sizeLine then some (D.str (a ++ b)) else none) = some d := e
      by_cases c : a.length + b.length ≤ sizeLine
      · rw [if_pos c] at e'
        cases e'
        exact .inl (.inr ⟨a, b, rfl, rfl, c, q.now hr (.str _)⟩)
      · rw [if_neg c] at e'
        cases e'
    | _ => cases e
  | tup s1 r1 =>
    rename_i a p1 xs
    cases ry with
    | tup s2 r2 =>
      rename_i b p2 ys
      have e' : (if a.length + b.length ≤ sizeLine then some (D.tup (a ++ b)) else none) = some d := e
      by_cases c : a.length + b.length ≤ sizeLine
      · rw [if_pos c] at e'
        cases e'
        refine .inr (.inl ⟨p1, p2, xs, ys, rfl, rfl, subT hr.sub s1, subT hr.sub s2, by rw [← r1.length, ← r2.length]; exact c, fun z => ?_, fun _ z => ?_, fun _ _ => q.tup hr (r1.append r2)⟩)
        · have : a = [] := List.length_eq_zero_iff.mp (by rw [r1.length, z]; rfl)
          subst this
          exact q.now hr (.tup s2 r2)
        · have : b = [] := List.length_eq_zero_iff.mp (by rw [r2.length, z]; rfl)
          subst this
          rw [List.append_nil] at q
          exact q.now hr (.tup s1 r1)
      · rw [if_neg c] at e'
        cases e'
    | _ => cases e
  | lst s1 r1 => exact lists (.lst s1 r1) e
  | ref hk => exact lists (.ref hk) e
  | non => cases ry <;> cases e
  | bl b => cases ry <;> cases e

/-! is None -/
def dIsN (_ : List MO) : D → D → Option D
  | .non, .non => some (.bl true)
  | _, .non => some (.bl false)
  | _, _ => none
def dNotN (_ : List MO) : D → D → Option D
  | .non, .non => some (.bl false)
  | _, .non => some (.bl true)
  | _, _ => none
theorem ok_isN : Ok2 X (fun x y H Q => y = .non ∧ Q (.bl (decide (x = .non))) H) dIsN := fun x y H Z ι M dx dy d Q hr rx ry e q => by
  cases ry with
  | non =>
    refine ⟨rfl, ?_⟩
    cases rx with
    | non =>
      cases e
      exact q.now hr (.bl true)
    | _ =>
      cases e
      exact q.now hr (.bl false)
  | _ => cases rx <;> cases e
theorem ok_notN : Ok2 X (fun x y H Q => y = .non ∧ Q (.bl (!decide (x = .non))) H) dNotN := fun x y H Z ι M dx dy d Q hr rx ry e q => by
  cases ry with
  | non =>
    refine ⟨rfl, ?_⟩
    cases rx with
    | non =>
      cases e
      exact q.now hr (.bl false)
    | _ =>
      cases e
      exact q.now hr (.bl true)
  | _ => cases rx <;> cases e

/-! equal data -/
mutual
/-- data without refs -/
def toP : D → Option PyData
  | .non => some .none
  | .bl b => some (.bool b)
  | .int i => some (.int i)
  | .str x => some (.str x)
  | .tup ds => (toPs ds).map .tuple
  | .lst ds => (toPs ds).map .list
  | .ref _ => none
  | .dct _ _ => none
  | .ptu ds => (toPs ds).map .tuple
def toPs : List D → Option (List PyData)
  | [] => some []
  | d :: ds => match toP d, toPs ds with
    | some p, some ps => some (p :: ps)
    | _, _ => none
end
/-- a list of ours, and those in it, as they stand -/
def deref1 (M : List MO) : D → D
  | .ref k => match M[k]? with
    | some (.lst ds) => .lst ds
    | _ => .ref k
  | d => d
def deref (M : List MO) (d : D) : D := match deref1 M d with
  | .lst ds => .lst (ds.map (deref1 M))
  | d => d
section
variable {K : PySem.W.Frag} {H Z : Hp} {ι : Nat → Addr} {n : Nat} {M : List MO}
mutual
theorem toP_dp (hs : Sub Z H) : ∀ (d : D) (v : V) (p : PyData), Rp K Z ι n d v → toP d = some p → Dp K H v p
  | .non, _, p, h, e => by cases h; cases e; exact .non
  | .bl b, _, p, h, e => by cases h; cases e; exact .bl b
  | .int i, _, p, h, e => by cases h; cases e; exact .int i
  | .str x, _, p, h, e => by cases h; cases e; exact .str x
  | .tup ds, _, p, h, e => by
    cases h with
    | tup s r =>
      have e' : (toPs ds).map PyData.tuple = some p := e
      cases e2 : toPs ds with
      | none => rw [e2] at e'; cases e'
      | some ps =>
        rw [e2] at e'
        cases e'
        exact .tup (subT hs s) (toPs_dp hs ds _ ps r e2)
  | .lst ds, _, p, h, e => by
    cases h with
    | lst s r =>
      have e' : (toPs ds).map PyData.list = some p := e
      cases e2 : toPs ds with
      | none => rw [e2] at e'; cases e'
      | some ps =>
        rw [e2] at e'
        cases e'
        exact .lst (subL hs s).sq (toPs_dp hs ds _ ps r e2)
  | .ref k, _, p, h, e => by cases e
  | .dct _ _, _, p, h, e => by cases e
  | .ptu ds, _, p, h, e => by
    cases h with
    | ptu s r =>
      have e' : (toPs ds).map PyData.tuple = some p := e
      cases e2 : toPs ds with
      | none => rw [e2] at e'; cases e'
      | some ps =>
        rw [e2] at e'
        cases e'
        exact .tup (subT hs s.sq) (toPs_dp hs ds _ ps r e2)
theorem toPs_dp (hs : Sub Z H) : ∀ (ds : List D) (vs : List V) (ps : List PyData), Rps K Z ι n ds vs → toPs ds = some ps → DpAll K H vs ps
  | [], _, ps, h, e => by cases h; cases e; exact .nil
  | d :: ds, _, ps, h, e => by
    cases h with
    | cons r rs =>
      have e' : (match toP d, toPs ds with
        | some p, some ps => some (p :: ps)
        | _, _ => none) = some ps := e
      cases e1 : toP d with
      | none => rw [e1] at e'; cases e'
      | some p =>
        cases e2 : toPs ds with
        | none => rw [e1, e2] at e'; cases e'
        | some qs =>
          rw [e1, e2] at e'
          cases e'
          exact .cons (toP_dp hs d _ p r e1) (toPs_dp hs ds _ qs rs e2)
end
theorem deref1_dp (hr : HR K H Z ι M) {d : D} {v : V} {p : PyData} (r : Rp K Z ι M.length d v) (e : toP (deref1 M d) = some p) : Dp K H v p := by
  cases r with
  | ref hk =>
    rename_i k
    have e' : toP (match M[k]? with
      | some (.lst ds) => .lst ds
      | _ => .ref k) = some p := e
    cases e1 : M[k]? with
    | none => rw [e1] at e'; cases e'
    | some o =>
      rw [e1] at e'
      cases o with
      | dead => cases e'
      | dct ks0 vs0 => cases e'
      | dki kvs0 => cases e'
      | obj nm fs => cases e'
      | lst ds =>
        have e2 : (toPs ds).map PyData.list = some p := e'
        obtain ⟨xs, h1, r1⟩ := hr.obj k _ e1
        cases e3 : toPs ds with
        | none => rw [e3] at e2; cases e2
        | some ps =>
          rw [e3] at e2
          cases e2
          exact .lst (.of h1) (toPs_dp hr.sub ds _ ps r1 e3)
  | non => exact toP_dp (ι := ι) (n := M.length) hr.sub _ _ _ .non e
  | bl b => exact toP_dp (ι := ι) (n := M.length) hr.sub _ _ _ (.bl b) e
  | int i => exact toP_dp (ι := ι) (n := M.length) hr.sub _ _ _ (.int i) e
  | str x => exact toP_dp (ι := ι) (n := M.length) hr.sub _ _ _ (.str x) e
  | tup s r => exact toP_dp hr.sub _ _ _ (.tup s r) e
  | dct s r t => cases e
  | ptu s r => exact toP_dp hr.sub _ _ _ (.ptu s r) e
  | lst s r => exact toP_dp hr.sub _ _ _ (.lst s r) e
theorem deref1s_dp (hr : HR K H Z ι M) : ∀ {ds : List D} {vs : List V} {ps : List PyData}, Rps K Z ι M.length ds vs → toPs (ds.map (deref1 M)) = some ps → DpAll K H vs ps
  | [], _, ps, h, e => by cases h; cases e; exact .nil
  | d :: ds, _, ps, h, e => by
    cases h with
    | cons r rs =>
      have e' : (match toP (deref1 M d), toPs (ds.map (deref1 M)) with
        | some p, some ps => some (p :: ps)
        | _, _ => none) = some ps := e
      cases e1 : toP (deref1 M d) with
      | none => rw [e1] at e'; cases e'
      | some p =>
        cases e2 : toPs (ds.map (deref1 M)) with
        | none => rw [e1, e2] at e'; cases e'
        | some qs =>
          rw [e1, e2] at e'
          cases e'
          exact .cons (deref1_dp hr r e1) (deref1s_dp hr rs e2)
theorem deref_dp (hr : HR K H Z ι M) {d : D} {v : V} {p : PyData} (r : Rp K Z ι M.length d v) (e : toP (deref M d) = some p) : Dp K H v p := by
  have two : ∀ {ds : List D} {a : Addr} {xs : List V}, SqL K H a xs → Rps K Z ι M.length ds xs → toP (.lst (ds.map (deref1 M))) = some p → Dp K H (.ref a) p := fun {ds a xs} s r e => by
    have e' : (toPs (ds.map (deref1 M))).map PyData.list = some p := e
    cases e2 : toPs (ds.map (deref1 M)) with
    | none => rw [e2] at e'; cases e'
    | some ps =>
      rw [e2] at e'
      cases e'
      exact .lst s (deref1s_dp hr r e2)
  cases r with
  | lst s r => exact two (subL hr.sub s).sq r e
  | ref hk =>
    rename_i k
    cases e1 : M[k]? with
    | none =>
      have : deref M (.ref k) = .ref k := by simp [deref, deref1, e1]
      rw [this] at e
      cases e
    | some o =>
      cases o with
      | dead =>
        have : deref M (.ref k) = .ref k := by simp [deref, deref1, e1]
        rw [this] at e
        cases e
      | dct ks0 vs0 =>
        have : deref M (.ref k) = .ref k := by simp [deref, deref1, e1]
        rw [this] at e
        cases e
      | dki kvs0 =>
        have : deref M (.ref k) = .ref k := by simp [deref, deref1, e1]
        rw [this] at e
        cases e
      | obj nm fs =>
        have : deref M (.ref k) = .ref k := by simp [deref, deref1, e1]
        rw [this] at e
        cases e
      | lst ds =>
        have : deref M (.ref k) = .lst (ds.map (deref1 M)) := by simp [deref, deref1, e1]
        rw [this] at e
        obtain ⟨xs, h1, r1⟩ := hr.obj k _ e1
        exact two (.of h1) r1 e
  | non => exact toP_dp (ι := ι) (n := M.length) hr.sub _ _ _ .non e
  | bl b => exact toP_dp (ι := ι) (n := M.length) hr.sub _ _ _ (.bl b) e
  | int i => exact toP_dp (ι := ι) (n := M.length) hr.sub _ _ _ (.int i) e
  | str x => exact toP_dp (ι := ι) (n := M.length) hr.sub _ _ _ (.str x) e
  | tup s r => exact toP_dp hr.sub _ _ _ (.tup s r) e
  | dct s r t => cases e
  | ptu s r => exact toP_dp hr.sub _ _ _ (.ptu s r) e
end
def eqP (M : List MO) (x y : D) : Option Bool := match toP (deref M x), toP (deref M y) with
  | some p, some q => if (SeqAt.shaped p && SeqAt.shaped q) = true then some (PyData.eqv p q) else none
  | _, _ => none
def dEq (M : List MO) (x y : D) : Option D := (eqP M x y).map D.bl
def dNe (M : List MO) (x y : D) : Option D := (eqP M x y).map fun b => D.bl (!b)
theorem eqP_run {K : PySem.W.Frag} {H Z : Hp} {ι : Nat → Addr} {M : List MO} {dx dy : D} {x y : V} {b : Bool} (hr : HR K H Z ι M) (rx : Rp K Z ι M.length dx x) (ry : Rp K Z ι M.length dy y) (e : eqP M dx dy = some b) :
    ∃ p q, Dp K H x p ∧ Dp K H y q ∧ SeqAt.shaped p = true ∧ SeqAt.shaped q = true ∧ PyData.eqv p q = b := by
  unfold eqP at e
  cases e1 : toP (deref M dx) with
  | none => rw [e1] at e; cases e
  | some p =>
    cases e2 : toP (deref M dy) with
    | none => rw [e1, e2] at e; cases e
    | some q =>
      rw [e1, e2] at e
      simp only at e
      by_cases c : (SeqAt.shaped p && SeqAt.shaped q) = true
      · rw [if_pos c] at e
        rw [Bool.and_eq_true] at c
        exact ⟨p, q, deref_dp hr rx e1, deref_dp hr ry e2, c.1, c.2, Option.some.inj e⟩
      · rw [if_neg c] at e
        cases e
theorem ok_eq : Ok2 X (rEqD X.K) dEq := fun x y H Z ι M dx dy d Q hr rx ry e q => by
  unfold dEq at e
  cases e1 : eqP M dx dy with
  | none => rw [e1] at e; cases e
  | some b =>
    rw [e1] at e
    cases e
    obtain ⟨p, p', h1, h2, h3, h4, h5⟩ := eqP_run hr rx ry e1
    exact ⟨p, p', h1, h2, h3, h4, by rw [h5]; exact q.now hr (.bl b)⟩
theorem ok_ne : Ok2 X (rNeD X.K) dNe := fun x y H Z ι M dx dy d Q hr rx ry e q => by
  unfold dNe at e
  cases e1 : eqP M dx dy with
  | none => rw [e1] at e; cases e
  | some b =>
    rw [e1] at e
    cases e
    obtain ⟨p, p', h1, h2, h3, h4, h5⟩ := eqP_run hr rx ry e1
    exact ⟨p, p', h1, h2, h3, h4, by rw [h5]; exact q.now hr (.bl _)⟩
end
end Bk

set_option Elab.async false
set_option linter.all false
set_option maxRecDepth 100000
set_option maxHeartbeats 2000000
namespace Bk
open PySem PySem.Spec PyProof.Rows L2
section
variable {X : Cx}
/-! a list times a number -/
def rRepS (K : PySem.W.Frag) : R2 := fun x y H Q => ∃ l k xs, x = .ref l ∧ y = .int k ∧ ExL K H l xs ∧ -(2 ^ 63) ≤ k ∧ k < 2 ^ 63 ∧ xs.length * k.toNat ≤ sizeLine ∧ ∀ p, H p = none → Q (.ref p) (upd H p (.lst (List.replicate k.toNat xs).flatten))
theorem op_repS : OpR X (binaryOp .Mult) (rRepS X.K) := by
  intro pins s σ H x y v u Q I rx ry h
  obtain ⟨l, k, xs, rfl, rfl, hx, k1, k2, hz, q⟩ := h
  cases rx
  obtain ⟨tk, rfl⟩ := ry
  obtain ⟨its, m, rv, eo, _⟩ := hx.at_ I
  have hl := rv.length
  have size : its.toArray.size * k.toNat ≤ sizeLine := by rw [List.size_toArray, ← hl]; exact hz
  have cap : ¬ its.toArray.size * k.toNat > (2 ^ 63 - 1) / 8 := Nat.not_lt.mpr (Nat.le_trans size (by decide))
  have fit : ¬ (!Builtin.List.listFitsIndex k) = true := by
    rw [fitsIndex_both k1 k2]
    exact Bool.false_ne_true
  have long : ¬ Builtin.List.listTooLong (its.toArray.size * k.toNat) = true := by
    rw [notLongL size]
    exact Bool.false_ne_true
  have made : List.foldl (fun a b => a ++ b) #[] (List.replicate (if its.toArray.isEmpty = true then 0 else k.toNat) its.toArray) = (List.replicate k.toNat its).flatten.toArray := by
    have any : ∀ j : Nat, List.foldl (fun a b => a ++ b) #[] (List.replicate j its.toArray) = (List.replicate j its).flatten.toArray := fun j => by simpa using foldl_rep its j []
    rw [any]
    cases its with
    | nil => simp
    | cons a r' => simp
  refine wpAny_binaryOp_repeat_ref (T := "list") (U := "int") (by decide) ⟨_, eo, rfl⟩ (fun s' => typeIs_int s' k tk) noFill_list_mul F.fills_int_mul F.slot_int_rmul repeat_list F.slot_int_index.lookup ?_
  refine call_meets F.slot_int_rmul (typeIs_int s k tk) F.entry_int_rmul (F.args_int_rmul_2 _ _) (int___rmul___int_list k tk l its.toArray m) ⟨eo, rfl, ⟨_, eo, rfl⟩, ?_⟩
  refine call_meets F.slot_list_mul ⟨_, eo, rfl⟩ F.entry_list_mul (F.args_list_mul_2 _ _) (AutoListH.list___mul___list_int_3 l its.toArray m k tk fit cap long) ⟨eo, ?_⟩
  rw [made]
  exact ⟨.ref _, _, I.lnew (t' := s.toks) (rv.rep k.toNat) (by rw [PyProof.Rows.lm_len_rep_flat, Nat.mul_comm]; exact hz), rfl, q _ I.fresh⟩
def repI (M : List MO) (x : D) : D → Option D
  | .int k => match listD M x with
    | some a => if decide (k < 2 ^ 63) && decide (-(2 ^ 63) ≤ k) && decide (a.length * k.toNat ≤ sizeLine) then some (.lst (List.replicate k.toNat a).flatten) else none
    | none => none
  | _ => none
def dMulA (M : List MO) : D → D → Option D
  | .int i, y => dMul M (.int i) y
  | x, y => repI M x y
abbrev rMulA (K : PySem.W.Frag) : R2 := fun x y H Q => rI (fun i j => mulOk i j = true) (fun i j => .int (i * j)) x y H Q ∨ rRepS K x y H Q
theorem op_mulL : OpR X (binaryOp .Mult) (rMulA X.K) := op_mulA.or op_repS
theorem ok_mulL : Ok2 X (rMulA X.K) dMulA := fun x y H Z ι M dx dy d Q hr rx ry e q => by
  have lists : ∀ {dx : D}, Rp X.K Z ι M.length dx x → repI M dx dy = some d → rMulA X.K x y H Q := fun {dx} rx e => by
    cases ry with
    | int k =>
      have e' : (match listD M dx with
        | some a => if decide (k < 2 ^ 63) && decide (-(2 ^ 63) ≤ k) && decide (a.length * k.toNat ≤ sizeLine) then some (D.lst (List.replicate k.toNat a).flatten) else none
        | none => none) = some d := e
      cases e1 : listD M dx with
      | none => rw [e1] at e'; cases e'
      | some a =>
        rw [e1] at e'
        simp only at e'
        by_cases c : (decide (k < 2 ^ 63) && decide (-(2 ^ 63) ≤ k) && decide (a.length * k.toNat ≤ sizeLine)) = true
        · rw [if_pos c] at e'
          cases e'
          simp only [Bool.and_eq_true, decide_eq_true_eq] at c
          obtain ⟨p1, xs, rfl, s1, r1⟩ := listD_run hr rx e1
          exact .inr ⟨p1, k, xs, rfl, rfl, s1, c.1.2, c.1.1, by rw [← r1.length]; exact c.2, q.lst hr (r1.rep k.toNat)⟩
        · rw [if_neg c] at e'
          cases e'
    | _ => cases e
  cases rx with
  | dct s_ r_ t_ => first | (cases e; done) | (cases hd; done) | (cases h; done) | (cases h1; done) | (cases e1; done) | (cases h'; done) | (cases ei; done) | (cases e'; done) | exact h.elim | exact h1.elim | exact h2.elim | exact .inl (lists (.dct s_ r_ t_) hd) | exact lists (.dct s_ r_ t_) e
  | ptu s_ r_ => first | exact seqs (.ptu s_ r_) e | (cases e; exact .base (.tup (subT hr.sub s_.sq))) | (cases e; done) | (cases hd; done) | (cases h; done) | (cases h1; done) | (cases e1; done) | (cases h'; done) | (cases ei; done) | (cases e'; done) | exact h.elim | exact h1.elim | exact h2.elim | exact .inl (lists (.ptu s_ r_) hd) | exact lists (.ptu s_ r_) e
  | int i => exact .inl (ok_mul (X := X) _ _ H Z ι M _ _ d Q hr (.int i) ry e q)
  | lst s1 r1 => exact lists (.lst s1 r1) e
  | ref hk => exact lists (.ref hk) e
  | tup s1 r1 => exact lists (.tup s1 r1) e
  | non => exact lists .non e
  | bl b => exact lists (.bl b) e
  | str b => exact lists (.str b) e
/-! minus -/
def dNeg (_ : List MO) : D → Option D
  | .int i => some (.int (-i))
  | _ => none
theorem ok_neg : Ok1 X (rU fun i => .int (-i)) dNeg := fun x H Z ι M dx d Q hr rx e q => by
  cases rx with
  | int i =>
    cases e
    exact ⟨i, rfl, q.now hr (.int _)⟩
  | _ => cases e
/-! items -/
def dIx (M : List MO) (x : D) : D → Option D
  | .int i => (itemsD M x).bind fun ds => atI ds i
  | _ => none
theorem atI_rp {K : PySem.W.Frag} {Z : Hp} {ι : Nat → Addr} {n : Nat} {ds : List D} {vs : List V} {i : Int} {d : D} (r : Rps K Z ι n ds vs) (h : atI ds i = some d) : ∃ v, atI vs i = some v ∧ Rp K Z ι n d v := by
  unfold atI at h
  cases e : ixN ds.length i with
  | none => rw [e] at h; cases h
  | some j =>
    rw [e] at h
    obtain ⟨v, h1, h2⟩ := r.get (i := j) h
    refine ⟨v, ?_, h2⟩
    unfold atI
    rw [← r.length, e]
    exact h1
abbrev rIxA (K : PySem.W.Frag) : R2 := fun x y H Q => rIxL K x y H Q ∨ rIxT K x y H Q
theorem ix_A : IxR X (rIxA X.K) := ix_list.or ix_tup
theorem ok_ix : Ok2 X (rIxA X.K) dIx := fun x y H Z ι M dx dy d Q hr rx ry e q => by
  cases ry with
  | int i =>
    have e' : (itemsD M dx).bind (fun ds => atI ds i) = some d := e
    cases e1 : itemsD M dx with
    | none => rw [e1] at e'; cases e'
    | some ds =>
      rw [e1] at e'
      obtain ⟨a, xs, rfl, s, r⟩ := itemsD_run hr rx e1
      obtain ⟨v, h1, h2⟩ := atI_rp r e'
      rcases s with s | s
      · exact .inl ⟨a, xs, i, v, rfl, rfl, s.sq, h1, q.now hr h2⟩
      · exact .inr ⟨a, xs, i, v, rfl, rfl, s, h1, q.now hr h2⟩
  | _ => cases e
/-! in -/
def toV : D → Option V
  | .non => some .non
  | .bl b => some (.bl b)
  | .int i => some (.int i)
  | .str x => some (.str x)
  | _ => none
def toVs : List D → Option (List V)
  | [] => some []
  | d :: ds => match toV d, toVs ds with
    | some v, some vs => some (v :: vs)
    | _, _ => none
theorem toV_is {K : PySem.W.Frag} {Z : Hp} {ι : Nat → Addr} {n : Nat} {d : D} {v w : V} (r : Rp K Z ι n d v) (h : toV d = some w) : v = w ∧ flatV v = true := by
  cases r with
  | non => cases h; exact ⟨rfl, rfl⟩
  | bl b => cases h; exact ⟨rfl, rfl⟩
  | int i => cases h; exact ⟨rfl, rfl⟩
  | str x => cases h; exact ⟨rfl, rfl⟩
  | _ => cases h
theorem toVs_is {K : PySem.W.Frag} {Z : Hp} {ι : Nat → Addr} {n : Nat} : ∀ {ds : List D} {vs ws : List V}, Rps K Z ι n ds vs → toVs ds = some ws → vs = ws ∧ vs.all flatV = true
  | [], _, _, r, h => by cases r; cases h; exact ⟨rfl, rfl⟩
  | d :: ds, _, _, r, h => by
    cases r with
    | cons r rs =>
      have h' : (match toV d, toVs ds with
        | some v, some vs => some (v :: vs)
        | _, _ => none) = some _ := h
      cases e1 : toV d with
      | none => rw [e1] at h'; cases h'
      | some v =>
        cases e2 : toVs ds with
        | none => rw [e1, e2] at h'; cases h'
        | some vs =>
          rw [e1, e2] at h'
          cases h'
          obtain ⟨a1, a2⟩ := toV_is r e1
          obtain ⟨b1, b2⟩ := toVs_is rs e2
          exact ⟨by rw [a1, b1], by simp [a2, b2]⟩
def inP (M : List MO) (x y : D) : Option Bool := match toV x, (itemsD M y).bind toVs with
  | some v, some vs => some (inV v vs)
  | _, _ => none
def dIn (M : List MO) (x y : D) : Option D := (inP M x y).map D.bl
def dNotIn (M : List MO) (x y : D) : Option D := (inP M x y).map fun b => D.bl (!b)
theorem inP_run {K : PySem.W.Frag} {H Z : Hp} {ι : Nat → Addr} {M : List MO} {dx dy : D} {x y : V} {b : Bool} (hr : HR K H Z ι M) (rx : Rp K Z ι M.length dx x) (ry : Rp K Z ι M.length dy y) (e : inP M dx dy = some b) :
    ∃ p xs, y = .ref p ∧ (SqL K H p xs ∨ SqT K H p xs) ∧ flatV x = true ∧ xs.all flatV = true ∧ inV x xs = b := by
  unfold inP at e
  cases e1 : toV dx with
  | none => rw [e1] at e; cases e
  | some v =>
    cases e2 : itemsD M dy with
    | none => rw [e1, e2] at e; cases e
    | some ds =>
      cases e3 : toVs ds with
      | none => rw [e1, e2, Option.bind_some, e3] at e; cases e
      | some vs =>
        rw [e1, e2, Option.bind_some, e3] at e
        cases e
        obtain ⟨a1, a2⟩ := toV_is rx e1
        obtain ⟨p, xs, rfl, s, r⟩ := itemsD_run hr ry e2
        obtain ⟨b1, b2⟩ := toVs_is r e3
        subst a1 b1
        exact ⟨p, _, rfl, s.elim (fun s => .inl s.sq) .inr, a2, b2, rfl⟩
theorem ok_in : Ok2 X (rIn X.K false) dIn := fun x y H Z ι M dx dy d Q hr rx ry e q => by
  unfold dIn at e
  cases e1 : inP M dx dy with
  | none => rw [e1] at e; cases e
  | some b =>
    rw [e1] at e
    cases e
    obtain ⟨p, xs, h1, h2, h3, h4, h5⟩ := inP_run hr rx ry e1
    exact ⟨p, xs, h1, h2, h3, h4, by rw [h5]; exact q.now hr (.bl b)⟩
theorem ok_notIn : Ok2 X (rIn X.K true) dNotIn := fun x y H Z ι M dx dy d Q hr rx ry e q => by
  unfold dNotIn at e
  cases e1 : inP M dx dy with
  | none => rw [e1] at e; cases e
  | some b =>
    rw [e1] at e
    cases e
    obtain ⟨p, xs, h1, h2, h3, h4, h5⟩ := inP_run hr rx ry e1
    exact ⟨p, xs, h1, h2, h3, h4, by rw [h5]; exact q.now hr (.bl _)⟩
/-! slices -/
abbrev GO := Env → List MO → R (Option Int)
abbrev rpO : RpK (Option Int) (Option Int) := fun _ _ _ a b => a = b
def QO (X : Cx) (C : CT) (W : WX) (e : Option Expr) (g : GO) : Prop := ∃ te, PO X e te ∧ ∀ (σ : St) (H Z : Hp) (ι : Nat → Addr) (Γ : Env) (M : List MO) (Q : Option Int → Hp → Prop), Slots X.K Z ι M.length Γ σ → HR X.K H Z ι M → Post X C W rpO σ H Z ι M (g Γ M) Q → te σ H Q
def gNoO : GO := fun _ M => .ok none M
def toI : D → Option Int
  | .int i => some i
  | _ => none
def gO (ge : GE) : GO := fun Γ M => (ge Γ M).bind fun d M1 => opR ((toI d).map some) M1
variable {C : CT} {W : WX}
theorem qo_none : QO X C W none gNoO := ⟨_, po_none, fun σ H Z ι Γ M Q sl hr h => h none H Z ι .refl hr rfl⟩
theorem qo_some {e : Expr} {g : GE} (h : QE X C W e g) : QO X C W (some e) (gO g) := by
  obtain ⟨t, p, q⟩ := h
  refine ⟨_, po_some p, fun σ H Z ι Γ M Q sl hr h => q σ H Z ι Γ M _ sl hr (h.bind fun x M1 v H1 Z1 ι1 e1 hr1 r1 h1 => ?_)⟩
  cases r1 with
  | int i => exact ⟨i, rfl, h1 _ H1 Z1 ι1 .refl hr1 rfl⟩
  | _ => exact h1.elim
def cutD (ds : List D) (lo hi : Option Int) : List D := (ds.drop (HT.sIx ds.length 0 lo)).take (HT.sIx ds.length ds.length hi - HT.sIx ds.length 0 lo)
def dCut (M : List MO) (lo hi : Option Int) : D → Option D
  | .tup ds => some (.tup (cutD ds lo hi))
  | d => (listD M d).map fun ds => .lst (cutD ds lo hi)
def gSl (ge : GE) (lo hi : GO) : GE := fun Γ M => (ge Γ M).bind fun x M1 => (lo Γ M1).bind fun a M2 => (hi Γ M2).bind fun b M3 => opR (dCut M3 a b x) M3
theorem cut_rps {K : PySem.W.Frag} {Z : Hp} {ι : Nat → Addr} {n : Nat} {ds : List D} {vs : List V} (r : Rps K Z ι n ds vs) (lo hi : Option Int) : Rps K Z ι n (cutD ds lo hi) (cutV vs lo hi) := by
  unfold cutD cutV
  rw [r.length]
  exact (r.drop _).take _
theorem qe_slice {e : Expr} {lo hi : Option Expr} {g : GE} {gl gh : GO} {pos p2 : Pos} (he : QE X C W e g) (hl : QO X C W lo gl) (hh : QO X C W hi gh) : QE X C W (.Subscript e (.Slice lo hi none p2) pos) (gSl g gl gh) := by
  obtain ⟨t, p, q⟩ := he
  obtain ⟨tl, pl, ql⟩ := hl
  obtain ⟨th, ph, qh⟩ := hh
  refine ⟨_, pe_slice (sl_list.or sl_tupA) p pl ph, fun σ H Z ι Γ M Q sl hr h => q σ H Z ι Γ M _ sl hr (h.bind fun x M1 v H1 Z1 ι1 e1 hr1 r1 h1 => ql σ H1 Z1 ι1 Γ M1 _ (sl.ext e1) hr1 (h1.bind fun a M2 a' H2 Z2 ι2 e2 hr2 ra h2 =>
    qh σ H2 Z2 ι2 Γ M2 _ ((sl.ext e1).ext e2) hr2 (h2.bind fun b M3 b' H3 Z3 ι3 e3 hr3 rb h3 => ?_)))⟩
  have ra' : a = a' := ra
  have rb' : b = b' := rb
  subst ra' rb'
  obtain ⟨d, hd, h4⟩ := Post.of_opR (γ := D) (δ := V) h3
  have r3 := (r1.ext e2).ext e3
  have q3 := h4.after
  have lists : ∀ {dx : D}, Rp X.K Z3 ι3 M3.length dx v → (listD M3 dx).map (fun ds => D.lst (cutD ds a b)) = some d → rSlL X.K v a b H3 Q := fun {dx} rx e => by
    cases e1 : listD M3 dx with
    | none => rw [e1] at e; cases e
    | some ds =>
      rw [e1] at e
      cases e
      obtain ⟨p1, xs, rfl, s1, r1⟩ := listD_run hr3 rx e1
      exact ⟨p1, xs, rfl, s1.sq, q3.lst hr3 (cut_rps r1 a b)⟩
  cases r3 with
  | dct s_ r_ t_ => first | (cases e; done) | (cases hd; done) | (cases h; done) | (cases h1; done) | (cases e1; done) | (cases h'; done) | (cases ei; done) | (cases e'; done) | exact h.elim | exact h1.elim | exact h2.elim | exact .inl (lists (.dct s_ r_ t_) hd) | exact lists (.dct s_ r_ t_) e
  | ptu s_ r_ => first | exact seqs (.ptu s_ r_) e | (cases e; exact .base (.tup (subT hr.sub s_.sq))) | (cases e; done) | (cases hd; done) | (cases h; done) | (cases h1; done) | (cases e1; done) | (cases h'; done) | (cases ei; done) | (cases e'; done) | exact h.elim | exact h1.elim | exact h2.elim | exact .inl (lists (.ptu s_ r_) hd) | exact lists (.ptu s_ r_) e
  | tup s r =>
    rename_i ds a0 xs
    cases hd
    refine .inr ⟨a0, xs, rfl, subT hr3.sub s, fun z => ?_, fun _ => q3.tup hr3 (cut_rps r a b)⟩
    have ec : cutD ds a b = ds := by
      unfold cutD
      rw [r.length, z.1, z.2, List.drop_zero, Nat.sub_zero, ← r.length, List.take_length]
    rw [ec] at q3
    exact q3.now hr3 (.tup s r)
  | lst s r => exact .inl (lists (.lst s r) hd)
  | ref hk => exact .inl (lists (.ref hk) hd)
  | non => cases hd
  | bl b => cases hd
  | int b => cases hd
  | str b => cases hd
end
end Bk

set_option Elab.async false
set_option linter.all false
set_option maxRecDepth 100000
set_option maxHeartbeats 2000000
namespace Bk
open PySem PySem.Spec PyProof.Rows L2
section
variable {X : Cx}
theorem rps1 {K : PySem.W.Frag} {Z : Hp} {ι : Nat → Addr} {n : Nat} {d : D} {vs : List V} (r : Rps K Z ι n [d] vs) : ∃ v, vs = [v] ∧ Rp K Z ι n d v := by
  cases r with
  | cons r rs =>
    cases rs
    exact ⟨_, rfl, r⟩
theorem rps2 {K : PySem.W.Frag} {Z : Hp} {ι : Nat → Addr} {n : Nat} {d e : D} {vs : List V} (r : Rps K Z ι n [d, e] vs) : ∃ v u, vs = [v, u] ∧ Rp K Z ι n d v ∧ Rp K Z ι n e u := by
  cases r with
  | cons r rs =>
    obtain ⟨u, rfl, r2⟩ := rps1 rs
    exact ⟨_, u, rfl, r, r2⟩
/-- a function of one argument -/
def fn1 (f : List MO → D → Option D) (M : List MO) : List D → Option D
  | [d] => f M d
  | _ => none
theorem OkA.of1 {r : List V → Hp → VK → Prop} {f : List MO → D → Option D} (h : Ok1 X (fun x H Q => r [x] H Q) f) : OkA X r (fn1 f) := fun xs H Z ι M ds d Q hr rx e q => by
  match ds, e, rx with
  | [d0], e, rx =>
    obtain ⟨v, rfl, r1⟩ := rps1 rx
    exact h v H Z ι M d0 d Q hr r1 e q
def fn2 (f : List MO → D → D → Option D) (M : List MO) : List D → Option D
  | [d, e] => f M d e
  | _ => none
theorem OkA.of2 {r : List V → Hp → VK → Prop} {f : List MO → D → D → Option D} (h : Ok2 X (fun x y H Q => r [x, y] H Q) f) : OkA X r (fn2 f) := fun xs H Z ι M ds d Q hr rx e q => by
  match ds, e, rx with
  | [d0, d1], e, rx =>
    obtain ⟨v, u, rfl, r1, r2⟩ := rps2 rx
    exact h v u H Z ι M d0 d1 d Q hr r1 r2 e q
/-! len -/
def dLen (M : List MO) : D → Option D
  | .str x => if x.length ≤ sizeLine then some (.int x.length) else none
  | d => (itemsD M d).map fun ds => .int ds.length
theorem ok_len : Ok1 X (fun x H Q => ∃ x' n, [x] = [x'] ∧ LenV X.K x' H n ∧ Q (.int n) H) dLen := fun x H Z ι M dx d Q hr rx e q => by
  have seqs : ∀ {dx : D}, Rp X.K Z ι M.length dx x → (itemsD M dx).map (fun ds => D.int ds.length) = some d → ∃ x' n, [x] = [x'] ∧ LenV X.K x' H n ∧ Q (.int n) H := fun {dx} rx e => by
    cases e1 : itemsD M dx with
    | none => rw [e1] at e; cases e
    | some ds =>
      rw [e1] at e
      cases e
      obtain ⟨a, xs, rfl, s, r⟩ := itemsD_run hr rx e1
      refine ⟨_, xs.length, rfl, ?_, by rw [← r.length]; exact q.now hr (.int _)⟩
      rcases s with s | s
      · exact .inl ⟨xs, s.sq, rfl⟩
      · exact .inr ⟨xs, s, rfl⟩
  cases rx with
  | dct s_ r_ t_ => first | (cases e; done) | (cases hd; done) | (cases h; done) | (cases h1; done) | (cases e1; done) | (cases h'; done) | (cases ei; done) | (cases e'; done) | exact h.elim | exact h1.elim | exact h2.elim | exact .inl (lists (.dct s_ r_ t_) hd) | exact lists (.dct s_ r_ t_) e
  | ptu s_ r_ => first | exact seqs (.ptu s_ r_) e | (cases e; exact .base (.tup (subT hr.sub s_.sq))) | (cases e; done) | (cases hd; done) | (cases h; done) | (cases h1; done) | (cases e1; done) | (cases h'; done) | (cases ei; done) | (cases e'; done) | exact h.elim | exact h1.elim | exact h2.elim | exact .inl (lists (.ptu s_ r_) hd) | exact lists (.ptu s_ r_) e
  | str z =>
    have e' : (if z.length ≤ sizeLine then some (D.int z.length) else none) = some d := e
    by_cases c : z.length ≤ sizeLine
    · rw [if_pos c] at e'
      cases e'
      exact ⟨_, z.length, rfl, ⟨c, rfl⟩, q.now hr (.int _)⟩
    · rw [if_neg c] at e'
      cases e'
  | tup s r => exact seqs (.tup s r) e
  | lst s r => exact seqs (.lst s r) e
  | ref hk => exact seqs (.ref hk) e
  | non => exact seqs .non e
  | bl b => exact seqs (.bl b) e
  | int b => exact seqs (.int b) e
/-! int -/
def dInt (_ : List MO) : D → Option D
  | .int i => some (.int i)
  | .bl b => some (.int (if b then 1 else 0))
  | _ => none
theorem ok_int : Ok1 X (fun x H Q => (∃ i, [x] = [.int i] ∧ Q (.int i) H) ∨ ∃ k, [x] = [.bl k] ∧ Q (.int (if k then 1 else 0)) H) dInt := fun x H Z ι M dx d Q hr rx e q => by
  cases rx with
  | int i =>
    cases e
    exact .inl ⟨i, rfl, q.now hr (.int i)⟩
  | bl b =>
    cases e
    exact .inr ⟨b, rfl, q.now hr (.int _)⟩
  | _ => cases e
/-! str of a number -/
def dStr (_ : List MO) : D → Option D
  | .int i => if i.natAbs.log2 < 1920 then some (.str (toString i)) else none
  | _ => none
theorem ok_str : Ok1 X (fun x H Q => ∃ i, [x] = [.int i] ∧ i.natAbs.log2 < 1920 ∧ Q (.str (toString i)) H) dStr := fun x H Z ι M dx d Q hr rx e q => by
  cases rx with
  | int i =>
    have e' : (if i.natAbs.log2 < 1920 then some (D.str (toString i)) else none) = some d := e
    by_cases c : i.natAbs.log2 < 1920
    · rw [if_pos c] at e'
      cases e'
      exact ⟨i, rfl, c, q.now hr (.str _)⟩
    · rw [if_neg c] at e'
      cases e'
  | _ => cases e
/-! min, max, sum, all, any -/
def dMin2 (_ : List MO) : D → D → Option D
  | .int i, .int j => some (.int (if j < i then j else i))
  | _, _ => none
def dMax2 (_ : List MO) : D → D → Option D
  | .int i, .int j => some (.int (if j > i then j else i))
  | _, _ => none
theorem ok_min2 : Ok2 X (fun x y H Q => ∃ i j, [x, y] = [V.int i, .int j] ∧ Q (.int (if j < i then j else i)) H) dMin2 := fun x y H Z ι M dx dy d Q hr rx ry e q => by
  cases rx with
  | int i =>
    cases ry with
    | int j =>
      cases e
      exact ⟨i, j, rfl, q.now hr (.int _)⟩
    | _ => cases e
  | _ => cases ry <;> cases e
theorem ok_max2 : Ok2 X (fun x y H Q => ∃ i j, [x, y] = [V.int i, .int j] ∧ Q (.int (if j > i then j else i)) H) dMax2 := fun x y H Z ι M dx dy d Q hr rx ry e q => by
  cases rx with
  | int i =>
    cases ry with
    | int j =>
      cases e
      exact ⟨i, j, rfl, q.now hr (.int _)⟩
    | _ => cases e
  | _ => cases ry <;> cases e
def intsD : List D → Option (List Int)
  | [] => some []
  | .int i :: ds => (intsD ds).map (i :: ·)
  | _ => none
def blsD : List D → Option (List Bool)
  | [] => some []
  | .bl i :: ds => (blsD ds).map (i :: ·)
  | _ => none
theorem intsD_is {K : PySem.W.Frag} {Z : Hp} {ι : Nat → Addr} {n : Nat} : ∀ {ds : List D} {vs : List V} {is : List Int}, Rps K Z ι n ds vs → intsD ds = some is → vs = is.map V.int
  | [], _, _, r, h => by cases r; cases h; rfl
  | .int i :: ds, _, _, r, h => by
    cases r with
    | cons r rs =>
      have h' : (intsD ds).map (i :: ·) = some _ := h
      cases e : intsD ds with
      | none => rw [e] at h'; cases h'
      | some js =>
        rw [e] at h'
        cases h'
        cases r
        rw [intsD_is rs e]
        rfl
  | .non :: _, _, _, _, h => by cases h
  | .bl _ :: _, _, _, _, h => by cases h
  | .str _ :: _, _, _, _, h => by cases h
  | .tup _ :: _, _, _, _, h => by cases h
  | .lst _ :: _, _, _, _, h => by cases h
  | .ref _ :: _, _, _, _, h => by cases h
theorem blsD_is {K : PySem.W.Frag} {Z : Hp} {ι : Nat → Addr} {n : Nat} : ∀ {ds : List D} {vs : List V} {is : List Bool}, Rps K Z ι n ds vs → blsD ds = some is → vs = is.map V.bl
  | [], _, _, r, h => by cases r; cases h; rfl
  | .bl i :: ds, _, _, r, h => by
    cases r with
    | cons r rs =>
      have h' : (blsD ds).map (i :: ·) = some _ := h
      cases e : blsD ds with
      | none => rw [e] at h'; cases h'
      | some js =>
        rw [e] at h'
        cases h'
        cases r
        rw [blsD_is rs e]
        rfl
  | .non :: _, _, _, _, h => by cases h
  | .int _ :: _, _, _, _, h => by cases h
  | .str _ :: _, _, _, _, h => by cases h
  | .tup _ :: _, _, _, _, h => by cases h
  | .lst _ :: _, _, _, _, h => by cases h
  | .ref _ :: _, _, _, _, h => by cases h
@[simp] theorem intsD_map (is : List Int) : intsD (is.map D.int) = some is := by
  induction is with
  | nil => rfl
  | cons i is ih => simp [intsD, ih]
@[simp] theorem blsD_map (is : List Bool) : blsD (is.map D.bl) = some is := by
  induction is with
  | nil => rfl
  | cons i is ih => simp [blsD, ih]
def minI : List Int → Int
  | [] => 0
  | [i] => i
  | i :: j :: r => let m := minI (j :: r); if i ≤ m then i else m
def maxI : List Int → Int
  | [] => 0
  | [i] => i
  | i :: j :: r => let m := maxI (j :: r); if m ≤ i then i else m
theorem minI_is : ∀ (is : List Int) (m : Int), m ∈ is → (∀ y, y ∈ is → m ≤ y) → minI is = m
  | [], _, h, _ => by cases h
  | [i], m, h, _ => by
    have : m = i := by simpa using h
    rw [this]
    rfl
  | i :: j :: r, m, h, hl => by
    have h1 : m ≤ i := hl i List.mem_cons_self
    have up : ∀ l : List Int, l ≠ [] → minI l ∈ l := by
      intro l
      induction l with
      | nil => intro z; exact absurd rfl z
      | cons a l ih =>
        intro _
        cases l with
        | nil => simp [minI]
        | cons b l =>
          have q := ih (by simp)
          show (if a ≤ minI (b :: l) then a else minI (b :: l)) ∈ a :: b :: l
          split
          · exact List.mem_cons_self
          · exact List.mem_cons_of_mem _ q
    show (if i ≤ minI (j :: r) then i else minI (j :: r)) = m
    have hm := up (j :: r) (by simp)
    have h2 : m ≤ minI (j :: r) := hl _ (List.mem_cons_of_mem _ hm)
    rcases List.mem_cons.mp h with e | e
    · subst e
      rw [if_pos h2]
    · have q := minI_is (j :: r) m e fun y hy => hl y (List.mem_cons_of_mem _ hy)
      rw [q]
      split
      · omega
      · rfl
theorem maxI_is : ∀ (is : List Int) (m : Int), m ∈ is → (∀ y, y ∈ is → y ≤ m) → maxI is = m
  | [], _, h, _ => by cases h
  | [i], m, h, _ => by
    have : m = i := by simpa using h
    rw [this]
    rfl
  | i :: j :: r, m, h, hl => by
    have h1 : i ≤ m := hl i List.mem_cons_self
    have up : ∀ l : List Int, l ≠ [] → maxI l ∈ l := by
      intro l
      induction l with
      | nil => intro z; exact absurd rfl z
      | cons a l ih =>
        intro _
        cases l with
        | nil => simp [maxI]
        | cons b l =>
          have q := ih (by simp)
          show (if maxI (b :: l) ≤ a then a else maxI (b :: l)) ∈ a :: b :: l
          split
          · exact List.mem_cons_self
          · exact List.mem_cons_of_mem _ q
    show (if maxI (j :: r) ≤ i then i else maxI (j :: r)) = m
    have hm := up (j :: r) (by simp)
    have h2 : maxI (j :: r) ≤ m := hl _ (List.mem_cons_of_mem _ hm)
    rcases List.mem_cons.mp h with e | e
    · subst e
      rw [if_pos h2]
    · have q := maxI_is (j :: r) m e fun y hy => hl y (List.mem_cons_of_mem _ hy)
      rw [q]
      split
      · omega
      · rfl
def ofInts (f : List Int → Option D) (M : List MO) (d : D) : Option D := ((listD M d).bind intsD).bind f
def ofBls (f : List Bool → D) (M : List MO) (d : D) : Option D := ((listD M d).bind blsD).map f
def dSum := ofInts fun is => some (.int is.sum)
def dMin := ofInts fun is => if is = [] then none else some (.int (minI is))
def dMax := ofInts fun is => if is = [] then none else some (.int (maxI is))
def dAll := ofBls fun bs => .bl (bs.all id)
def dAny := ofBls fun bs => .bl (bs.any id)
theorem ofInts_run {K : PySem.W.Frag} {H Z : Hp} {ι : Nat → Addr} {M : List MO} {f : List Int → Option D} {dx d : D} {x : V} (hr : HR K H Z ι M) (r : Rp K Z ι M.length dx x) (e : ofInts f M dx = some d) : ∃ a is, x = .ref a ∧ SqL K H a (is.map V.int) ∧ f is = some d := by
  unfold ofInts at e
  cases e1 : listD M dx with
  | none => rw [e1] at e; cases e
  | some ds =>
    rw [e1, Option.bind_some] at e
    cases e2 : intsD ds with
    | none => rw [e2] at e; cases e
    | some is =>
      rw [e2] at e
      obtain ⟨a, xs, rfl, s, r2⟩ := listD_run hr r e1
      rw [intsD_is r2 e2] at s
      exact ⟨a, is, rfl, s.sq, e⟩
theorem ofBls_run {K : PySem.W.Frag} {H Z : Hp} {ι : Nat → Addr} {M : List MO} {f : List Bool → D} {dx d : D} {x : V} (hr : HR K H Z ι M) (r : Rp K Z ι M.length dx x) (e : ofBls f M dx = some d) : ∃ a is, x = .ref a ∧ SqL K H a (is.map V.bl) ∧ f is = d := by
  unfold ofBls at e
  cases e1 : listD M dx with
  | none => rw [e1] at e; cases e
  | some ds =>
    rw [e1, Option.bind_some] at e
    cases e2 : blsD ds with
    | none => rw [e2] at e; cases e
    | some is =>
      rw [e2] at e
      cases e
      obtain ⟨a, xs, rfl, s, r2⟩ := listD_run hr r e1
      rw [blsD_is r2 e2] at s
      exact ⟨a, is, rfl, s.sq, rfl⟩
theorem ok_sum : Ok1 X (fun x H Q => rSum X.K [x] H Q) dSum := fun x H Z ι M dx d Q hr rx e q => by
  obtain ⟨a, is, rfl, s, e2⟩ := ofInts_run hr rx e
  cases e2
  exact ⟨a, is, rfl, s, q.now hr (.int _)⟩
theorem ok_min : Ok1 X (fun x H Q => rMin X.K [x] H Q) dMin := fun x H Z ι M dx d Q hr rx e q => by
  obtain ⟨a, is, rfl, s, e2⟩ := ofInts_run hr rx e
  by_cases c : is = []
  · rw [if_pos c] at e2
    cases e2
  · rw [if_neg c] at e2
    cases e2
    refine ⟨a, is, rfl, s, List.length_pos_iff.mpr c, fun m h1 h2 => ?_⟩
    rw [← minI_is is m h1 h2]
    exact q.now hr (.int _)
theorem ok_max : Ok1 X (fun x H Q => rMax X.K [x] H Q) dMax := fun x H Z ι M dx d Q hr rx e q => by
  obtain ⟨a, is, rfl, s, e2⟩ := ofInts_run hr rx e
  by_cases c : is = []
  · rw [if_pos c] at e2
    cases e2
  · rw [if_neg c] at e2
    cases e2
    refine ⟨a, is, rfl, s, List.length_pos_iff.mpr c, fun m h1 h2 => ?_⟩
    rw [← maxI_is is m h1 h2]
    exact q.now hr (.int _)
theorem ok_all : Ok1 X (fun x H Q => rAll X.K [x] H Q) dAll := fun x H Z ι M dx d Q hr rx e q => by
  obtain ⟨a, is, rfl, s, rfl⟩ := ofBls_run hr rx e
  exact ⟨a, is, rfl, s, q.now hr (.bl _)⟩
theorem ok_any : Ok1 X (fun x H Q => rAny X.K [x] H Q) dAny := fun x H Z ι M dx d Q hr rx e q => by
  obtain ⟨a, is, rfl, s, rfl⟩ := ofBls_run hr rx e
  exact ⟨a, is, rfl, s, q.now hr (.bl _)⟩
/-! list(x), tuple(x) -/
def dList (M : List MO) (d : D) : Option D := (itemsD M d).map D.lst
def dTuple (M : List MO) (d : D) : Option D := (itemsD M d).map D.tup
theorem ok_list : Ok1 X (fun x H Q => ∃ p ys, [x] = [.ref p] ∧ (SqL X.K H p ys ∨ SqT X.K H p ys) ∧ ∀ l, H l = none → Q (.ref l) (upd H l (.lst ys))) dList := fun x H Z ι M dx d Q hr rx e q => by
  unfold dList at e
  cases e1 : itemsD M dx with
  | none => rw [e1] at e; cases e
  | some ds =>
    rw [e1] at e
    cases e
    obtain ⟨a, xs, rfl, s, r⟩ := itemsD_run hr rx e1
    exact ⟨a, xs, rfl, s.elim (fun s => .inl s.sq) .inr, q.lst hr r⟩
theorem ok_tuple : Ok1 X (fun x H Q => ∃ p ys, [x] = [.ref p] ∧ ((SqL X.K H p ys ∧ ∀ l, H l = none → Q (.ref l) (upd H l (.tup ys))) ∨ (SqT X.K H p ys ∧ Q (.ref p) H))) dTuple := fun x H Z ι M dx d Q hr rx e q => by
  unfold dTuple at e
  cases rx with
  | tup s r =>
    cases e
    exact ⟨_, _, rfl, .inr ⟨subT hr.sub s, q.now hr (.tup s r)⟩⟩
  | ptu s r =>
    cases e
    exact ⟨_, _, rfl, .inr ⟨subT hr.sub s.sq, q.now hr (.tup s.sq r)⟩⟩
  | lst s r =>
    cases e
    exact ⟨_, _, rfl, .inl ⟨(subL hr.sub s).sq, q.tup hr r⟩⟩
  | ref hk =>
    rename_i k
    cases e1 : itemsD M (.ref k) with
    | none => rw [e1] at e; cases e
    | some ds =>
      rw [e1] at e
      cases e
      obtain ⟨a, xs, ea, s, r⟩ := listD_run hr (.ref hk) e1
      cases ea
      exact ⟨_, _, rfl, .inl ⟨s.sq, q.tup hr r⟩⟩
  | _ => cases e
end
/-! list(range(..)) -/
section
variable {X : Cx} {C : CT} {W : WX} {a b e : Expr} {ga gb : GE} {p pos p2 pos2 : Pos}
def rngOk (i j : Int) : Bool := inR i && inR j && decide ((j - i).toNat ≤ 2 ^ 24)
def gRgL (own : Bool) (ga gb : GE) : GE := fun Γ M => (ga Γ M).bind fun x M1 => (gb Γ M1).bind fun y M2 => match x, y with
  | .int i, .int j => if rngOk i j = true then (if own = true then .ok (.ref M2.length) (M2 ++ [.lst (rngL i (j - i).toNat)]) else .ok (.lst (rngL i (j - i).toNat)) M2) else .bad
  | _, _ => .bad
theorem rngL_rg {K : PySem.W.Frag} {Z : Hp} {ι : Nat → Addr} {m : Nat} : ∀ (n : Nat) (lo : Int), Rps K Z ι m (rngL lo n) ((List.range n).map fun i => V.int (lo + (i : Nat)))
  | 0, lo => .nil
  | n + 1, lo => by
    rw [List.range_succ_eq_map, List.map_cons, List.map_map]
    refine .cons (by simpa using Rp.int (lo)) ?_
    have ih := rngL_rg (K := K) (Z := Z) (ι := ι) (m := m) n (lo + 1)
    have e : ((List.range n).map ((fun i : Nat => V.int (lo + (i : Nat))) ∘ Nat.succ)) = (List.range n).map fun i : Nat => V.int (lo + 1 + (i : Nat)) := by
      apply List.map_congr_left
      intro i _
      simp only [Function.comp]
      congr 1
      push_cast
      omega
    rw [e]
    exact ih
theorem rg_read {ta : TE} {tb : TE} {own : Bool} (qa : ∀ (σ : St) (H Z : Hp) (ι : Nat → Addr) (Γ : Env) (M : List MO) (Q : VK), Slots X.K Z ι M.length Γ σ → HR X.K H Z ι M → Post X C W (rpE X.K) σ H Z ι M (ga Γ M) Q → ta σ H Q)
    (qb : ∀ (σ : St) (H Z : Hp) (ι : Nat → Addr) (Γ : Env) (M : List MO) (Q : VK), Slots X.K Z ι M.length Γ σ → HR X.K H Z ι M → Post X C W (rpE X.K) σ H Z ι M (gb Γ M) Q → tb σ H Q) (σ : St) (H Z : Hp) (ι : Nat → Addr) (Γ : Env) (M : List MO) (Q : VK) (sl : Slots X.K Z ι M.length Γ σ)
    (hr : HR X.K H Z ι M) (h : Post X C W (rpE X.K) σ H Z ι M (gRgL own ga gb Γ M) Q) : ta σ H fun x H1 => tb σ H1 fun y H2 => ∃ i j, x = .int i ∧ y = .int j ∧ RgOk i j ∧ ∀ q, H2 q = none → Q (.ref q) (upd H2 q (.lst (rgV i j))) := by
  refine qa σ H Z ι Γ M _ sl hr (Post.bind h fun x M1 v H1 Z1 ι1 e1 hr1 r1 h1 => qb σ H1 Z1 ι1 Γ M1 _ (sl.ext e1) hr1 (h1.bind fun y M2 u H2 Z2 ι2 e2 hr2 r2 h2 => ?_))
  have r1' := r1.ext e2
  cases r1' with
  | int i =>
    cases r2 with
    | int j =>
      have h3 : Post X C W (rpE X.K) σ H2 Z2 ι2 M2 (if rngOk i j = true then (if own = true then .ok (.ref M2.length) (M2 ++ [.lst (rngL i (j - i).toNat)]) else .ok (.lst (rngL i (j - i).toNat)) M2) else .bad) Q := h2
      by_cases c : rngOk i j = true
      · rw [if_pos c] at h3
        simp only [rngOk, inR, Bool.and_eq_true, decide_eq_true_eq] at c
        refine ⟨i, j, rfl, rfl, ⟨c.1.1.1, c.1.1.2, c.1.2.1, c.1.2.2, c.2⟩, fun q hq => ?_⟩
        have rr : Rps X.K Z2 ι2 M2.length (rngL i (j - i).toNat) (rgV i j) := rngL_rg _ _
        by_cases ho : own = true
        · rw [if_pos ho] at h3
          obtain ⟨hr3, e3⟩ := hr2.owned hq rr
          have qq : Rp X.K Z2 (put ι2 M2.length q) (M2 ++ [MO.lst (rngL i (j - i).toNat)]).length (.ref M2.length) (.ref (put ι2 M2.length q M2.length)) := .ref (by simp)
          rw [put_at] at qq
          exact h3 _ _ _ _ e3 hr3 qq
        · rw [if_neg ho] at h3
          exact h3.after.lst hr2 rr q hq
      · rw [if_neg c] at h3
        exact h3.elim
    | _ => exact h2.elim
  | _ => exact h2.elim
theorem qe_lrg2 (own : Bool) (hc : X.calm = true) (hg : Gl X "list") (hm : X.mg "list" = none) (hg2 : Gl X "range") (hm2 : X.mg "range" = none) (ha : QE X C W a ga) (hb : QE X C W b gb)
    (h1 : starEach [a, b] X.env = (false, eval a X.env) :: starEach [b] X.env := by rfl) (h2 : starEach [b] X.env = (false, eval b X.env) :: starEach [] X.env := by rfl) (h3 : (backTo pos2 (starEach [b] X.env)).any (·.1) = false := by rfl)
    (na : starEach [Expr.Call (.Name "range" p2) [a, b] [] pos2] X.env = (false, eval (Expr.Call (.Name "range" p2) [a, b] [] pos2) X.env) :: starEach [] X.env := by rfl) :
    QE X C W (.Call (.Name "list" p) [.Call (.Name "range" p2) [a, b] [] pos2] [] pos) (gRgL own ga gb) := by
  obtain ⟨ta, pa, qa⟩ := ha
  obtain ⟨tb, pb, qb⟩ := hb
  exact ⟨_, pe_listRg hc hg hm (prg_2 hg2 hm2 pa pb h1 h2 h3) na, fun σ H Z ι Γ M Q sl hr h => rg_read qa qb σ H Z ι Γ M Q sl hr h⟩
theorem qe_lrg1 (own : Bool) (hc : X.calm = true) (hg : Gl X "list") (hm : X.mg "list" = none) (hg2 : Gl X "range") (hm2 : X.mg "range" = none) (hb : QE X C W b gb) (h2 : starEach [b] X.env = (false, eval b X.env) :: starEach [] X.env := by rfl)
    (na : starEach [Expr.Call (.Name "range" p2) [b] [] pos2] X.env = (false, eval (Expr.Call (.Name "range" p2) [b] [] pos2) X.env) :: starEach [] X.env := by rfl) :
    QE X C W (.Call (.Name "list" p) [.Call (.Name "range" p2) [b] [] pos2] [] pos) (gRgL own (gC (.int 0)) gb) := by
  obtain ⟨tb, pb, qb⟩ := hb
  refine ⟨_, pe_listRg hc hg hm (prg_1 hg2 hm2 pb h2) na, fun σ H Z ι Γ M Q sl hr h => ?_⟩
  have q := rg_read (ta := tC (.int 0)) (ga := gC (.int 0)) (C := C) (W := W) (X := X) (fun σ H Z ι Γ M Q sl hr h => h _ H Z ι .refl hr (.int 0)) qb σ H Z ι Γ M Q sl hr h
  have q2 : tb σ H fun y H2 => ∃ i j, V.int 0 = .int i ∧ y = .int j ∧ RgOk i j ∧ ∀ q, H2 q = none → Q (.ref q) (upd H2 q (.lst (rgV i j))) := q
  have mono : (fun (y : V) (H2 : Hp) => ∃ i j, V.int 0 = .int i ∧ y = .int j ∧ RgOk i j ∧ ∀ q, H2 q = none → Q (.ref q) (upd H2 q (.lst (rgV i j)))) = fun y H2 => ∃ n, y = .int n ∧ RgOk 0 n ∧ ∀ q, H2 q = none → Q (.ref q) (upd H2 q (.lst (rgV 0 n))) := by
    funext y H2
    apply propext
    constructor
    · rintro ⟨i, j, e, e2, r⟩
      cases e
      exact ⟨j, e2, r⟩
    · rintro ⟨j, e2, r⟩
      exact ⟨0, j, rfl, e2, r⟩
  rw [mono] at q2
  exact q2
/-! isinstance -/
def tyName (M : List MO) : D → Option String
  | .non => some "NoneType"
  | .bl _ => some "bool"
  | .int _ => some "int"
  | .str _ => some "str"
  | .tup _ => some "tuple"
  | .lst _ => some "list"
  | .dct _ _ => none
  | .ptu _ => some "tuple"
  | .ref k => match M[k]? with
    | some (.lst _) => some "list"
    | _ => none
theorem tyName_run {K : PySem.W.Frag} {H Z : Hp} {ι : Nat → Addr} {M : List MO} {d : D} {x : V} {t : String} (hr : HR K H Z ι M) (r : Rp K Z ι M.length d x) (e : tyName M d = some t) : TyX K H x (.type t) := by
  have lists : ∀ {a : Addr} {xs : List V}, ExL K H a xs → TyX K H (.ref a) (.type "list") := fun {a xs} s => by
    rcases s with (s | ⟨o, s⟩) | ⟨its, m, s, _, _⟩
    · exact .base (.lst s)
    · exact .base (.frz s)
    · exact .kList s rfl
  cases r with
  | dct s_ r_ t_ => first | (cases e; done) | (cases hd; done) | (cases h; done) | (cases h1; done) | (cases e1; done) | (cases h'; done) | (cases ei; done) | (cases e'; done) | exact h.elim | exact h1.elim | exact h2.elim | exact .inl (lists (.dct s_ r_ t_) hd) | exact lists (.dct s_ r_ t_) e
  | ptu s r =>
    cases e
    obtain ⟨o, s, _⟩ := s
    exact .fTuple (hr.sub _ _ s)
  | non => cases e; exact .base .non
  | bl b => cases e; exact .base (.bl b)
  | int i => cases e; exact .base (.int i)
  | str z => cases e; exact .base (.str z)
  | tup s r =>
    cases e
    rcases subT hr.sub s with (s | ⟨o, s⟩) | ⟨o, its, m, s, c, _⟩
    · exact .base (.tup s)
    · exact .fTuple s
    · exact .kTuple s c
  | lst s r =>
    cases e
    exact lists (subL hr.sub s)
  | ref hk =>
    rename_i k
    have e' : (match M[k]? with
      | some (.lst _) => some "list"
      | _ => none) = some t := e
    cases e1 : M[k]? with
    | none => rw [e1] at e'; cases e'
    | some o =>
      rw [e1] at e'
      cases o with
      | dead => cases e'
      | dct ks0 vs0 => cases e'
      | dki kvs0 => cases e'
      | obj nm fs => cases e'
      | lst ds =>
        cases e'
        obtain ⟨xs, h1, _⟩ := hr.obj k _ e1
        exact lists (.inl (.of h1))
def dIsi (T : String) (M : List MO) (d : D) : Option D := (tyName M d).bind fun t => (kitB t T).map D.bl
def anyB (t : String) : List String → Option Bool
  | [] => some false
  | T :: Ts => match kitB t T with
    | some true => some true
    | some false => anyB t Ts
    | none => none
def dIsiT (Ts : List String) (M : List MO) (d : D) : Option D := (tyName M d).bind fun t => (anyB t Ts).map D.bl
theorem anyB_kit {K : PySem.W.Frag} {t : String} : ∀ {Ts : List String} {b : Bool}, anyB t Ts = some b → PySem.W.kitAny K (.type t) (Ts.map Value.type) = some b
  | [], b, h => by cases h; rfl
  | T :: Ts, b, h => by
    unfold anyB at h
    show (match PySem.W.kitOne K (.type t) (.type T) with
      | some true => some true
      | some false => PySem.W.kitAny K (.type t) (Ts.map Value.type)
      | none => none) = some b
    cases e : kitB t T with
    | none => rw [e] at h; cases h
    | some k =>
      rw [e] at h
      rw [kit_ty e]
      cases k with
      | true => exact h
      | false => exact anyB_kit h
theorem qe_isi {T : String} {TN : Str} {q : Pos} (hg : Gl X "isinstance") (hm : X.mg "isinstance" = none) (hT : Gl X TN) (hmT : X.mg TN = none) (hv : bootBuiltins TN = some (.type T)) (ha : QE X C W e ga) (hn : TN ≠ "__name__" := by decide) (hd : (TN == ("__debug__" : Str)) = false := by decide)
    (he : starEach [e, Expr.Name TN q] X.env = (false, eval e X.env) :: starEach [Expr.Name TN q] X.env := by rfl) (he2 : starEach [Expr.Name TN q] X.env = (false, eval (Expr.Name TN q) X.env) :: starEach [] X.env := by rfl) (hpl : (backTo pos (starEach [Expr.Name TN q] X.env)).any (·.1) = false := by rfl) :
    QE X C W (.Call (.Name "isinstance" p) [e, .Name TN q] [] pos) (gOp1 (dIsi T) ga) := by
  obtain ⟨ta, pa, qa⟩ := ha
  refine ⟨_, pe_callB call_isi hg hm (by decide +kernel) (pa_cons pa (pa_cons (pe_bltn (v := .ty T) hT hmT hv rfl hn hd) pa_nil he2) he) (he := he) (hpl := hpl), fun σ H Z ι Γ M Q sl hr h => qa σ H Z ι Γ M _ sl hr (h.bind fun x M1 v H1 Z1 ι1 e1 hr1 r1 h1 => ?_)⟩
  obtain ⟨d, hd, h3⟩ := Post.of_opR (γ := D) (δ := V) h1
  unfold dIsi at hd
  cases e2 : tyName M1 x with
  | none => rw [e2] at hd; cases hd
  | some t =>
    rw [e2, Option.bind_some] at hd
    cases e3 : kitB t T with
    | none => rw [e3] at hd; cases hd
    | some b =>
      rw [e3] at hd
      cases hd
      exact ⟨v, .ty T, .type t, .type T, b, rfl, .ty T, tyName_run hr1 r1 e2, kit_ty e3, h3.after.now hr1 (.bl b)⟩
theorem qe_isi2 {T1 T2 : String} {N1 N2 : Str} {q1 q2 q3 : Pos} {kk : Nat} (hg : Gl X "isinstance") (hm : X.mg "isinstance" = none) (hT1 : Gl X N1) (hm1 : X.mg N1 = none) (hv1 : bootBuiltins N1 = some (.type T1)) (hT2 : Gl X N2) (hm2 : X.mg N2 = none) (hv2 : bootBuiltins N2 = some (.type T2)) (ha : QE X C W e ga)
    (hn1 : N1 ≠ "__name__" := by decide) (hd1 : (N1 == ("__debug__" : Str)) = false := by decide) (hn2 : N2 ≠ "__name__" := by decide) (hd2 : (N2 == ("__debug__" : Str)) = false := by decide)
    (he : starEach [e, Expr.Tuple [.Name N1 q1, .Name N2 q2] kk q3] X.env = (false, eval e X.env) :: starEach [Expr.Tuple [.Name N1 q1, .Name N2 q2] kk q3] X.env := by rfl) (he2 : starEach [Expr.Tuple [.Name N1 q1, .Name N2 q2] kk q3] X.env = (false, eval (Expr.Tuple [.Name N1 q1, .Name N2 q2] kk q3) X.env) :: starEach [] X.env := by rfl)
    (hpl : (backTo pos (starEach [Expr.Tuple [.Name N1 q1, .Name N2 q2] kk q3] X.env)).any (·.1) = false := by rfl)
    (hs1 : starEach [Expr.Name N1 q1, Expr.Name N2 q2] X.env = (false, eval (Expr.Name N1 q1) X.env) :: starEach [Expr.Name N2 q2] X.env := by rfl) (hs2 : starEach [Expr.Name N2 q2] X.env = (false, eval (Expr.Name N2 q2) X.env) :: starEach [] X.env := by rfl) :
    QE X C W (.Call (.Name "isinstance" p) [e, .Tuple [.Name N1 q1, .Name N2 q2] kk q3] [] pos) (gOp1 (dIsiT [T1, T2]) ga) := by
  obtain ⟨ta, pa, qa⟩ := ha
  refine ⟨_, pe_callB call_isiT hg hm (by decide +kernel) (pa_cons pa (pa_cons (pe_tup (pa_cons (pe_bltn (v := .ty T1) hT1 hm1 hv1 rfl hn1 hd1) (pa_cons (pe_bltn (v := .ty T2) hT2 hm2 hv2 rfl hn2 hd2) pa_nil hs2) hs1)) pa_nil he2) he) (he := he) (hpl := hpl),
    fun σ H Z ι Γ M Q sl hr h => qa σ H Z ι Γ M _ sl hr (h.bind fun x M1 v H1 Z1 ι1 e1 hr1 r1 h1 => ?_)⟩
  obtain ⟨d, hd, h3⟩ := Post.of_opR (γ := D) (δ := V) h1
  unfold dIsiT at hd
  cases e2 : tyName M1 x with
  | none => rw [e2] at hd; cases hd
  | some t =>
    rw [e2, Option.bind_some] at hd
    cases e3 : anyB t [T1, T2] with
    | none => rw [e3] at hd; cases hd
    | some b =>
      rw [e3] at hd
      cases hd
      refine ⟨by show 2 ≤ sizeLine; decide, fun tp hp => ?_⟩
      obtain ⟨hr2, x2⟩ := hr1.frozen (o := .tup [.ty T1, .ty T2]) hp
      exact ⟨v, tp, [.ty T1, .ty T2], .type t, [.type T1, .type T2], b, rfl, upd_same, .cons (.ty T1) (.cons (.ty T2) .nil), tyName_run hr2 (r1.ext x2) e2, anyB_kit (Ts := [T1, T2]) e3, h3.after _ _ _ x2 hr2 (.bl b)⟩
end
end Bk

set_option Elab.async false
set_option linter.all false
set_option maxRecDepth 100000
set_option maxHeartbeats 2000000
namespace Bk
open PySem PySem.Spec PyProof.Rows L2
/-! ### what changes a list of ours -/
/-- a method: the list as it was, the argument; the list as it is, the answer -/
abbrev MF := List MO → List D → D → Option (List D × D)
abbrev MF0 := List D → Option (List D × D)
def isListD (M : List MO) (d : D) : Bool := (listD M d).isSome
def mutR (M : List MO) (x : D) (f : List D → Option (List D × D)) : R D := match x with
  | .ref k => match M[k]? with
    | some (.lst ds) => match f ds with
      | some (ds', r) => .ok r (M.set k (.lst ds'))
      | none => .bad
    | _ => .bad
  | _ => .bad
def gMeth1 (f : MF) (go ge : GE) : GE := fun Γ M => (go Γ M).bind fun x M1 => if isListD M1 x = true then (ge Γ M1).bind fun y M2 => mutR M2 x fun ds => f M2 ds y else .bad
def gMeth0 (f : MF0) (go : GE) : GE := fun Γ M => (go Γ M).bind fun x M1 => mutR M1 x f
section
variable {X : Cx} {C : CT} {W : WX}
def OkM (X : Cx) (r : V → List V → Hp → VK → Prop) (f : MF) : Prop := ∀ (p : Addr) (xs : List V) (y : V) (H Z : Hp) (ι : Nat → Addr) (M : List MO) (ds ds' : List D) (dy d : D) (Q : VK), HR X.K H Z ι M → H p = some (.lst xs) → Rps X.K Z ι M.length ds xs → Rp X.K Z ι M.length dy y → f M ds dy = some (ds', d) →
  (∀ (xs' : List V) (w : V), Rps X.K Z ι M.length ds' xs' → Rp X.K Z ι M.length d w → Q w (upd H p (.lst xs'))) → r (.ref p) [y] H Q
def OkM0 (X : Cx) (r : V → List V → Hp → VK → Prop) (f : MF0) : Prop := ∀ (p : Addr) (xs : List V) (H Z : Hp) (ι : Nat → Addr) (n : Nat) (ds ds' : List D) (d : D) (Q : VK), H p = some (.lst xs) → Rps X.K Z ι n ds xs → f ds = some (ds', d) →
  (∀ (xs' : List V) (w : V), Rps X.K Z ι n ds' xs' → Rp X.K Z ι n d w → Q w (upd H p (.lst xs'))) → r (.ref p) [] H Q
theorem mutR_run {σ : St} {H Z : Hp} {ι : Nat → Addr} {M : List MO} {x : D} {v : V} {f : List D → Option (List D × D)} {Q : VK} (hr : HR X.K H Z ι M) (r : Rp X.K Z ι M.length x v) (h : Post X C W (rpE X.K) σ H Z ι M (mutR M x f) Q) :
    ∃ (k : Nat) (ds ds' : List D) (d : D) (xs : List V), v = .ref (ι k) ∧ H (ι k) = some (.lst xs) ∧ Rps X.K Z ι M.length ds xs ∧ f ds = some (ds', d) ∧ ∀ (xs' : List V) (w : V), Rps X.K Z ι M.length ds' xs' → Rp X.K Z ι M.length d w → Q w (upd H (ι k) (.lst xs')) := by
  cases r with
  | ref hk =>
    rename_i k
    have h' : Post X C W (rpE X.K) σ H Z ι M (match M[k]? with
      | some (.lst ds) => match f ds with
        | some (ds', r) => .ok r (M.set k (.lst ds'))
        | none => .bad
      | _ => .bad) Q := h
    cases e1 : M[k]? with
    | none => rw [e1] at h'; exact h'.elim
    | some o =>
      rw [e1] at h'
      cases o with
      | dead => exact h'.elim
      | dct ks0 vs0 => exact h'.elim
      | dki kvs0 => exact h'.elim
      | obj nm fs => exact h'.elim
      | lst ds =>
        have h2 : Post X C W (rpE X.K) σ H Z ι M (match f ds with
          | some (ds', r) => .ok r (M.set k (.lst ds'))
          | none => .bad) Q := h'
        cases e2 : f ds with
        | none => rw [e2] at h2; exact h2.elim
        | some q =>
          obtain ⟨ds', d⟩ := q
          rw [e2] at h2
          obtain ⟨xs, a1, a2⟩ := hr.obj k _ e1
          refine ⟨k, ds, ds', d, xs, rfl, a1, a2, e2, fun xs' w r1 r2 => ?_⟩
          obtain ⟨b1, b2⟩ := hr.change e1 r1
          exact h2 w _ Z ι b2 b1 (r2.ext b2)
  | _ => exact h.elim
theorem isListD_run {K : PySem.W.Frag} {H Z : Hp} {ι : Nat → Addr} {M : List MO} {d : D} {v : V} (hr : HR K H Z ι M) (r : Rp K Z ι M.length d v) (h : isListD M d = true) : tyV K "list" v H := by
  unfold isListD at h
  cases e : listD M d with
  | none => rw [e] at h; cases h
  | some ds =>
    obtain ⟨a, xs, rfl, s, _⟩ := listD_run hr r e
    exact .inl ⟨rfl, xs, s.sq⟩
theorem qe_meth1 {o e : Expr} {go ge : GE} {f : MF} {id : String} {name : Str} {pos apos : Pos} {r : V → List V → Hp → VK → Prop} (slot : Slot "list" name id) (hty : typeOf (.builtin id) = pure (.type "method_descriptor")) (hm : MtR X id r) (ok : OkM X r f) (ho : QE X C W o go) (he : QE X C W e ge)
    (hbase : attributeBase o name X.env (eval o X.env) = eval o X.env := by rfl) (hs : starEach [e] X.env = (false, eval e X.env) :: starEach [] X.env := by rfl)
    (hfew : ((backTo pos (starEach [e] X.env)).all (fun x => !x.1) && (backToKw pos (keywordEach [] X.env)).all (fun x => x.1.isSome) && decide ([e].length + ([] : List Keyword).length + (if ([] : List Keyword).isEmpty then 0 else 1) < 30)) = true := by rfl)
    (hline : (apos.endLine == pos.line) = true := by rfl) : QE X C W (.Call (.Attribute o name apos) [e] [] pos) (gMeth1 f go ge) := by
  obtain ⟨ta, pa, qa⟩ := ho
  obtain ⟨tb, pb, qb⟩ := he
  refine ⟨_, pe_bm PySem.F.plainAttrs_list slot hty hm pa (pa_cons pb pa_nil hs) hbase hfew hline hs rfl, fun σ H Z ι Γ M Q sl hr h => qa σ H Z ι Γ M _ sl hr (h.bind fun x M1 v H1 Z1 ι1 e1 hr1 r1 h1 => ?_)⟩
  by_cases c : isListD M1 x = true
  · rw [if_pos c] at h1
    refine ⟨isListD_run hr1 r1 c, qb σ H1 Z1 ι1 Γ M1 _ (sl.ext e1) hr1 (h1.bind fun y M2 u H2 Z2 ι2 e2 hr2 r2 h2 => ?_)⟩
    obtain ⟨k, ds, ds', d, xs, ev, a1, a2, a3, a4⟩ := mutR_run hr2 (r1.ext e2) h2
    rw [ev]
    exact ok _ xs u H2 Z2 ι2 M2 ds ds' y d Q hr2 a1 a2 r2 a3 a4
  · rw [if_neg c] at h1
    exact h1.elim
theorem qe_meth0 {o : Expr} {go : GE} {f : MF0} {id : String} {name : Str} {pos apos : Pos} {r : V → List V → Hp → VK → Prop} (slot : Slot "list" name id) (hty : typeOf (.builtin id) = pure (.type "method_descriptor")) (hm : MtR X id r) (ok : OkM0 X r f) (ho : QE X C W o go)
    (hbase : attributeBase o name X.env (eval o X.env) = eval o X.env := by rfl) (hline : (apos.endLine == pos.line) = true := by rfl) : QE X C W (.Call (.Attribute o name apos) [] [] pos) (gMeth0 f go) := by
  obtain ⟨ta, pa, qa⟩ := ho
  refine ⟨_, pe_bm0 PySem.F.plainAttrs_list slot hty hm pa hbase hline, fun σ H Z ι Γ M Q sl hr h => qa σ H Z ι Γ M _ sl hr (h.bind fun x M1 v H1 Z1 ι1 e1 hr1 r1 h1 => ?_)⟩
  obtain ⟨k, ds, ds', d, xs, ev, a1, a2, a3, a4⟩ := mutR_run hr1 r1 h1
  rw [ev]
  exact ⟨.inl ⟨rfl, xs, .of a1⟩, ok _ xs H1 Z1 ι1 M1.length ds ds' d Q a1 a2 a3 a4⟩
def mAppend : MF := fun _ ds y => if ds.length < sizeLine then some (ds ++ [y], .non) else none
theorem ok_append : OkM X rAppend mAppend := fun p xs y H Z ι M ds ds' dy d Q hr e r ry h q => by
  unfold mAppend at h
  by_cases c : ds.length < sizeLine
  · rw [if_pos c] at h
    cases h
    exact ⟨p, xs, y, rfl, rfl, e, by rw [← r.length]; exact c, q _ _ (r.append (.cons ry .nil)) .non⟩
  · rw [if_neg c] at h
    cases h
def rExtendS (K : PySem.W.Frag) : V → List V → Hp → VK → Prop := fun x vs H Q => ∃ l b xs zs, x = .ref l ∧ vs = [.ref b] ∧ H l = some (.lst xs) ∧ ExL K H b zs ∧ xs.length + zs.length ≤ sizeLine ∧ Q .non (upd H l (.lst (xs ++ zs)))
theorem mt_extendS : MtM X "list.extend" (rExtendS X.K) := by
  intro pins s σ H x vs v us Q I rx rv h
  obtain ⟨l, b, xs, zs, rfl, rfl, h1, h2, hz, q⟩ := h
  cases rx
  obtain ⟨u, rfl, ru⟩ := rv.one
  cases ru
  obtain ⟨z, its, n, r, hl, e⟩ := I.lstM h1
  obtain ⟨its2, n2, r2, e2, z2⟩ := h2.at_ I
  have l2 := r2.length
  have room : its.toArray.size + its2.toArray.size ≤ sizeLine := by
    rw [List.size_toArray, List.size_toArray]
    omega
  have short : ¬ (!its.toArray.isEmpty && Builtin.List.listTooLong (its.toArray.size + its2.toArray.size)) = true := by
    rw [notLongL room, Bool.and_false]
    exact Bool.false_ne_true
  refine call_meets F.slot_list_extend ⟨_, e, rfl⟩ F.entry_list_extend (F.args_list_extend_2 _ _) (AutoSeq1.list_extend_list_list_0 l its.toArray n b its2.toArray n2 short (by rw [List.size_toArray]; omega) (by omega)) ⟨e, e2, ?_⟩
  exact ⟨.non, _, I.lset (its' := its ++ its2) h1 e (by simp) (r.append r2) (by rw [List.length_append]; omega), rfl, q⟩
def mExtend : MF := fun M ds y => match listD M y with
  | some es => if ds.length + es.length ≤ sizeLine then some (ds ++ es, .non) else none
  | none => none
theorem ok_extend : OkM X (rExtendS X.K) mExtend := fun p xs y H Z ι M ds ds' dy d Q hr e r ry h q => by
  unfold mExtend at h
  cases e1 : listD M dy with
  | none => rw [e1] at h; cases h
  | some es =>
    rw [e1] at h
    simp only at h
    obtain ⟨b, zs, rfl, s2, r2⟩ := listD_run hr ry e1
    by_cases c : ds.length + es.length ≤ sizeLine
    · rw [if_pos c] at h
      cases h
      exact ⟨p, b, xs, zs, rfl, rfl, e, s2, by rw [← r.length, ← r2.length]; exact c, q _ _ (r.append r2) .non⟩
    · rw [if_neg c] at h
      cases h
def mPopAt : MF := fun _ ds y => match y with
  | .int i => match ixN ds.length i with
    | some k => match ds[k]? with
      | some d => if decide (-(2 ^ 63) ≤ i) && decide (i < 2 ^ 63) then some (ds.eraseIdx k, d) else none
      | none => none
    | none => none
  | _ => none
theorem ok_popAt : OkM X rPopAt mPopAt := fun p xs y H Z ι M ds ds' dy d Q hr e r ry h q => by
  cases ry with
  | int i =>
    have h' : (match ixN ds.length i with
      | some k => match ds[k]? with
        | some d => if decide (-(2 ^ 63) ≤ i) && decide (i < 2 ^ 63) then some (ds.eraseIdx k, d) else none
        | none => none
      | none => none) = some (ds', d) := h
    cases e1 : ixN ds.length i with
    | none => rw [e1] at h'; cases h'
    | some k =>
      rw [e1] at h'
      simp only at h'
      cases e2 : ds[k]? with
      | none => rw [e2] at h'; cases h'
      | some d0 =>
        rw [e2] at h'
        simp only at h'
        by_cases c : (decide (-(2 ^ 63) ≤ i) && decide (i < 2 ^ 63)) = true
        · rw [if_pos c] at h'
          cases h'
          simp only [Bool.and_eq_true, decide_eq_true_eq] at c
          obtain ⟨v, a1, a2⟩ := r.get e2
          rw [r.length] at e1
          exact ⟨p, xs, i, k, v, rfl, rfl, e, c.1, c.2, (ixN_seq e1).1, a1, q _ _ (r.erase k) a2⟩
        · rw [if_neg c] at h'
          cases h'
  | _ => cases h
def mPop : MF0 := fun ds => match ds[ds.length - 1]? with
  | some d => some (ds.dropLast, d)
  | none => none
theorem rps_dropLast {K : PySem.W.Frag} {Z : Hp} {ι : Nat → Addr} {n : Nat} {ds : List D} {vs : List V} (r : Rps K Z ι n ds vs) : Rps K Z ι n ds.dropLast vs.dropLast := by
  rw [List.dropLast_eq_take, List.dropLast_eq_take, r.length]
  exact r.take _
theorem ok_pop : OkM0 X rPop mPop := fun p xs H Z ι n ds ds' d Q e r h q => by
  unfold mPop at h
  cases e2 : ds[ds.length - 1]? with
  | none => rw [e2] at h; cases h
  | some d0 =>
    rw [e2] at h
    cases h
    obtain ⟨v, a1, a2⟩ := r.get e2
    rw [r.length] at a1
    exact ⟨p, xs, v, rfl, rfl, e, a1, q _ _ (rps_dropLast r) a2⟩
/-! xs[i] = e -/
def setR (M : List MO) (o i v : D) : Option (List MO) := match o, i with
  | .ref k, .int j => match M[k]? with
    | some (.lst ds) => match ixN ds.length j with
      | some m => some (M.set k (.lst (ds.set m v)))
      | none => none
    | _ => none
  | _, _ => none
def gSetI (ge go gi : GE) : GS := fun Γ M => (ge Γ M).thenS Γ fun v M1 => (go Γ M1).thenS Γ fun o M2 => (gi Γ M2).thenS Γ fun i M3 => match setR M3 o i v with
  | some M4 => .nx Γ M4
  | none => .bad
theorem qs_setI {o i e : Expr} {go gi ge : GE} {pos spos : Pos} (he : QE X C W e ge) (ho : QE X C W o go) (hi : QE X C W i gi) (hs : swapsWithSole [Expr.Subscript o i spos] e pos.line X.env = pure false := by rfl) (hp : swappedStores [Expr.Subscript o i spos] e X.env = pure none := by rfl)
    (h1 : (assignEach [Expr.Subscript o i spos] X.env).map (·.2) = [assign (Expr.Subscript o i spos) X.env] := by rfl)
    (ha : ∀ v, assign (.Subscript o i spos) X.env v = (do let ov ← holding [v] (eval o X.env); let iv ← holding [v, ov] (eval i X.env); standAt spos; holding [v, ov, iv] (setItem ov iv v); release [v, ov, iv] []) := by intro _; rfl) :
    QS X C W (.Assign [.Subscript o i spos] e pos) (gSetI ge go gi) := by
  obtain ⟨te, pe, qe⟩ := he
  obtain ⟨to, po, qo⟩ := ho
  obtain ⟨ti, pi, qi⟩ := hi
  refine ⟨_, ps_asg pe (pg_sub po pi set_list ha) hs hp h1, fun Dd σ H Z ι Γ M sl hr h => qe σ H Z ι Γ M _ sl hr (PostS.bind h sl fun v M1 v' H1 Z1 ι1 e1 hr1 r1 h1 => qo σ H1 Z1 ι1 Γ M1 _ (sl.ext e1) hr1 (PostS.bind h1 (sl.ext e1) fun o M2 o' H2 Z2 ι2 e2 hr2 r2 h2 =>
    qi σ H2 Z2 ι2 Γ M2 _ ((sl.ext e1).ext e2) hr2 (PostS.bind h2 ((sl.ext e1).ext e2) fun i M3 i' H3 Z3 ι3 e3 hr3 r3 h3 => ?_)))⟩
  have ro := r2.ext e3
  have rv := (r1.ext e2).ext e3
  have sl3 := ((sl.ext e1).ext e2).ext e3
  cases es : setR M3 o i v with
  | none => rw [es] at h3; exact h3.elim
  | some M4 =>
    rw [es] at h3
    unfold setR at es
    cases ro with
    | ref hk =>
      rename_i k
      cases r3 with
      | int j =>
        simp only at es
        cases ek : M3[k]? with
        | none => rw [ek] at es; cases es
        | some u =>
          rw [ek] at es
          cases u with
          | dead => cases es
          | dct ks0 vs0 => cases es
          | dki kvs0 => cases es
          | obj nm fs => cases es
          | lst ds =>
            simp only at es
            cases em : ixN ds.length j with
            | none => rw [em] at es; cases es
            | some m =>
              rw [em] at es
              cases es
              obtain ⟨xs, a1, a2⟩ := hr3.obj k _ ek
              obtain ⟨b1, b2⟩ := hr3.change ek (a2.set m rv)
              exact ⟨_, xs, j, m, rfl, rfl, a1, by rw [← a2.length]; exact em, h3 σ _ Z3 ι3 b2 b1 (sl3.ext b2)⟩
      | _ => cases es
    | _ => cases es
/-! x += e -/
def gAug (i : Nat) (f : Int → Int → Int) (ge : GE) : GS := fun Γ M => match Γ[i]? with
  | some (some (.int a)) => (ge Γ M).thenS Γ fun y M1 => match y with
    | .int b => .nx (Γ.set i (some (.int (f a b)))) M1
    | _ => .bad
  | _ => .bad
theorem qs_aug (i : Nat) {x : Str} {e : Expr} {op : Operator} {f : Int → Int → Int} {ge : GE} {pos pos' : Pos} (hN : X.N.Nodup) (ho : PIp X op (ipI f)) (he : QE X C W e ge) (hi : X.N[i]? = some x := by rfl) (hx : Loc X.env.scope x := by first | exact Or.inl rfl | exact Or.inr rfl)
    (hf : X.fn x = true ∨ X.env.scope.names.lookup x = some .local := by first | exact Or.inl rfl | exact Or.inr rfl) : QS X C W (.AugAssign (.Name x pos') op e pos) (gAug i f ge) := by
  obtain ⟨te, pe, qe⟩ := he
  refine ⟨_, ps_aug hN hi hx pe ho hf, fun Dd σ H Z ι Γ M sl hr h => ?_⟩
  unfold gAug at h
  cases e1 : Γ[i]? with
  | none => rw [e1] at h; exact h.elim
  | some o =>
    rw [e1] at h
    cases o with
    | none => exact h.elim
    | some d =>
      cases d with
      | int a =>
        obtain ⟨v, a1, a2⟩ := sl.2 i _ e1
        cases a2
        refine ⟨_, a1, qe σ H Z ι Γ M _ sl hr (PostS.bind h sl fun y M1 u H1 Z1 ι1 x1 hr1 r1 h1 => ?_)⟩
        cases r1 with
        | int b => exact ⟨a, b, rfl, rfl, h1 _ H1 Z1 ι1 .refl hr1 ((sl.ext x1).set i (.int _))⟩
        | _ => exact h1.elim
      | _ => exact h.elim
/-! repr -/
def rReprD (K : PySem.W.Frag) : List V → Hp → VK → Prop := fun xs H Q => ∃ (a : Addr) (d : PyData), xs = [.ref a] ∧ Dp K H (.ref a) d ∧ d.showable = true ∧ d.hasDict = false ∧ d.depth ≤ 60 ∧ d.shown.length ≤ sizeLine ∧ Q (.str d.shown) H
theorem call_reprD (hgu : X.A.guards = some []) (hu : X.A.units + 64 < cLine) : CallR X (.builtin "repr") (rReprD X.K) := by
  intro pins s σ H xs us Q I r h
  obtain ⟨a, d, rfl, hd, h1, h2, h3, h4, q⟩ := h
  obtain ⟨u, rfl, ru⟩ := Vals.one r
  cases ru
  obtain ⟨as, rd⟩ := Dp.reads I d (.ref a) (.ref a) hd rfl
  refine repr_of_reads' rd h1 (fun z => by rw [h2] at z; cases z) hgu (by omega) (fun _ _ e => e) (fun h' u tk k => ?_) h4
  exact ⟨.str d.shown, H, I.kept (t' := tk) k, ⟨u, rfl⟩, q⟩
def dRepr (M : List MO) (d : D) : Option D := match d with
  | .non => none
  | .bl _ => none
  | .int _ => none
  | .str _ => none
  | d => (toP (deref M d)).bind fun p => if (p.showable && !p.hasDict && decide (p.depth ≤ 60) && decide (p.shown.length ≤ sizeLine)) = true then some (.str p.shown) else none
theorem ok_repr : Ok1 X (fun x H Q => rReprD X.K [x] H Q) dRepr := fun x H Z ι M dx d Q hr rx e q => by
  have go : ∀ {dx : D} {a : Addr}, Rp X.K Z ι M.length dx (.ref a) → ((toP (deref M dx)).bind fun p => if (p.showable && !p.hasDict && decide (p.depth ≤ 60) && decide (p.shown.length ≤ sizeLine)) = true then some (D.str p.shown) else none) = some d → rReprD X.K [.ref a] H Q := fun {dx a} rx e => by
    cases e1 : toP (deref M dx) with
    | none => rw [e1] at e; cases e
    | some p =>
      rw [e1, Option.bind_some] at e
      by_cases c : (p.showable && !p.hasDict && decide (p.depth ≤ 60) && decide (p.shown.length ≤ sizeLine)) = true
      · rw [if_pos c] at e
        cases e
        simp only [Bool.and_eq_true, Bool.not_eq_true', decide_eq_true_eq] at c
        exact ⟨a, p, rfl, deref_dp hr rx e1, c.1.1.1, c.1.1.2, c.1.2, c.2, q.now hr (.str _)⟩
      · rw [if_neg c] at e
        cases e
  cases rx with
  | tup s r => exact go (.tup s r) e
  | ptu s r => exact go (.ptu s r) e
  | lst s r => exact go (.lst s r) e
  | ref hk => exact go (.ref hk) e
  | _ => cases e
end
end Bk

set_option Elab.async false
set_option linter.all false
set_option maxRecDepth 100000
set_option maxHeartbeats 2000000
namespace Bk
open PySem PySem.Spec PyProof.Rows L2
/-! ### enumerate and zip of lists and tuples -/
inductive Src where
  | l (a : Addr) | t (a : Addr)
namespace Src
def addr : Src → Addr
  | .l a => a
  | .t a => a
def here (K : PySem.W.Frag) (H : Hp) (xs : List V) : Src → Prop
  | .l a => SqL K H a xs
  | .t a => SqT K H a xs
def it (h : Heap) (i : Addr) (n : Nat) : Src → Prop
  | .l a => h.IsListIter i a n
  | .t a => h.IsTupleIter i a n
def arr (h : Heap) (items : Array Value) : Src → Prop
  | .l a => h.IsList a items
  | .t a => h.IsTuple a items
def obj : Src → Obj
  | .l a => { cls := .type "list_iterator", data := .fields #[.ref a, .int 0 0] }
  | .t a => { cls := .type "tuple_iterator", data := .fields #[.ref a, .int 0 0] }
theorem begins (S : Src) (items : Array Value) : Begins (.ref S.addr) S.obj fun h => S.arr h items := by
  cases S with
  | l a => exact begins_list a items
  | t a => exact begins_tuple a items
theorem draws {prog : Program} {w : World} {A : Around} (hh : A.handled = none) (S : Src) (i : Addr) (hne : S.addr ≠ i) (items : Array Value) :
    Draws prog w A i [i, S.addr] items.size (fun n v => items[n]? = some v) (fun n h => S.it h i n ∧ S.arr h items) := by
  cases S with
  | l a => exact Draws.list hh i a hne items
  | t a => exact Draws.tuple hh i a hne items
theorem inv {X : Cx} {pins : List (Addr × Obj)} {σ : L2.St} {H : Hp} {s : Shared} {xs : List V} (I : Inv X pins σ H s) {S : Src} (h : S.here X.K H xs) : ∃ its : List Value, Vals xs its ∧ S.arr s.heap its.toArray := by
  cases S with
  | l a =>
    obtain ⟨its, r, p, _⟩ := I.list h
    exact ⟨its, r, p.isList⟩
  | t a =>
    obtain ⟨its, r, p, _⟩ := I.tuple h
    exact ⟨its, r, p⟩
theorem inj {X : Cx} {pins : List (Addr × Obj)} {σ : L2.St} {H : Hp} {s : Shared} {xs ys : List V} (I : Inv X pins σ H s) {S : Src} (h : S.here X.K H xs) (h' : S.here X.K H ys) : xs = ys := by
  cases S with
  | l a => exact I.list_inj h h'
  | t a => exact I.tuple_inj h h'
theorem start {S : Src} {h : Heap} {i : Addr} (e : h.get? i = some S.obj) : S.it h i 0 := by
  cases S with
  | l a => exact ⟨_, e, rfl, rfl⟩
  | t a => exact ⟨_, e, rfl, rfl⟩
theorem it_at {S : Src} {h h' : Heap} {i : Addr} {n : Nat} (x : S.it h i n) (k : ∀ o, h.get? i = some o → h'.get? i = some o) : S.it h' i n := by
  cases S with
  | l a =>
    have y : h.IsListIter i a n := x
    exact y.at k
  | t a =>
    have y : h.IsTupleIter i a n := x
    exact y.at k
theorem it_obj {S : Src} {h : Heap} {i : Addr} {n : Nat} (x : S.it h i n) : ∃ o, h.get? i = some o ∧ ∀ v, o.data ≠ .cell v := by
  cases S with
  | l a =>
    obtain ⟨o, ho, _, hd⟩ := (show h.IsListIter i a n from x)
    exact ⟨o, ho, fun v q => by rw [hd] at q; cases q⟩
  | t a =>
    obtain ⟨o, ho, _, hd⟩ := (show h.IsTupleIter i a n from x)
    exact ⟨o, ho, fun v q => by rw [hd] at q; cases q⟩
theorem arr_ne {S : Src} {h : Heap} {items : Array Value} {b : Addr} {ob : Obj} (x : S.arr h items) (e : h.get? b = some ob) (hd : ∀ its n, ob.data ≠ .seq its n) : S.addr ≠ b := by
  cases S with
  | l a =>
    obtain ⟨o, ho, _, m, hdd⟩ := (show h.IsList a items from x)
    intro z
    have z' : a = b := z
    rw [z', e] at ho
    cases ho
    exact hd _ _ hdd
  | t a =>
    obtain ⟨o, ho, _, m, hdd⟩ := (show h.IsTuple a items from x)
    intro z
    have z' : a = b := z
    rw [z', e] at ho
    cases ho
    exact hd _ _ hdd
theorem arr_it {S : Src} {h : Heap} {items : Array Value} {i : Addr} {n : Nat} (x : S.arr h items) (y : S.it h i n) : S.addr ≠ i := by
  cases S with
  | l a =>
    obtain ⟨o, ho, _, m, hd⟩ := (show h.IsList a items from x)
    obtain ⟨o', ho', _, hd'⟩ := (show h.IsListIter i a n from y)
    intro z
    have z' : a = i := z
    rw [z', ho'] at ho
    cases ho
    rw [hd] at hd'
    cases hd'
  | t a =>
    obtain ⟨o, ho, _, m, hd⟩ := (show h.IsTuple a items from x)
    obtain ⟨o', ho', _, hd'⟩ := (show h.IsTupleIter i a n from y)
    intro z
    have z' : a = i := z
    rw [z', ho'] at ho
    cases ho
    rw [hd] at hd'
    cases hd'
theorem arr_lt {S : Src} {h : Heap} {items : Array Value} (x : S.arr h items) : S.addr < h.objs.size := by
  cases S with
  | l a =>
    obtain ⟨o, ho, _⟩ := (show h.IsList a items from x)
    exact Heap.lt_size ho
  | t a =>
    obtain ⟨o, ho, _⟩ := (show h.IsTuple a items from x)
    exact Heap.lt_size ho
end Src
set_option maxHeartbeats 4000000 in
theorem meets_enum1 {v : Value} {o : Obj} {H : Heap → Prop} (B : Begins v o H) :
    Meets (Builtin.«enumerate.__new__» ⟨[.type "enumerate", v], []⟩) (fun _ R s => H s.heap ∧ R (.ok (.ret (.ref (s.heap.push o).objs.size)))
      { s with heap := (s.heap.push o).push { cls := .type "enumerate", data := .fields #[.none, .bool false, .ref s.heap.objs.size, rawInt 0, .none, .none] } }) :=
  .of_wp fun prog w A R s hs => by
    obtain ⟨hp, g, d, tk, os⟩ := s
    obtain ⟨hH, hR⟩ := hs
    have subs := sub_enumerate
    have iter : ∀ {A' : Around} {E : Value → Shared → Prop} {Q : Value → Shared → Prop}, Q (.ref hp.objs.size) ⟨hp.push o, g, d, tk, os⟩ → wpAny (model prog w) A' (pyIter v) Q E ⟨hp, g, d, tk, os⟩ := fun q => B.iter prog w _ _ _ _ hH q
    wp_walk using iter
    refine wpAny_stack_any fun _ => wpAny_pure ?_
    split
    · rename_i c _ _ _ _ _
      cases (c == Value.type "enumerate") <;> (wp_walk using iter; exact ⟨_, rfl, hR⟩)
    · wp_walk using iter
      exact ⟨_, rfl, hR⟩
theorem call_enum1 {prog : Program} {w : World} {A : Around} {E : Value → Shared → Prop} {s : Shared} {v : Value} {o : Obj} {H : Heap → Prop} {Q : Value → Shared → Prop} (B : Begins v o H) (hH : H s.heap)
    (h : ∀ h', IsEnum h' (s.heap.objs.size + 1) s.heap.objs.size 0 .none → h'.get? s.heap.objs.size = some o → (∀ b u, s.heap.get? b = some u → h'.get? b = some u) → Q (.ref (s.heap.objs.size + 1)) { s with heap := h' }) :
    wpAny (model prog w) A (call (.type "enumerate") [v]) Q E s := by
  refine callType_new F.called_enumerate (by decide) (F.typeCall_enumerate_1 _) (F.newCall_enumerate_1 _) (fun ob => F.args_object_init_2 ob _) F.entry_enumerate_new (meets_enum1 B) ⟨hH, ?_⟩
  have sz : (s.heap.push o).objs.size = s.heap.objs.size + 1 := Heap.size_push ..
  show _ ∧ _
  rw [sz]
  have e := Heap.get?_push_size (s.heap.push o) (o := { cls := .type "enumerate", data := .fields #[.none, .bool false, .ref s.heap.objs.size, rawInt 0, .none, .none] }) rfl
  rw [sz] at e
  exact ⟨⟨_, e, rfl⟩, h _ e (Heap.get?_push_of_some _ (Heap.get?_push_size _ B.free)) fun b u x => Heap.get?_push_of_some _ (Heap.get?_push_of_some _ x)⟩
/-! the turns -/
def Ien (K : PySem.W.Frag) (S : Src) (k0 : Int) : It :=
  ⟨fun n H => ∃ (xs : List V) (x : V), S.here K H xs ∧ xs[n]? = some x, fun n H v H' => ∃ T x, v = .ref T ∧ H T = none ∧ H' = upd H T (.tup [.int (k0 + (n : Nat)), x]) ∧ ∀ xs, S.here K H xs → xs[n]? = some x, fun n H => ∃ xs : List V, S.here K H xs ∧ xs.length = n⟩
theorem turn_en {P : Program} {w : World} {K : PySem.W.Frag} {elts : List Expr} {kk : Nat} {tpos : Pos} (S : Src) (k0 : Int) (e i : Addr) :
    Turn P w K (.Tuple elts kk tpos) (Ien K S k0) [e, i] e (fun n h => (∃ old, IsEnum h e i (k0 + (n : Nat)) old) ∧ S.it h i n ∧ e ≠ i) where
  mem := List.mem_cons_self
  obj := fun n h st b hb => by
    obtain ⟨⟨old, he⟩, hi, _⟩ := st
    rcases List.mem_cons.mp hb with z | z
    · subst z
      exact ⟨_, he, fun v q => nomatch q⟩
    · have z' : b = i := by simpa using z
      subst z'
      exact Src.it_obj hi
  keep := fun n h h' st k => by
    obtain ⟨⟨old, he⟩, hi, ne⟩ := st
    exact ⟨⟨old, k e (by simp) _ he⟩, Src.it_at hi fun o q => k i (by simp) o q, ne⟩
  item := by
    intro X hP hw hK hc n pins s σ H E I hf st hg
    subst hP hw hK
    obtain ⟨⟨old, he⟩, hi, ne⟩ := st
    obtain ⟨xs, x, hq, hx⟩ := hg
    obtain ⟨its, rv, har⟩ := Src.inv I hq
    obtain ⟨u, hu, ru⟩ := rv.get hx
    obtain ⟨oi, hoi, _⟩ := Src.it_obj hi
    have hh : X.A.in1.handled = none := I.ok.hd hc
    have a1 : S.addr ≠ e := Src.arr_ne har he (fun _ _ q => nomatch q)
    have a2 := Src.arr_it har hi
    have Wk := WalksT.enumFrom k0 (Src.draws (prog := X.prog) (w := X.w) hh S i a2 its.toArray) e ne (by simp only [List.mem_cons, List.not_mem_nil, or_false, not_or]; exact ⟨ne, fun z => a1 z.symm⟩) (by simp)
    have ln : n < its.toArray.size := by
      have := (List.getElem?_eq_some_iff.mp hu).1
      simpa using this
    refine Wk.item n s _ E ln ⟨⟨old, he⟩, hi, har⟩ fun T vals h' tk hP hT hTup hMid hk => ⟨_, rfl, Wk.go elts kk tpos n T _ _ _ hMid fun h2 hSt hk2 => ?_⟩
    obtain ⟨t, x', hx', hvals⟩ := hP
    subst hvals
    have ex : x' = u := by
      have q : its.toArray[n]? = some u := by simpa using hu
      rw [hx'] at q
      exact Option.some.inj q
    subst ex
    have out := Wk.apart n T _ hMid
    have tup2 : h2.IsTuple T #[.int (k0 + (n : Nat)) t, x'] := hTup.at fun o q => hk2 T o out q
    have new : ObjOk X.prog X.w (upd H T (.tup [.int (k0 + (n : Nat)), x])) h2 T (.tup [.int (k0 + (n : Nat)), x]) :=
      ⟨by show 2 ≤ sizeLine; decide, [.int (k0 + (n : Nat)) t, x'], .cons ⟨_, rfl⟩ (.cons ru .nil), tup2⟩
    have J := I.turnedNew (t' := tk) (ch := [e, i]) (fun b ob hb q => hk2 b ob hb (hk b ob hb q)) hf hT new
    refine ⟨.ref T, _, J, rfl, ⟨T, x, rfl, I.hok.fresh hT, rfl, fun ys hy => by rw [Src.inj I hy hq]; exact hx⟩, ?_, fun b hb => ?_⟩
    · obtain ⟨⟨o2, he2⟩, hi2, _⟩ := hSt
      have en : k0 + ((n + 1 : Nat) : Int) = k0 + (n : Nat) + 1 := by push_cast; omega
      exact ⟨⟨o2, by first | exact he2 | (rw [en]; exact he2)⟩, hi2, ne⟩
    · have hb' : b < s.heap.objs.size := by
        rcases List.mem_cons.mp hb with z | z
        · rw [z]; exact Heap.lt_size he
        · have z' : b = i := by simpa using z
          rw [z']; exact Heap.lt_size hoi
      rw [upd_ne (Nat.ne_of_lt (Nat.lt_of_lt_of_le hb' hT))]
      exact (hf b hb).1
  done := by
    intro X hP hw hK hc n pins s σ H E I hf st hg
    subst hP hw hK
    obtain ⟨⟨old, he⟩, hi, ne⟩ := st
    obtain ⟨xs, hq, hx⟩ := hg
    obtain ⟨its, rv, har⟩ := Src.inv I hq
    have hh : X.A.in1.handled = none := I.ok.hd hc
    have a1 : S.addr ≠ e := Src.arr_ne har he (fun _ _ q => nomatch q)
    have Wk := WalksT.enumFrom k0 (Src.draws (prog := X.prog) (w := X.w) hh S i (Src.arr_it har hi) its.toArray) e ne (by simp only [List.mem_cons, List.not_mem_nil, or_false, not_or]; exact ⟨ne, fun z => a1 z.symm⟩) (by simp)
    have en : its.toArray.size = n := by rw [List.size_toArray, ← rv.length]; exact hx
    rw [en] at Wk
    exact Wk.done s _ E ⟨⟨old, he⟩, hi, har⟩ fun h' tk hk => ⟨rfl, I.turnedL (t' := tk) (ch := [e, i]) (fun b ob hb q => hk b ob hb q) hf⟩
  self := fun A n s Q E st h => by
    obtain ⟨⟨_, he⟩, _⟩ := st
    exact wpAny_pyIter_enum he h
end Bk

set_option Elab.async false
set_option linter.all false
set_option maxRecDepth 100000
set_option maxHeartbeats 2000000
namespace Bk
open PySem PySem.Spec PyProof.Rows L2
def enumL (k : Int) : List D → List D
  | [] => []
  | d :: ds => .tup [.int k, d] :: enumL (k + 1) ds
theorem enumL_len : ∀ (ds : List D) (k : Int), (enumL k ds).length = ds.length
  | [], _ => rfl
  | d :: ds, k => by simp [enumL, enumL_len ds]
theorem enumL_get : ∀ (ds : List D) (k : Int) (i : Nat) (x : D), (enumL k ds)[i]? = some x → ∃ d, ds[i]? = some d ∧ x = .tup [.int (k + (i : Nat)), d]
  | [], _, _, _, h => by simp [enumL] at h
  | d :: ds, k, 0, x, h => by
    simp [enumL] at h
    exact ⟨d, rfl, by rw [← h]; simp⟩
  | d :: ds, k, i + 1, x, h => by
    simp only [enumL, List.getElem?_cons_succ] at h
    obtain ⟨d', h1, h2⟩ := enumL_get ds (k + 1) i x h
    refine ⟨d', by simpa using h1, ?_⟩
    rw [h2]
    congr 3
    push_cast
    omega
def zipL : List D → List D → List D
  | d :: ds, e :: es => .tup [d, e] :: zipL ds es
  | _, _ => []
theorem zipL_len : ∀ (ds es : List D), (zipL ds es).length = min ds.length es.length
  | [], _ => by simp [zipL]
  | _ :: _, [] => by simp [zipL]
  | d :: ds, e :: es => by
    simp only [zipL, List.length_cons, zipL_len ds es]
    omega
theorem zipL_get : ∀ (ds es : List D) (i : Nat) (x : D), (zipL ds es)[i]? = some x → ∃ d e, ds[i]? = some d ∧ es[i]? = some e ∧ x = .tup [d, e]
  | [], _, _, _, h => by simp [zipL] at h
  | _ :: _, [], _, _, h => by simp [zipL] at h
  | d :: ds, e :: es, 0, x, h => by
    simp [zipL] at h
    exact ⟨d, e, rfl, rfl, h.symm⟩
  | d :: ds, e :: es, i + 1, x, h => by
    simp only [zipL, List.getElem?_cons_succ] at h
    obtain ⟨d', e', h1, h2, h3⟩ := zipL_get ds es i x h
    exact ⟨d', e', by simpa using h1, by simpa using h2, h3⟩
def gEnum (ge : GE) : GI := fun Γ M => (ge Γ M).bind fun d M1 => opR ((seqD d).map (enumL 0)) M1
def gEnumK (ge : GE) (gk : GE) : GI := fun Γ M => (ge Γ M).bind fun d M1 => (gk Γ M1).bind fun k M2 => match k with
  | .int k => if decide (-(2 ^ 63) ≤ k) && decide (k < 2 ^ 63) then opR ((seqD d).map (enumL k)) M2 else .bad
  | _ => .bad
def zipO (x y : D) : Option (List D) := match seqD x, seqD y with
  | some ds, some es => some (zipL ds es)
  | _, _ => none
def gZip (ga gb : GE) : GI := fun Γ M => (ga Γ M).bind fun x M1 => (gb Γ M1).bind fun y M2 => opR (zipO x y) M2
section
variable {X : Cx} {C : CT} {W : WX} {e e2 : Expr} {ge ga gb gk : GE} {p pos tpos : Pos} {elts : List Expr} {kk : Nat}
theorem src_of {K : PySem.W.Frag} {H Z : Hp} {ι : Nat → Addr} {n : Nat} {d : D} {ds : List D} {v : V} (hs : Sub Z H) (r : Rp K Z ι n d v) (h : seqD d = some ds) : ∃ (S : Src) (xs : List V), v = .ref S.addr ∧ S.here K Z xs ∧ Rps K Z ι n ds xs := by
  cases r with
  | lst s r => cases h; exact ⟨.l _, _, rfl, s.sq, r⟩
  | tup s r => cases h; exact ⟨.t _, _, rfl, s, r⟩
  | ptu s r => cases h; exact ⟨.t _, _, rfl, s.sq, r⟩
  | _ => cases h
theorem here_sub {K : PySem.W.Frag} {Z H : Hp} (h : Sub Z H) {S : Src} {xs : List V} : S.here K Z xs → S.here K H xs := by
  cases S with
  | l a =>
    intro q
    rcases (show SqL K Z a xs from q) with (q | ⟨o, q⟩) | q
    · exact .inl (.inl (h _ _ q))
    · exact .inl (.inr ⟨o, h _ _ q⟩)
    · exact .inr q
  | t a => exact fun q => subT h q
theorem itr_en {K : PySem.W.Frag} {Z : Hp} {ι : Nat → Addr} {n : Nat} {S : Src} {xs : List V} {ds : List D} {k : Int} (s : S.here K Z xs) (r : Rps K Z ι n ds xs) : ItR K (Ien K S k) (enumL k ds) Z ι n := by
  intro i H' Z' ι' M' hz hi hn hr _
  have sH : S.here K H' xs := here_sub (fun a o h => hr.sub _ _ (hz _ _ h)) s
  refine ⟨fun hl => ⟨xs, sH, by rw [← r.length, ← enumL_len ds k]; exact hl⟩, fun d hd => ?_⟩
  obtain ⟨d0, h1, rfl⟩ := enumL_get ds k i d hd
  obtain ⟨v, hv, rv⟩ := r.get h1
  refine ⟨⟨xs, v, sH, hv⟩, fun x H2 hy => ?_⟩
  obtain ⟨T, x', rfl, hT, rfl, hx⟩ := hy
  have ex : xs[i]? = some x' := hx _ sH
  rw [hv] at ex
  cases ex
  obtain ⟨q1, q2⟩ := hr.frozen (o := .tup [.int (k + (i : Nat)), v]) hT
  refine ⟨_, q2, q1, .tup (.inl (.inl upd_same)) (.cons (.int _) (.cons ?_ .nil))⟩
  exact Rp.ext (Rp.mono hz hi hn _ _ rv) q2
theorem qi_enum (hg : Gl X "enumerate") (hm : X.mg "enumerate" = none) (ha : QE X C W e ge) (hs : starEach [e] X.env = (false, eval e X.env) :: starEach [] X.env := by rfl) : QI X C W (.Tuple elts kk tpos) (.Call (.Name "enumerate" p) [e] [] pos) (gEnum ge) := by
  obtain ⟨ta, pa, qa⟩ := ha
  refine ⟨fun σ H R => ta σ H fun v H1 => ∃ (S : Src) (xs : List V), v = .ref S.addr ∧ S.here X.K H1 xs ∧ R (Ien X.K S 0) H1, ⟨fun pins s σ H R I h => ?_⟩, fun σ H Z ι Γ M Q sl hr h => qa σ H Z ι Γ M _ sl hr (Post.bind h fun x M1 v H1 Z1 ι1 e1 hr1 r1 h1 => ?_)⟩
  · refine Call_ (ld_blt I hg hm boot_enumerate (PyProof.Rows.callWith_type1 (thn ((pa_cons pa pa_nil hs).run pos pins s σ H (fun vs H1 => ∃ v, vs = [v] ∧ ∃ (S : Src) (xs : List V), v = .ref S.addr ∧ S.here X.K H1 xs ∧ R (Ien X.K S 0) H1) I ?_) fun us s1 hh => ?_) hs rfl))
    · have hmono : (fun x H1 => tNil σ H1 fun xs H2 => ∃ v, x :: xs = [v] ∧ ∃ (S : Src) (ys : List V), v = .ref S.addr ∧ S.here X.K H2 ys ∧ R (Ien X.K S 0) H2) = fun (v : V) (H1 : Hp) => ∃ (S : Src) (xs : List V), v = .ref S.addr ∧ S.here X.K H1 xs ∧ R (Ien X.K S 0) H1 := by
        funext x H1
        apply propext
        constructor
        · rintro ⟨v, ev, q⟩
          cases ev
          exact q
        · intro q
          exact ⟨x, rfl, q⟩
      show ta σ H fun x H1 => tNil σ H1 fun xs H2 => ∃ v, x :: xs = [v] ∧ ∃ (S : Src) (ys : List V), v = .ref S.addr ∧ S.here X.K H2 ys ∧ R (Ien X.K S 0) H2
      rw [hmono]
      exact h
    · obtain ⟨vs, H1, J, r1, v, rfl, S, xs, rfl, hq, q⟩ := hh
      obtain ⟨u, rfl, ru⟩ := Vals.one r1
      cases ru
      obtain ⟨its, rv, har⟩ := Src.inv J hq
      refine call_enum1 (S.begins its.toArray) har fun h' he hit hk => wpAny_pyIter_enum he ?_
      have J2 : Inv X pins σ H1 { s1 with heap := h' } := J.kept (t' := s1.toks) hk
      refine ⟨s1.heap.objs.size + 1, [s1.heap.objs.size + 1, s1.heap.objs.size], _, _, H1, rfl, J2, turn_en S 0 (s1.heap.objs.size + 1) s1.heap.objs.size, ⟨⟨.none, by simpa using he⟩, Src.start hit, Nat.succ_ne_self _⟩, fun b hb => ?_, q⟩
      have le : s1.heap.objs.size ≤ b := by
        rcases List.mem_cons.mp hb with z | z
        · rw [z]; exact Nat.le_succ _
        · have z' : b = s1.heap.objs.size := by simpa using z
          rw [z']
          exact Nat.le_refl _
      exact J.fpOk le (J.hok.fresh le)
  · obtain ⟨items, hd, h2⟩ := Post.of_opR (γ := D) (δ := V) h1
    cases es : seqD x with
    | none => rw [es] at hd; cases hd
    | some ds =>
      rw [es] at hd
      cases hd
      obtain ⟨S, xs, rfl, hS, r⟩ := src_of hr1.sub r1 es
      exact ⟨S, xs, rfl, here_sub hr1.sub hS, h2 _ H1 Z1 ι1 .refl hr1 (itr_en hS r)⟩
theorem qi_enumK (hg : Gl X "enumerate") (hm : X.mg "enumerate" = none) (ha : QE X C W e ge) (hb : QE X C W e2 gk) (hs : starEach [e, e2] X.env = (false, eval e X.env) :: starEach [e2] X.env := by rfl) (hs2 : starEach [e2] X.env = (false, eval e2 X.env) :: starEach [] X.env := by rfl)
    (hpl : (backTo pos (starEach [e2] X.env)).any (·.1) = false := by rfl) : QI X C W (.Tuple elts kk tpos) (.Call (.Name "enumerate" p) [e, e2] [] pos) (gEnumK ge gk) := by
  obtain ⟨ta, pa, qa⟩ := ha
  obtain ⟨tb, pb, qb⟩ := hb
  refine ⟨fun σ H R => ta σ H fun v H1 => tb σ H1 fun u H2 => ∃ (S : Src) (xs : List V) (k : Int), v = .ref S.addr ∧ u = .int k ∧ S.here X.K H2 xs ∧ -(2 ^ 63) ≤ k ∧ k < 2 ^ 63 ∧ R (Ien X.K S k) H2, ⟨fun pins s σ H R I h => ?_⟩,
    fun σ H Z ι Γ M Q sl hr h => qa σ H Z ι Γ M _ sl hr (Post.bind h fun x M1 v H1 Z1 ι1 e1 hr1 r1 h1 => qb σ H1 Z1 ι1 Γ M1 _ (sl.ext e1) hr1 (h1.bind fun y M2 u H2 Z2 ι2 e2 hr2 r2 h2 => ?_))⟩
  · refine Call_ (ld_blt I hg hm boot_enumerate (PyProof.Rows.callWith_type1 (thn ((pa_cons pa (pa_cons pb pa_nil hs2) hs).run pos pins s σ H (fun vs H1 => ∃ v u, vs = [v, u] ∧ ∃ (S : Src) (xs : List V) (k : Int), v = .ref S.addr ∧ u = .int k ∧ S.here X.K H1 xs ∧ -(2 ^ 63) ≤ k ∧ k < 2 ^ 63 ∧ R (Ien X.K S k) H1) I ?_) fun us s1 hh => ?_) hs hpl))
    · have hmono : (fun x H1 => tb σ H1 fun y H2 => tNil σ H2 fun ys H3 => ∃ v u, x :: y :: ys = [v, u] ∧ ∃ (S : Src) (xs : List V) (k : Int), v = .ref S.addr ∧ u = .int k ∧ S.here X.K H3 xs ∧ -(2 ^ 63) ≤ k ∧ k < 2 ^ 63 ∧ R (Ien X.K S k) H3) =
          fun (v : V) (H1 : Hp) => tb σ H1 fun u H2 => ∃ (S : Src) (xs : List V) (k : Int), v = .ref S.addr ∧ u = .int k ∧ S.here X.K H2 xs ∧ -(2 ^ 63) ≤ k ∧ k < 2 ^ 63 ∧ R (Ien X.K S k) H2 := by
        funext x H1
        congr 1
        funext y H2
        apply propext
        constructor
        · rintro ⟨v, u, ev, q⟩
          cases ev
          exact q
        · intro q
          exact ⟨x, y, rfl, q⟩
      show ta σ H fun x H1 => tb σ H1 fun y H2 => tNil σ H2 fun ys H3 => ∃ v u, x :: y :: ys = [v, u] ∧ ∃ (S : Src) (xs : List V) (k : Int), v = .ref S.addr ∧ u = .int k ∧ S.here X.K H3 xs ∧ -(2 ^ 63) ≤ k ∧ k < 2 ^ 63 ∧ R (Ien X.K S k) H3
      rw [hmono]
      exact h
    · obtain ⟨vs, H1, J, r1, v, u, rfl, S, xs, k, rfl, rfl, hq, k1, k2, q⟩ := hh
      obtain ⟨u1, u2, rfl, ru, ru2⟩ := Vals.two r1
      cases ru
      obtain ⟨tk, rfl⟩ := ru2
      obtain ⟨its, rv, har⟩ := Src.inv J hq
      refine enum_begins (S.begins its.toArray) har k1 k2 fun h' he hit _ hk => wpAny_pyIter_enum he ?_
      have J2 : Inv X pins σ H1 { s1 with heap := h' } := J.kept (t' := s1.toks) hk
      refine ⟨s1.heap.objs.size + 1, [s1.heap.objs.size + 1, s1.heap.objs.size], _, _, H1, rfl, J2, turn_en S k (s1.heap.objs.size + 1) s1.heap.objs.size, ⟨⟨.none, by simpa using he⟩, Src.start hit, Nat.succ_ne_self _⟩, fun b hb => ?_, q⟩
      have le : s1.heap.objs.size ≤ b := by
        rcases List.mem_cons.mp hb with z | z
        · rw [z]; exact Nat.le_succ _
        · have z' : b = s1.heap.objs.size := by simpa using z
          rw [z']
          exact Nat.le_refl _
      exact J.fpOk le (J.hok.fresh le)
  · cases r2 with
    | int k =>
      have h3 : Post X C W (rpI X.K) σ H2 Z2 ι2 M2 (if decide (-(2 ^ 63) ≤ k) && decide (k < 2 ^ 63) then opR ((seqD x).map (enumL k)) M2 else .bad) Q := h2
      by_cases c : (decide (-(2 ^ 63) ≤ k) && decide (k < 2 ^ 63)) = true
      · rw [if_pos c] at h3
        simp only [Bool.and_eq_true, decide_eq_true_eq] at c
        obtain ⟨items, hd, h4⟩ := Post.of_opR (γ := D) (δ := V) h3
        cases es : seqD x with
        | none => rw [es] at hd; cases hd
        | some ds =>
          rw [es] at hd
          cases hd
          obtain ⟨S, xs, rfl, hS, r⟩ := src_of hr2.sub (r1.ext e2) es
          exact ⟨S, xs, k, rfl, rfl, here_sub hr2.sub hS, c.1, c.2, h4 _ H2 Z2 ι2 .refl hr2 (itr_en hS r)⟩
      · rw [if_neg c] at h3
        exact h3.elim
    | _ => exact h2.elim
end
end Bk

set_option Elab.async false
set_option linter.all false
set_option maxRecDepth 100000
set_option maxHeartbeats 2000000
namespace Bk
open PySem PySem.Spec PyProof.Rows L2
/-! ### a comprehension over a list of ours, which it leaves as it is -/
def Pure {α : Type} (g : Env → List MO → R α) : Prop := ∀ (Γ : Env) (M : List MO) (d : α) (M' : List MO), g Γ M = .ok d M' → M' = M
theorem R.bind_ok {α β : Type} {r : R α} {f : α → List MO → R β} {b : β} {M' : List MO} (h : r.bind f = .ok b M') : ∃ a M1, r = .ok a M1 ∧ f a M1 = .ok b M' := by
  cases r with
  | ok a M1 => exact ⟨a, M1, rfl, h⟩
  | exc c d M1 => cases h
  | bad => cases h
theorem opR_ok {α : Type} {o : Option α} {M M' : List MO} {a : α} (h : opR o M = .ok a M') : M' = M := by
  cases o with
  | none => cases h
  | some a => cases h; rfl
theorem pure_v (i : Nat) : Pure (gV i) := fun Γ M d M' h => by
  unfold gV at h
  split at h <;> cases h
  rfl
theorem pure_c (d : D) : Pure (gC d) := fun Γ M d M' h => by cases h; rfl
theorem pure_op1 {f : List MO → D → Option D} {ga : GE} (h1 : Pure ga) : Pure (gOp1 f ga) := fun Γ M d M' h => by
  obtain ⟨a, M1, e1, h⟩ := R.bind_ok h
  rw [opR_ok h, h1 _ _ _ _ e1]
theorem pure_op2 {f : List MO → D → D → Option D} {ga gb : GE} (h1 : Pure ga) (h2 : Pure gb) : Pure (gOp2 f ga gb) := fun Γ M d M' h => by
  obtain ⟨a, M1, e1, h⟩ := R.bind_ok h
  obtain ⟨b, M2, e2, h⟩ := R.bind_ok h
  rw [opR_ok h, h2 _ _ _ _ e2, h1 _ _ _ _ e1]
theorem pure_yes : Pure gYes := fun Γ M d M' h => by cases h; rfl
theorem pure_val {ga : GE} (h1 : Pure ga) : Pure (gVal ga) := fun Γ M d M' h => by
  obtain ⟨a, M1, e1, h⟩ := R.bind_ok h
  rw [opR_ok h, h1 _ _ _ _ e1]
theorem pure_notT {ga : GT} (h1 : Pure ga) : Pure (gNotT ga) := fun Γ M d M' h => by
  obtain ⟨a, M1, e1, h⟩ := R.bind_ok h
  cases h
  exact h1 _ _ _ _ e1
theorem pure_nil : Pure gNil := fun Γ M d M' h => by cases h; rfl
theorem pure_cons {ga : GE} {gs : GA} (h1 : Pure ga) (h2 : Pure gs) : Pure (gCons ga gs) := fun Γ M d M' h => by
  obtain ⟨a, M1, e1, h⟩ := R.bind_ok h
  obtain ⟨b, M2, e2, h⟩ := R.bind_ok h
  cases h
  rw [h2 _ _ _ _ e2, h1 _ _ _ _ e1]
theorem pure_tup {gs : GA} (h1 : Pure gs) : Pure (gTup gs) := fun Γ M d M' h => by
  obtain ⟨a, M1, e1, h⟩ := R.bind_ok h
  split at h
  · cases h
    exact h1 _ _ _ _ e1
  · cases h
theorem pure_call {f : List MO → List D → Option D} {gs : GA} (h1 : Pure gs) : Pure (gCall f gs) := fun Γ M d M' h => by
  obtain ⟨a, M1, e1, h⟩ := R.bind_ok h
  rw [opR_ok h, h1 _ _ _ _ e1]
def gLcW (ge : GE) (gg : GG) (gt : GT) (gel : GE) (own : List Nat) : GE := fun Γ M => (ge Γ M).bind fun d M1 => match d with
  | .ref k => match M1[k]? with
    | some (.lst ds) => (gLcL gg gt gel (forget Γ own) ds [] M1).bind fun acc M2 => .ok (.lst acc) M2
    | _ => .bad
  | _ => .bad
theorem itr_o {K : PySem.W.Frag} {Z : Hp} {ι : Nat → Addr} {n k : Nat} {ds : List D} (hk : k < n) : ItC (fun M => M[k]? = some (.lst ds)) K (Itl K (ι k)) ds Z ι n := by
  intro i H' Z' ι' M' hz hi hn hr hM
  obtain ⟨xs, e1, r⟩ := hr.obj k _ hM
  rw [hi k hk] at e1
  have sH : SqL K H' (ι k) xs := .of e1
  refine ⟨fun hl => ⟨xs, sH, by rw [← r.length]; exact Nat.le_of_eq hl⟩, fun d hd => ?_⟩
  obtain ⟨v, hv, rv⟩ := r.get hd
  refine ⟨⟨xs, v, sH, hv⟩, fun x H2 hy => ?_⟩
  obtain ⟨rfl, hx⟩ := hy
  have ex : xs[i]? = some x := hx _ sH
  rw [hv] at ex
  cases ex
  exact ⟨Z', .refl, hr, rv⟩
section
variable {X : Cx} {C : CT} {W : WX} {elt tg iter : Expr} {ifs : List Expr} {scope : Scope} {own : List (Str × Nat)} {pos : Pos} {gi : GE} {gg : GG} {gt : GT} {ge : GE} {is ixs : List Nat}
theorem qe_lcW (hc : X.calm = true) (hN : X.N.Nodup) (hi : QE X C W iter gi) (ok : BlkOk X.N X.env.scope scope own) (hg : Blk X scope fun Y => QG Y tg gg is) (ht : Blk X scope fun Y => QTs Y C noW ifs gt) (he : Blk X scope fun Y => QE Y C noW elt ge)
    (p1 : Pure gt) (p2 : Pure ge) (hix : ixs = own.map (·.2) := by rfl) (hsub : ∀ i ∈ is, i ∈ own.map (·.2) := by decide) (hs : ∀ x, foldedSetIterable iter X.env x = pure x := by intro _; rfl) : QE X C W (.ListComp elt [⟨tg, iter, ifs, 0⟩] scope pos) (gLcW gi gg gt ge ixs) := by
  subst hix
  obtain ⟨ta, pa, qa⟩ := hi
  refine ⟨_, pe_lc hc hN (pi_seq pa) ok (blk_g hg) (blk_t ht) (blk_e he) hs, fun σ H Z ι Γ M Q sl hr h => qa σ H Z ι Γ M _ sl hr (Post.bind h fun x M1 v H1 Z1 ι1 e1 hr1 r1 h1 => ?_)⟩
  cases r1 with
  | ref hk =>
    rename_i k
    have h2 : Post X C W (rpE X.K) σ H1 Z1 ι1 M1 (match M1[k]? with
      | some (.lst ds) => (gLcL gg gt ge (forget Γ (own.map (·.2))) ds [] M1).bind fun acc M2 => .ok (.lst acc) M2
      | _ => .bad) Q := h1
    cases e2 : M1[k]? with
    | none => rw [e2] at h2; exact h2.elim
    | some o =>
      rw [e2] at h2
      cases o with
      | dead => exact h2.elim
      | dct ks0 vs0 => exact h2.elim
      | dki kvs0 => exact h2.elim
      | obj nm fs => exact h2.elim
      | lst ds =>
        obtain ⟨xs, a1, a2⟩ := hr1.obj k _ e2
        refine ⟨ι1 k, rfl, .inl ⟨⟨xs, .of a1⟩, fun p hp => ?_⟩⟩
        exact gLcL_run hsub (slots_wipe _ (sl.ext e1)) (itr_o hk) e2 (fun Γ M d M' e c => by rw [p1 _ _ _ _ e]; exact c) (fun Γ M d M' e c => by rw [p2 _ _ _ _ e]; exact c) hp hr1 h2
          fun acc accV M' H' Z' ι' b1 b2 b3 b4 b5 b6 => fin_z hp b1 b2 b3 b4 b5 b6
  | _ => exact h1.elim
end
end Bk
namespace Bk
open PySem PySem.Spec PyProof.Rows L2
theorem qs_pre {X : Cx} {C : CT} {W : WX} {st : Stmt} {g : GS} (is : List Nat) (h1 : QS X C W st g) : QS X C W st (gSeq (gForget is) g) := by
  obtain ⟨t, p, q⟩ := h1
  exact ⟨t, p, fun Dd σ H Z ι Γ M sl hr h => q Dd σ H Z ι (forget Γ is) M (sl.forget is) hr h⟩
end Bk

set_option Elab.async false
set_option linter.all false
set_option maxRecDepth 100000
set_option maxHeartbeats 2000000
namespace Bk
open PySem PySem.Spec PyProof.Rows L2
/-! ### ==, for texts of any kind as well -/
def dEqA (M : List MO) (x y : D) : Option D := match x, y with
  | .str a, .str b => some (.bl (decide (a = b)))
  | x, y => dEq M x y
def dNeA (M : List MO) (x y : D) : Option D := match x, y with
  | .str a, .str b => some (.bl (!decide (a = b)))
  | x, y => dNe M x y
section
variable {X : Cx}
theorem op_eqA (hu : X.A.units + 64 < cLine) : OpR X (compareOp .Eq) (fun x y H Q => rEqD X.K x y H Q ∨ rEq x y H Q) := (op_eqD hu).or op_eq
theorem op_neA (hu : X.A.units + 64 < cLine) : OpR X (compareOp .NotEq) (fun x y H Q => rNeD X.K x y H Q ∨ rNe x y H Q) := (op_neD hu).or op_ne
theorem str_dec (a b : Str) : decide (V.str a = V.str b) = decide (a = b) := by simp
theorem ok_eqA : Ok2 X (fun x y H Q => rEqD X.K x y H Q ∨ rEq x y H Q) dEqA := fun x y H Z ι M dx dy d Q hr rx ry e q => by
  unfold dEqA at e
  split at e
  · cases e
    cases rx
    cases ry
    exact .inr ⟨rfl, q.now hr (by rw [str_dec]; exact .bl _)⟩
  · exact .inl (ok_eq x y H Z ι M dx dy d Q hr rx ry e q)
theorem ok_neA : Ok2 X (fun x y H Q => rNeD X.K x y H Q ∨ rNe x y H Q) dNeA := fun x y H Z ι M dx dy d Q hr rx ry e q => by
  unfold dNeA at e
  split at e
  · cases e
    cases rx
    cases ry
    exact .inr ⟨rfl, q.now hr (by rw [str_dec]; exact .bl _)⟩
  · exact .inl (ok_ne x y H Z ι M dx dy d Q hr rx ry e q)
end
@[simp] theorem e_eqS (M : List MO) (a b : Str) : dEqA M (.str a) (.str b) = some (.bl (decide (a = b))) := Eq.trans rfl rfl
@[simp] theorem e_neS (M : List MO) (a b : Str) : dNeA M (.str a) (.str b) = some (.bl (!decide (a = b))) := Eq.trans rfl rfl
/-! ### data that is as it is -/
structure Dt (n : Nat) (d : D) (p : PyData) : Prop where
  e : toP d = some p
  l : p.canLay0 = true
  h : p.depth ≤ n
structure Dts (n : Nat) (ds : List D) (ps : List PyData) : Prop where
  e : toPs ds = some ps
  l : PyData.canLayAll0 ps = true
  h : PyData.depthAll ps ≤ n
theorem Dt.int (n : Nat) (i : Int) : Dt n (.int i) (.int i) := ⟨rfl, rfl, Nat.zero_le _⟩
theorem Dt.non (n : Nat) : Dt n .non .none := ⟨rfl, rfl, Nat.zero_le _⟩
theorem Dt.bl (n : Nat) (b : Bool) : Dt n (.bl b) (.bool b) := ⟨rfl, rfl, Nat.zero_le _⟩
theorem Dts.nil (n : Nat) : Dts n [] [] := ⟨rfl, rfl, Nat.zero_le _⟩
theorem Dts.cons {n : Nat} {d : D} {ds : List D} {p : PyData} {ps : List PyData} (h : Dt n d p) (t : Dts n ds ps) : Dts n (d :: ds) (p :: ps) :=
  ⟨by simp [toPs, h.e, t.e], by simp [PyData.canLayAll0, h.l, t.l], by have := h.h; have := t.h; simp only [PyData.depthAll]; omega⟩
theorem Dts.tup {n : Nat} {ds : List D} {ps : List PyData} (h : Dts n ds ps) : Dt (n + 1) (.tup ds) (.tuple ps) := ⟨by simp [toP, h.e], by simpa [PyData.canLay0] using h.l, by have := h.h; simp only [PyData.depth]; omega⟩
theorem Dts.lst {n : Nat} {ds : List D} {ps : List PyData} (h : Dts n ds ps) : Dt (n + 1) (.lst ds) (.list ps) := ⟨by simp [toP, h.e], by simpa [PyData.canLay0] using h.l, by have := h.h; simp only [PyData.depth]; omega⟩
theorem Dts.map {α : Type} {n : Nat} {f : α → D} {g : α → PyData} (xs : List α) (h : ∀ x ∈ xs, Dt n (f x) (g x)) : Dts n (xs.map f) (xs.map g) := by
  induction xs with
  | nil => exact .nil n
  | cons x xs ih => exact .cons (h x (by simp)) (ih fun y hy => h y (by simp [hy]))
theorem Dts.ints (n : Nat) (is : List Int) : Dts n (is.map D.int) (is.map PyData.int) := Dts.map is fun i _ => .int n i
theorem Dt.shaped {n : Nat} {d : D} {p : PyData} (h : Dt n d p) (hn : n ≤ 64) : SeqAt.shaped p = true := by
  have := h.h
  simp [SeqAt.shaped, h.l]
  omega
theorem eqP_of {n m : Nat} {M : List MO} {x y d d' : D} {p q : PyData} (h : Dt n d p) (h' : Dt m d' q) (hx : deref M x = d) (hy : deref M y = d') (hn : n ≤ 64) (hm : m ≤ 64) : eqP M x y = some (PyData.eqv p q) := by
  unfold eqP
  rw [hx, hy, h.e, h'.e]
  simp [h.shaped hn, h'.shaped hm]
theorem eqv_same {p : PyData} (h : p.canLay0 = true) : PyData.eqv p p = true := SeqAt.eqv_refl p h
theorem eqP_same {n : Nat} {M : List MO} {x y d : D} {p : PyData} (h : Dt n d p) (hx : deref M x = d) (hy : deref M y = d) (hn : n ≤ 64) : eqP M x y = some true := by
  rw [eqP_of h h hx hy hn hn, eqv_same h.l]
theorem dEqA_p {M : List MO} {x y : D} {b : Bool} (h : eqP M x y = some b) (hx : ∀ s, x ≠ .str s) : dEqA M x y = some (.bl b) := by
  unfold dEqA
  split
  · exact absurd rfl (hx _)
  · simp [dEq, h]
theorem dNeA_p {M : List MO} {x y : D} {b : Bool} (h : eqP M x y = some b) (hx : ∀ s, x ≠ .str s) : dNeA M x y = some (.bl !b) := by
  unfold dNeA
  split
  · exact absurd rfl (hx _)
  · simp [dNe, h]
@[simp] theorem dEqA_int (M : List MO) (i j : Int) : dEqA M (.int i) (.int j) = some (.bl (decide (i = j))) := by
  rw [dEqA_p (eqP_of (Dt.int 0 i) (Dt.int 0 j) rfl rfl (by decide) (by decide)) (fun _ h => by cases h)]
  simp only [PyData.eqv]
  congr 2
  try rfl
@[simp] theorem dNeA_int (M : List MO) (i j : Int) : dNeA M (.int i) (.int j) = some (.bl (!decide (i = j))) := by
  rw [dNeA_p (eqP_of (Dt.int 0 i) (Dt.int 0 j) rfl rfl (by decide) (by decide)) (fun _ h => by cases h)]
  simp only [PyData.eqv]
  congr 2
  try rfl
theorem deref_ref {M : List MO} {k : Nat} {ds : List D} (h : M[k]? = some (.lst ds)) : deref M (.ref k) = .lst (ds.map (deref1 M)) := by
  simp [deref, deref1, h]
mutual
theorem below_toP : ∀ (d : D) (p : PyData), toP d = some p → below 0 d = true
  | .non, _, _ => rfl
  | .bl _, _, _ => rfl
  | .int _, _, _ => rfl
  | .str _, _, _ => rfl
  | .tup ds, p, h => by
    cases e : toPs ds with
    | none => simp [toP, e] at h
    | some ps => simpa [below] using belows_toPs ds ps e
  | .lst ds, p, h => by
    cases e : toPs ds with
    | none => simp [toP, e] at h
    | some ps => simpa [below] using belows_toPs ds ps e
  | .ref _, _, h => by cases h
  | .dct _ _, _, h => by cases h
  | .ptu ds, p, h => by
    cases e : toPs ds with
    | none => simp [toP, e] at h
    | some ps => simpa [below] using belows_toPs ds ps e
theorem belows_toPs : ∀ (ds : List D) (ps : List PyData), toPs ds = some ps → belows 0 ds = true
  | [], _, _ => rfl
  | d :: ds, ps, h => by
    cases e1 : toP d with
    | none => simp [toPs, e1] at h
    | some p =>
      cases e2 : toPs ds with
      | none => simp [toPs, e1, e2] at h
      | some ps => simp [belows, below_toP d p e1, belows_toPs ds ps e2]
end
mutual
theorem below_up : ∀ {m : Nat} (d : D), below 0 d = true → below m d = true
  | _, .non, _ => rfl
  | _, .bl _, _ => rfl
  | _, .int _, _ => rfl
  | _, .str _, _ => rfl
  | m, .tup ds, h => by simpa [below] using belows_up ds (by simpa [below] using h)
  | m, .lst ds, h => by simpa [below] using belows_up ds (by simpa [below] using h)
  | _, .ref _, h => by simp [below] at h
  | m, .dct ks vs, h => by
    have h' : belows 0 ks = true ∧ belows 0 vs = true := by simpa [below] using h
    simp [below, belows_up ks h'.1, belows_up vs h'.2]
  | m, .ptu ds, h => by simpa [below] using belows_up ds (by simpa [below] using h)
theorem belows_up : ∀ {m : Nat} (ds : List D), belows 0 ds = true → belows m ds = true
  | _, [], _ => rfl
  | m, d :: ds, h => by
    simp only [belows, Bool.and_eq_true] at h ⊢
    exact ⟨below_up d h.1, belows_up ds h.2⟩
end
mutual
theorem flat_noref : ∀ (M : List MO) (d : D), below 0 d = true → deref1 M d = d
  | _, .non, _ => rfl
  | _, .bl _, _ => rfl
  | _, .int _, _ => rfl
  | _, .str _, _ => rfl
  | _, .tup _, _ => rfl
  | _, .lst _, _ => rfl
  | _, .ref _, h => by simp [below] at h
  | _, .dct _ _, _ => rfl
  | _, .ptu _, _ => rfl
end
theorem belows_all {m : Nat} (ds : List D) : belows m ds = ds.all (below m) := by
  induction ds with
  | nil => rfl
  | cons d ds ih => simp [belows, ih]
theorem map_deref {M : List MO} {ds : List D} (h : belows 0 ds = true) : ds.map (deref1 M) = ds := by
  rw [belows_all, List.all_eq_true] at h
  conv => rhs; rw [← List.map_id ds]
  exact List.map_congr_left fun d hd => flat_noref M d (h d hd)
theorem deref_flat {M : List MO} {d : D} (h : below 0 d = true) : deref M d = d := by
  unfold deref
  rw [flat_noref M d h]
  cases d with
  | lst ds =>
    show D.lst (ds.map (deref1 M)) = _
    rw [map_deref (by simpa [below] using h)]
  | _ => rfl
theorem Dt.below {n m : Nat} {d : D} {p : PyData} (h : Dt n d p) : below m d = true := below_up d (below_toP d p h.e)
theorem Dts.belows {n m : Nat} {ds : List D} {ps : List PyData} (h : Dts n ds ps) : belows m ds = true := belows_up ds (belows_toPs ds ps h.e)
theorem Dt.deref {n : Nat} {M : List MO} {d : D} {p : PyData} (h : Dt n d p) : deref M d = d := deref_flat h.below
theorem Dts.derefR {n : Nat} {M : List MO} {k : Nat} {ds : List D} {ps : List PyData} (h : Dts n ds ps) (hk : M[k]? = some (.lst ds)) : deref M (.ref k) = .lst ds := by rw [deref_ref hk, map_deref h.belows]
@[simp] theorem belows_ints (m : Nat) (is : List Int) : belows m (is.map D.int) = true := (Dts.ints 0 is).belows
/-! what repr writes is not too long -/
structure Sh (b : Nat) (p : PyData) : Prop where
  s : p.showable = true
  d : p.hasDict = false
  l : p.leavesShort 13 = true
  b : p.bulk ≤ b
structure Shs (b : Nat) (ps : List PyData) : Prop where
  s : PyData.showableAll ps = true
  d : PyData.hasDictAll ps = false
  l : PyData.leavesShortAll 13 ps = true
  b : PyData.bulkAll ps ≤ b
theorem Sh.int {i : Int} (h : i.natAbs < 10 ^ 12) : Sh 0 (.int i) := ⟨by
  have : i.natAbs.log2 < 1920 := by
    by_cases z : i.natAbs = 0
    · rw [z]; decide
    · have : i.natAbs.log2 < 40 := (Nat.log2_lt z).mpr (by omega)
      omega
  simp [PyData.showable, this], rfl, by simpa [PyData.leavesShort] using PyData.shown_int_le h, Nat.le_refl _⟩
theorem Sh.non : Sh 0 .none := ⟨rfl, rfl, rfl, Nat.le_refl _⟩
theorem Sh.bl (b : Bool) : Sh 0 (.bool b) := ⟨rfl, rfl, rfl, Nat.le_refl _⟩
theorem Shs.nil : Shs 0 [] := ⟨rfl, rfl, rfl, Nat.le_refl _⟩
theorem Shs.cons {b c : Nat} {p : PyData} {ps : List PyData} (h : Sh b p) (t : Shs c ps) : Shs (b + 1 + c) (p :: ps) :=
  ⟨by simp [PyData.showableAll, h.s, t.s], by simp [PyData.hasDictAll, h.d, t.d], by simp [PyData.leavesShortAll, h.l, t.l], by have := h.b; have := t.b; simp only [PyData.bulkAll]; omega⟩
theorem Shs.tup {b : Nat} {ps : List PyData} (h : Shs b ps) : Sh b (.tuple ps) := ⟨by simpa [PyData.showable] using h.s, by simpa [PyData.hasDict] using h.d, by simpa [PyData.leavesShort] using h.l, by simpa [PyData.bulk] using h.b⟩
theorem Shs.lst {b : Nat} {ps : List PyData} (h : Shs b ps) : Sh b (.list ps) := ⟨by simpa [PyData.showable] using h.s, by simpa [PyData.hasDict] using h.d, by simpa [PyData.leavesShort] using h.l, by simpa [PyData.bulk] using h.b⟩
theorem Shs.map {α : Type} {b : Nat} {g : α → PyData} (xs : List α) (h : ∀ x ∈ xs, Sh b (g x)) : Shs (xs.length * (b + 1)) (xs.map g) := by
  induction xs with
  | nil => simpa using Shs.nil
  | cons x xs ih =>
    have := Shs.cons (h x (by simp)) (ih fun y hy => h y (by simp [hy]))
    simp only [List.length_cons, List.map_cons]
    rw [Nat.succ_mul, Nat.add_comm]
    exact this
theorem Shs.ints {is : List Int} (h : ∀ i ∈ is, i.natAbs < 10 ^ 12) : Shs is.length (is.map PyData.int) := by
  have := Shs.map (b := 0) is fun i hi => Sh.int (h i hi)
  simpa using this
theorem repr_of {n b : Nat} {M : List MO} {x d : D} {p : PyData} (h : Dt n d p) (s : Sh b p) (hx : deref M x = d) (hn : n ≤ 60) (hb : b ≤ 2 ^ 20) (hk : (∃ k, x = .ref k) ∨ (∃ ds, x = .lst ds) ∨ ∃ ds, x = .tup ds) : dRepr M x = some (.str p.shown) := by
  have e : dRepr M x = (toP (deref M x)).bind fun p => if (p.showable && !p.hasDict && decide (p.depth ≤ 60) && decide (p.shown.length ≤ sizeLine)) = true then some (.str p.shown) else none := by
    rcases hk with ⟨k, rfl⟩ | ⟨k, rfl⟩ | ⟨k, rfl⟩ <;> rfl
  rw [e, hx, h.e, Option.bind_some, if_pos]
  have h1 := h.h
  have h2 := PyData.shown_fits_bulk (B := 13) (by decide) (by decide) s.l (Nat.le_trans s.b hb)
  have h3 : p.depth ≤ 60 := by omega
  simp [s.s, s.d, h3, h2]
end Bk

set_option Elab.async false
set_option linter.all false
set_option maxRecDepth 100000
set_option maxHeartbeats 2000000
namespace Bk
open PySem PySem.Spec PyProof.Rows L2
/-! ### how the functions are worked out -/
section
variable {α β : Type}
@[simp] theorem rb_ok (a : α) (M : List MO) (f : α → List MO → R β) : (R.ok a M).bind f = f a M := Eq.trans rfl rfl
@[simp] theorem rb_ex (c : Nat) (d : D) (M : List MO) (f : α → List MO → R β) : (R.exc c d M : R α).bind f = .exc c d M := Eq.trans rfl rfl
@[simp] theorem rt_ok (Γ : Env) (a : α) (M : List MO) (f : α → List MO → RS) : (R.ok a M).thenS Γ f = f a M := Eq.trans rfl rfl
@[simp] theorem rt_ex (Γ : Env) (c : Nat) (d : D) (M : List MO) (f : α → List MO → RS) : (R.exc c d M : R α).thenS Γ f = .exc c d Γ M := Eq.trans rfl rfl
@[simp] theorem ro_ok (a : α) (M : List MO) (f : α → List MO → R β) : (R.ok a M).only f = f a M := Eq.trans rfl rfl
@[simp] theorem sn_nx (Γ : Env) (M : List MO) (f : Env → List MO → RS) : (RS.nx Γ M).next f = f Γ M := Eq.trans rfl rfl
@[simp] theorem sn_rt (d : D) (M : List MO) (f : Env → List MO → RS) : (RS.rt d M).next f = .rt d M := Eq.trans rfl rfl
@[simp] theorem sn_ct (Γ : Env) (M : List MO) (f : Env → List MO → RS) : (RS.ct Γ M).next f = .ct Γ M := Eq.trans rfl rfl
@[simp] theorem sn_bk (Γ : Env) (M : List MO) (f : Env → List MO → RS) : (RS.bk Γ M).next f = .bk Γ M := Eq.trans rfl rfl
@[simp] theorem sn_ex (c : Nat) (d : D) (Γ : Env) (M : List MO) (f : Env → List MO → RS) : (RS.exc c d Γ M).next f = .exc c d Γ M := Eq.trans rfl rfl
@[simp] theorem st_nx (Γ : Env) (M : List MO) (f : Env → List MO → RS) : (RS.nx Γ M).turn f = f Γ M := Eq.trans rfl rfl
@[simp] theorem st_ct (Γ : Env) (M : List MO) (f : Env → List MO → RS) : (RS.ct Γ M).turn f = f Γ M := Eq.trans rfl rfl
@[simp] theorem st_bk (Γ : Env) (M : List MO) (f : Env → List MO → RS) : (RS.bk Γ M).turn f = .nx Γ M := Eq.trans rfl rfl
@[simp] theorem st_rt (d : D) (M : List MO) (f : Env → List MO → RS) : (RS.rt d M).turn f = .rt d M := Eq.trans rfl rfl
@[simp] theorem st_ex (c : Nat) (d : D) (Γ : Env) (M : List MO) (f : Env → List MO → RS) : (RS.exc c d Γ M).turn f = .exc c d Γ M := Eq.trans rfl rfl
@[simp] theorem opR_some (a : α) (M : List MO) : opR (some a) M = .ok a M := Eq.trans rfl rfl
@[simp] theorem optS_some (Γ : Env) (f : Env → RS) : optS (some Γ) f = f Γ := Eq.trans rfl rfl
theorem rb_if {c : Prop} [Decidable c] (a b : R α) (f : α → List MO → R β) : (if c then a else b).bind f = if c then a.bind f else b.bind f := by split <;> rfl
theorem rt_if {c : Prop} [Decidable c] (Γ : Env) (a b : R α) (f : α → List MO → RS) : (if c then a else b).thenS Γ f = if c then a.thenS Γ f else b.thenS Γ f := by split <;> rfl
theorem sn_if {c : Prop} [Decidable c] (a b : RS) (f : Env → List MO → RS) : (if c then a else b).next f = if c then a.next f else b.next f := by split <;> rfl
theorem st_if {c : Prop} [Decidable c] (a b : RS) (f : Env → List MO → RS) : (if c then a else b).turn f = if c then a.turn f else b.turn f := by split <;> rfl
end
@[simp] theorem u_gV (i : Nat) (Γ : Env) (M : List MO) : gV i Γ M = (match Γ[i]? with
  | some (some d) => .ok d M
  | _ => .bad) := Eq.trans rfl rfl
@[simp] theorem u_gC (d : D) (Γ : Env) (M : List MO) : gC d Γ M = .ok d M := Eq.trans rfl rfl
@[simp] theorem u_gOp2 (f : List MO → D → D → Option D) (ga gb : GE) (Γ : Env) (M : List MO) : gOp2 f ga gb Γ M = (ga Γ M).bind fun x M1 => (gb Γ M1).bind fun y M2 => opR (f M2 x y) M2 := Eq.trans rfl rfl
@[simp] theorem u_gOp1 (f : List MO → D → Option D) (ga : GE) (Γ : Env) (M : List MO) : gOp1 f ga Γ M = (ga Γ M).bind fun x M1 => opR (f M1 x) M1 := Eq.trans rfl rfl
@[simp] theorem u_gNil (Γ : Env) (M : List MO) : gNil Γ M = .ok [] M := Eq.trans rfl rfl
@[simp] theorem u_gCons (ga : GE) (gr : GA) (Γ : Env) (M : List MO) : gCons ga gr Γ M = (ga Γ M).bind fun x M1 => (gr Γ M1).bind fun xs M2 => .ok (x :: xs) M2 := Eq.trans rfl rfl
@[simp] theorem u_gTup (ga : GA) (Γ : Env) (M : List MO) : gTup ga Γ M = (ga Γ M).bind fun xs M1 => if xs.length ≤ sizeLine then .ok (.tup xs) M1 else .bad := Eq.trans rfl rfl
@[simp] theorem u_gLst (ga : GA) (Γ : Env) (M : List MO) : gLst ga Γ M = (ga Γ M).bind fun xs M1 => if xs.length ≤ sizeLine then .ok (.lst xs) M1 else .bad := Eq.trans rfl rfl
@[simp] theorem u_gLstO (ga : GA) (Γ : Env) (M : List MO) : gLstO ga Γ M = (ga Γ M).bind fun xs M1 => if xs.length ≤ sizeLine then .ok (.ref M1.length) (M1 ++ [.lst xs]) else .bad := Eq.trans rfl rfl
@[simp] theorem u_gCall (f : List MO → List D → Option D) (ga : GA) (Γ : Env) (M : List MO) : gCall f ga Γ M = (ga Γ M).bind fun xs M1 => opR (f M1 xs) M1 := Eq.trans rfl rfl
@[simp] theorem u_gVal (ga : GE) (Γ : Env) (M : List MO) : gVal ga Γ M = (ga Γ M).bind fun x M1 => opR (toBl x) M1 := Eq.trans rfl rfl
@[simp] theorem u_gAndT (a b : GT) (Γ : Env) (M : List MO) : gAndT a b Γ M = (a Γ M).bind fun c M1 => if c = true then b Γ M1 else .ok false M1 := Eq.trans rfl rfl
@[simp] theorem u_gOrT (a b : GT) (Γ : Env) (M : List MO) : gOrT a b Γ M = (a Γ M).bind fun c M1 => if c = true then .ok true M1 else b Γ M1 := Eq.trans rfl rfl
@[simp] theorem u_gNotT (a : GT) (Γ : Env) (M : List MO) : gNotT a Γ M = (a Γ M).bind fun c M1 => .ok (!c) M1 := Eq.trans rfl rfl
@[simp] theorem u_gIfE (c : GT) (a b : GE) (Γ : Env) (M : List MO) : gIfE c a b Γ M = (c Γ M).bind fun k M1 => if k = true then a Γ M1 else b Γ M1 := Eq.trans rfl rfl
@[simp] theorem u_gAndV (a b : GE) (Γ : Env) (M : List MO) : gAndV a b Γ M = ((a Γ M).bind fun x M1 => match x with
  | .bl c => if c = true then b Γ M1 else .ok (.bl false) M1
  | _ => .bad) := Eq.trans rfl rfl
@[simp] theorem u_gOrV (a b : GE) (Γ : Env) (M : List MO) : gOrV a b Γ M = ((a Γ M).bind fun x M1 => match x with
  | .bl c => if c = true then .ok (.bl true) M1 else b Γ M1
  | _ => .bad) := Eq.trans rfl rfl
@[simp] theorem u_gChain (f f' : List MO → D → D → Option D) (ga gb gc : GE) (Γ : Env) (M : List MO) : gChain f f' ga gb gc Γ M = ((ga Γ M).bind fun x M1 => (gb Γ M1).bind fun y M2 => (opR (f M2 x y) M2).bind fun k M3 => match k with
  | .bl c => if c = true then (gc Γ M3).bind fun z M4 => opR (f' M4 y z) M4 else .ok (.bl false) M3
  | _ => .bad) := Eq.trans rfl rfl
@[simp] theorem u_gSeqI (ge : GE) (Γ : Env) (M : List MO) : gSeqI ge Γ M = (ge Γ M).bind fun d M1 => opR (seqD d) M1 := Eq.trans rfl rfl
@[simp] theorem u_gRng1 (ga : GA) (Γ : Env) (M : List MO) : gRng1 ga Γ M = (ga Γ M).bind fun ds M1 => opR (rng1 ds) M1 := Eq.trans rfl rfl
@[simp] theorem u_gRng2 (ga : GA) (Γ : Env) (M : List MO) : gRng2 ga Γ M = (ga Γ M).bind fun ds M1 => opR (rng2 ds) M1 := Eq.trans rfl rfl
@[simp] theorem u_gTo (i : Nat) (d : D) (Γ : Env) : gTo i d Γ = some (Γ.set i (some d)) := Eq.trans rfl rfl
@[simp] theorem u_gToT (gs : GGs) (d : D) (Γ : Env) : gToT gs d Γ = (match d with
  | .tup ds => gs ds Γ
  | _ => none) := Eq.trans rfl rfl
@[simp] theorem u_gToNil (ds : List D) (Γ : Env) : gToNil ds Γ = (match ds with
  | [] => some Γ
  | _ :: _ => none) := Eq.trans rfl rfl
@[simp] theorem u_gToCons (g : GG) (gs : GGs) (ds : List D) (Γ : Env) : gToCons g gs ds Γ = (match ds with
  | [] => none
  | d :: r => (g d Γ).bind fun Γ1 => gs r Γ1) := Eq.trans rfl rfl
@[simp] theorem u_gPass (Γ : Env) (M : List MO) : gPass Γ M = .nx Γ M := Eq.trans rfl rfl
@[simp] theorem u_gSeq (a b : GS) (Γ : Env) (M : List MO) : gSeq a b Γ M = (a Γ M).next b := Eq.trans rfl rfl
@[simp] theorem u_gExpr (ge : GE) (Γ : Env) (M : List MO) : gExpr ge Γ M = (ge Γ M).thenS Γ fun _ M1 => .nx Γ M1 := Eq.trans rfl rfl
@[simp] theorem u_gRet (ge : GE) (Γ : Env) (M : List MO) : gRet ge Γ M = (ge Γ M).thenS Γ fun d M1 => .rt d M1 := Eq.trans rfl rfl
@[simp] theorem u_gRetN (Γ : Env) (M : List MO) : gRetN Γ M = .rt .non M := Eq.trans rfl rfl
@[simp] theorem u_gIf (c : GT) (a b : GS) (Γ : Env) (M : List MO) : gIf c a b Γ M = (c Γ M).thenS Γ fun k M1 => if k = true then a Γ M1 else b Γ M1 := Eq.trans rfl rfl
@[simp] theorem u_gAsg (ge : GE) (gg : GG) (Γ : Env) (M : List MO) : gAsg ge gg Γ M = ((ge Γ M).thenS Γ fun d M1 => match gg d Γ with
  | some Γ' => .nx Γ' M1
  | none => .bad) := Eq.trans rfl rfl
@[simp] theorem u_gBad (Γ : Env) (M : List MO) : gBad Γ M = .bad := Eq.trans rfl rfl
@[simp] theorem u_gForget (is : List Nat) (Γ : Env) (M : List MO) : gForget is Γ M = .nx (forget Γ is) M := Eq.trans rfl rfl
@[simp] theorem u_gFz (i : Nat) (Γ : Env) (M : List MO) : gFz i Γ M = (match Γ[i]? with
  | some (some (.ref k)) => match M[k]? with
    | some (.lst ds) => .nx (Γ.set i (some (.lst ds))) (M.set k .dead)
    | some (.dct ks vs) => .nx (Γ.set i (some (.dct ks vs))) (M.set k .dead)
    | _ => .bad
  | _ => .bad) := Eq.trans rfl rfl
@[simp] theorem u_gScope (a : GS) (Γ : Env) (M : List MO) : gScope a Γ M = gCut M.length (a Γ M) := Eq.trans rfl rfl
@[simp] theorem u_gFor (gi : GI) (gg : GG) (body : GS) (Γ : Env) (M : List MO) : gFor gi gg body Γ M = (gi Γ M).thenS Γ fun ds M1 => gForL gg body ds Γ M1 := Eq.trans rfl rfl
@[simp] theorem u_gYes (Γ : Env) (M : List MO) : gYes Γ M = .ok true M := Eq.trans rfl rfl
@[simp] theorem u_gLc (gi : GI) (gg : GG) (gt : GT) (ge : GE) (own : List Nat) (Γ : Env) (M : List MO) : gLc gi gg gt ge own Γ M = (gi Γ M).bind fun ds M1 => (gLcL gg gt ge (forget Γ own) ds [] M1).bind fun acc M2 => .ok (.lst acc) M2 := Eq.trans rfl rfl
@[simp] theorem u_gLcO (gi : GI) (gg : GG) (gt : GT) (ge : GE) (own : List Nat) (Γ : Env) (M : List MO) : gLcO gi gg gt ge own Γ M = (gi Γ M).bind fun ds M1 => (gLcL gg gt ge (forget Γ own) ds [] M1).bind fun acc M2 => .ok (.ref M2.length) (M2 ++ [.lst acc]) := Eq.trans rfl rfl
@[simp] theorem u_gNoO (Γ : Env) (M : List MO) : gNoO Γ M = .ok none M := Eq.trans rfl rfl
@[simp] theorem u_gO (ge : GE) (Γ : Env) (M : List MO) : gO ge Γ M = (ge Γ M).bind fun d M1 => opR ((toI d).map some) M1 := Eq.trans rfl rfl
@[simp] theorem u_gSl (ge : GE) (lo hi : GO) (Γ : Env) (M : List MO) : gSl ge lo hi Γ M = (ge Γ M).bind fun x M1 => (lo Γ M1).bind fun a M2 => (hi Γ M2).bind fun b M3 => opR (dCut M3 a b x) M3 := Eq.trans rfl rfl
@[simp] theorem u_gRgL (own : Bool) (ga gb : GE) (Γ : Env) (M : List MO) : gRgL own ga gb Γ M = ((ga Γ M).bind fun x M1 => (gb Γ M1).bind fun y M2 => match x, y with
  | .int i, .int j => if rngOk i j = true then (if own = true then .ok (.ref M2.length) (M2 ++ [.lst (rngL i (j - i).toNat)]) else .ok (.lst (rngL i (j - i).toNat)) M2) else .bad
  | _, _ => .bad) := Eq.trans rfl rfl
@[simp] theorem u_gMeth1 (f : MF) (go ge : GE) (Γ : Env) (M : List MO) : gMeth1 f go ge Γ M = (go Γ M).bind fun x M1 => if isListD M1 x = true then (ge Γ M1).bind fun y M2 => mutR M2 x fun ds => f M2 ds y else .bad := Eq.trans rfl rfl
@[simp] theorem u_gMeth0 (f : MF0) (go : GE) (Γ : Env) (M : List MO) : gMeth0 f go Γ M = (go Γ M).bind fun x M1 => mutR M1 x f := Eq.trans rfl rfl
@[simp] theorem u_gSetI (ge go gi : GE) (Γ : Env) (M : List MO) : gSetI ge go gi Γ M = ((ge Γ M).thenS Γ fun v M1 => (go Γ M1).thenS Γ fun o M2 => (gi Γ M2).thenS Γ fun i M3 => match setR M3 o i v with
  | some M4 => .nx Γ M4
  | none => .bad) := Eq.trans rfl rfl
@[simp] theorem u_gAug (i : Nat) (f : Int → Int → Int) (ge : GE) (Γ : Env) (M : List MO) : gAug i f ge Γ M = (match Γ[i]? with
  | some (some (.int a)) => (ge Γ M).thenS Γ fun y M1 => match y with
    | .int b => .nx (Γ.set i (some (.int (f a b)))) M1
    | _ => .bad
  | _ => .bad) := Eq.trans rfl rfl
@[simp] theorem u_gEnum (ge : GE) (Γ : Env) (M : List MO) : gEnum ge Γ M = (ge Γ M).bind fun d M1 => opR ((seqD d).map (enumL 0)) M1 := Eq.trans rfl rfl
@[simp] theorem u_gEnumK (ge : GE) (gk : GE) (Γ : Env) (M : List MO) : gEnumK ge gk Γ M = ((ge Γ M).bind fun d M1 => (gk Γ M1).bind fun k M2 => match k with
  | .int k => if decide (-(2 ^ 63) ≤ k) && decide (k < 2 ^ 63) then opR ((seqD d).map (enumL k)) M2 else .bad
  | _ => .bad) := Eq.trans rfl rfl
@[simp] theorem u_gZip (ga gb : GE) (Γ : Env) (M : List MO) : gZip ga gb Γ M = (ga Γ M).bind fun x M1 => (gb Γ M1).bind fun y M2 => opR (zipO x y) M2 := Eq.trans rfl rfl
@[simp] theorem u_gLcW (ge : GE) (gg : GG) (gt : GT) (gel : GE) (own : List Nat) (Γ : Env) (M : List MO) : gLcW ge gg gt gel own Γ M = ((ge Γ M).bind fun d M1 => match d with
  | .ref k => match M1[k]? with
    | some (.lst ds) => (gLcL gg gt gel (forget Γ own) ds [] M1).bind fun acc M2 => .ok (.lst acc) M2
    | _ => .bad
  | _ => .bad) := Eq.trans rfl rfl
@[simp] theorem u_gCallF (n : Nat) (F : List D → List MO → R D) (ga : GA) (Γ : Env) (M : List MO) : gCallF n F ga Γ M = (ga Γ M).bind fun ds M1 => if ds.length = n then callF F ds M1 else .bad := Eq.trans rfl rfl
@[simp] theorem u_gCallK (n : Nat) (F : List D → List MO → R D) (is : List Nat) (ga gk : GA) (Γ : Env) (M : List MO) : gCallK n F is ga gk Γ M = (ga Γ M).bind fun ds M1 => (gk Γ M1).bind fun es M2 => if (pick (ds ++ es) is).length = n then callF F (pick (ds ++ es) is) M2 else .bad := Eq.trans rfl rfl
@[simp] theorem u_gForL0 (gg : GG) (b : GS) (Γ : Env) (M : List MO) : gForL gg b [] Γ M = .nx Γ M := Eq.trans rfl rfl
@[simp] theorem u_gForLc (gg : GG) (b : GS) (d : D) (ds : List D) (Γ : Env) (M : List MO) : gForL gg b (d :: ds) Γ M = optS (gg d Γ) fun Γ1 => (b Γ1 M).turn (gForL gg b ds) := Eq.trans rfl rfl
@[simp] theorem u_forget0 (Γ : Env) : forget Γ [] = Γ := Eq.trans rfl rfl
@[simp] theorem u_forgetc (Γ : Env) (i : Nat) (is : List Nat) : forget Γ (i :: is) = forget (Γ.set i none) is := Eq.trans rfl rfl
@[simp] theorem u_toBl (b : Bool) : toBl (.bl b) = some b := Eq.trans rfl rfl
@[simp] theorem u_dNot (M : List MO) (b : Bool) : dNot M (.bl b) = some (.bl !b) := Eq.trans rfl rfl
@[simp] theorem u_toI (i : Int) : toI (.int i) = some i := Eq.trans rfl rfl
@[simp] theorem u_rng1 (j : Int) : rng1 [.int j] = if inR j then some (rngL 0 j.toNat) else none := Eq.trans rfl rfl
@[simp] theorem u_rng2 (i j : Int) : rng2 [.int i, .int j] = if inR i && inR j then some (rngL i (j - i).toNat) else none := Eq.trans rfl rfl
@[simp] theorem u_fn1 (f : List MO → D → Option D) (M : List MO) (d : D) : fn1 f M [d] = f M d := Eq.trans rfl rfl
@[simp] theorem u_fn2 (f : List MO → D → D → Option D) (M : List MO) (d e : D) : fn2 f M [d, e] = f M d e := Eq.trans rfl rfl
@[simp] theorem u_isListD (M : List MO) (d : D) : isListD M d = (listD M d).isSome := Eq.trans rfl rfl
@[simp] theorem u_pick0 {α : Type} (l : List α) : pick l [] = [] := Eq.trans rfl rfl
@[simp] theorem u_pickc {α : Type} (l : List α) (i : Nat) (is : List Nat) : pick l (i :: is) = (match l[i]? with
    | some a => a :: pick l is
    | none => pick l is) := Eq.trans rfl rfl
@[simp] theorem bl_non (m : Nat) : below m .non = true := Eq.trans rfl rfl
@[simp] theorem bl_bl (m : Nat) (b : Bool) : below m (.bl b) = true := Eq.trans rfl rfl
@[simp] theorem bl_int (m : Nat) (i : Int) : below m (.int i) = true := Eq.trans rfl rfl
@[simp] theorem bl_str (m : Nat) (x : Str) : below m (.str x) = true := Eq.trans rfl rfl
@[simp] theorem bl_tup (m : Nat) (ds : List D) : below m (.tup ds) = belows m ds := by simp [below]
@[simp] theorem bl_lst (m : Nat) (ds : List D) : below m (.lst ds) = belows m ds := by simp [below]
@[simp] theorem bl_ref (m k : Nat) : below m (.ref k) = decide (k < m) := by simp [below]
@[simp] theorem bls_nil (m : Nat) : belows m [] = true := Eq.trans rfl rfl
@[simp] theorem bls_cons (m : Nat) (d : D) (ds : List D) : belows m (d :: ds) = (below m d && belows m ds) := by simp [belows]
@[simp] theorem bls_app (m : Nat) (ds es : List D) : belows m (ds ++ es) = (belows m ds && belows m es) := by simp [belows_all]
@[simp] theorem blo_lst (m : Nat) (ds : List D) : belowO m (.lst ds) = belows m ds := Eq.trans rfl rfl
@[simp] theorem blo_dead (m : Nat) : belowO m .dead = true := Eq.trans rfl rfl
theorem fin_d {m : Nat} {d : D} {M : List MO} (h : m ≤ M.length) (hc : cutOk m M = true) (hr : ∀ k, d ≠ .ref k) (hd : below m d = true) : fin m (.rt d M) = .ok d (M.take m) := by
  show (if m ≤ M.length ∧ cutOk m M = true then retR m M d else .bad) = _
  rw [if_pos ⟨h, hc⟩]
  cases d with
  | ref k => exact absurd rfl (hr k)
  | _ => simp [retR, hd]
theorem fin_n {m : Nat} {Γ : Env} {M : List MO} (h : m ≤ M.length) (hc : cutOk m M = true) : fin m (.nx Γ M) = .ok .non (M.take m) := by
  show (if m ≤ M.length ∧ cutOk m M = true then R.ok D.non (M.take m) else .bad) = _
  rw [if_pos ⟨h, hc⟩]
theorem fin_new {m k : Nat} {ds : List D} {M : List MO} (h : m ≤ M.length) (hc : cutOk m M = true) (hk : m ≤ k) (e : M[k]? = some (.lst ds)) (hd : belows m ds = true) : fin m (.rt (.ref k) M) = .ok (.ref m) (M.take m ++ [.lst ds]) := by
  show (if m ≤ M.length ∧ cutOk m M = true then retR m M (.ref k) else .bad) = _
  rw [if_pos ⟨h, hc⟩]
  simp [retR, e, hd, Nat.not_lt_of_le hk]
@[simp] theorem cut_0 (M : List MO) : cutOk 0 M = true := by simp [cutOk]
@[simp] theorem cut_nil (m : Nat) : cutOk m [] = true := by simp [cutOk]
@[simp] theorem cut_s (m : Nat) (o : MO) (M : List MO) : cutOk (m + 1) (o :: M) = ((M.take m).all (belowO (m + 1)) && belowO (m + 1) o) := by simp [cutOk, Bool.and_comm]
@[simp] theorem sz_1 : 1 ≤ sizeLine := by decide
@[simp] theorem sz_2 : 2 ≤ sizeLine := by decide
@[simp] theorem sz_3 : 3 ≤ sizeLine := by decide
@[simp] theorem sz_4 : 4 ≤ sizeLine := by decide
@[simp] theorem sz_5 : 5 ≤ sizeLine := by decide
@[simp] theorem sz_6 : 6 ≤ sizeLine := by decide
@[simp] theorem sz_7 : 7 ≤ sizeLine := by decide
@[simp] theorem sz_8 : 8 ≤ sizeLine := by decide
@[simp] theorem sz_9 : 9 ≤ sizeLine := by decide
@[simp] theorem sz_10 : 10 ≤ sizeLine := by decide
@[simp] theorem sz_11 : 11 ≤ sizeLine := by decide
@[simp] theorem sz_12 : 12 ≤ sizeLine := by decide
@[simp] theorem sz_13 : 13 ≤ sizeLine := by decide
@[simp] theorem sz_14 : 14 ≤ sizeLine := by decide
@[simp] theorem sz_15 : 15 ≤ sizeLine := by decide
@[simp] theorem sz_16 : 16 ≤ sizeLine := by decide
@[simp] theorem sz_17 : 17 ≤ sizeLine := by decide
@[simp] theorem sz_18 : 18 ≤ sizeLine := by decide
@[simp] theorem sz_19 : 19 ≤ sizeLine := by decide
@[simp] theorem sz_20 : 20 ≤ sizeLine := by decide
@[simp] theorem szl_0 : 0 < sizeLine := by decide
@[simp] theorem szl_1 : 1 < sizeLine := by decide
@[simp] theorem szl_2 : 2 < sizeLine := by decide
@[simp] theorem szl_3 : 3 < sizeLine := by decide
@[simp] theorem szl_4 : 4 < sizeLine := by decide
@[simp] theorem szl_5 : 5 < sizeLine := by decide
@[simp] theorem szl_6 : 6 < sizeLine := by decide
@[simp] theorem szl_7 : 7 < sizeLine := by decide
@[simp] theorem szl_8 : 8 < sizeLine := by decide
@[simp] theorem szl_9 : 9 < sizeLine := by decide
@[simp] theorem szl_10 : 10 < sizeLine := by decide
@[simp] theorem szl_11 : 11 < sizeLine := by decide
@[simp] theorem szl_12 : 12 < sizeLine := by decide
@[simp] theorem szl_13 : 13 < sizeLine := by decide
@[simp] theorem szl_14 : 14 < sizeLine := by decide
@[simp] theorem szl_15 : 15 < sizeLine := by decide
@[simp] theorem szl_16 : 16 < sizeLine := by decide
@[simp] theorem szl_17 : 17 < sizeLine := by decide
@[simp] theorem szl_18 : 18 < sizeLine := by decide
@[simp] theorem szl_19 : 19 < sizeLine := by decide
@[simp] theorem szl_20 : 20 < sizeLine := by decide
@[simp] theorem gc_nx (m : Nat) (Γ : Env) (M : List MO) : gCut m (.nx Γ M) = if m ≤ M.length ∧ cutOk m M = true then .nx (clean m Γ) (M.take m) else .bad := Eq.trans rfl rfl
@[simp] theorem gc_ct (m : Nat) (Γ : Env) (M : List MO) : gCut m (.ct Γ M) = if m ≤ M.length ∧ cutOk m M = true then .ct (clean m Γ) (M.take m) else .bad := Eq.trans rfl rfl
@[simp] theorem gc_bk (m : Nat) (Γ : Env) (M : List MO) : gCut m (.bk Γ M) = .bk Γ M := Eq.trans rfl rfl
@[simp] theorem gc_rt (m : Nat) (d : D) (M : List MO) : gCut m (.rt d M) = .rt d M := Eq.trans rfl rfl
@[simp] theorem gc_ex (m c : Nat) (d : D) (Γ : Env) (M : List MO) : gCut m (.exc c d Γ M) = .exc c d Γ M := Eq.trans rfl rfl
@[simp] theorem fi_rt (m : Nat) (d : D) (M : List MO) : fin m (.rt d M) = if m ≤ M.length ∧ cutOk m M = true then retR m M d else .bad := Eq.trans rfl rfl
@[simp] theorem fi_nx (m : Nat) (Γ : Env) (M : List MO) : fin m (.nx Γ M) = if m ≤ M.length ∧ cutOk m M = true then R.ok D.non (M.take m) else .bad := Eq.trans rfl rfl
@[simp] theorem fi_ex (m c : Nat) (d : D) (Γ : Env) (M : List MO) : fin m (.exc c d Γ M) = if m ≤ M.length ∧ cutOk m M = true ∧ below m d = true then .exc c d (M.take m) else .bad := Eq.trans rfl rfl
@[simp] theorem re_non (m : Nat) (M : List MO) : retR m M .non = .ok .non (M.take m) := Eq.trans rfl rfl
@[simp] theorem re_bl (m : Nat) (M : List MO) (b : Bool) : retR m M (.bl b) = .ok (.bl b) (M.take m) := Eq.trans rfl rfl
@[simp] theorem re_int (m : Nat) (M : List MO) (i : Int) : retR m M (.int i) = .ok (.int i) (M.take m) := Eq.trans rfl rfl
@[simp] theorem re_str (m : Nat) (M : List MO) (x : Str) : retR m M (.str x) = .ok (.str x) (M.take m) := Eq.trans rfl rfl
@[simp] theorem re_tup (m : Nat) (M : List MO) (ds : List D) : retR m M (.tup ds) = if belows m ds = true then .ok (.tup ds) (M.take m) else .bad := by simp [retR]
@[simp] theorem re_lst (m : Nat) (M : List MO) (ds : List D) : retR m M (.lst ds) = if belows m ds = true then .ok (.lst ds) (M.take m) else .bad := by simp [retR]
@[simp] theorem re_ref (m : Nat) (M : List MO) (k : Nat) : retR m M (.ref k) = if k < m then .ok (.ref k) (M.take m) else match M[k]? with
    | some (.lst ds) => if belows m ds = true then .ok (.ref m) (M.take m ++ [.lst ds]) else .bad
    | _ => .bad := Eq.trans rfl rfl
@[simp] theorem seqD_l (ds : List D) : seqD (.lst ds) = some ds := Eq.trans rfl rfl
@[simp] theorem seqD_t (ds : List D) : seqD (.tup ds) = some ds := Eq.trans rfl rfl
@[simp] theorem listD_l (M : List MO) (ds : List D) : listD M (.lst ds) = some ds := Eq.trans rfl rfl
theorem listD_r {M : List MO} {k : Nat} {ds : List D} (h : M[k]? = some (.lst ds)) : listD M (.ref k) = some ds := by simp [listD, h]
@[simp] theorem itemsD_l (M : List MO) (ds : List D) : itemsD M (.lst ds) = some ds := Eq.trans rfl rfl
@[simp] theorem itemsD_t (M : List MO) (ds : List D) : itemsD M (.tup ds) = some ds := Eq.trans rfl rfl
@[simp] theorem itemsD_r (M : List MO) (k : Nat) : itemsD M (.ref k) = listD M (.ref k) := Eq.trans rfl rfl
@[simp] theorem e_add (M : List MO) (i j : Int) : dAdd M (.int i) (.int j) = some (.int (i + j)) := Eq.trans rfl rfl
@[simp] theorem e_addL (M : List MO) (a b : List D) : dAdd M (.lst a) (.lst b) = if a.length + b.length ≤ sizeLine then some (.lst (a ++ b)) else none := Eq.trans rfl rfl
@[simp] theorem e_addT (M : List MO) (a b : List D) : dAdd M (.tup a) (.tup b) = if a.length + b.length ≤ sizeLine then some (.tup (a ++ b)) else none := Eq.trans rfl rfl
@[simp] theorem e_sub (M : List MO) (i j : Int) : dSub M (.int i) (.int j) = some (.int (i - j)) := Eq.trans rfl rfl
theorem e_mul {i j : Int} (M : List MO) (h : mulOk i j = true) : dMulA M (.int i) (.int j) = some (.int (i * j)) := by
  show (if mulOk i j = true then some (D.int (i * j)) else none) = _
  rw [if_pos h]
@[simp] theorem e_mulR (M : List MO) (i : Int) : dMulA M (.int i) (.int 0) = some (.int 0) := by
  rw [e_mul M (by simp [mulOk])]
  simp
@[simp] theorem e_fdiv (M : List MO) (i j : Int) : dFdiv M (.int i) (.int j) = if fdivOk i j = true then some (.int (i / j)) else none := Eq.trans rfl rfl
@[simp] theorem e_mod (M : List MO) (i j : Int) : dMod M (.int i) (.int j) = if 0 < j then some (.int (i % j)) else none := by
  show (if modOk i j = true then _ else _) = _
  simp [modOk]
@[simp] theorem e_pow (M : List MO) (i j : Int) : dPow M (.int i) (.int j) = if powOk i j = true then some (.int (i ^ j.toNat)) else none := Eq.trans rfl rfl
@[simp] theorem e_lt (M : List MO) (i j : Int) : dLt M (.int i) (.int j) = some (.bl (decide (i < j))) := Eq.trans rfl rfl
@[simp] theorem e_le (M : List MO) (i j : Int) : dLe M (.int i) (.int j) = some (.bl (decide (i ≤ j))) := Eq.trans rfl rfl
@[simp] theorem e_gt (M : List MO) (i j : Int) : dGt M (.int i) (.int j) = some (.bl (decide (j < i))) := Eq.trans rfl rfl
@[simp] theorem e_ge (M : List MO) (i j : Int) : dGe M (.int i) (.int j) = some (.bl (decide (j ≤ i))) := Eq.trans rfl rfl
@[simp] theorem e_neg (M : List MO) (i : Int) : dNeg M (.int i) = some (.int (-i)) := Eq.trans rfl rfl
@[simp] theorem e_is0 (M : List MO) : dIsN M .non .non = some (.bl true) := Eq.trans rfl rfl
@[simp] theorem e_is1 (M : List MO) (i : Int) : dIsN M (.int i) .non = some (.bl false) := Eq.trans rfl rfl
@[simp] theorem e_is2 (M : List MO) (i : List D) : dIsN M (.tup i) .non = some (.bl false) := Eq.trans rfl rfl
@[simp] theorem e_is3 (M : List MO) (i : List D) : dIsN M (.lst i) .non = some (.bl false) := Eq.trans rfl rfl
@[simp] theorem e_is4 (M : List MO) (i : Str) : dIsN M (.str i) .non = some (.bl false) := Eq.trans rfl rfl
@[simp] theorem e_is5 (M : List MO) (i : Nat) : dIsN M (.ref i) .non = some (.bl false) := Eq.trans rfl rfl
@[simp] theorem e_ns0 (M : List MO) : dNotN M .non .non = some (.bl false) := Eq.trans rfl rfl
@[simp] theorem e_ns1 (M : List MO) (i : Int) : dNotN M (.int i) .non = some (.bl true) := Eq.trans rfl rfl
@[simp] theorem e_ns2 (M : List MO) (i : List D) : dNotN M (.tup i) .non = some (.bl true) := Eq.trans rfl rfl
@[simp] theorem e_ns3 (M : List MO) (i : List D) : dNotN M (.lst i) .non = some (.bl true) := Eq.trans rfl rfl
@[simp] theorem e_ns4 (M : List MO) (i : Str) : dNotN M (.str i) .non = some (.bl true) := Eq.trans rfl rfl
@[simp] theorem e_ns5 (M : List MO) (i : Nat) : dNotN M (.ref i) .non = some (.bl true) := Eq.trans rfl rfl
@[simp] theorem e_ix (M : List MO) (x : D) (i : Int) : dIx M x (.int i) = (itemsD M x).bind fun ds => atI ds i := Eq.trans rfl rfl
theorem atI_nat (ds : List D) (n : Nat) : atI ds (n : Int) = ds[n]? := by
  unfold atI ixN
  by_cases h : n < ds.length
  · simp [h]
  · simp [h]
@[simp] theorem atI_0 (a : D) (ds : List D) : atI (a :: ds) 0 = some a := (atI_nat _ 0).trans rfl
@[simp] theorem atI_1 (a b : D) (ds : List D) : atI (a :: b :: ds) 1 = some b := (atI_nat _ 1).trans rfl
@[simp] theorem atI_2 (a b c : D) (ds : List D) : atI (a :: b :: c :: ds) 2 = some c := (atI_nat _ 2).trans rfl
@[simp] theorem atI_3 (a b c d : D) (ds : List D) : atI (a :: b :: c :: d :: ds) 3 = some d := (atI_nat _ 3).trans rfl
@[simp] theorem atI_4 (a b c d e : D) (ds : List D) : atI (a :: b :: c :: d :: e :: ds) 4 = some e := (atI_nat _ 4).trans rfl
@[simp] theorem atI_5 (a b c d e f : D) (ds : List D) : atI (a :: b :: c :: d :: e :: f :: ds) 5 = some f := (atI_nat _ 5).trans rfl
@[simp] theorem e_lenL (M : List MO) (ds : List D) : dLen M (.lst ds) = some (.int ds.length) := Eq.trans rfl rfl
@[simp] theorem e_lenT (M : List MO) (ds : List D) : dLen M (.tup ds) = some (.int ds.length) := Eq.trans rfl rfl
@[simp] theorem e_lenR (M : List MO) (k : Nat) : dLen M (.ref k) = (listD M (.ref k)).map fun ds => .int ds.length := Eq.trans rfl rfl
@[simp] theorem e_lenS (M : List MO) (x : Str) : dLen M (.str x) = if x.length ≤ sizeLine then some (.int x.length) else none := Eq.trans rfl rfl
@[simp] theorem e_intI (M : List MO) (i : Int) : dInt M (.int i) = some (.int i) := Eq.trans rfl rfl
@[simp] theorem e_intB (M : List MO) (b : Bool) : dInt M (.bl b) = some (.int (if b then 1 else 0)) := Eq.trans rfl rfl
@[simp] theorem e_str (M : List MO) (i : Int) : dStr M (.int i) = if i.natAbs.log2 < 1920 then some (.str (toString i)) else none := Eq.trans rfl rfl
@[simp] theorem e_min2 (M : List MO) (i j : Int) : dMin2 M (.int i) (.int j) = some (.int (if j < i then j else i)) := Eq.trans rfl rfl
@[simp] theorem e_max2 (M : List MO) (i j : Int) : dMax2 M (.int i) (.int j) = some (.int (if i < j then j else i)) := Eq.trans rfl rfl
@[simp] theorem e_isi_ii (M : List MO) (i : Int) : dIsi "int" M (.int i) = some (.bl true) := Eq.trans rfl rfl
@[simp] theorem e_isi_ib (M : List MO) (i : Int) : dIsi "bool" M (.int i) = some (.bl false) := Eq.trans rfl rfl
@[simp] theorem e_isi_ll (M : List MO) (ds : List D) : dIsi "list" M (.lst ds) = some (.bl true) := Eq.trans rfl rfl
@[simp] theorem e_isi_tt (M : List MO) (ds : List D) : dIsi "tuple" M (.tup ds) = some (.bl true) := Eq.trans rfl rfl
@[simp] theorem e_isi_ss (M : List MO) (ds : Str) : dIsi "str" M (.str ds) = some (.bl true) := Eq.trans rfl rfl
@[simp] theorem e_isi_is (M : List MO) (i : Int) : dIsi "str" M (.int i) = some (.bl false) := Eq.trans rfl rfl
@[simp] theorem e_isiT_l (M : List MO) (ds : List D) : dIsiT ["list", "tuple"] M (.lst ds) = some (.bl true) := Eq.trans rfl rfl
@[simp] theorem e_isiT_t (M : List MO) (ds : List D) : dIsiT ["list", "tuple"] M (.tup ds) = some (.bl true) := Eq.trans rfl rfl
theorem e_isi_lr {M : List MO} {k : Nat} {ds : List D} (h : M[k]? = some (.lst ds)) : dIsi "list" M (.ref k) = some (.bl true) := by
  simp only [dIsi, tyName, h]
  rfl
theorem toVs_ints (is : List Int) : toVs (is.map D.int) = some (is.map V.int) := by
  induction is with
  | nil => rfl
  | cons i is ih => simp [toVs, toV, ih]
theorem inV_ints (i : Int) (is : List Int) : inV (V.int i) (is.map V.int) = decide (i ∈ is) := by
  induction is with
  | nil => rfl
  | cons j is ih =>
    have e : eqV (V.int j) (V.int i) = decide (j = i) := Eq.trans rfl rfl
    rw [List.map_cons]
    unfold inV at ih ⊢
    rw [List.any_cons, ih, e]
    by_cases h : j = i
    · subst h
      simp
    · have h' : ¬ i = j := fun e => h e.symm
      simp [h, h']
@[simp] theorem e_inL (M : List MO) (i : Int) (is : List Int) : dIn M (.int i) (.lst (is.map D.int)) = some (.bl (decide (i ∈ is))) := by
  simp [dIn, inP, toV, toVs_ints, inV_ints]
@[simp] theorem e_inT (M : List MO) (i : Int) (is : List Int) : dIn M (.int i) (.tup (is.map D.int)) = some (.bl (decide (i ∈ is))) := by
  simp [dIn, inP, toV, toVs_ints, inV_ints]
@[simp] theorem e_niL (M : List MO) (i : Int) (is : List Int) : dNotIn M (.int i) (.lst (is.map D.int)) = some (.bl (!decide (i ∈ is))) := by
  simp [dNotIn, inP, toV, toVs_ints, inV_ints]
@[simp] theorem e_niT (M : List MO) (i : Int) (is : List Int) : dNotIn M (.int i) (.tup (is.map D.int)) = some (.bl (!decide (i ∈ is))) := by
  simp [dNotIn, inP, toV, toVs_ints, inV_ints]
end Bk
namespace Bk
open PySem PySem.Spec PyProof.Rows L2
theorem mulOk_l {i : Int} (j : Int) (h1 : -(2 ^ 64) < i) (h2 : i < 2 ^ 64) : mulOk i j = true := by
  simp only [mulOk, Bool.or_eq_true, Bool.and_eq_true, decide_eq_true_eq]
  omega
theorem mulOk_r (i : Int) {j : Int} (h1 : -(2 ^ 64) < j) (h2 : j < 2 ^ 64) : mulOk i j = true := by
  simp only [mulOk, Bool.or_eq_true, Bool.and_eq_true, decide_eq_true_eq]
  omega
theorem mulOk_m (x y : Int) {n : Int} (h0 : 0 < n) (h : n ≤ 2 ^ 63) : mulOk (x % n) y = true := by
  have a := Int.emod_nonneg x (by omega : n ≠ 0)
  have b := Int.emod_lt_of_pos x h0
  exact mulOk_l y (by omega) (by omega)
theorem mulOk_m1 (x y : Int) {n : Int} (h0 : 0 < n) (h : n ≤ 2 ^ 63) : mulOk (x % n + 1) y = true := by
  have a := Int.emod_nonneg x (by omega : n ≠ 0)
  have b := Int.emod_lt_of_pos x h0
  exact mulOk_l y (by omega) (by omega)
end Bk

set_option Elab.async false
set_option linter.all false
set_option maxRecDepth 100000
set_option maxHeartbeats 2000000
namespace Bk
open PySem PySem.Spec PyProof.Rows L2
/-! ### calls that lend nothing -/
theorem lendK_nil : ∀ {ds : List D}, belows 0 ds = true → lendK ds = []
  | [], _ => rfl
  | d :: ds, h => by
    simp only [belows, Bool.and_eq_true] at h
    cases d with
    | ref k => simp [below] at h
    | _ =>
      have ih := lendK_nil h.2
      simpa [lendK] using ih
theorem lendA_nil : ∀ {m : Nat} {ds : List D}, belows 0 ds = true → lendA m ds = ds
  | _, [], _ => rfl
  | m, d :: ds, h => by
    simp only [belows, Bool.and_eq_true] at h
    cases d with
    | ref k => simp [below] at h
    | _ => simp [lendA, lendA_nil h.2]
theorem flatArgs_of : ∀ {ds : List D}, belows 0 ds = true → flatArgs ds = true
  | [], _ => rfl
  | d :: ds, h => by
    simp only [belows, Bool.and_eq_true] at h
    cases d with
    | ref k => simp [below] at h
    | _ => simp [flatArgs, flatArgs_of h.2, h.1]
theorem backD_flat {n : Nat} {d : D} (h : below 0 d = true) : backD [] n d = some d := by
  cases d with
  | ref k => simp [below] at h
  | _ => simp [backD, h]
theorem c_flat {F : List D → List MO → R D} {ds : List D} {d : D} (h : F ds [] = .ok d []) (M : List MO) (ha : belows 0 ds = true) (hd : below 0 d = true) : callF F ds M = .ok d M := by
  simp [callF, lendK_nil ha, getAll, flatArgs_of ha, lentOk, lendA_nil ha, h, backD_flat hd, setAll]
theorem c_flatO {F : List D → List MO → R D} {ds es : List D} (h : F ds [] = .ok (.ref 0) [.lst es]) (M : List MO) (ha : belows 0 ds = true) (hd : belows 0 es = true) : callF F ds M = .ok (.ref M.length) (M ++ [.lst es]) := by
  simp [callF, lendK_nil ha, getAll, flatArgs_of ha, lentOk, lendA_nil ha, h, backD, setAll, belowO, hd]
/-- a call that raises -/
theorem c_flatX {F : List D → List MO → R D} {ds : List D} {d : D} {c : Nat} (h : F ds [] = .exc c d []) (M : List MO) (ha : belows 0 ds = true) (hd : below 0 d = true) : callF F ds M = .exc c d M := by
  simp [callF, lendK_nil ha, getAll, flatArgs_of ha, lentOk, lendA_nil ha, h, hd, setAll]
/-! ### numbers in a row -/
def intR (lo : Int) : Nat → List Int
  | 0 => []
  | n + 1 => lo :: intR (lo + 1) n
theorem rngL_int : ∀ (n : Nat) (lo : Int), rngL lo n = (intR lo n).map D.int
  | 0, _ => rfl
  | n + 1, lo => by simp [rngL, intR, rngL_int n]
@[simp] theorem intR_length : ∀ (n : Nat) (lo : Int), (intR lo n).length = n
  | 0, _ => rfl
  | n + 1, lo => by simp [intR, intR_length n]
theorem mem_intR : ∀ {n : Nat} {lo i : Int}, i ∈ intR lo n ↔ lo ≤ i ∧ i < lo + n
  | 0, lo, i => by simp [intR]; try omega
  | n + 1, lo, i => by
    simp only [intR, List.mem_cons, mem_intR]
    omega
theorem intR_nodup : ∀ (n : Nat) (lo : Int), (intR lo n).Nodup
  | 0, _ => .nil
  | n + 1, lo => by
    simp only [intR, List.nodup_cons, mem_intR]
    exact ⟨by omega, intR_nodup n _⟩
theorem intR_get : ∀ {n : Nat} {lo : Int} {k : Nat}, k < n → (intR lo n)[k]? = some (lo + k)
  | n + 1, lo, 0, _ => by simp [intR]
  | n + 1, lo, k + 1, h => by
    simp only [intR, List.getElem?_cons_succ]
    rw [intR_get (by omega)]
    congr 1
    push_cast
    omega
theorem intR_succ : ∀ (n : Nat) (lo : Int), intR lo (n + 1) = intR lo n ++ [lo + n]
  | 0, lo => by simp [intR]
  | n + 1, lo => by
    rw [intR, intR_succ n (lo + 1), intR]
    simp only [List.cons_append]
    congr 3
    push_cast
    omega
/-! ### lists made by comprehensions -/
theorem lcL_map {gg : GG} {ge : GE} {Γ : Env} {M : List MO} {f : D → D} : ∀ (ds acc : List D), acc.length + ds.length ≤ sizeLine → (∀ d ∈ ds, ∃ Γ1, gg d Γ = some Γ1 ∧ ge Γ1 M = .ok (f d) M) → gLcL gg gYes ge Γ ds acc M = .ok (acc ++ ds.map f) M
  | [], acc, _, _ => by simp [gLcL]
  | d :: ds, acc, h, hf => by
    obtain ⟨Γ1, h1, h2⟩ := hf d (by simp)
    simp only [List.length_cons] at h
    have ih := lcL_map (gg := gg) (ge := ge) (Γ := Γ) (M := M) (f := f) ds (acc ++ [f d]) (by simp; omega) fun e he => hf e (by simp [he])
    have q : acc.length < sizeLine := by omega
    simp [gLcL, h1, h2, q, ih]
theorem lcL_filter {gg : GG} {gt : GT} {ge : GE} {Γ : Env} {M : List MO} {f : D → D} {c : D → Bool} : ∀ (ds acc : List D), acc.length + ds.length ≤ sizeLine → (∀ d ∈ ds, ∃ Γ1, gg d Γ = some Γ1 ∧ gt Γ1 M = .ok (c d) M ∧ (c d = true → ge Γ1 M = .ok (f d) M)) → gLcL gg gt ge Γ ds acc M = .ok (acc ++ (ds.filter c).map f) M
  | [], acc, _, _ => by simp [gLcL]
  | d :: ds, acc, h, hf => by
    obtain ⟨Γ1, h1, h2, h3⟩ := hf d (by simp)
    simp only [List.length_cons] at h
    have q : acc.length < sizeLine := by omega
    cases e : c d with
    | true =>
      have ih := lcL_filter (gg := gg) (gt := gt) (ge := ge) (Γ := Γ) (M := M) (f := f) (c := c) ds (acc ++ [f d]) (by simp; omega) fun e he => hf e (by simp [he])
      simp [gLcL, h1, h2, e, h3 e, q, ih]
    | false =>
      have ih := lcL_filter (gg := gg) (gt := gt) (ge := ge) (Γ := Γ) (M := M) (f := f) (c := c) ds acc (by omega) fun e he => hf e (by simp [he])
      simp [gLcL, h1, h2, e, ih]
/-! ### walks -/
theorem forL_cons {gg : GG} {b : GS} {d : D} {ds : List D} {Γ Γ1 Γ2 : Env} {M M2 : List MO} (h1 : gg d Γ = some Γ1) (h2 : b Γ1 M = .nx Γ2 M2) : gForL gg b (d :: ds) Γ M = gForL gg b ds Γ2 M2 := by simp [h1, h2]
theorem while_go {gt : GT} {b : GS} {n : Nat} {Γ Γ2 : Env} {M M1 M2 : List MO} (h1 : gt Γ M = .ok true M1) (h2 : b Γ M1 = .nx Γ2 M2) : gWhile gt b (n + 1) Γ M = gWhile gt b n Γ2 M2 := by simp [gWhile, h1, h2]
theorem while_end {gt : GT} {b : GS} {n : Nat} {Γ : Env} {M M1 : List MO} (h1 : gt Γ M = .ok false M1) : gWhile gt b (n + 1) Γ M = .nx Γ M1 := by simp [gWhile, h1]
theorem inR_of {i : Int} (h1 : -(2 ^ 62) ≤ i) (h2 : i < 2 ^ 62) : inR i = true := by simp [inR]; omega
theorem atI_pos {α : Type} {ds : List α} {i : Int} (h0 : 0 ≤ i) (h1 : i < ds.length) : atI ds i = ds[i.toNat]? := by
  have l : i.toNat < ds.length := by omega
  simp [atI, ixN, h0, h1]
theorem atI_lt {ds : List D} {i : Int} (h0 : 0 ≤ i) (h1 : i < ds.length) : ∃ d, atI ds i = some d ∧ ds[i.toNat]? = some d := by
  have l : i.toNat < ds.length := by omega
  exact ⟨ds[i.toNat], by rw [atI_pos h0 h1]; exact List.getElem?_eq_getElem l, List.getElem?_eq_getElem l⟩
theorem atI_ints {is : List Int} {i : Int} (h0 : 0 ≤ i) (h1 : i < is.length) : ∃ j, is[i.toNat]? = some j ∧ atI (is.map D.int) i = some (.int j) := by
  have l : i.toNat < is.length := by omega
  refine ⟨is[i.toNat], List.getElem?_eq_getElem l, ?_⟩
  rw [atI_pos h0 (by simpa using h1)]
  simp [l]
theorem ixN_lt {n : Nat} {i : Int} (h0 : 0 ≤ i) (h1 : i < n) : ixN n i = some i.toNat := by simp [ixN, h0, h1]
theorem popAt_run {M : List MO} {ds : List D} {i : Int} {d : D} (h0 : 0 ≤ i) (h1 : i < ds.length) (h : ds[i.toNat]? = some d) (h2 : i < 2 ^ 62) : mPopAt M ds (.int i) = some (ds.eraseIdx i.toNat, d) := by
  have a : -(2 ^ 63) ≤ i := by omega
  have b : i < 2 ^ 63 := by omega
  simp only [mPopAt, ixN_lt h0 h1, h]
  simp [a, b]
  omega
@[simp] theorem append_run (M : List MO) (ds : List D) (y : D) : mAppend M ds y = if ds.length < sizeLine then some (ds ++ [y], .non) else none := rfl
theorem cutD_upto {ds : List D} {n : Nat} : cutD ds none (some (n : Int)) = ds.take n := by
  unfold cutD
  rw [HT.sIx_none, HT.sIx_nat]
  simp
end Bk
namespace Bk
theorem erase_perm {α : Type} : ∀ (l : List α) (i : Nat) (h : i < l.length), (l[i] :: l.eraseIdx i).Perm l
  | [], _, h => by simp at h
  | a :: l, 0, _ => by simp
  | a :: l, i + 1, h => by
    simp only [List.getElem_cons_succ, List.eraseIdx_cons_succ]
    exact (List.Perm.swap _ _ _).trans (List.Perm.cons _ (erase_perm l i (by simpa using h)))
theorem map_erase {α β : Type} (f : α → β) : ∀ (l : List α) (i : Nat), (l.map f).eraseIdx i = (l.eraseIdx i).map f
  | [], _ => rfl
  | a :: l, 0 => rfl
  | a :: l, i + 1 => by simp [map_erase f l i]
end Bk

set_option Elab.async false
set_option linter.all false
set_option maxRecDepth 100000
set_option maxHeartbeats 2000000
namespace Bk
open PySem PySem.Spec PyProof.Rows L2
/-! ### zip of two lists or tuples of any kind -/
def Izz (K : PySem.W.Frag) (S1 S2 : Src) : It :=
  ⟨fun n H => ∃ (xs ys : List V) (x y : V), S1.here K H xs ∧ S2.here K H ys ∧ xs[n]? = some x ∧ ys[n]? = some y, fun n H v H' => ∃ T x y, v = .ref T ∧ H T = none ∧ H' = upd H T (.tup [x, y]) ∧ (∀ xs, S1.here K H xs → xs[n]? = some x) ∧ ∀ ys, S2.here K H ys → ys[n]? = some y, fun n H => ∃ xs ys : List V, S1.here K H xs ∧ S2.here K H ys ∧ min xs.length ys.length = n⟩
theorem turn_zz {P : Program} {w : World} {K : PySem.W.Frag} {elts : List Expr} {kk : Nat} {tpos : Pos} (S1 S2 : Src) (N : Nat) (lt1 : S1.addr < N) (lt2 : S2.addr < N) :
    Turn P w K (.Tuple elts kk tpos) (Izz K S1 S2) [N + 4, N + 2, N + 3, N, N + 1] (N + 4) (fun n h => IsZip h (N + 4) (N + 2) (N + 3) .none ∧ IsTupOf2 h (N + 2) (.ref N) (.ref (N + 1)) ∧ (∃ a1 a2, IsTupOf2 h (N + 3) a1 a2) ∧ S1.it h N n ∧ S2.it h (N + 1) n) where
  mem := List.mem_cons_self
  obj := fun n h st b hb => by
    obtain ⟨hz, hTI, ⟨x, y, hTO⟩, h1, h2⟩ := st
    have e' : b = N + 4 ∨ b = N + 2 ∨ b = N + 3 ∨ b = N ∨ b = N + 1 := by simpa using hb
    rcases e' with q | q | q | q | q
    · rw [q]; exact ⟨_, hz, fun v q => nomatch q⟩
    · rw [q]; exact ⟨_, hTI, fun v q => nomatch q⟩
    · rw [q]; exact ⟨_, hTO, fun v q => nomatch q⟩
    · rw [q]; exact Src.it_obj h1
    · rw [q]; exact Src.it_obj h2
  keep := fun n h h' st k => by
    obtain ⟨hz, hTI, ⟨x, y, hTO⟩, h1, h2⟩ := st
    exact ⟨k _ (by simp) _ hz, k _ (by simp) _ hTI, ⟨x, y, k _ (by simp) _ hTO⟩, Src.it_at h1 fun o q => k _ (by simp) o q, Src.it_at h2 fun o q => k _ (by simp) o q⟩
  item := by
    intro X hP hw hK hc n pins s σ H E I hf st hg
    subst hP hw hK
    obtain ⟨xs, ys, x, y, hqx, hqy, hx, hy⟩ := hg
    obtain ⟨hz, hTI, hTO, h1, h2⟩ := st
    obtain ⟨its1, rv1, har1⟩ := Src.inv I hqx
    obtain ⟨its2, rv2, har2⟩ := Src.inv I hqy
    obtain ⟨u1, hu1, ru1⟩ := rv1.get hx
    obtain ⟨u2, hu2, ru2⟩ := rv2.get hy
    have hh : X.A.in1.handled = none := I.ok.hd hc
    have Wk := WalksT.zipD2 (prog := X.prog) (w := X.w) (A := X.A) (zip_sep2 (N := N) (fp1 := [S1.addr]) (fp2 := [S2.addr]) (fun b hb => by rw [List.mem_singleton.mp hb]; exact lt1) (fun b hb => by rw [List.mem_singleton.mp hb]; exact lt2))
      (Src.draws hh S1 N (Nat.ne_of_lt lt1) its1.toArray) (Src.draws hh S2 (N + 1) (by have q : S2.addr ≠ N + 1 := Nat.ne_of_lt (Nat.lt_succ_of_lt lt2); exact q) its2.toArray)
    have ln1 : n < its1.toArray.size := by
      have := (List.getElem?_eq_some_iff.mp hu1).1
      simpa using this
    have ln2 : n < its2.toArray.size := by
      have := (List.getElem?_eq_some_iff.mp hu2).1
      simpa using this
    refine Wk.item n s _ E (by omega) ⟨hz, hTI, hTO, ⟨h1, har1⟩, ⟨h2, har2⟩⟩ fun T vals h' tk hP hT hTup hMid hk => ⟨_, rfl, Wk.go elts kk tpos n T _ _ _ hMid fun h2' hSt hk2 => ?_⟩
    obtain ⟨x1, x2, p1, p2, hvals⟩ := hP
    subst hvals
    have ex1 : x1 = u1 := by
      have q : its1.toArray[n]? = some u1 := by simpa using hu1
      rw [p1] at q
      exact Option.some.inj q
    have ex2 : x2 = u2 := by
      have q : its2.toArray[n]? = some u2 := by simpa using hu2
      rw [p2] at q
      exact Option.some.inj q
    subst ex1 ex2
    have out := Wk.apart n T _ hMid
    have tup2 : h2'.IsTuple T #[x1, x2] := hTup.at fun o q => hk2 T o out q
    have new : ObjOk X.prog X.w (upd H T (.tup [x, y])) h2' T (.tup [x, y]) :=
      ⟨by show 2 ≤ sizeLine; decide, [x1, x2], .cons ru1 (.cons ru2 .nil), tup2⟩
    have sub : ∀ c, c ∉ [N + 4, N + 2, N + 3, N, N + 1] → c ∉ [N + 4, N + 3, N, N + 1] := fun c hc q => hc (by
      have e' : c = N + 4 ∨ c = N + 3 ∨ c = N ∨ c = N + 1 := by simpa using q
      rcases e' with z | z | z | z <;> simp [z])
    have J := I.turnedNew (t' := tk) (ch := [N + 4, N + 2, N + 3, N, N + 1]) (fun b ob hb q => hk2 b ob (sub b hb) (hk b ob (sub b hb) q)) hf hT new
    refine ⟨.ref T, _, J, rfl, ⟨T, x, y, rfl, I.hok.fresh hT, rfl, fun ys' hy' => by rw [Src.inj I hy' hqx]; exact hx, fun ys' hy' => by rw [Src.inj I hy' hqy]; exact hy⟩, ?_, fun b hb => ?_⟩
    · obtain ⟨g1, g2, g3, ⟨g4, _⟩, ⟨g5, _⟩⟩ := hSt
      exact ⟨g1, g2, g3, g4, g5⟩
    · have hb' : b < s.heap.objs.size := by
        have e' : b = N + 4 ∨ b = N + 2 ∨ b = N + 3 ∨ b = N ∨ b = N + 1 := by simpa using hb
        rcases e' with q | q | q | q | q
        · rw [q]; exact Heap.lt_size hz
        · rw [q]; exact Heap.lt_size hTI
        · rw [q]; obtain ⟨_, _, q'⟩ := hTO; exact Heap.lt_size q'
        · rw [q]; obtain ⟨_, q', _⟩ := Src.it_obj h1; exact Heap.lt_size q'
        · rw [q]; obtain ⟨_, q', _⟩ := Src.it_obj h2; exact Heap.lt_size q'
      rw [upd_ne (Nat.ne_of_lt (Nat.lt_of_lt_of_le hb' hT))]
      exact (hf b hb).1
  done := by
    intro X hP hw hK hc n pins s σ H E I hf st hg
    subst hP hw hK
    obtain ⟨xs, ys, hqx, hqy, hl⟩ := hg
    obtain ⟨hz, hTI, hTO, h1, h2⟩ := st
    obtain ⟨its1, rv1, har1⟩ := Src.inv I hqx
    obtain ⟨its2, rv2, har2⟩ := Src.inv I hqy
    have hh : X.A.in1.handled = none := I.ok.hd hc
    have Wk := WalksT.zipD2 (prog := X.prog) (w := X.w) (A := X.A) (zip_sep2 (N := N) (fp1 := [S1.addr]) (fp2 := [S2.addr]) (fun b hb => by rw [List.mem_singleton.mp hb]; exact lt1) (fun b hb => by rw [List.mem_singleton.mp hb]; exact lt2))
      (Src.draws hh S1 N (Nat.ne_of_lt lt1) its1.toArray) (Src.draws hh S2 (N + 1) (by have q : S2.addr ≠ N + 1 := Nat.ne_of_lt (Nat.lt_succ_of_lt lt2); exact q) its2.toArray)
    have en : min its1.toArray.size its2.toArray.size = n := by rw [List.size_toArray, List.size_toArray, ← rv1.length, ← rv2.length]; exact hl
    rw [en] at Wk
    have sub : ∀ c, c ∉ [N + 4, N + 2, N + 3, N, N + 1] → c ∉ [N + 4, N + 3, N, N + 1] := fun c hc q => hc (by
      have e' : c = N + 4 ∨ c = N + 3 ∨ c = N ∨ c = N + 1 := by simpa using q
      rcases e' with z | z | z | z <;> simp [z])
    exact Wk.done s _ E ⟨hz, hTI, hTO, ⟨h1, har1⟩, ⟨h2, har2⟩⟩ fun h' tk hk => ⟨rfl, I.turnedL (t' := tk) (ch := [N + 4, N + 2, N + 3, N, N + 1]) (fun b ob hb q => hk b ob (sub b hb) q) hf⟩
  self := fun A n s Q E st h => wpAny_pyIter_zip st.1 h
theorem itr_zz {K : PySem.W.Frag} {Z : Hp} {ι : Nat → Addr} {n : Nat} {S1 S2 : Src} {xs ys : List V} {ds es : List D} (s1 : S1.here K Z xs) (s2 : S2.here K Z ys) (r1 : Rps K Z ι n ds xs) (r2 : Rps K Z ι n es ys) : ItR K (Izz K S1 S2) (zipL ds es) Z ι n := by
  intro i H' Z' ι' M' hz hi hn hr _
  have sH : S1.here K H' xs := here_sub (fun a o h => hr.sub _ _ (hz _ _ h)) s1
  have sK : S2.here K H' ys := here_sub (fun a o h => hr.sub _ _ (hz _ _ h)) s2
  refine ⟨fun hl => ⟨xs, ys, sH, sK, by rw [← r1.length, ← r2.length, ← zipL_len]; exact hl⟩, fun d hd => ?_⟩
  obtain ⟨d0, e0, h1, h2, rfl⟩ := zipL_get ds es i d hd
  obtain ⟨v, hv, rv⟩ := r1.get h1
  obtain ⟨u, hu, ru⟩ := r2.get h2
  refine ⟨⟨xs, ys, v, u, sH, sK, hv, hu⟩, fun x H2 hy => ?_⟩
  obtain ⟨T, x', y', rfl, hT, rfl, hx, hy⟩ := hy
  have ex : xs[i]? = some x' := hx _ sH
  rw [hv] at ex
  cases ex
  have ey : ys[i]? = some y' := hy _ sK
  rw [hu] at ey
  cases ey
  obtain ⟨q1, q2⟩ := hr.frozen (o := .tup [v, u]) hT
  refine ⟨_, q2, q1, .tup (.inl (.inl upd_same)) (.cons ?_ (.cons ?_ .nil))⟩
  · exact Rp.ext (Rp.mono hz hi hn _ _ rv) q2
  · exact Rp.ext (Rp.mono hz hi hn _ _ ru) q2
section
variable {X : Cx} {C : CT} {W : WX} {e e2 : Expr} {ga gb : GE} {p pos tpos : Pos} {elts : List Expr} {kk : Nat}
theorem qi_zip (hg : Gl X "zip") (hm : X.mg "zip" = none) (ha : QE X C W e ga) (hb : QE X C W e2 gb) (hs : starEach [e, e2] X.env = (false, eval e X.env) :: starEach [e2] X.env := by rfl) (hs2 : starEach [e2] X.env = (false, eval e2 X.env) :: starEach [] X.env := by rfl)
    (hpl : (backTo pos (starEach [e2] X.env)).any (·.1) = false := by rfl) : QI X C W (.Tuple elts kk tpos) (.Call (.Name "zip" p) [e, e2] [] pos) (gZip ga gb) := by
  obtain ⟨ta, pa, qa⟩ := ha
  obtain ⟨tb, pb, qb⟩ := hb
  refine ⟨fun σ H R => ta σ H fun v H1 => tb σ H1 fun u H2 => ∃ (S1 S2 : Src) (xs ys : List V), v = .ref S1.addr ∧ u = .ref S2.addr ∧ S1.here X.K H2 xs ∧ S2.here X.K H2 ys ∧ R (Izz X.K S1 S2) H2, ⟨fun pins s σ H R I h => ?_⟩,
    fun σ H Z ι Γ M Q sl hr h => qa σ H Z ι Γ M _ sl hr (Post.bind h fun x M1 v H1 Z1 ι1 e1 hr1 r1 h1 => qb σ H1 Z1 ι1 Γ M1 _ (sl.ext e1) hr1 (h1.bind fun y M2 u H2 Z2 ι2 e2 hr2 r2 h2 => ?_))⟩
  · refine Call_ (ld_blt I hg hm boot_zip (PyProof.Rows.callWith_type1 (thn ((pa_cons pa (pa_cons pb pa_nil hs2) hs).run pos pins s σ H (fun vs H1 => ∃ v u, vs = [v, u] ∧ ∃ (S1 S2 : Src) (xs ys : List V), v = .ref S1.addr ∧ u = .ref S2.addr ∧ S1.here X.K H1 xs ∧ S2.here X.K H1 ys ∧ R (Izz X.K S1 S2) H1) I ?_) fun us s1 hh => ?_) hs hpl))
    · have hmono : (fun x H1 => tb σ H1 fun y H2 => tNil σ H2 fun ys H3 => ∃ v u, x :: y :: ys = [v, u] ∧ ∃ (S1 S2 : Src) (xs zs : List V), v = .ref S1.addr ∧ u = .ref S2.addr ∧ S1.here X.K H3 xs ∧ S2.here X.K H3 zs ∧ R (Izz X.K S1 S2) H3) =
          fun (v : V) (H1 : Hp) => tb σ H1 fun u H2 => ∃ (S1 S2 : Src) (xs ys : List V), v = .ref S1.addr ∧ u = .ref S2.addr ∧ S1.here X.K H2 xs ∧ S2.here X.K H2 ys ∧ R (Izz X.K S1 S2) H2 := by
        funext x H1
        congr 1
        funext y H2
        apply propext
        constructor
        · rintro ⟨v, u, ev, q⟩
          cases ev
          exact q
        · intro q
          exact ⟨x, y, rfl, q⟩
      show ta σ H fun x H1 => tb σ H1 fun y H2 => tNil σ H2 fun ys H3 => ∃ v u, x :: y :: ys = [v, u] ∧ ∃ (S1 S2 : Src) (xs zs : List V), v = .ref S1.addr ∧ u = .ref S2.addr ∧ S1.here X.K H3 xs ∧ S2.here X.K H3 zs ∧ R (Izz X.K S1 S2) H3
      rw [hmono]
      exact h
    · obtain ⟨vs, H1, J, r1, v, u, rfl, S1, S2, xs, ys, rfl, rfl, hq1, hq2, q⟩ := hh
      obtain ⟨u1, u2, rfl, ru, ru2⟩ := Vals.two r1
      cases ru
      cases ru2
      obtain ⟨its1, rv1, har1⟩ := Src.inv J hq1
      obtain ⟨its2, rv2, har2⟩ := Src.inv J hq2
      refine zip_begins2 (S1.begins its1.toArray) (S2.begins its2.toArray) har1 har2 fun h' hz hTI hTO hi1 hi2 hsz hk => wpAny_pyIter_zip hz ?_
      have J2 : Inv X pins σ H1 { s1 with heap := h' } := J.kept (t' := s1.toks) hk
      refine ⟨s1.heap.objs.size + 4, [s1.heap.objs.size + 4, s1.heap.objs.size + 2, s1.heap.objs.size + 3, s1.heap.objs.size, s1.heap.objs.size + 1], _, _, H1, rfl, J2, turn_zz S1 S2 s1.heap.objs.size (Src.arr_lt har1) (Src.arr_lt har2), ⟨hz, hTI, ⟨_, _, hTO⟩, Src.start hi1, Src.start hi2⟩, fun b hb => ?_, q⟩
      have e' : b = s1.heap.objs.size + 4 ∨ b = s1.heap.objs.size + 2 ∨ b = s1.heap.objs.size + 3 ∨ b = s1.heap.objs.size ∨ b = s1.heap.objs.size + 1 := by simpa using hb
      have le : s1.heap.objs.size ≤ b := by
        rcases e' with z | z | z | z | z
        · rw [z]; exact Nat.le_add_right _ _
        · rw [z]; exact Nat.le_add_right _ _
        · rw [z]; exact Nat.le_add_right _ _
        · rw [z]; exact Nat.le_refl _
        · rw [z]; exact Nat.le_add_right _ _
      exact J.fpOk le (J.hok.fresh le)
  · obtain ⟨items, hd, h3⟩ := Post.of_opR (γ := D) (δ := V) h2
    unfold zipO at hd
    cases es : seqD x with
    | none => rw [es] at hd; cases hd
    | some ds =>
      cases et : seqD y with
      | none => rw [es, et] at hd; cases hd
      | some dt =>
        rw [es, et] at hd
        cases hd
        obtain ⟨S1, xs, rfl, hS1, q1⟩ := src_of hr2.sub (r1.ext e2) es
        obtain ⟨S2, ys, rfl, hS2, q2⟩ := src_of hr2.sub r2 et
        exact ⟨S1, S2, xs, ys, rfl, rfl, here_sub hr2.sub hS1, here_sub hr2.sub hS2, h3 _ H2 Z2 ι2 .refl hr2 (itr_zz hS1 hS2 q1 q2)⟩
end
end Bk

set_option Elab.async false
set_option linter.all false
set_option maxRecDepth 100000
set_option maxHeartbeats 2000000
namespace Bk
open PySem PySem.Spec PyProof.Rows L2
open PySem.W (kdx_alive)
/-! ### list(zip(a, b)): the zip's tuples stay, so each turn makes a new one -/
section
variable {prog : Program} {w : World} {A : Around} {E : Value → Shared → Prop} {s : Shared} {z TI TO i1 i2 T : Addr} {fp1 fp2 : List Addr} {n1 n2 i : Nat} {P1 P2 : Nat → Value → Prop} {St1 St2 : Nat → Heap → Prop} {f : Bool} {oT : Obj}
theorem zz_item {Q : Value → Shared → Prop} (S : ZipSep2 z TI TO i1 i2 fp1 fp2) (D1 : Draws prog w A i1 fp1 n1 P1 St1) (D2 : Draws prog w A i2 fp2 n2 P2 St2) (hz : IsZipHeld s.heap z TI TO T f) (hT : s.heap.get? T = some oT) (hTI : IsTupOf2 s.heap TI (.ref i1) (.ref i2)) (t1 : St1 i s.heap) (t2 : St2 i s.heap) (l1 : i < n1) (l2 : i < n2)
    (hQ : ∀ x1 x2 h' tk, P1 i x1 → P2 i x2 → IsZipHeld h' z TI TO T true → St1 (i + 1) h' → St2 (i + 1) h' → IsTupOf2 h' s.heap.objs.size x1 x2 → h'.objs.size = s.heap.objs.size + 1 → (∀ c o, c ≠ z → c ≠ i1 → c ≠ i2 → s.heap.get? c = some o → h'.get? c = some o) → Q (.ref s.heap.objs.size) { s with heap := h', toks := tk }) :
    wpAny (model prog w) A (Builtin.«zip.__next__» ⟨[.ref z], []⟩) (fun r s' => ∃ v, r = .done (.ret v) ∧ Q v s') E s := by
  obtain ⟨hp, gn, dr, tk0, os⟩ := s
  show wpAny _ _ (field (.ref z) 2 >>= _) _ _ _; refine wpAny_bind (wpAny_field hz rfl (x := .bool false) rfl ?_)
  show wpAny _ _ (field (.ref z) 3 >>= _) _ _ _; refine wpAny_bind (wpAny_field hz rfl (x := .ref TI) rfl ?_)
  refine wpAny_bind (wpAny_seqItems hTI rfl ?_); show wpAny _ _ (Builtin.SmallTypes.ownedTupleIsFree (.ref z) >>= _) _ _ _
  refine wpAny_bind (wpAny_tupleHeld_zip hz hT fun g0 zg0 sg0 => ?_); simp only [Bool.false_eq_true, if_false]; refine wpAny_bind ?_
  replace sg0 : Heap.SameBut z hp g0 := sg0
  rw [← Array.forIn_toList]; simp only [List.forIn_cons, List.forIn_nil]
  refine wpAny_bind (wpAny_bind (wpAny_holding ?_)); show wpAny _ _ (Builtin.SmallTypes.nextOf (.ref i1) >>= _) _ _ ⟨g0, gn, dr, tk0, os⟩
  refine wpAny_bind (D1.item i _ _ _ l1 (D1.over t1 sg0 S.zf1) fun x1 g1 k1 hx1 tn1 sg1 => wpAny_pure ?_)
  replace sg1 : Heap.SameBut i1 g0 g1 := sg1
  refine wpAny_pure ?_
  refine wpAny_bind (wpAny_bind (wpAny_holding ?_)); show wpAny _ _ (Builtin.SmallTypes.nextOf (.ref i2) >>= _) _ _ ⟨g1, gn, dr, k1, os⟩
  refine wpAny_bind (D2.item i _ _ _ l2 (D2.over (D2.over t2 sg0 S.zf2) sg1 S.sep1_2) fun x2 g2 k2 hx2 tn2 sg2 => wpAny_pure ?_)
  replace sg2 : Heap.SameBut i2 g1 g2 := sg2
  refine wpAny_pure (wpAny_pure ?_); show wpAny _ _ (newTuple [x1, x2] >>= _) _ _ _; refine wpAny_bind (wpAny_newTuple ?_)
  have sz : g2.objs.size = hp.objs.size := by rw [sg2.1, sg1.1, sg0.1]
  have zg2 : IsZipHeld g2 z TI TO T true := sg2.extBut _ _ S.zi2 (sg1.extBut _ _ S.zi1 zg0)
  have hk : ∀ c o, c ≠ z → c ≠ i1 → c ≠ i2 → hp.get? c = some o → g2.get? c = some o := fun c o c1 c2 c3 e => sg2.extBut _ _ c3 (sg1.extBut _ _ c2 (sg0.extBut _ _ c1 e))
  have q1 : St1 (i + 1) g2 := D1.over tn1 sg2 S.sep2_1
  refine wpAny_pure ⟨_, rfl, ?_⟩
  show Q (.ref g2.objs.size) _
  have hp2 : IsTupOf2 (g2.push { cls := .type "tuple", data := .seq #[x1, x2] }) g2.objs.size x1 x2 := Heap.get?_push_size _ rfl
  have sz2 : (g2.push { cls := .type "tuple", data := .seq #[x1, x2] }).objs.size = g2.objs.size + 1 := Heap.size_push ..
  rw [sz] at hp2 sz2 ⊢
  exact hQ x1 x2 _ k2 hx1 hx2 (Heap.get?_push_of_some _ zg2) (D1.frame _ _ _ q1 fun b _ o e => Heap.get?_push_of_some _ e) (D2.frame _ _ _ tn2 fun b _ o e => Heap.get?_push_of_some _ e) hp2 sz2 fun c o c1 c2 c3 e => Heap.get?_push_of_some _ (hk c o c1 c2 c3 e)
theorem zz_end {Q : Fin → Shared → Prop} (S : ZipSep2 z TI TO i1 i2 fp1 fp2) (D1 : Draws prog w A i1 fp1 n1 P1 St1) (D2 : Draws prog w A i2 fp2 n2 P2 St2) (hz : IsZipHeld s.heap z TI TO T f) (hT : s.heap.get? T = some oT) (hTI : IsTupOf2 s.heap TI (.ref i1) (.ref i2)) (t1 : St1 i s.heap) (t2 : St2 i s.heap) (l1 : i ≤ n1) (l2 : i ≤ n2) (hend : i = n1 ∨ i = n2)
    (hE : ∀ h' tk e, (∀ c o, c ≠ z → c ≠ i1 → c ≠ i2 → s.heap.get? c = some o → h'.get? c = some o) → (∃ o, h'.get? e = some o ∧ o.cls = .type "StopIteration") → E (.ref e) { s with heap := h', toks := tk }) :
    wpAny (model prog w) A (Builtin.«zip.__next__» ⟨[.ref z], []⟩) Q E s := by
  obtain ⟨hp, gn, dr, tk0, os⟩ := s
  show wpAny _ _ (field (.ref z) 2 >>= _) _ _ _; refine wpAny_bind (wpAny_field hz rfl (x := .bool false) rfl ?_)
  show wpAny _ _ (field (.ref z) 3 >>= _) _ _ _; refine wpAny_bind (wpAny_field hz rfl (x := .ref TI) rfl ?_)
  refine wpAny_bind (wpAny_seqItems hTI rfl ?_); show wpAny _ _ (Builtin.SmallTypes.ownedTupleIsFree (.ref z) >>= _) _ _ _
  refine wpAny_bind (wpAny_tupleHeld_zip hz hT fun g0 zg0 sg0 => ?_); simp only [Bool.false_eq_true, if_false]; refine wpAny_bind ?_
  replace sg0 : Heap.SameBut z hp g0 := sg0
  rw [← Array.forIn_toList]; simp only [List.forIn_cons, List.forIn_nil]
  refine wpAny_bind (wpAny_bind (wpAny_holding ?_)); show wpAny _ _ (Builtin.SmallTypes.nextOf (.ref i1) >>= _) _ _ ⟨g0, gn, dr, tk0, os⟩
  by_cases c : i < n1
  · refine wpAny_bind (D1.item i _ _ _ c (D1.over t1 sg0 S.zf1) fun x1 g1 k1 hx1 tn1 sg1 => wpAny_pure ?_)
    replace sg1 : Heap.SameBut i1 g0 g1 := sg1
    refine wpAny_pure ?_
    have c2 : i = n2 := by omega
    refine wpAny_bind (wpAny_bind (wpAny_holding ?_)); show wpAny _ _ (Builtin.SmallTypes.nextOf (.ref i2) >>= _) _ _ ⟨g1, gn, dr, k1, os⟩
    refine wpAny_bind (D2.done ⟨g1, gn, dr, k1, os⟩ _ _ (by rw [← c2]; exact D2.over (D2.over t2 sg0 S.zf2) sg1 S.sep1_2) fun q e hq he => ?_)
    replace hq : Heap.ExtBut i2 g1 q := hq
    exact hE q k1 e (fun c o cz c1 c2 x => hq _ _ c2 (sg1.extBut _ _ c1 (sg0.extBut _ _ cz x))) he
  · have c1 : i = n1 := by omega
    refine wpAny_bind (D1.done ⟨g0, gn, dr, tk0, os⟩ _ _ (by rw [← c1]; exact D1.over t1 sg0 S.zf1) fun q e hq he => ?_)
    replace hq : Heap.ExtBut i1 g0 q := hq
    exact hE q tk0 e (fun c o cz c1 _ x => hq _ _ c1 (sg0.extBut _ _ cz x)) he
/-- where a zip stands whose tuples are kept -/
def ZH (z TI TO : Addr) (no : List Addr) (h : Heap) : Prop := (IsZip h z TI TO .none ∧ ∃ a1 a2, IsTupOf2 h TO a1 a2) ∨ ∃ T f oT, IsZipHeld h z TI TO T f ∧ h.get? T = some oT ∧ T ∉ no
theorem zh_item {no : List Addr} {Q : Option Value → Shared → Prop} (S : ZipSep2 z TI TO i1 i2 fp1 fp2) (D1 : Draws prog w A.in1 i1 fp1 n1 P1 St1) (D2 : Draws prog w A.in1 i2 fp2 n2 P2 St2) (hz : ZH z TI TO no s.heap) (hn : z ∈ no ∧ i1 ∈ no ∧ i2 ∈ no) (hno : ∀ b ∈ no, b < s.heap.objs.size) (hTI : IsTupOf2 s.heap TI (.ref i1) (.ref i2)) (t1 : St1 i s.heap) (t2 : St2 i s.heap) (l1 : i < n1) (l2 : i < n2)
    (hQ : ∀ x1 x2 h' tk, P1 i x1 → P2 i x2 → ZH z TI TO no h' → St1 (i + 1) h' → St2 (i + 1) h' → IsTupOf2 h' s.heap.objs.size x1 x2 → h'.objs.size = s.heap.objs.size + 1 → (∀ c o, c ≠ z → c ≠ TO → c ≠ i1 → c ≠ i2 → s.heap.get? c = some o → h'.get? c = some o) → Q (some (.ref s.heap.objs.size)) { s with heap := h', toks := tk }) :
    wpAny (model prog w) A (pyNext (.ref z)) Q E s := by
  have fresh : s.heap.objs.size ∉ no := fun q => Nat.lt_irrefl _ (hno _ q)
  rcases hz with ⟨hz, a1, a2, hTO⟩ | ⟨T, f, oT, hz, hT, hTn⟩
  · exact wpAny_pyNext_zipD2_item S D1 D2 hz hTI hTO t1 t2 l1 l2 fun x1 x2 h' tk p1 p2 b1 b2 d1 d2 b5 b6 hk => hQ x1 x2 h' tk p1 p2 (.inr ⟨_, false, _, b1, b5, fresh⟩) d1 d2 b5 b6 hk
  · have hTy : s.TypeIs (.ref z) "zip" := ⟨_, hz, rfl⟩
    unfold pyNext
    refine wpAny_bind (wpAny_attempt (wpAny_callSpecial?_slot (name := Str.ofString "__next__") hTy F.slot_zip_next (wpAny_call_entry F.slot_zip_next hTy F.entry_zip_next
      (zz_item S D1 D2 hz hT hTI t1 t2 l1 l2 fun x1 x2 h' tk p1 p2 b1 d1 d2 b5 b6 hk => wpAny_pure (hQ x1 x2 h' tk p1 p2 (.inr ⟨T, true, oT, b1, hk T oT (fun q => hTn (q ▸ hn.1)) (fun q => hTn (q ▸ hn.2.1)) (fun q => hTn (q ▸ hn.2.2)) hT, hTn⟩) d1 d2 b5 b6 fun c o c1 _ c2 c3 e => hk c o c1 c2 c3 e)) (F.args_zip_next_1 _))))
theorem zh_end {no : List Addr} {Q : Option Value → Shared → Prop} (S : ZipSep2 z TI TO i1 i2 fp1 fp2) (D1 : Draws prog w A.in1 i1 fp1 n1 P1 St1) (D2 : Draws prog w A.in1 i2 fp2 n2 P2 St2) (hz : ZH z TI TO no s.heap) (hTI : IsTupOf2 s.heap TI (.ref i1) (.ref i2)) (t1 : St1 i s.heap) (t2 : St2 i s.heap) (l1 : i ≤ n1) (l2 : i ≤ n2) (hend : i = n1 ∨ i = n2)
    (hQ : ∀ h' tk, (∀ c o, c ≠ z → c ≠ TO → c ≠ i1 → c ≠ i2 → s.heap.get? c = some o → h'.get? c = some o) → Q none { s with heap := h', toks := tk }) : wpAny (model prog w) A (pyNext (.ref z)) Q E s := by
  rcases hz with ⟨hz, a1, a2, hTO⟩ | ⟨T, f, oT, hz, hT, hTn⟩
  · exact wpAny_pyNext_zipD2_end S D1 D2 hz hTI hTO t1 t2 l1 l2 hend hQ
  · have hTy : s.TypeIs (.ref z) "zip" := ⟨_, hz, rfl⟩
    unfold pyNext
    refine wpAny_bind (wpAny_attempt (wpAny_callSpecial?_slot (name := Str.ofString "__next__") hTy F.slot_zip_next (wpAny_call_entry F.slot_zip_next hTy F.entry_zip_next (zz_end S D1 D2 hz hT hTI t1 t2 l1 l2 hend fun h' tk e hk he => ?_) (F.args_zip_next_1 _))))
    obtain ⟨o, ho, hc⟩ := he
    exact wpAny_bind (wpAny_isInstance (T := "StopIteration") (b := true) ⟨o, ho, hc⟩ isSubtype_stop (wpAny_pure (hQ _ _ fun c o c1 _ c2 c3 e => hk c o c1 c2 c3 e)))
end
end Bk

set_option Elab.async false
set_option linter.all false
set_option maxRecDepth 100000
set_option maxHeartbeats 4000000
namespace Bk
open PySem PySem.Spec PyProof.Rows L2
/-- tuples laid one after the other -/
inductive Laid : Hp → List (V × V) → List Addr → Hp → Prop
  | nil (H : Hp) : Laid H [] [] H
  | snoc {H H1 : Hp} {ps : List (V × V)} {Ts : List Addr} {T : Addr} {x y : V} : Laid H ps Ts H1 → H1 T = none → Laid H (ps ++ [(x, y)]) (Ts ++ [T]) (upd H1 T (.tup [x, y]))
theorem zip_no_len : typeLookup (.type "zip") "__len__" = pure none := am_miss_of_fast (by decide +kernel)
theorem zip_no_hint : typeLookup (.type "zip") "__length_hint__" = pure none := am_miss_of_fast (by decide +kernel)
theorem zip_hint {prog : Program} {w : World} {A : Around} {E : Value → Shared → Prop} {s : Shared} {r : Addr} {Q : Bool → Shared → Prop} (hT : s.TypeIs (.ref r) "zip") (h : Q true s) : wpAny (model prog w) A (Builtin.List.listLengthHint (.ref r)) Q E s := by
  unfold Builtin.List.listLengthHint
  refine wpAny_bind (wpAny_specialOf hT zip_no_len ?_)
  refine wpAny_bind (wpAny_specialOf hT zip_no_hint ?_)
  exact wpAny_pure h
section
variable {X : Cx} {pins : List (Addr × Obj)} {σ : L2.St} {S1 S2 : Src} {N Sx : Nat} {its1 its2 : List Value} {xs ys : List V} {A : Around} {H0 : Hp} {R : Result → Shared → Prop}
abbrev zch (N Sx : Nat) : List Addr := [N + 4, N + 2, N + 3, N, N + 1, Sx]
theorem zl_loop (hh : A.handled = none) (rv1 : Vals xs its1) (rv2 : Vals ys its2) (lt1 : S1.addr < N) (lt2 : S2.addr < N) (hSx : N + 4 < Sx) (res : Value) (hlen : min xs.length ys.length ≤ sizeLine)
    (hR : ∀ (s' : Shared) (H' : Hp) (Ts : List Addr) (acc : Array Value) (c : Nat), Inv X pins σ H' s' → FpOk X pins H' Sx → Laid H0 (xs.zip ys) Ts H' → s'.heap.get? Sx = some { cls := .type "list", dict := none, data := .seq acc c, slots := #[] } → acc.toList = Ts.map Value.ref → R (.ok (.ret res)) s') :
    ∀ (k i : Nat) (s : Shared) (H : Hp) (c : Nat) (acc : Array Value) (Ts : List Addr), min xs.length ys.length - i = k → i ≤ min xs.length ys.length → Inv X pins σ H s → (∀ b ∈ zch N Sx, FpOk X pins H b) → ZH (N + 4) (N + 2) (N + 3) (zch N Sx) s.heap →
      IsTupOf2 s.heap (N + 2) (.ref N) (.ref (N + 1)) → S1.it s.heap N i → S2.it s.heap (N + 1) i → S1.arr s.heap its1.toArray → S2.arr s.heap its2.toArray → s.heap.get? Sx = some { cls := .type "list", dict := none, data := .seq acc c, slots := #[] } → acc.toList = Ts.map Value.ref → Ts.length = i →
      Laid H0 ((xs.zip ys).take i) Ts H → codeAny (model X.prog X.w) A (.builtin "list.extend.loop" ⟨[.ref Sx, .ref (N + 4), res], []⟩) R s := by
  have SS := zip_sep2 (N := N) (fp1 := [S1.addr]) (fp2 := [S2.addr]) (fun b hb => by rw [List.mem_singleton.mp hb]; exact lt1) (fun b hb => by rw [List.mem_singleton.mp hb]; exact lt2)
  have D1 := Src.draws (prog := X.prog) (w := X.w) (A := A.in1.in1) hh S1 N (Nat.ne_of_lt lt1) its1.toArray
  have D2 := Src.draws (prog := X.prog) (w := X.w) (A := A.in1.in1) hh S2 (N + 1) (by have q : S2.addr ≠ N + 1 := Nat.ne_of_lt (Nat.lt_succ_of_lt lt2); exact q) its2.toArray
  have len1 : its1.toArray.size = xs.length := by rw [List.size_toArray, ← rv1.length]
  have len2 : its2.toArray.size = ys.length := by rw [List.size_toArray, ← rv2.length]
  have far : ∀ {u : Nat}, u < N → ¬ (u = N + 4 ∨ u = N + 2 ∨ u = N + 3 ∨ u = N ∨ u = N + 1 ∨ u = Sx) := fun {u} a b => by omega
  have a1 : S1.addr ∉ zch N Sx := fun q => by
    have e' : S1.addr = N + 4 ∨ S1.addr = N + 2 ∨ S1.addr = N + 3 ∨ S1.addr = N ∨ S1.addr = N + 1 ∨ S1.addr = Sx := by simpa using q
    exact far lt1 e'
  have a2 : S2.addr ∉ zch N Sx := fun q => by
    have e' : S2.addr = N + 4 ∨ S2.addr = N + 2 ∨ S2.addr = N + 3 ∨ S2.addr = N ∨ S2.addr = N + 1 ∨ S2.addr = Sx := by simpa using q
    exact far lt2 e'
  have nz : Sx ≠ N + 4 ∧ Sx ≠ N + 2 ∧ Sx ≠ N + 3 ∧ Sx ≠ N ∧ Sx ≠ N + 1 := by omega
  intro k
  induction k with
  | zero =>
    intro i s H c acc Ts hk hi I hf hz hTI t1 t2 r1 r2 hS hacc hTs hL
    have ei : i = min xs.length ys.length := by omega
    refine codeAny_builtin PySem.F.entry_extend_loop ?_
    rw [Around.under_plainId PySem.F.plain_extend_loop _]
    show wpAny _ A.in1 (pyNext (.ref (N + 4)) >>= _) _ _ _
    refine wpAny_bind (zh_end SS D1 D2 hz hTI ⟨t1, r1⟩ ⟨t2, r2⟩ (by rw [len1]; omega) (by rw [len2]; omega) (by rw [len1, len2]; omega) fun h' tk hkp => ?_)
    refine wpAny_pure (hR _ H Ts acc c (I.turnedL (t' := tk) (ch := zch N Sx) (fun b o hb e => hkp b o (fun q => hb (by simp [q])) (fun q => hb (by simp [q])) (fun q => hb (by simp [q])) (fun q => hb (by simp [q])) e) hf) (hf Sx (by simp)) ?_ (hkp Sx _ nz.1 nz.2.2.1 nz.2.2.2.1 nz.2.2.2.2 hS) hacc)
    rw [List.take_of_length_le (by rw [List.length_zip]; omega)] at hL
    exact hL
  | succ k ih =>
    intro i s H c acc Ts hk hi I hf hz hTI t1 t2 r1 r2 hS hacc hTs hL
    have hlt : i < min xs.length ys.length := by omega
    have hsz : acc.size = i := by rw [← Array.length_toList, hacc, List.length_map, hTs]
    have l1 : i < xs.length := by omega
    have l2 : i < ys.length := by omega
    obtain ⟨u1, hu1, ru1⟩ := rv1.get (List.getElem?_eq_getElem l1)
    obtain ⟨u2, hu2, ru2⟩ := rv2.get (List.getElem?_eq_getElem l2)
    have hlive : ∀ b ∈ zch N Sx, b < s.heap.objs.size := fun b hb => by
      have e' : b = N + 4 ∨ b = N + 2 ∨ b = N + 3 ∨ b = N ∨ b = N + 1 ∨ b = Sx := by simpa using hb
      have hx : Sx < s.heap.objs.size := Heap.lt_size hS
      have h2 : ∀ {u v : Nat}, u < v → v < s.heap.objs.size → u < s.heap.objs.size := fun a b => Nat.lt_trans a b
      rcases e' with q | q | q | q | q | q <;> rw [q]
      · exact h2 hSx hx
      · exact h2 (Nat.lt_trans (by omega) hSx) hx
      · exact h2 (Nat.lt_trans (by omega) hSx) hx
      · exact h2 (Nat.lt_trans (by omega) hSx) hx
      · exact h2 (Nat.lt_trans (by omega) hSx) hx
      · exact hx
    refine codeAny_builtin PySem.F.entry_extend_loop ?_
    rw [Around.under_plainId PySem.F.plain_extend_loop _]
    show wpAny _ A.in1 (pyNext (.ref (N + 4)) >>= _) _ _ _
    refine wpAny_bind (zh_item SS D1 D2 hz ⟨by simp, by simp, by simp⟩ hlive hTI ⟨t1, r1⟩ ⟨t2, r2⟩ (by rw [len1]; omega) (by rw [len2]; omega) fun x1 x2 h' tk p1 p2 zh' ⟨t1', r1'⟩ ⟨t2', r2'⟩ hT hz' hkp => ?_)
    have ex1 : x1 = u1 := by
      have q : its1.toArray[i]? = some u1 := by simpa using hu1
      rw [p1] at q
      exact Option.some.inj q
    have ex2 : x2 = u2 := by
      have q : its2.toArray[i]? = some u2 := by simpa using hu2
      rw [p2] at q
      exact Option.some.inj q
    subst ex1 ex2
    have hS' : h'.get? Sx = _ := hkp Sx _ nz.1 nz.2.2.1 nz.2.2.2.1 nz.2.2.2.2 hS
    have up : ∀ b o, b ≠ Sx → h'.get? b = some o → (h'.update Sx (Obj.mapSeq (·.push (Value.ref s.heap.objs.size)))).get? b = some o := fun b o hb e => (Heap.get?_update_other _ _ (Ne.symm hb)).trans e
    have hSl : Sx < s.heap.objs.size := Heap.lt_size hS
    have neT : ∀ b ∈ zch N Sx, b ≠ s.heap.objs.size := fun b hb => Nat.ne_of_lt (hlive b hb)
    show wpAny _ A.in1 (updateSeq Sx (·.push (Value.ref s.heap.objs.size)) >>= _) _ _ _
    refine wpAny_bind ?_
    have hT2 : (h'.update Sx (Obj.mapSeq (·.push (Value.ref s.heap.objs.size)))).get? s.heap.objs.size = _ := up _ _ (Nat.ne_of_gt hSl) hT
    have hTn : H s.heap.objs.size = none := I.hok.fresh (Nat.le_refl _)
    have new : ObjOk X.prog X.w (upd H s.heap.objs.size (.tup [xs[i], ys[i]])) (h'.update Sx (Obj.mapSeq (·.push (Value.ref s.heap.objs.size)))) s.heap.objs.size (.tup [xs[i], ys[i]]) :=
      ⟨by show 2 ≤ sizeLine; decide, [x1, x2], .cons ru1 (.cons ru2 .nil), ⟨_, hT2, rfl, _, rfl⟩⟩
    have J := I.turnedNew (t' := tk) (ch := zch N Sx) (fun b o hb e => up b o (fun q => hb (by simp [q])) (hkp b o (fun q => hb (by simp [q])) (fun q => hb (by simp [q])) (fun q => hb (by simp [q])) (fun q => hb (by simp [q])) e)) hf (Nat.le_refl _) new
    have L2 : Laid H0 ((xs.zip ys).take (i + 1)) (Ts ++ [s.heap.objs.size]) (upd H s.heap.objs.size (.tup [xs[i], ys[i]])) := by
      have e : (xs.zip ys).take (i + 1) = (xs.zip ys).take i ++ [(xs[i], ys[i])] := by
        rw [List.take_add_one, List.getElem?_eq_getElem (by rw [List.length_zip]; omega), List.getElem_zip]
        rfl
      rw [e]
      exact .snoc hL hTn
    have zh2 : ZH (N + 4) (N + 2) (N + 3) (zch N Sx) (h'.update Sx (Obj.mapSeq (·.push (Value.ref s.heap.objs.size)))) := by
      rcases zh' with ⟨q, b1, b2, q2⟩ | ⟨T, f, oT, q, q2, q3⟩
      · exact .inl ⟨up _ _ nz.1.symm q, b1, b2, up _ _ nz.2.2.1.symm q2⟩
      · exact .inr ⟨T, f, oT, up _ _ nz.1.symm q, up _ _ (fun z => q3 (by simp [z])) q2, q3⟩
    refine wpAny_updateSeq hS' rfl (wpAny_pure ⟨plainId_quiet PySem.F.plain_extend_loop _, ih (i + 1) _ _ _ (acc.push (Value.ref s.heap.objs.size)) (Ts ++ [s.heap.objs.size]) (by omega) hlt J (fun b hb => ?_) zh2 (up _ _ nz.2.1.symm (hkp _ _ ?_ ?_ ?_ ?_ hTI)) (Src.it_at t1' fun o e => up _ _ nz.2.2.2.1.symm e) (Src.it_at t2' fun o e => up _ _ nz.2.2.2.2.symm e)
      ?_ ?_ (Heap.get?_update_self _ hS' rfl) (by rw [Array.toList_push, hacc, List.map_append]; rfl) (by rw [List.length_append, hTs]; rfl) L2⟩) (by rw [hsz]; omega) (by show (acc.push (Value.ref s.heap.objs.size)).size ≤ sizeLine + 1; rw [Array.size_push, hsz]; omega)
    · obtain ⟨f1, f2, f3, f4, f5, f6⟩ := hf b hb
      exact ⟨by rw [upd_ne (neT b hb)]; exact f1, f2, f3, f4, f5, f6⟩
    · show (N + 2 : Nat) ≠ N + 4; omega
    · show (N + 2 : Nat) ≠ N + 3; omega
    · show (N + 2 : Nat) ≠ N; omega
    · show (N + 2 : Nat) ≠ N + 1; omega
    · cases S1 with
      | l a => exact Heap.IsList.at r1' fun o e => up _ _ (fun q => a1 (by simp [Src.addr, q])) e
      | t a => exact Heap.IsTuple.at r1' fun o e => up _ _ (fun q => a1 (by simp [Src.addr, q])) e
    · cases S2 with
      | l a => exact Heap.IsList.at r2' fun o e => up _ _ (fun q => a2 (by simp [Src.addr, q])) e
      | t a => exact Heap.IsTuple.at r2' fun o e => up _ _ (fun q => a2 (by simp [Src.addr, q])) e
end
end Bk

set_option Elab.async false
set_option linter.all false
set_option maxRecDepth 100000
set_option maxHeartbeats 4000000
namespace Bk
open PySem PySem.Spec PyProof.Rows L2
theorem Laid.length {H H' : Hp} {ps : List (V × V)} {Ts : List Addr} (L : Laid H ps Ts H') : Ts.length = ps.length := by
  induction L with
  | nil => rfl
  | snoc _ _ ih => simp [ih]
section
variable {X : Cx} {pins : List (Addr × Obj)} {σ : L2.St} {S1 S2 : Src} {N : Nat} {its1 its2 : List Value} {xs ys : List V} {H : Hp}
/-- list(z) of a new zip z -/
theorem zl_call {s : Shared} {E : Value → Shared → Prop} {Q : VK} (hh : X.A.handled = none) (rv1 : Vals xs its1) (rv2 : Vals ys its2) (lt1 : S1.addr < N) (lt2 : S2.addr < N) (hlen : min xs.length ys.length ≤ sizeLine) (I : Inv X pins σ H s) (hf : ∀ b ∈ [N + 4, N + 2, N + 3, N, N + 1], FpOk X pins H b)
    (hz : IsZip s.heap (N + 4) (N + 2) (N + 3) .none) (hTI : IsTupOf2 s.heap (N + 2) (.ref N) (.ref (N + 1))) (hTO : ∃ a1 a2, IsTupOf2 s.heap (N + 3) a1 a2) (t1 : S1.it s.heap N 0) (t2 : S2.it s.heap (N + 1) 0) (r1 : S1.arr s.heap its1.toArray) (r2 : S2.arr s.heap its2.toArray)
    (hQ : ∀ (H' : Hp) (Ts : List Addr) (p : Addr), Laid H (xs.zip ys) Ts H' → H' p = none → Q (.ref p) (upd H' p (.lst (Ts.map V.ref)))) : wpAny (model X.prog X.w) X.A (call (.type "list") [.ref (N + 4)]) (EP X pins σ Q) E s := by
  refine callType_codes (Q₁ := fun obj s₁ => obj = .ref s.heap.objs.size ∧ s₁ = { s with heap := s.heap.push { cls := .type "list", data := .seq #[] } }) PySem.F.called_list (PySem.F.typeCall_list_1 _) PySem.F.entry_list_init (code_list_new _ ⟨rfl, rfl⟩) fun obj s₁ h₁ => ?_
  obtain ⟨rfl, rfl⟩ := h₁
  have hzl : N + 4 < s.heap.objs.size := Heap.lt_size hz
  have hS : (s.heap.push { cls := .type "list", data := .seq #[] }).get? s.heap.objs.size = some { cls := .type "list", data := .seq #[] } := Heap.get?_push_size _ rfl
  refine ⟨⟨_, hS, rfl⟩, PySem.F.args_list_init_2 _ _, ?_⟩
  have hSr : s.heap.objs.size ≠ N + 4 := Nat.ne_of_gt hzl
  have hSx : H s.heap.objs.size = none := I.hok.fresh (Nat.le_refl _)
  show wpAny _ _ (do let old ← Builtin.List.listItems (.ref s.heap.objs.size); Builtin.List.listUpdate (.ref s.heap.objs.size) (fun _ => #[]); letGo old.toList.reverse; Builtin.List.listExtendWith (.ref s.heap.objs.size) (.ref (N + 4)) .none) _ _ _
  refine wpAny_bind ?_; unfold Builtin.List.listItems; refine wpAny_bind (wpAny_seqItems hS rfl (wpAny_pure ?_))
  show wpAny _ _ (updateSeq s.heap.objs.size (fun _ => #[]) >>= fun _ => letGo (#[] : Array Value).toList.reverse >>= fun _ => Builtin.List.listExtendWith (.ref s.heap.objs.size) (.ref (N + 4)) .none) _ _ _
  refine wpAny_bind (wpAny_updateSeq hS rfl ?_)
  have hS2 := Heap.get?_update_self (Obj.mapSeq (fun _ => (#[] : Array Value))) hS rfl
  have o1 : ∀ b o, s.heap.get? b = some o → ((s.heap.push { cls := .type "list", data := .seq #[] }).update s.heap.objs.size (Obj.mapSeq (fun _ => (#[] : Array Value)))).get? b = some o := fun b o e => (Heap.get?_update_other _ _ (Nat.ne_of_gt (Heap.lt_size e))).trans (Heap.get?_push_of_some _ e)
  refine wpAny_bind (wpAny_letGo ?_)
  generalize (s.heap.push { cls := .type "list", data := .seq #[] }).update s.heap.objs.size (Obj.mapSeq (fun _ => (#[] : Array Value))) = g at hS2 o1
  unfold Builtin.List.listExtendWith
  have hT1 : Shared.TypeIs { s with heap := g } (.ref (N + 4)) "zip" := ⟨_, o1 _ _ hz, rfl⟩
  refine wpAny_bind (wpAny_typeOf (T := "zip") hT1 ?_)
  have h1 : Builtin.List.listSameRef (.ref s.heap.objs.size) (.ref (N + 4)) = false := by simp [Builtin.List.listSameRef, hSr]
  have h2 : (Value.type "zip" == Value.type "list") = false := by decide
  have h3 : (Value.type "zip" == Value.type "tuple") = false := by decide
  simp only [h1, h2, h3, Bool.or_false, Bool.false_eq_true, if_false]
  refine wpAny_bind (wpAny_pyIter_zip (o1 _ _ hz) ?_)
  refine wpAny_bind (wpAny_holding (zip_hint hT1 ?_))
  refine wpAny_ite_split (fun _ => ?_) (fun q => absurd rfl q)
  refine wpAny_bind (wpAny_rule ?_)
  refine wpAny_bind ?_
  show wpAny _ _ (updateSeq s.heap.objs.size (·.push .none) >>= fun _ => updateSeq s.heap.objs.size (·.pop)) _ _ _
  refine wpAny_bind (wpAny_updateSeq hS2 rfl ?_)
  have hS3 := Heap.get?_update_self (Obj.mapSeq (·.push Value.none)) hS2 rfl
  refine wpAny_updateSeq (hz := by seq_fits) hS3 rfl ?_
  have hS4 := Heap.get?_update_self (Obj.mapSeq (·.pop)) hS3 rfl
  have o2 : ∀ b o, s.heap.get? b = some o → ((g.update s.heap.objs.size (Obj.mapSeq (·.push Value.none))).update s.heap.objs.size (Obj.mapSeq (·.pop))).get? b = some o := fun b o e => (Heap.get?_update_other _ _ (Nat.ne_of_gt (Heap.lt_size e))).trans ((Heap.get?_update_other _ _ (Nat.ne_of_gt (Heap.lt_size e))).trans (o1 b o e))
  generalize (g.update s.heap.objs.size (Obj.mapSeq (·.push Value.none))).update s.heap.objs.size (Obj.mapSeq (·.pop)) = g2 at hS4 o2
  have I2 : Inv X pins σ H { s with heap := g2 } := I.kept (t' := s.toks) o2
  have fS : FpOk X pins H s.heap.objs.size := I.fpOk (Nat.le_refl _) hSx
  refine wpAny_pure ⟨plainId_quiet PySem.F.plain_extend_loop _, zl_loop (A := X.A.in1) (H0 := H) hh rv1 rv2 lt1 lt2 hzl .none hlen (fun s' H' Ts acc c I' f' L e ha => ?_) (min xs.length ys.length) 0 { s with heap := g2 } H _ #[] [] (Nat.sub_zero _) (Nat.zero_le _) I2 (fun b hb => ?_) (.inl ⟨o2 _ _ hz, ?_⟩) (o2 _ _ hTI) (Src.it_at t1 fun o e => o2 _ _ e) (Src.it_at t2 fun o e => o2 _ _ e) ?_ ?_ hS4 rfl rfl (.nil H)⟩
  · obtain ⟨f1, f2, f3, f4, f5, f6⟩ := f'
    have hl := L.length
    have new : ObjOk X.prog X.w (upd H' s.heap.objs.size (.lst (Ts.map V.ref))) s'.heap s.heap.objs.size (.lst (Ts.map V.ref)) := by
      refine ⟨by rw [List.length_map, hl, List.length_zip]; exact hlen, acc.toList, c, ?_, e⟩
      rw [ha]
      clear e ha L hl f1
      induction Ts with
      | nil => exact .nil
      | cons T Ts ih => exact .cons rfl ih
    refine ⟨rfl, .ref s.heap.objs.size, _, I'.step (g' := s'.gens) (t' := s'.toks) (d' := s'.drawn) (h' := s'.heap) (ch := [s.heap.objs.size]) (fun b hb => ?_) (fun b o _ _ hc q _ => q) (fun b o _ _ hc q _ => ⟨o.slots, q⟩) (fun b o hc q n => ?_) (fun b o hc q => ⟨o, q⟩) (fun b zs q => ?_) (fun b o u q => ?_) (fun b ps q => ⟨#[], ?_⟩) (fun m q => q) (fun b u q => ?_) I'.bare, rfl, hQ H' Ts _ L f1⟩
    · rw [List.mem_singleton.mp hb]; exact ⟨f4, f2, f5, f6⟩
    · rw [upd_ne (fun z => hc (by rw [z]; exact List.mem_singleton_self _))]; exact n
    · rw [upd_ne (ne_of_none q f1)]; exact q
    · rw [upd_ne (ne_of_none q f1)]; exact q
    · rw [upd_ne (ne_of_none q f1), q]; simp
    · by_cases hb : b = s.heap.objs.size
      · subst hb
        rw [upd_same] at q
        cases q
        exact new
      · rw [upd_ne hb] at q
        exact (I'.hok b u q).stay (fun _ _ _ z => z) (fun d z => by rw [upd_ne (ne_of_none z f1)]; exact z) fun d zs z => by rw [upd_ne (ne_of_none z f1)]; exact z
  · have e' : b = N + 4 ∨ b = N + 2 ∨ b = N + 3 ∨ b = N ∨ b = N + 1 ∨ b = s.heap.objs.size := by simpa using hb
    rcases e' with q | q | q | q | q | q
    · rw [q]; exact hf _ (by simp)
    · rw [q]; exact hf _ (by simp)
    · rw [q]; exact hf _ (by simp)
    · rw [q]; exact hf _ (by simp)
    · rw [q]; exact hf _ (by simp)
    · rw [q]; exact fS
  · obtain ⟨a1, a2, q⟩ := hTO; exact ⟨a1, a2, o2 _ _ q⟩
  · cases S1 with
    | l a => exact Heap.IsList.at r1 fun o e => o2 _ _ e
    | t a => exact Heap.IsTuple.at r1 fun o e => o2 _ _ e
  · cases S2 with
    | l a => exact Heap.IsList.at r2 fun o e => o2 _ _ e
    | t a => exact Heap.IsTuple.at r2 fun o e => o2 _ _ e
end
theorem Laid.read {K : PySem.W.Frag} {H H' : Hp} {ps : List (V × V)} {Ts : List Addr} (L : Laid H ps Ts H') : ∀ {dps : List (D × D)} {Z : Hp} {ι : Nat → Addr} {M : List MO}, HR K H Z ι M → dps.length = ps.length → (∀ (i : Nat) (dp : D × D) (vp : V × V), dps[i]? = some dp → ps[i]? = some vp → Rp K Z ι M.length dp.1 vp.1 ∧ Rp K Z ι M.length dp.2 vp.2) →
    ∃ Z', HR K H' Z' ι M ∧ Ext H Z ι M.length H' Z' ι M.length ∧ Rps K Z' ι M.length (dps.map fun dp => .tup [dp.1, dp.2]) (Ts.map V.ref) := by
  induction L with
  | nil =>
    intro dps Z ι M hr hl h
    have : dps = [] := List.length_eq_zero_iff.mp hl
    subst this
    exact ⟨Z, hr, .refl, .nil⟩
  | @snoc H1 ps Ts T x y L hT ih =>
    intro dps Z ι M hr hl h
    rcases List.eq_nil_or_concat dps with e | ⟨ds, d, e⟩
    · subst e
      simp at hl
    · rw [List.concat_eq_append] at e
      subst e
      have hl' : ds.length = ps.length := by simpa using hl
      obtain ⟨Z1, hr1, e1, r1⟩ := ih hr hl' fun i dp vp a b => h i dp vp (by rw [List.getElem?_append_left (List.getElem?_eq_some_iff.mp a).1]; exact a) (by rw [List.getElem?_append_left (List.getElem?_eq_some_iff.mp b).1]; exact b)
      obtain ⟨q1, q2⟩ := h ds.length d (x, y) (by simp) (by rw [hl']; simp)
      obtain ⟨p1, p2⟩ := hr1.frozen (o := .tup [x, y]) hT
      refine ⟨_, p1, e1.trans p2 hr1.ali, ?_⟩
      rw [List.map_append, List.map_append]
      exact (r1.ext p2).append (.cons (.tup (.inl (.inl upd_same)) (.cons ((q1.ext e1).ext p2) (.cons ((q2.ext e1).ext p2) .nil))) .nil)
theorem zipL_map : ∀ (ds es : List D), zipL ds es = (ds.zip es).map fun dp => .tup [dp.1, dp.2]
  | [], _ => by simp [zipL]
  | _ :: _, [] => by simp [zipL]
  | d :: ds, e :: es => by simp [zipL, zipL_map ds es]
def gLzip (own : Bool) (ga gb : GE) : GE := fun Γ M => (ga Γ M).bind fun x M1 => (gb Γ M1).bind fun y M2 => (opR (zipO x y) M2).bind fun ds M3 => if ds.length ≤ sizeLine then (if own = true then .ok (.ref M3.length) (M3 ++ [.lst ds]) else .ok (.lst ds) M3) else .bad
section
variable {X : Cx} {C : CT} {W : WX} {e e2 : Expr} {ga gb : GE} {p p2 pos pos2 : Pos}
theorem qe_lzip (own : Bool) (hc : X.calm = true) (hgl : Gl X "list") (hml : X.mg "list" = none) (hg : Gl X "zip") (hm : X.mg "zip" = none) (ha : QE X C W e ga) (hb : QE X C W e2 gb) (hs : starEach [e, e2] X.env = (false, eval e X.env) :: starEach [e2] X.env := by rfl) (hs2 : starEach [e2] X.env = (false, eval e2 X.env) :: starEach [] X.env := by rfl)
    (hpl : (backTo pos2 (starEach [e2] X.env)).any (·.1) = false := by rfl) (na : starEach [Expr.Call (.Name "zip" p2) [e, e2] [] pos2] X.env = (false, eval (Expr.Call (.Name "zip" p2) [e, e2] [] pos2) X.env) :: starEach [] X.env := by rfl) :
    QE X C W (.Call (.Name "list" p) [.Call (.Name "zip" p2) [e, e2] [] pos2] [] pos) (gLzip own ga gb) := by
  obtain ⟨ta, pa, qa⟩ := ha
  obtain ⟨tb, pb, qb⟩ := hb
  refine ⟨fun σ H Q => ta σ H fun v H1 => tb σ H1 fun u H2 => ∃ (S1 S2 : Src) (xs ys : List V), v = .ref S1.addr ∧ u = .ref S2.addr ∧ S1.here X.K H2 xs ∧ S2.here X.K H2 ys ∧ min xs.length ys.length ≤ sizeLine ∧ ∀ (H' : Hp) (Ts : List Addr) (q : Addr), Laid H2 (xs.zip ys) Ts H' → H' q = none → Q (.ref q) (upd H' q (.lst (Ts.map V.ref))), ⟨fun pins s σ H Q I h => ?_⟩,
    fun σ H Z ι Γ M Q sl hr h => qa σ H Z ι Γ M _ sl hr (Post.bind h fun x M1 v H1 Z1 ι1 e1 hr1 r1 h1 => qb σ H1 Z1 ι1 Γ M1 _ (sl.ext e1) hr1 (h1.bind fun y M2 u H2 Z2 ι2 e2 hr2 r2 h2 => ?_))⟩
  · refine Call_ (ld_blt I hgl hml boot_list (PyProof.Rows.callWith_type1 (args_cons (thn (Call_ (ld_blt I hg hm boot_zip (PyProof.Rows.callWith_type1 (thn ((pa_cons pa (pa_cons pb pa_nil hs2) hs).run pos2 pins s σ H (fun vs H1 => ∃ v u, vs = [v, u] ∧ ∃ (S1 S2 : Src) (xs ys : List V), v = .ref S1.addr ∧ u = .ref S2.addr ∧ S1.here X.K H1 xs ∧ S2.here X.K H1 ys ∧ min xs.length ys.length ≤ sizeLine ∧ ∀ (H' : Hp) (Ts : List Addr) (q : Addr), Laid H1 (xs.zip ys) Ts H' → H' q = none → Q (.ref q) (upd H' q (.lst (Ts.map V.ref)))) I ?_) fun us s1 hh => ?_) hs hpl)))
      fun z s1 (hz : ∃ (pins' : Unit) (N : Nat) (S1 S2 : Src) (xs ys : List V) (its1 its2 : List Value) (H1 : Hp), z = .ref (N + 4) ∧ Inv X pins σ H1 s1 ∧ Vals xs its1 ∧ Vals ys its2 ∧ S1.addr < N ∧ S2.addr < N ∧ min xs.length ys.length ≤ sizeLine ∧ (∀ b ∈ [N + 4, N + 2, N + 3, N, N + 1], FpOk X pins H1 b) ∧ IsZip s1.heap (N + 4) (N + 2) (N + 3) .none ∧ IsTupOf2 s1.heap (N + 2) (.ref N) (.ref (N + 1)) ∧ (∃ a1 a2, IsTupOf2 s1.heap (N + 3) a1 a2) ∧ S1.it s1.heap N 0 ∧ S2.it s1.heap (N + 1) 0 ∧ S1.arr s1.heap its1.toArray ∧ S2.arr s1.heap its2.toArray ∧
        ∀ (H' : Hp) (Ts : List Addr) (q : Addr), Laid H1 (xs.zip ys) Ts H' → H' q = none → Q (.ref q) (upd H' q (.lst (Ts.map V.ref)))) => args_nil ?_) na) na))
    · have hmono : (fun x H1 => tb σ H1 fun y H2 => tNil σ H2 fun ys H3 => ∃ v u, x :: y :: ys = [v, u] ∧ ∃ (S1 S2 : Src) (xs zs : List V), v = .ref S1.addr ∧ u = .ref S2.addr ∧ S1.here X.K H3 xs ∧ S2.here X.K H3 zs ∧ min xs.length zs.length ≤ sizeLine ∧ ∀ (H' : Hp) (Ts : List Addr) (q : Addr), Laid H3 (xs.zip zs) Ts H' → H' q = none → Q (.ref q) (upd H' q (.lst (Ts.map V.ref)))) =
          fun (v : V) (H1 : Hp) => tb σ H1 fun u H2 => ∃ (S1 S2 : Src) (xs ys : List V), v = .ref S1.addr ∧ u = .ref S2.addr ∧ S1.here X.K H2 xs ∧ S2.here X.K H2 ys ∧ min xs.length ys.length ≤ sizeLine ∧ ∀ (H' : Hp) (Ts : List Addr) (q : Addr), Laid H2 (xs.zip ys) Ts H' → H' q = none → Q (.ref q) (upd H' q (.lst (Ts.map V.ref))) := by
        funext x H1
        congr 1
        funext y H2
        apply propext
        constructor
        · rintro ⟨v, u, ev, q⟩
          cases ev
          exact q
        · intro q
          exact ⟨x, y, rfl, q⟩
      show ta σ H fun x H1 => tb σ H1 fun y H2 => tNil σ H2 fun ys H3 => ∃ v u, x :: y :: ys = [v, u] ∧ ∃ (S1 S2 : Src) (xs zs : List V), v = .ref S1.addr ∧ u = .ref S2.addr ∧ S1.here X.K H3 xs ∧ S2.here X.K H3 zs ∧ min xs.length zs.length ≤ sizeLine ∧ ∀ (H' : Hp) (Ts : List Addr) (q : Addr), Laid H3 (xs.zip zs) Ts H' → H' q = none → Q (.ref q) (upd H' q (.lst (Ts.map V.ref)))
      rw [hmono]
      exact h
    · obtain ⟨vs, H1, J, r1, v, u, rfl, S1, S2, xs, ys, rfl, rfl, hq1, hq2, hl, q⟩ := hh
      obtain ⟨u1, u2, rfl, ru, ru2⟩ := Vals.two r1
      cases ru
      cases ru2
      obtain ⟨its1, rv1, har1⟩ := Src.inv J hq1
      obtain ⟨its2, rv2, har2⟩ := Src.inv J hq2
      refine zip_begins2 (S1.begins its1.toArray) (S2.begins its2.toArray) har1 har2 fun h' hz hTI hTO hi1 hi2 hsz hk => ?_
      have J2 : Inv X pins σ H1 { s1 with heap := h' } := J.kept (t' := s1.toks) hk
      refine ⟨(), s1.heap.objs.size, S1, S2, xs, ys, its1, its2, H1, rfl, J2, rv1, rv2, Src.arr_lt har1, Src.arr_lt har2, hl, fun b hb => ?_, hz, hTI, ⟨_, _, hTO⟩, Src.start hi1, Src.start hi2, ?_, ?_, q⟩
      · have e' : b = s1.heap.objs.size + 4 ∨ b = s1.heap.objs.size + 2 ∨ b = s1.heap.objs.size + 3 ∨ b = s1.heap.objs.size ∨ b = s1.heap.objs.size + 1 := by simpa using hb
        have le : s1.heap.objs.size ≤ b := by
          rcases e' with z | z | z | z | z
          · rw [z]; exact Nat.le_add_right _ _
          · rw [z]; exact Nat.le_add_right _ _
          · rw [z]; exact Nat.le_add_right _ _
          · rw [z]; exact Nat.le_refl _
          · rw [z]; exact Nat.le_add_right _ _
        exact J.fpOk le (J.hok.fresh le)
      · cases S1 with
        | l a => exact Heap.IsList.at har1 fun o e => hk _ _ e
        | t a => exact Heap.IsTuple.at har1 fun o e => hk _ _ e
      · cases S2 with
        | l a => exact Heap.IsList.at har2 fun o e => hk _ _ e
        | t a => exact Heap.IsTuple.at har2 fun o e => hk _ _ e
    · obtain ⟨_, N, S1, S2, xs, ys, its1, its2, H1, rfl, J, rv1, rv2, lt1, lt2, hl, hf, hz, hTI, hTO, t1, t2, r1, r2, q⟩ := hz
      exact zl_call (J.ok.hd hc) rv1 rv2 lt1 lt2 hl J hf hz hTI hTO t1 t2 r1 r2 q
  · obtain ⟨items, M3, hd, h3⟩ : ∃ ds M3, opR (zipO x y) M2 = .ok ds M3 ∧ Post X C W (rpE X.K) σ H2 Z2 ι2 M2 (if ds.length ≤ sizeLine then (if own = true then .ok (.ref M3.length) (M3 ++ [.lst ds]) else .ok (.lst ds) M3) else .bad) Q := by
      cases ez : zipO x y with
      | none =>
        have h2' : Post X C W (rpE X.K) σ H2 Z2 ι2 M2 ((opR (zipO x y) M2).bind fun ds M3 => if ds.length ≤ sizeLine then (if own = true then .ok (.ref M3.length) (M3 ++ [.lst ds]) else .ok (.lst ds) M3) else .bad) Q := h2
        rw [ez] at h2'
        exact h2'.elim
      | some ds =>
        have h2' : Post X C W (rpE X.K) σ H2 Z2 ι2 M2 ((opR (zipO x y) M2).bind fun ds M3 => if ds.length ≤ sizeLine then (if own = true then .ok (.ref M3.length) (M3 ++ [.lst ds]) else .ok (.lst ds) M3) else .bad) Q := h2
        rw [ez] at h2'
        exact ⟨ds, M2, rfl, h2'⟩
    have e3 : M3 = M2 := opR_ok hd
    subst e3
    have hd' : zipO x y = some items := by
      cases ez : zipO x y with
      | none => rw [ez] at hd; cases hd
      | some ds => rw [ez] at hd; cases hd; rfl
    by_cases c : items.length ≤ sizeLine
    · rw [if_pos c] at h3
      unfold zipO at hd'
      cases es : seqD x with
      | none => rw [es] at hd'; cases hd'
      | some ds =>
        cases et : seqD y with
        | none => rw [es, et] at hd'; cases hd'
        | some dt =>
          rw [es, et] at hd'
          cases hd'
          obtain ⟨S1, xs, rfl, hS1, q1⟩ := src_of hr2.sub (r1.ext e2) es
          obtain ⟨S2, ys, rfl, hS2, q2⟩ := src_of hr2.sub r2 et
          have hl : min xs.length ys.length ≤ sizeLine := by rw [← q1.length, ← q2.length, ← zipL_len]; exact c
          refine ⟨S1, S2, xs, ys, rfl, rfl, here_sub hr2.sub hS1, here_sub hr2.sub hS2, hl, fun H' Ts q L hq => ?_⟩
          obtain ⟨Z3, hr3, e3, r3⟩ := L.read (dps := ds.zip dt) hr2 (by rw [List.length_zip, List.length_zip, q1.length, q2.length]) fun i dp vp a b => by
            rw [List.getElem?_zip_eq_some] at a b
            obtain ⟨v1, a1, a2⟩ := q1.get a.1
            obtain ⟨v2, b1, b2⟩ := q2.get a.2
            rw [b.1] at a1
            rw [b.2] at b1
            cases a1
            cases b1
            exact ⟨a2, b2⟩
          rw [← zipL_map] at r3
          by_cases ho : own = true
          · rw [if_pos ho] at h3
            obtain ⟨hr4, e4⟩ := hr3.owned hq r3
            have qq : Rp X.K Z3 (put ι2 M3.length q) (M3 ++ [MO.lst (zipL ds dt)]).length (.ref M3.length) (.ref (put ι2 M3.length q M3.length)) := .ref (by simp)
            rw [put_at] at qq
            exact h3 _ _ _ _ (e3.trans e4 hr3.ali) hr4 qq
          · rw [if_neg ho] at h3
            exact ((h3.shift e3 hr3).after).lst hr3 r3 q hq
    · rw [if_neg c] at h3
      exact h3.elim
end
end Bk

set_option Elab.async false
set_option linter.all false
set_option maxRecDepth 100000
set_option maxHeartbeats 2000000
namespace Bk
open PySem PySem.Spec PyProof.Rows L2
/-! ### a, b = x, y -/
def gPar2 (i j : Nat) (gs : GA) : GS := fun Γ M => (gs Γ M).thenS Γ fun ds M1 => match ds with
  | [d, e] => .nx ((Γ.set i (some d)).set j (some e)) M1
  | _ => .bad
def gPar3 (i j l : Nat) (gs : GA) : GS := fun Γ M => (gs Γ M).thenS Γ fun ds M1 => match ds with
  | [d, e, f] => .nx (((Γ.set i (some d)).set j (some e)).set l (some f)) M1
  | _ => .bad
section
variable {X : Cx} {C : CT} {W : WX} {gs : GA}
theorem rps3 {K : PySem.W.Frag} {Z : Hp} {ι : Nat → Addr} {n : Nat} {d e f : D} {vs : List V} (r : Rps K Z ι n [d, e, f] vs) : ∃ v u w, vs = [v, u, w] ∧ Rp K Z ι n d v ∧ Rp K Z ι n e u ∧ Rp K Z ι n f w := by
  cases r with
  | cons r1 r => obtain ⟨u, w, rfl, r2, r3⟩ := rps2 r; exact ⟨_, _, _, rfl, r1, r2, r3⟩
theorem qs_par2 (i j : Nat) {x y : Str} {a b : Expr} {px py pt pos : Pos} {kt k2 : Nat} {pt2 : Pos} (hc : X.calm = true) (hN : X.N.Nodup) (ha : QA X C W [a, b] gs) (hij : i ≠ j := by decide) (hi : X.N[i]? = some x := by rfl) (hj : X.N[j]? = some y := by rfl)
    (hx : X.env.scope.names.lookup x = some .local := by rfl) (hy : X.env.scope.names.lookup y = some .local := by rfl)
    (hw : swappedStores [.Tuple [.Name x px, .Name y py] kt pt] (.Tuple [a, b] k2 pt2) X.env = pure (some [x, y]) := by rfl)
    (hs : swapsWithSole [.Tuple [.Name x px, .Name y py] kt pt] (.Tuple [a, b] k2 pt2) pos.line X.env = pure false := by rfl) :
    QS X C W (.Assign [.Tuple [.Name x px, .Name y py] kt pt] (.Tuple [a, b] k2 pt2) pos) (gPar2 i j gs) := by
  obtain ⟨ta, pa, qa⟩ := ha
  refine ⟨_, ps_par hc hN hi hj hij hx hy pa hw hs, fun Dd σ H Z ι Γ M sl hr h => qa σ H Z ι Γ M _ sl hr (PostS.bind h sl fun ds M1 vs H1 Z1 ι1 e1 hr1 r1 h1 => ?_)⟩
  match ds, h1, r1 with
  | [d, e], h1, r1 =>
    obtain ⟨v, u, rfl, q1, q2⟩ := rps2 r1
    exact ⟨v, u, rfl, h1 _ H1 Z1 ι1 .refl hr1 (((sl.ext e1).set i q1).set j q2)⟩
theorem qs_par3 (i j l : Nat) {x y z : Str} {a b c : Expr} {px py pz pt pos : Pos} {kt k2 : Nat} {pt2 : Pos} (hc : X.calm = true) (hN : X.N.Nodup) (ha : QA X C W [a, b, c] gs) (hij : i ≠ j := by decide) (hil : i ≠ l := by decide) (hjl : j ≠ l := by decide) (hi : X.N[i]? = some x := by rfl) (hj : X.N[j]? = some y := by rfl) (hl : X.N[l]? = some z := by rfl)
    (hx : X.env.scope.names.lookup x = some .local := by rfl) (hy : X.env.scope.names.lookup y = some .local := by rfl) (hz : X.env.scope.names.lookup z = some .local := by rfl)
    (hw : swappedStores [.Tuple [.Name x px, .Name y py, .Name z pz] kt pt] (.Tuple [a, b, c] k2 pt2) X.env = pure (some [x, y, z]) := by rfl)
    (hs : swapsWithSole [.Tuple [.Name x px, .Name y py, .Name z pz] kt pt] (.Tuple [a, b, c] k2 pt2) pos.line X.env = pure false := by rfl) :
    QS X C W (.Assign [.Tuple [.Name x px, .Name y py, .Name z pz] kt pt] (.Tuple [a, b, c] k2 pt2) pos) (gPar3 i j l gs) := by
  obtain ⟨ta, pa, qa⟩ := ha
  refine ⟨_, ps_par3 hc hN hi hj hl hij hil hjl hx hy hz pa hw hs, fun Dd σ H Z ι Γ M sl hr h => qa σ H Z ι Γ M _ sl hr (PostS.bind h sl fun ds M1 vs H1 Z1 ι1 e1 hr1 r1 h1 => ?_)⟩
  match ds, h1, r1 with
  | [d, e, f], h1, r1 =>
    obtain ⟨v, u, w, rfl, q1, q2, q3⟩ := rps3 r1
    exact ⟨v, u, w, rfl, h1 _ H1 Z1 ι1 .refl hr1 ((((sl.ext e1).set i q1).set j q2).set l q3)⟩
end
@[simp] theorem u_gPar2 (i j : Nat) (gs : GA) (Γ : Env) (M : List MO) : gPar2 i j gs Γ M = (gs Γ M).thenS Γ fun ds M1 => (match ds with
  | [d, e] => .nx ((Γ.set i (some d)).set j (some e)) M1
  | _ => .bad) := Eq.trans rfl rfl
@[simp] theorem u_gPar3 (i j l : Nat) (gs : GA) (Γ : Env) (M : List MO) : gPar3 i j l gs Γ M = (gs Γ M).thenS Γ fun ds M1 => (match ds with
  | [d, e, f] => .nx (((Γ.set i (some d)).set j (some e)).set l (some f)) M1
  | _ => .bad) := Eq.trans rfl rfl
@[simp] theorem u_gLzip (own : Bool) (ga gb : GE) (Γ : Env) (M : List MO) : gLzip own ga gb Γ M = (ga Γ M).bind fun x M1 => (gb Γ M1).bind fun y M2 => (opR (zipO x y) M2).bind fun ds M3 => if ds.length ≤ sizeLine then (if own = true then .ok (.ref M3.length) (M3 ++ [.lst ds]) else .ok (.lst ds) M3) else .bad := Eq.trans rfl rfl
end Bk

set_option Elab.async false
set_option linter.all false
set_option maxRecDepth 100000
set_option maxHeartbeats 4000000
namespace Bk
open PySem PySem.Spec PyProof.Rows L2
/-! ### tuple * int, any count up to a thousand -/
theorem tuple_mul1 (l : Addr) (items : Array Value) (n : Nat) (dd : Option Addr) (sl : Array (Option Value)) (u : Tok) :
    Meets (Builtin.«tuple.__mul__» ⟨[.ref l, .int 1 u], []⟩) (fun _ R s => s.heap.get? l = some { cls := .type "tuple", dict := dd, data := .seq items n, slots := sl } ∧ R (.ok (.ret (Value.ref l))) s) :=
  .of_wp fun prog w A R s h => by
    obtain ⟨hp, g, d, tk, os⟩ := s
    obtain ⟨hl, h⟩ := h
    have f1 := AutoSeq1.idx_int
    have c0 : (decide ((1 : Int) < -(2 ^ 63)) || decide ((1 : Int) ≥ 2 ^ 63)) = false := by decide
    have c1 : (items.isEmpty || (1 : Int) == 1) = true := by simp
    wp_walk using wpAny_loadPart' hl
    repeat (first
      | (refine wpAny_ite_false (decide_eq_false (by rw [c0]; exact Bool.false_ne_true)) ?_; wp_walk using wpAny_loadPart' hl)
      | (refine wpAny_ite_true (decide_eq_true c1) ?_; wp_walk using wpAny_loadPart' hl))
    exact ⟨_, rfl, h⟩
theorem tuple_mul0 (l : Addr) (items : Array Value) (n : Nat) (dd : Option Addr) (sl : Array (Option Value)) (x : Int) (u : Tok) (c0 : (decide (x < -(2 ^ 63)) || decide (x ≥ 2 ^ 63)) = false) (c1 : (items.isEmpty || x == 1) = false) (c2 : (decide (x ≤ 0) || items.isEmpty) = true) :
    Meets (Builtin.«tuple.__mul__» ⟨[.ref l, .int x u], []⟩) (fun _ R s => s.heap.get? l = some { cls := .type "tuple", dict := dd, data := .seq items n, slots := sl } ∧
      R (.ok (.ret (Value.ref s.heap.objs.size))) { s with heap := s.heap.push { cls := Value.type "tuple", data := Data.seq #[] }, toks := s.toks }) :=
  .of_wp fun prog w A R s h => by
    obtain ⟨hp, g, d, tk, os⟩ := s
    obtain ⟨hl, h⟩ := h
    have f1 := AutoSeq1.idx_int
    wp_walk using wpAny_loadPart' hl
    repeat (first
      | (refine wpAny_ite_false (decide_eq_false (by rw [c0]; exact Bool.false_ne_true)) ?_; wp_walk using wpAny_loadPart' hl)
      | (refine wpAny_ite_false (decide_eq_false (by rw [c1]; exact Bool.false_ne_true)) ?_; wp_walk using wpAny_loadPart' hl)
      | (refine wpAny_ite_true (decide_eq_true c2) ?_; wp_walk using wpAny_loadPart' hl))
    exact ⟨_, rfl, h⟩
def rRepTA (K : PySem.W.Frag) : R2 := fun x y H Q => ∃ l k xs, x = .ref l ∧ y = .int k ∧ SqT K H l xs ∧ xs ≠ [] ∧ -1000 ≤ k ∧ k ≤ 1000 ∧ xs.length ≤ 1000 ∧ (k = 1 → Q (.ref l) H) ∧ (k ≠ 1 → ∀ p, H p = none → Q (.ref p) (upd H p (.tup (List.replicate k.toNat xs).flatten)))
section
variable {X : Cx}
theorem op_repTA : OpR X (binaryOp .Mult) (rRepTA X.K) := by
  intro pins s σ H x y v u Q I rx ry h
  obtain ⟨l, k, xs, rfl, rfl, hT, hne, h0, h1, hz, q1, q⟩ := h
  by_cases h2 : 2 ≤ k
  · exact op_repT pins s σ H _ _ v u Q I rx ry ⟨l, k, xs, rfl, rfl, hT, hne, h2, h1, hz, q (by omega)⟩
  cases rx
  obtain ⟨t, rfl⟩ := ry
  obtain ⟨its, r, ⟨⟨cls, dd, data, sl⟩, ho, hc, n, hd⟩, hs⟩ := I.tuple hT
  simp only at hc hd
  subst hc hd
  have hle : its.length = xs.length := r.length.symm
  have hn : its ≠ [] := fun e => hne (List.eq_nil_of_length_eq_zero (by rw [← hle, e]; rfl))
  have hi : its.toArray.isEmpty = false := by
    cases its with
    | nil => exact absurd rfl hn
    | cons a b => rfl
  by_cases e1 : k = 1
  · subst e1
    exact wpAny_binaryOp_repeat_ref (T := "tuple") (U := "int") (by decide) ⟨_, ho, rfl⟩ (fun s' => typeIs_int s' 1 t) noFill_tuple_mul F.fills_int_mul F.slot_int_rmul repeat_tuple F.slot_int_index.lookup
      (call_meets F.slot_int_rmul (typeIs_int s 1 t) F.entry_int_rmul (F.args_int_rmul_2 _ _) (int_rmul_tuple 1 t l its.toArray n dd sl) ⟨ho, rfl, ⟨_, ho, rfl⟩, call_meets F.slot_tuple_mul ⟨_, ho, rfl⟩ F.entry_tuple_mul (F.args_tuple_mul_2 _ _) (tuple_mul1 l its.toArray n dd sl t) ⟨ho, ⟨.ref l, H, I, rfl, q1 rfl⟩⟩⟩)
  · have c0 : (decide (k < -(2 ^ 63)) || decide (k ≥ 2 ^ 63)) = false := by
      rw [decide_eq_false (by omega), decide_eq_false (by omega)] <;> rfl
    have c1 : (its.toArray.isEmpty || k == 1) = false := by
      rw [hi, Bool.false_or]; exact beq_eq_false_iff_ne.mpr e1
    have c2 : (decide (k ≤ 0) || its.toArray.isEmpty) = true := by
      rw [hi, Bool.or_false]; exact decide_eq_true (by omega)
    have z : (List.replicate k.toNat xs).flatten = [] := by
      have : k.toNat = 0 := by omega
      rw [this]; rfl
    rw [z] at q
    refine wpAny_binaryOp_repeat_ref (T := "tuple") (U := "int") (by decide) ⟨_, ho, rfl⟩ (fun s' => typeIs_int s' k t) noFill_tuple_mul F.fills_int_mul F.slot_int_rmul repeat_tuple F.slot_int_index.lookup
      (call_meets F.slot_int_rmul (typeIs_int s k t) F.entry_int_rmul (F.args_int_rmul_2 _ _) (int_rmul_tuple k t l its.toArray n dd sl) ⟨ho, rfl, ⟨_, ho, rfl⟩, call_meets F.slot_tuple_mul ⟨_, ho, rfl⟩ F.entry_tuple_mul (F.args_tuple_mul_2 _ _) (tuple_mul0 l its.toArray n dd sl k t c0 c1 c2) ⟨ho, ?_⟩⟩)
    exact ⟨.ref s.heap.objs.size, _, I.laid (t' := s.toks) (o := .tup []) (fun b ob q => Heap.get?_push_of_some _ q) (Nat.le_refl _) ⟨by decide, [], .nil, IsTup.new _ _⟩, rfl, q e1 _ (I.hok.fresh (Nat.le_refl _))⟩
def dMulT (M : List MO) (x : D) (y : D) : Option D := match x, y with
  | .tup ds, .int k => if (decide (ds ≠ []) && decide (-1000 ≤ k) && decide (k ≤ 1000) && decide (ds.length ≤ 1000)) = true then some (.tup (List.replicate k.toNat ds).flatten) else none
  | x, y => dMulA M x y
theorem op_mulT : OpR X (binaryOp .Mult) (fun x y H Q => rMulA X.K x y H Q ∨ rRepTA X.K x y H Q) := op_mulL.or op_repTA
theorem ok_mulT : Ok2 X (fun x y H Q => rMulA X.K x y H Q ∨ rRepTA X.K x y H Q) dMulT := fun x y H Z ι M dx dy d Q hr rx ry e q => by
  unfold dMulT at e
  split at e
  · rename_i ds k
    split at e
    · rename_i c
      cases e
      simp only [Bool.and_eq_true, decide_eq_true_eq] at c
      obtain ⟨⟨⟨c1, c2⟩, c3⟩, c4⟩ := c
      cases ry
      cases rx with
      | tup s r =>
        have r' := r.rep k.toNat
        refine .inr ⟨_, k, _, rfl, rfl, subT hr.sub s, fun z => c1 ?_, c2, c3, by rw [← r.length]; exact c4, fun e1 => ?_, fun _ => ?_⟩
        · have := r.length
          rw [z] at this
          exact List.eq_nil_of_length_eq_zero this
        · subst e1
          refine q.now hr (.tup s ?_)
          simpa using r
        · exact q.tup hr r'
    · cases e
  · exact .inl (ok_mulL x y H Z ι M dx dy d Q hr rx ry e q)
end
@[simp] theorem e_mulT (M : List MO) (d : D) (ds : List D) (k : Int) (h1 : -1000 ≤ k) (h2 : k ≤ 1000) (h3 : ds.length < 1000) : dMulT M (.tup (d :: ds)) (.int k) = some (.tup (List.replicate k.toNat (d :: ds)).flatten) := by
  have : (d :: ds).length ≤ 1000 := by rw [List.length_cons]; omega
  simp only [dMulT]
  rw [if_pos]
  simp [h1, h2]
  omega
@[simp] theorem e_mulTi (M : List MO) (i : Int) (y : D) : dMulT M (.int i) y = dMulA M (.int i) y := Eq.trans rfl rfl
@[simp] theorem e_mulTl (M : List MO) (ds : List D) (y : D) : dMulT M (.lst ds) y = dMulA M (.lst ds) y := Eq.trans rfl rfl
theorem e_mulI {i j : Int} (M : List MO) (h : mulOk i j = true) : dMulT M (.int i) (.int j) = some (.int (i * j)) := e_mul M h
theorem e_mulL (M : List MO) (ds : List D) (k : Int) (h1 : -(2 ^ 63) ≤ k) (h2 : k < 2 ^ 63) (h3 : ds.length * k.toNat ≤ sizeLine) : dMulA M (.lst ds) (.int k) = some (.lst (List.replicate k.toNat ds).flatten) := by
  show repI M (.lst ds) (.int k) = _
  simp only [repI, listD]
  rw [if_pos]
  simp only [Bool.and_eq_true, decide_eq_true_eq]
  exact ⟨⟨h2, h1⟩, h3⟩
end Bk

set_option Elab.async false
set_option linter.all false
set_option maxRecDepth 100000
set_option maxHeartbeats 2000000
namespace Bk
open PySem PySem.Spec PyProof.Rows L2
theorem pure_chain {f f' : List MO → D → D → Option D} {ga gb gc : GE} (h1 : Pure ga) (h2 : Pure gb) (h3 : Pure gc) : Pure (gChain f f' ga gb gc) := fun Γ M d M' h => by
  obtain ⟨a, M1, e1, h⟩ := R.bind_ok h
  obtain ⟨b, M2, e2, h⟩ := R.bind_ok h
  obtain ⟨k, M3, e3, h⟩ := R.bind_ok h
  have z := opR_ok e3
  have z2 := h2 _ _ _ _ e2
  have z1 := h1 _ _ _ _ e1
  split at h
  · split at h
    · obtain ⟨c, M4, e4, h⟩ := R.bind_ok h
      rw [opR_ok h, h3 _ _ _ _ e4, z, z2, z1]
    · cases h
      rw [z, z2, z1]
  · cases h
theorem lcL_cons {gg : GG} {ge : GE} {d y : D} {ds acc : List D} {Γ Γ1 : Env} {M M2 : List MO} (h1 : gg d Γ = some Γ1) (h2 : ge Γ1 M = .ok y M2) (q : acc.length < sizeLine) : gLcL gg gYes ge Γ (d :: ds) acc M = gLcL gg gYes ge Γ ds (acc ++ [y]) M2 := by
  simp [gLcL, h1, h2, q]
theorem lcL_nil {gg : GG} {gt : GT} {ge : GE} {acc : List D} {Γ : Env} {M : List MO} : gLcL gg gt ge Γ [] acc M = .ok acc M := by simp [gLcL]
theorem lcL_take {gg : GG} {gt : GT} {ge : GE} {d y : D} {ds acc : List D} {Γ Γ1 : Env} {M M1 M2 : List MO} (h1 : gg d Γ = some Γ1) (ht : gt Γ1 M = .ok true M1) (h2 : ge Γ1 M1 = .ok y M2) (q : acc.length < sizeLine) : gLcL gg gt ge Γ (d :: ds) acc M = gLcL gg gt ge Γ ds (acc ++ [y]) M2 := by
  simp [gLcL, h1, ht, h2, q]
theorem lcL_skip {gg : GG} {gt : GT} {ge : GE} {d : D} {ds acc : List D} {Γ Γ1 : Env} {M M1 : List MO} (h1 : gg d Γ = some Γ1) (ht : gt Γ1 M = .ok false M1) : gLcL gg gt ge Γ (d :: ds) acc M = gLcL gg gt ge Γ ds acc M1 := by
  simp [gLcL, h1, ht]
/-- a list made item by item -/
theorem lcL_run {α : Type} {gg : GG} {ge : GE} {Γ : Env} {M : List MO} (f : α → D) (g : α → D) : ∀ (xs : List α) (acc : List D), acc.length + xs.length ≤ sizeLine → (∀ x ∈ xs, ∃ Γ1, gg (f x) Γ = some Γ1 ∧ ge Γ1 M = .ok (g x) M) → gLcL gg gYes ge Γ (xs.map f) acc M = .ok (acc ++ xs.map g) M
  | [], acc, _, _ => by simp [gLcL]
  | x :: xs, acc, h, hf => by
    obtain ⟨Γ1, h1, h2⟩ := hf x (by simp)
    simp only [List.length_cons] at h
    have ih := lcL_run (gg := gg) (ge := ge) (Γ := Γ) (M := M) f g xs (acc ++ [g x]) (by simp; omega) fun e he => hf e (by simp [he])
    rw [List.map_cons, lcL_cons h1 h2 (by omega), ih]
    simp
/-- items let go by a test -/
theorem lcL_sel {α : Type} {gg : GG} {gt : GT} {ge : GE} {Γ : Env} {M : List MO} (f : α → D) (g : α → D) (c : α → Bool) : ∀ (xs : List α) (acc : List D), acc.length + xs.length ≤ sizeLine → (∀ x ∈ xs, ∃ Γ1, gg (f x) Γ = some Γ1 ∧ gt Γ1 M = .ok (c x) M ∧ (c x = true → ge Γ1 M = .ok (g x) M)) → gLcL gg gt ge Γ (xs.map f) acc M = .ok (acc ++ (xs.filter c).map g) M
  | [], acc, _, _ => by simp [gLcL]
  | x :: xs, acc, h, hf => by
    obtain ⟨Γ1, h1, h2, h3⟩ := hf x (by simp)
    simp only [List.length_cons] at h
    have hf' : ∀ y ∈ xs, ∃ Γ1, gg (f y) Γ = some Γ1 ∧ gt Γ1 M = .ok (c y) M ∧ (c y = true → ge Γ1 M = .ok (g y) M) := fun e he => hf e (by simp [he])
    cases e : c x with
    | true =>
      have ih := lcL_sel (gg := gg) (gt := gt) (ge := ge) (Γ := Γ) (M := M) f g c xs (acc ++ [g x]) (by simp; omega) hf'
      rw [List.map_cons, lcL_take h1 (by rw [h2, e]) (h3 e) (by omega), ih]
      simp [e]
    | false =>
      have ih := lcL_sel (gg := gg) (gt := gt) (ge := ge) (Γ := Γ) (M := M) f g c xs acc (by omega) hf'
      rw [List.map_cons, lcL_skip h1 (by rw [h2, e]), ih]
      simp [e]
end Bk

set_option Elab.async false
set_option linter.all false
set_option maxRecDepth 100000
set_option maxHeartbeats 2000000
namespace Bk
open PySem PySem.Spec PyProof.Rows L2
/-! ### objects of own classes: a cell of the store, its fields by name -/
def putD (f : Str) (d : D) : List (Str × D) → List (Str × D)
  | [] => [(f, d)]
  | (g, x) :: r => if g = f then (g, d) :: r else (g, x) :: putD f d r
section
variable {K : PySem.W.Frag} {H Z : Hp} {ι : Nat → Addr} {n : Nat}
theorem fld_rp {f : Str} {d : D} : ∀ {fs : List (Str × D)} {gs : List (Str × V)}, gs.map (·.1) = fs.map (·.1) → Rps K Z ι n (fs.map (·.2)) (gs.map (·.2)) → fs.lookup f = some d → ∃ v, gs.lookup f = some v ∧ Rp K Z ι n d v
  | [], _, _, _, h => by simp at h
  | _ :: _, [], e, _, _ => by simp at e
  | (a, x) :: fs, (b, y) :: gs, e, r, h => by
    simp only [List.map_cons, List.cons.injEq] at e
    obtain ⟨e1, e2⟩ := e
    subst e1
    cases r with
    | cons r1 r2 =>
      rw [List.lookup_cons] at h ⊢
      cases hb : f == b with
      | true =>
        rw [hb] at h
        have : x = d := Option.some.inj h
        subst this
        exact ⟨y, rfl, r1⟩
      | false =>
        rw [hb] at h
        exact fld_rp e2 r2 h
theorem fld_no {f : Str} : ∀ {fs : List (Str × D)} {gs : List (Str × V)}, gs.map (·.1) = fs.map (·.1) → fs.lookup f = none → gs.lookup f = none
  | [], [], _, _ => rfl
  | [], _ :: _, e, _ => by simp at e
  | _ :: _, [], e, _ => by simp at e
  | (a, x) :: fs, (b, y) :: gs, e, h => by
    simp only [List.map_cons, List.cons.injEq] at e
    obtain ⟨e1, e2⟩ := e
    subst e1
    rw [List.lookup_cons] at h ⊢
    cases hb : f == b with
    | true => rw [hb] at h; cases h
    | false =>
      rw [hb] at h
      exact fld_no e2 h
theorem put_names (f : Str) (d : D) (v : V) : ∀ {fs : List (Str × D)} {gs : List (Str × V)}, gs.map (·.1) = fs.map (·.1) → (putF f v gs).map (·.1) = (putD f d fs).map (·.1)
  | [], [], _ => rfl
  | [], _ :: _, e => by simp at e
  | _ :: _, [], e => by simp at e
  | (a, x) :: fs, (b, y) :: gs, e => by
    simp only [List.map_cons, List.cons.injEq] at e
    obtain ⟨e1, e2⟩ := e
    subst e1
    unfold putF putD
    by_cases h : b = f
    · rw [if_pos h, if_pos h]
      simp [e2]
    · rw [if_neg h, if_neg h]
      simp [put_names f d v e2]
theorem put_rps {f : Str} {d : D} {v : V} (q : Rp K Z ι n d v) : ∀ {fs : List (Str × D)} {gs : List (Str × V)}, gs.map (·.1) = fs.map (·.1) → Rps K Z ι n (fs.map (·.2)) (gs.map (·.2)) → Rps K Z ι n ((putD f d fs).map (·.2)) ((putF f v gs).map (·.2))
  | [], [], _, _ => .cons q .nil
  | [], _ :: _, e, _ => by simp at e
  | _ :: _, [], e, _ => by simp at e
  | (a, x) :: fs, (b, y) :: gs, e, r => by
    simp only [List.map_cons, List.cons.injEq] at e
    obtain ⟨e1, e2⟩ := e
    subst e1
    cases r with
    | cons r1 r2 =>
      unfold putF putD
      by_cases h : b = f
      · rw [if_pos h, if_pos h]
        exact .cons q r2
      · rw [if_neg h, if_neg h]
        exact .cons r1 (put_rps q e2 r2)
end
section
variable {K : PySem.W.Frag} {H Z : Hp} {ι : Nat → Addr} {M : List MO}
/-- a cell's thing is changed -/
theorem HR.changeG (h : HR K H Z ι M) {j : Nat} {o' o : MO} {ho : HO} (hj : M[j]? = some o) (hd : o ≠ .dead) (hd' : o' ≠ .dead) (r : OR K (upd H (ι j) ho) Z ι M.length o' (ι j)) :
    HR K (upd H (ι j) ho) Z ι (M.set j o') ∧ Ext H Z ι M.length (upd H (ι j) ho) Z ι (M.set j o').length := by
  have lt : j < M.length := (List.getElem?_eq_some_iff.mp hj).1
  have ln : (M.set j o').length = M.length := List.length_set
  have zj : Z (ι j) = none := h.sep j _ hj hd
  have cs : ∀ {k : Nat} {u : MO}, (M.set j o')[k]? = some u → (k ≠ j ∧ M[k]? = some u) ∨ (k = j ∧ u = o') := fun {k u} e => by
    by_cases hk : k = j
    · subst hk
      rw [List.getElem?_set_self lt] at e
      exact .inr ⟨rfl, (Option.some.inj e).symm⟩
    · rw [List.getElem?_set_ne (Ne.symm hk)] at e
      exact .inl ⟨hk, e⟩
  have apart : ∀ {k : Nat} {u : MO}, k ≠ j → M[k]? = some u → u ≠ .dead → ι k ≠ ι j := fun {k u} hk e d z => hk (h.inj k j u _ e hj d hd z)
  refine ⟨⟨fun a u e => ?_, fun k hk => ?_, fun k u e d => ?_, fun a b o1 u e1 e2 d1 d2 e => ?_, fun k u e => ?_, fun k e => ?_⟩, fun _ _ e => e, fun _ _ => rfl, fun a u e z => ?_, fun k h1 h2 => absurd h2 (by rw [ln]; exact Nat.not_lt.mpr h1), by rw [ln]; exact Nat.le_refl _, fun _ _ e => .inl e⟩
  · rw [upd_ne (ne_of_none e zj)]
    exact h.sub _ _ e
  · rw [ln] at hk
    by_cases e : ι k = ι j
    · exact ⟨_, by rw [e, upd_same]⟩
    · rw [upd_ne e]
      exact h.ali k hk
  · rcases cs e with ⟨hk, e⟩ | ⟨rfl, rfl⟩
    · exact h.sep k u e d
    · exact zj
  · have live : ∀ {k : Nat} {u : MO}, (M.set j o')[k]? = some u → u ≠ .dead → ∃ u', M[k]? = some u' ∧ u' ≠ .dead := fun {k u} e d => by
      rcases cs e with ⟨_, e⟩ | ⟨rfl, rfl⟩
      · exact ⟨u, e, d⟩
      · exact ⟨_, hj, hd⟩
    obtain ⟨o1', e1', d1'⟩ := live e1 d1
    obtain ⟨u', e2', d2'⟩ := live e2 d2
    exact h.inj a b o1' u' e1' e2' d1' d2' e
  · rw [ln]
    rcases cs e with ⟨hk, e⟩ | ⟨rfl, rfl⟩
    · have q := h.obj k u e
      by_cases du : u = .dead
      · subst du
        trivial
      · exact OR.mono (fun _ _ z => z) (fun _ _ => rfl) (Nat.le_refl _) (fun o z => by rw [upd_ne (apart hk e du)]; exact z) q
    · exact r
  · rcases cs e with ⟨_, e⟩ | ⟨_, e⟩
    · exact h.ded k e
    · exact absurd e.symm hd'
  · rw [upd_ne (z j lt)]
    exact e
/-- a new thing of ours -/
theorem HR.ownedG (h : HR K H Z ι M) {p : Addr} {o' : MO} {ho : HO} (hp : H p = none) (hd' : o' ≠ .dead) (r : OR K (upd H p ho) Z (put ι M.length p) (M.length + 1) o' p) :
    HR K (upd H p ho) Z (put ι M.length p) (M ++ [o']) ∧ Ext H Z ι M.length (upd H p ho) Z (put ι M.length p) (M ++ [o']).length := by
  have zp : Z p = none := by
    cases e : Z p with
    | none => rfl
    | some u =>
      rw [h.sub _ _ e] at hp
      cases hp
  have ne : ∀ k, k < M.length → ι k ≠ p := fun k hk e => by
    obtain ⟨u, hu⟩ := h.ali k hk
    rw [e, hp] at hu
    cases hu
  have ii : ∀ k, k < M.length → (put ι M.length p) k = ι k := fun k hk => put_lt hk
  have il : (put ι M.length p) M.length = p := put_at
  have cs : ∀ {k : Nat} {u : MO}, (M ++ [o'])[k]? = some u → (k < M.length ∧ M[k]? = some u) ∨ (k = M.length ∧ u = o') := fun {k u} e => by
    by_cases hk : k < M.length
    · rw [List.getElem?_append_left hk] at e
      exact .inl ⟨hk, e⟩
    · rw [List.getElem?_append_right (Nat.le_of_not_lt hk)] at e
      by_cases hz : k - M.length = 0
      · rw [hz] at e
        exact .inr ⟨by omega, (Option.some.inj e).symm⟩
      · rw [List.getElem?_eq_none (by simp; omega)] at e
        cases e
  have ln : (M ++ [o']).length = M.length + 1 := by simp
  refine ⟨⟨fun a u e => ?_, fun k hk => ?_, fun k u e d => ?_, fun j k o u e1 e2 d1 d2 e => ?_, fun k u e => ?_, fun k e => ?_⟩, fun _ _ e => e, ii, fun a u e _ => ?_, fun k h1 h2 => ?_, by rw [ln]; omega, fun _ _ e => .inl e⟩
  · rw [upd_ne (ne_of_none e zp)]
    exact h.sub _ _ e
  · rw [ln] at hk
    by_cases hk' : k < M.length
    · rw [ii k hk', upd_ne (ne k hk')]
      exact h.ali k hk'
    · have : k = M.length := by omega
      subst this
      exact ⟨_, by rw [il, upd_same]⟩
  · rcases cs e with ⟨hk, e⟩ | ⟨rfl, rfl⟩
    · rw [ii k hk]
      exact h.sep k u e d
    · rw [il]
      exact zp
  · rcases cs e1 with ⟨hj, e1⟩ | ⟨rfl, rfl⟩ <;> rcases cs e2 with ⟨hk, e2⟩ | ⟨rfl, rfl⟩
    · rw [ii j hj, ii k hk] at e
      exact h.inj j k o u e1 e2 d1 d2 e
    · rw [ii j hj, il] at e
      exact absurd e (ne j hj)
    · rw [ii k hk, il] at e
      exact absurd e.symm (ne k hk)
    · rfl
  · rcases cs e with ⟨hk, e⟩ | ⟨rfl, rfl⟩
    · rw [ii k hk]
      exact OR.mono (fun _ _ z => z) ii (by rw [ln]; omega) (fun o z => by rw [upd_ne (ne k hk)]; exact z) (h.obj k u e)
    · rw [il, ln]
      exact r
  · rcases cs e with ⟨hk, e⟩ | ⟨_, e⟩
    · rw [ii k hk]
      exact h.ded k e
    · exact absurd e.symm hd'
  · rw [upd_ne (ne_of_none e hp)]
    exact e
  · rw [ln] at h2
    have : k = M.length := by omega
    subst this
    rw [il]
    exact hp
/-- the same thing, told in another way -/
theorem HR.retell (h : HR K H Z ι M) {j : Nat} {o' o : MO} (hj : M[j]? = some o) (hd : o ≠ .dead) (hd' : o' ≠ .dead) (r : OR K H Z ι M.length o' (ι j)) : HR K H Z ι (M.set j o') ∧ Ext H Z ι M.length H Z ι (M.set j o').length := by
  have lt : j < M.length := (List.getElem?_eq_some_iff.mp hj).1
  obtain ⟨u, hu⟩ := h.ali j lt
  have e : upd H (ι j) u = H := by
    funext a
    by_cases z : a = ι j
    · rw [z, upd_same, hu]
    · rw [upd_ne z]
  have := h.changeG (o' := o') (ho := u) hj hd hd' (by rw [e]; exact r)
  rw [e] at this
  exact this
end
/-! ### what the rules of objects compute -/
def gFld (nm f : Str) (ge : GE) : GE := fun Γ M => (ge Γ M).bind fun x M1 => match x with
  | .ref k => match M1[k]? with
    | some (.obj nm' fs) => if nm' = nm then opR (fs.lookup f) M1 else .bad
    | _ => .bad
  | _ => .bad
def gSetF (nm f : Str) (ge go : GE) : GS := fun Γ M => (ge Γ M).thenS Γ fun d M1 => (go Γ M1).thenS Γ fun x M2 => match x with
  | .ref k => match M2[k]? with
    | some (.obj nm' fs) => if nm' = nm ∧ fs.length < 1000 then .nx Γ (M2.set k (.obj nm (putD f d fs))) else .bad
    | _ => .bad
  | _ => .bad
def isObj (nm m : Str) (M : List MO) : D → Bool
  | .ref k => match M[k]? with
    | some (.obj nm' fs) => decide (nm' = nm) && (fs.lookup m).isNone
    | _ => false
  | _ => false
def gMeth (nm m : Str) (n : Nat) (F : List D → List MO → R D) (go : GE) (ga : GA) : GE := fun Γ M => (go Γ M).bind fun x M1 => if isObj nm m M1 x = true then (ga Γ M1).bind fun ds M2 => if ds.length + 1 = n then callF F (x :: ds) M2 else .bad else .bad
def newR (m : Nat) : D → List MO → R D
  | .non, M => .ok (.ref m) M
  | _, _ => .bad
def gNew (nm : Str) (n : Nat) (F : List D → List MO → R D) (ga : GA) : GE := fun Γ M => (ga Γ M).bind fun ds M1 => if ds.length + 1 = n then (callF F (.ref M1.length :: ds) (M1 ++ [.obj nm []])).bind (newR M1.length) else .bad
/-- a list in a field will not be changed any more -/
def gFzF (i : Nat) (f : Str) : GS := fun Γ M => match Γ[i]? with
  | some (some (.ref k)) => match M[k]? with
    | some (.obj nm fs) => match fs.lookup f with
      | some (.ref j) => match M[j]? with
        | some (.lst ds) => .nx Γ ((M.set j .dead).set k (.obj nm (putD f (.lst ds) fs)))
        | _ => .bad
      | _ => .bad
    | _ => .bad
  | _ => .bad
section
variable {X : Cx} {C : CT} {W : WX} {e o : Expr} {nm f m x : Str} {ge go : GE} {gs : GA} {pos apos pos' p : Pos} {C0 : Addr} {es : List Expr}
theorem one_cls (h1 : PySem.W.nsIn X.K mainGlobals nm = some (some (.ref C0))) {C1 : Addr} (h2 : PySem.W.nsIn X.K mainGlobals nm = some (some (.ref C1))) : C1 = C0 := by
  rw [h1] at h2
  cases h2
  rfl
theorem qe_fld (hn : PySem.W.nsIn X.K mainGlobals nm = some (some (.ref C0))) (c : Cls X.K C0) (na : NoAttr X.K C0 f) (he : QE X C W e ge) (hb : attributeBase e f X.env (eval e X.env) = eval e X.env := by rfl) : QE X C W (.Attribute e f pos) (gFld nm f ge) := by
  obtain ⟨te, pe, qe⟩ := he
  refine ⟨_, pe_fld pe hb, fun σ H Z ι Γ M Q sl hr h => qe σ H Z ι Γ M _ sl hr (Post.bind h fun x M1 v H1 Z1 ι1 e1 hr1 r1 h1 => ?_)⟩
  cases r1 with
  | ref hk =>
    rename_i k
    simp only at h1
    cases ek : M1[k]? with
    | none => rw [ek] at h1; exact h1.elim
    | some u =>
      rw [ek] at h1
      cases u with
      | dead => exact h1.elim
      | dct ks0 vs0 => exact h1.elim
      | dki kvs0 => exact h1.elim
      | lst ds => exact h1.elim
      | obj nm' fs =>
        simp only at h1
        by_cases en : nm' = nm
        · subst en
          rw [if_pos rfl] at h1
          obtain ⟨d, hd, h3⟩ := Post.of_opR (γ := D) (δ := V) h1
          obtain ⟨C1, dx, gs, a0, a1, a2, a3⟩ := hr1.obj k _ ek
          have := one_cls hn a0
          subst this
          obtain ⟨v, b1, b2⟩ := fld_rp a2 a3 hd
          exact ⟨_, C1, dx, gs, v, rfl, a1, c, na, b1, h3 v H1 Z1 ι1 .refl hr1 b2⟩
        · rw [if_neg en] at h1
          exact h1.elim
  | _ => exact h1.elim
theorem qs_setF (hn : PySem.W.nsIn X.K mainGlobals nm = some (some (.ref C0))) (c : Cls X.K C0) (na : NoAttr X.K C0 f) (he : QE X C W e ge) (ho : QE X C W o go) (hs : swapsWith e (some (.Attribute o f pos')) pos.line X.env = pure false := by rfl) :
    QS X C W (.Assign [.Attribute o f pos'] e pos) (gSetF nm f ge go) := by
  obtain ⟨te, pe, qe⟩ := he
  obtain ⟨to, po, qo⟩ := ho
  refine ⟨_, ps_fld po pe hs, fun Dd σ H Z ι Γ M sl hr h => qe σ H Z ι Γ M _ sl hr (PostS.bind h sl fun d M1 v H1 Z1 ι1 e1 hr1 r1 h1 => qo σ H1 Z1 ι1 Γ M1 _ (sl.ext e1) hr1 (PostS.bind h1 (sl.ext e1) fun x M2 u H2 Z2 ι2 e2 hr2 r2 h2 => ?_))⟩
  cases r2 with
  | ref hk =>
    rename_i k
    simp only at h2
    cases ek : M2[k]? with
    | none => rw [ek] at h2; exact h2.elim
    | some u =>
      rw [ek] at h2
      cases u with
      | dead => exact h2.elim
      | dct ks0 vs0 => exact h2.elim
      | dki kvs0 => exact h2.elim
      | lst ds => exact h2.elim
      | obj nm' fs =>
        simp only at h2
        by_cases en : nm' = nm ∧ fs.length < 1000
        · rw [if_pos en] at h2
          obtain ⟨en1, en2⟩ := en
          subst en1
          obtain ⟨C1, dx, gs, a0, a1, a2, a3⟩ := hr2.obj k _ ek
          have := one_cls hn a0
          subst this
          have ln : gs.length = fs.length := by
            have := congrArg List.length a2
            simpa using this
          obtain ⟨b1, b2⟩ := hr2.changeG (o' := .obj nm' (putD f d fs)) (ho := .ins C1 dx (putF f v gs)) ek (by simp) (by simp) ⟨C1, dx, _, a0, upd_same, put_names f d v a2, put_rps (r1.ext e2) a2 a3⟩
          exact ⟨_, C1, dx, gs, rfl, a1, c, na, by rw [ln]; exact en2, h2 σ _ Z2 ι2 b2 b1 (((sl.ext e1).ext e2).ext b2)⟩
        · rw [if_neg en] at h2
          exact h2.elim
  | _ => exact h2.elim
theorem isObj_run {H Z : Hp} {ι : Nat → Addr} {M : List MO} {d : D} {v : V} (hn : PySem.W.nsIn X.K mainGlobals nm = some (some (.ref C0))) (hr : HR X.K H Z ι M) (r : Rp X.K Z ι M.length d v) (h : isObj nm m M d = true) : ∃ a dx gs, v = .ref a ∧ H a = some (.ins C0 dx gs) ∧ gs.lookup m = none := by
  cases r with
  | ref hk =>
    rename_i k
    unfold isObj at h
    simp only at h
    cases ek : M[k]? with
    | none => rw [ek] at h; cases h
    | some u =>
      rw [ek] at h
      cases u with
      | dead => cases h
      | dct ks0 vs0 => cases h
      | dki kvs0 => cases h
      | lst ds => cases h
      | obj nm' fs =>
        simp only [Bool.and_eq_true, decide_eq_true_eq, Option.isNone_iff_eq_none] at h
        obtain ⟨h1, h2⟩ := h
        subst h1
        obtain ⟨C1, dx, gs, a0, a1, a2, a3⟩ := hr.obj k _ ek
        have := one_cls hn a0
        subst this
        exact ⟨_, dx, gs, rfl, a1, fld_no a2 h2⟩
  | _ => simp [isObj] at h
variable {k n : Nat} {fa : Addr} {fd : FuncData} {ps : List Str} {F : List D → List MO → R D} {pl : Sem Bool}
/-- o.m(e, ..) of an own class -/
theorem qe_methF (hn0 : PySem.W.nsIn X.K mainGlobals nm = some (some (.ref C0))) (c : Cls X.K C0) (hm : Meth X.K C0 m fa) (F0 : FnQ X.prog X.w X.K X.mg X.base C k fa fd ps F) (hr : Room k X.A) (hgu : X.A.guards = some []) (tk : Takes X W) (hb : Binds X.K fd ps []) (ho : QE X C W o go) (ha : QA X C W (e :: es) gs) (hn : n = ps.length := by rfl)
    (hst : starEach (e :: es) X.env = (false, eval e X.env) :: starEach es X.env := by rfl) (hpl : (backTo pos (starEach es X.env)).any (·.1) = false := by rfl)
    (ht : eval (.Call (.Attribute o m apos) (e :: es) [] pos) X.env = (do
      let ov ← eval o X.env
      standAt apos.atName
      let (f, first) ← holding [ov] (getMethod ov m pl)
      callWith pos f first (backTo pos (starEach (e :: es) X.env)) (backToKw pos (keywordEach [] X.env))) := by rfl) :
    QE X C W (.Call (.Attribute o m apos) (e :: es) [] pos) (gMeth nm m n F go gs) := by
  subst hn
  obtain ⟨to, po, qo⟩ := ho
  obtain ⟨ta, pa, qa⟩ := ha
  refine ⟨fun σ H Q => to σ H fun x H1 => ∃ a dx fs, x = .ref a ∧ H1 a = some (.ins C0 dx fs) ∧ fs.lookup m = none ∧ ta σ H1 fun vs H2 => rCallQ X.K C ps F (WE W σ) (x :: vs) H2 Q, ⟨fun pins s σ H Q I h => ?_⟩,
    fun σ H Z ι Γ M Q sl hr h => qo σ H Z ι Γ M _ sl hr (h.bind fun x M1 v H1 Z1 ι1 e1 hr1 r1 h1 => ?_)⟩
  · refine PySem.W.methodCall_KW (pl := pl) (thn (po.run pins s σ H _ I h) fun u s1 ⟨x, H1, I1, rx, a, dx, fs, ex, ea, l, q⟩ => ?_) ht
    subst ex
    obtain rfl : u = Value.ref a := rx
    refine getmeth_ok I1 ea c hm l ?_
    refine PySem.W.callWith_K (first := [.ref a]) (h₀ := X.base) I.ok.mod.kin hm.kp (thn (pa.run pos pins s1 σ H1 _ I1 q) fun us s2 hh => ?_) hst hpl
    obtain ⟨vs, H2, I2, r, q2⟩ := hh
    have r2 : Vals (V.ref a :: vs) (Value.ref a :: us) := .cons rfl r
    have hl : (Value.ref a :: us).length = ps.length := r2.length.symm.trans q2.1
    have hbb := hb s2 (Value.ref a :: us) I2.kIn (by rw [List.append_nil]; exact hl)
    rw [List.append_nil] at hbb
    exact ⟨I2.kIn, run_call F0 hr hgu tk I2 hbb r2 q2⟩
  · by_cases z : isObj nm m M1 x = true
    · rw [if_pos z] at h1
      obtain ⟨a, dx, fs, b1, b2, b3⟩ := isObj_run hn0 hr1 r1 z
      subst b1
      refine ⟨a, dx, fs, rfl, b2, b3, qa σ H1 Z1 ι1 Γ M1 _ (sl.ext e1) hr1 (h1.bind fun ds M2 vs H2 Z2 ι2 e2 hr2 r2 h2 => ?_)⟩
      by_cases cc : ds.length + 1 = ps.length
      · rw [if_pos cc] at h2
        exact lent_post hr2 (.cons (r1.ext e2) r2) (by rw [List.length_cons, ← r2.length]; exact cc) h2
      · rw [if_neg cc] at h2
        exact h2.elim
    · rw [if_neg z] at h1
      exact h1.elim
theorem qe_methF0 (hn0 : PySem.W.nsIn X.K mainGlobals nm = some (some (.ref C0))) (c : Cls X.K C0) (hm : Meth X.K C0 m fa) (F0 : FnQ X.prog X.w X.K X.mg X.base C k fa fd ps F) (hr : Room k X.A) (hgu : X.A.guards = some []) (tk : Takes X W) (hb : Binds X.K fd ps []) (ho : QE X C W o go) (hn : n = ps.length := by rfl)
    (ht : eval (.Call (.Attribute o m apos) [] [] pos) X.env = (do
      let ov ← eval o X.env
      standAt apos.atName
      let (f, first) ← holding [ov] (getMethod ov m pl)
      callWith pos f first (backTo pos (starEach [] X.env)) (backToKw pos (keywordEach [] X.env))) := by rfl) :
    QE X C W (.Call (.Attribute o m apos) [] [] pos) (gMeth nm m n F go gNil) := by
  subst hn
  obtain ⟨to, po, qo⟩ := ho
  refine ⟨fun σ H Q => to σ H fun x H1 => ∃ a dx fs, x = .ref a ∧ H1 a = some (.ins C0 dx fs) ∧ fs.lookup m = none ∧ rCallQ X.K C ps F (WE W σ) [x] H1 Q, ⟨fun pins s σ H Q I h => ?_⟩,
    fun σ H Z ι Γ M Q sl hr h => qo σ H Z ι Γ M _ sl hr (h.bind fun x M1 v H1 Z1 ι1 e1 hr1 r1 h1 => ?_)⟩
  · refine PySem.W.methodCall_KW (pl := pl) (thn (po.run pins s σ H _ I h) fun u s1 ⟨x, H1, I1, rx, a, dx, fs, ex, ea, l, q⟩ => ?_) ht
    subst ex
    obtain rfl : u = Value.ref a := rx
    refine getmeth_ok I1 ea c hm l ?_
    have r2 : Vals [V.ref a] [Value.ref a] := .cons rfl .nil
    have hl : [Value.ref a].length = ps.length := r2.length.symm.trans q.1
    have hbb := hb s1 [Value.ref a] I1.kIn (by rw [List.append_nil]; exact hl)
    rw [List.append_nil] at hbb
    exact PySem.W.callWith_K0 (first := [.ref a]) I1.kIn hm.kp (run_call F0 hr hgu tk I1 hbb r2 q)
  · by_cases z : isObj nm m M1 x = true
    · rw [if_pos z] at h1
      obtain ⟨a, dx, fs, b1, b2, b3⟩ := isObj_run hn0 hr1 r1 z
      subst b1
      have h2 : Post X C W (rpE X.K) σ H1 Z1 ι1 M1 (if ([] : List D).length + 1 = ps.length then callF F [x] M1 else .bad) Q := h1
      by_cases cc : ([] : List D).length + 1 = ps.length
      · rw [if_pos cc] at h2
        exact ⟨a, dx, fs, rfl, b2, b3, lent_post hr1 (.cons r1 .nil) cc h2⟩
      · rw [if_neg cc] at h2
        exact h2.elim
    · rw [if_neg z] at h1
      exact h1.elim
/-- C(e, ..) -/
theorem qe_new (hn0 : PySem.W.nsIn X.K mainGlobals nm = some (some (.ref C0))) (Mk0 : Mk X.K C0 fa) (F0 : FnQ X.prog X.w X.K X.mg X.base C k fa fd ps F) (hr : Room (k + 1) X.A) (hgu : X.A.guards = some []) (tk : Takes X W) (hg : Gl X x) (hmg : X.mg x = some (.ref C0)) (hb : Binds X.K fd ps []) (ha : QA X C W (e :: es) gs) (hn : n = ps.length := by rfl)
    (hdb : (x == ("__debug__" : Str)) = false := by decide) (he : starEach (e :: es) X.env = (false, eval e X.env) :: starEach es X.env := by rfl) (hpl : (backTo pos (starEach es X.env)).any (·.1) = false := by rfl) :
    QE X C W (.Call (.Name x p) (e :: es) [] pos) (gNew nm n F gs) := by
  subst hn
  obtain ⟨ta, pa, qa⟩ := ha
  refine ⟨fun σ H Q => ta σ H fun vs H1 => ∀ y dx, H1 y = none → H1 dx = none → dx ≠ y → rCallQ X.K C ps F (WE W σ) (.ref y :: vs) (upd (upd H1 dx (.own y)) y (.ins C0 dx [])) (fun v H2 => v = .non ∧ Q (.ref y) H2), ⟨fun pins s σ H Q I h => ?_⟩,
    fun σ H Z ι Γ M Q sl hr h => qa σ H Z ι Γ M _ sl hr (h.bind fun ds M1 vs H1 Z1 ι1 e1 hr1 r1 h1 => fun y dx hy hdx hne => ?_)⟩
  · refine wpAny_Call_Name_kw (ld_glob I hg hmg ?_ hdb)
    refine PySem.W.callWith_K (h₀ := X.base) I.ok.mod.kin Mk0.kp (thn (pa.run pos pins s σ H _ I h) fun us s1 hh => ?_) he hpl
    obtain ⟨vs, H1, J, r, q⟩ := hh
    refine ⟨J.kIn, ?_⟩
    have hq := q (s1.heap.objs.size + 1) s1.heap.objs.size (J.hok.fresh (Nat.le_succ _)) (J.hok.fresh (Nat.le_refl _)) (Nat.ne_of_lt (Nat.lt_succ_self _))
    have I2 := Inv.made (C := C0) J
    have r2 : Vals (V.ref (s1.heap.objs.size + 1) :: vs) (Value.ref (s1.heap.objs.size + 1) :: us) := .cons rfl r
    obtain ⟨hl, ds, Z, ι, M, rd, hr', hp⟩ := hq
    have hl2 : (Value.ref (s1.heap.objs.size + 1) :: us).length = ps.length := r2.length.symm.trans hl
    have hbb := hb _ (Value.ref (s1.heap.objs.size + 1) :: us) I2.kIn (by rw [List.append_nil]; exact hl2)
    rw [List.append_nil] at hbb
    have hgu2 : (X.A.under (.builtin "type.__call__" ⟨.ref C0 :: us, []⟩)).guards = some [] := by first | exact hgu | (simpa [Around.under] using hgu)
    refine wpAny_call (make_map (f := fa) J.kIn Mk0.makes Mk0.init (beq_iff_eq.mp Mk0.fn) (codeAny_mono (F0.run _ X.stack _ _ ⟨Value.ref (s1.heap.objs.size + 1) :: us, []⟩ (Value.ref (s1.heap.objs.size + 1) :: us) _ _ (WE W σ) ds Z ι M (hr.make C0 us []) hgu2
      (I2.env0.make C0 us []) hbb r2 hl rd hr' hp) fun r s' hq' => ?_))
    cases r with
    | error e => exact passAt tk σ pins _ _ e s' I2 hq'
    | ok fl =>
      cases fl with
      | ret u =>
        obtain ⟨v, H', I3, rv, ev, q3⟩ := I2.after hq'
        subst ev
        exact ⟨rv, ⟨V.ref (s1.heap.objs.size + 1), H', I3, rfl, q3⟩⟩
      | next => exact False.elim hq'
      | brk => exact False.elim hq'
      | cont => exact False.elim hq'
  · by_cases cc : ds.length + 1 = ps.length
    · rw [if_pos cc] at h1
      have hr2 : HR X.K (upd H1 dx (.own y)) Z1 ι1 M1 := hr1.odd (Odd.new hr1 hdx)
      have x2 : Ext H1 Z1 ι1 M1.length (upd H1 dx (.own y)) Z1 ι1 M1.length := Ext.touch .refl hdx
      have hy2 : upd H1 dx (.own y) y = none := by rw [upd_ne (Ne.symm hne)]; exact hy
      obtain ⟨hr3, x3⟩ := hr2.ownedG (o' := .obj nm []) (ho := .ins C0 dx []) hy2 (by simp) ⟨C0, dx, [], hn0, upd_same, rfl, .nil⟩
      have x23 := x2.trans x3 hr2.ali
      have rp : Rps X.K Z1 (put ι1 M1.length y) (M1 ++ [MO.obj nm []]).length (.ref M1.length :: ds) (.ref y :: vs) := by
        refine .cons ?_ (r1.ext x23)
        have q : Rp X.K Z1 (put ι1 M1.length y) (M1 ++ [MO.obj nm []]).length (.ref M1.length) (.ref (put ι1 M1.length y M1.length)) := .ref (by simp)
        rw [put_at] at q
        exact q
      refine lent_post hr3 rp (by rw [List.length_cons, ← r1.length]; exact cc) ?_
      have h2 : Post X C W (rpE X.K) σ (upd (upd H1 dx (.own y)) y (.ins C0 dx [])) Z1 (put ι1 M1.length y) (M1 ++ [MO.obj nm []]) ((callF F (.ref M1.length :: ds) (M1 ++ [.obj nm []])).bind (newR M1.length)) Q := h1.shift x23 hr3
      refine h2.bind fun d M4 v H4 Z4 ι4 e4 hr4 r4 h4 => ?_
      cases r4 with
      | non =>
        refine ⟨rfl, h4 _ H4 Z4 ι4 .refl hr4 ?_⟩
        have lt : M1.length < (M1 ++ [MO.obj nm []]).length := by simp
        have q : Rp X.K Z4 ι4 M4.length (.ref M1.length) (.ref (ι4 M1.length)) := .ref (Nat.lt_of_lt_of_le lt e4.ln)
        rw [e4.ii _ lt, put_at] at q
        exact q
      | _ => exact h4.elim
    · rw [if_neg cc] at h1
      exact h1.elim
theorem qs_fzF {st : Stmt} {g : GS} (i : Nat) (f : Str) (h1 : QS X C W st g) : QS X C W st (gSeq g (gFzF i f)) := qs_ghost h1 fun Dd σ H Z ι Γ M sl hr h => by
  unfold gFzF at h
  cases e : Γ[i]? with
  | none => rw [e] at h; exact h.elim
  | some o =>
    rw [e] at h
    cases o with
    | none => exact h.elim
    | some d =>
      cases d with
      | ref k =>
        simp only at h
        cases e2 : M[k]? with
        | none => rw [e2] at h; exact h.elim
        | some u =>
          rw [e2] at h
          cases u with
          | dead => exact h.elim
          | dct ks0 vs0 => exact h.elim
          | dki kvs0 => exact h.elim
          | lst ds => exact h.elim
          | obj nm fs =>
            simp only at h
            cases e3 : fs.lookup f with
            | none => rw [e3] at h; exact h.elim
            | some d2 =>
              rw [e3] at h
              cases d2 with
              | ref j =>
                simp only at h
                cases e4 : M[j]? with
                | none => rw [e4] at h; exact h.elim
                | some w =>
                  rw [e4] at h
                  cases w with
                  | dead => exact h.elim
                  | dct ks0 vs0 => exact h.elim
                  | dki kvs0 => exact h.elim
                  | obj nm2 fs2 => exact h.elim
                  | lst ds =>
                    obtain ⟨xs, r, hr1, x1, rp⟩ := hr.freeze e4
                    have jk : j ≠ k := fun z => by rw [z, e2] at e4; cases e4
                    have e2' : (M.set j .dead)[k]? = some (.obj nm fs) := by rw [List.getElem?_set_ne jk]; exact e2
                    obtain ⟨C1, dx, gs, a0, a1, a2, a3⟩ := hr1.obj k _ e2'
                    obtain ⟨v, b1, b2⟩ := fld_rp a2 a3 e3
                    have ev : v = .ref (ι j) := by cases b2; rfl
                    subst ev
                    have eg : putF f (.ref (ι j)) gs = gs := by
                      clear a3 b2 a1 a2
                      induction gs with
                      | nil => simp at b1
                      | cons g gs ih =>
                        obtain ⟨a, y⟩ := g
                        rw [List.lookup_cons] at b1
                        unfold putF
                        by_cases ha : a = f
                        · subst ha
                          rw [if_pos rfl]
                          simp at b1
                          rw [b1]
                        · rw [if_neg ha]
                          have : (f == a) = false := by
                            rw [beq_eq_false_iff_ne]
                            exact fun z => ha z.symm
                          rw [this] at b1
                          rw [ih b1]
                    have orr : OR X.K H (upd Z (ι j) (.lst xs)) ι (M.set j .dead).length (.obj nm (putD f (.lst ds) fs)) (ι k) :=
                      ⟨C1, dx, gs, a0, a1, by rw [← eg]; exact put_names f _ _ a2, by rw [← eg]; exact put_rps rp a2 a3⟩
                    obtain ⟨hr2, x2⟩ := hr1.retell e2' (by simp) (by simp) orr
                    exact h σ H _ ι (x1.trans x2 hr1.ali) hr2 ((sl.ext x1).ext x2)
              | _ => exact h.elim
      | _ => exact h.elim
end
/-! ### how they are worked out -/
@[simp] theorem u_gFld (nm f : Str) (ge : GE) (Γ : Env) (M : List MO) : gFld nm f ge Γ M = ((ge Γ M).bind fun x M1 => match x with
  | .ref k => match M1[k]? with
    | some (.obj nm' fs) => if nm' = nm then opR (fs.lookup f) M1 else .bad
    | _ => .bad
  | _ => .bad) := Eq.trans rfl rfl
@[simp] theorem u_gSetF (nm f : Str) (ge go : GE) (Γ : Env) (M : List MO) : gSetF nm f ge go Γ M = ((ge Γ M).thenS Γ fun d M1 => (go Γ M1).thenS Γ fun x M2 => match x with
  | .ref k => match M2[k]? with
    | some (.obj nm' fs) => if nm' = nm ∧ fs.length < 1000 then .nx Γ (M2.set k (.obj nm (putD f d fs))) else .bad
    | _ => .bad
  | _ => .bad) := Eq.trans rfl rfl
@[simp] theorem u_isObj (nm m : Str) (M : List MO) (k : Nat) : isObj nm m M (.ref k) = (match M[k]? with
    | some (.obj nm' fs) => decide (nm' = nm) && (fs.lookup m).isNone
    | _ => false) := Eq.trans rfl rfl
@[simp] theorem u_gMeth (nm m : Str) (n : Nat) (F : List D → List MO → R D) (go : GE) (ga : GA) (Γ : Env) (M : List MO) : gMeth nm m n F go ga Γ M = (go Γ M).bind fun x M1 => if isObj nm m M1 x = true then (ga Γ M1).bind fun ds M2 => if ds.length + 1 = n then callF F (x :: ds) M2 else .bad else .bad := Eq.trans rfl rfl
@[simp] theorem u_newR (m : Nat) (M : List MO) : newR m .non M = .ok (.ref m) M := Eq.trans rfl rfl
@[simp] theorem u_gNew (nm : Str) (n : Nat) (F : List D → List MO → R D) (ga : GA) (Γ : Env) (M : List MO) : gNew nm n F ga Γ M = (ga Γ M).bind fun ds M1 => if ds.length + 1 = n then (callF F (.ref M1.length :: ds) (M1 ++ [.obj nm []])).bind (newR M1.length) else .bad := Eq.trans rfl rfl
@[simp] theorem u_gFzF (i : Nat) (f : Str) (Γ : Env) (M : List MO) : gFzF i f Γ M = (match Γ[i]? with
  | some (some (.ref k)) => match M[k]? with
    | some (.obj nm fs) => match fs.lookup f with
      | some (.ref j) => match M[j]? with
        | some (.lst ds) => .nx Γ ((M.set j .dead).set k (.obj nm (putD f (.lst ds) fs)))
        | _ => .bad
      | _ => .bad
    | _ => .bad
  | _ => .bad) := Eq.trans rfl rfl
@[simp] theorem blo_obj (m : Nat) (nm : Str) (fs : List (Str × D)) : belowO m (.obj nm fs) = belows m (fs.map (·.2)) := Eq.trans rfl rfl
end Bk

set_option Elab.async false
set_option linter.all false
set_option maxRecDepth 100000
set_option maxHeartbeats 2000000
namespace Bk
open PySem PySem.Spec PyProof.Rows L2
/-! ### range down by ones -/
def rngDn (lo : Int) : Nat → List D
  | 0 => []
  | n + 1 => .int lo :: rngDn (lo - 1) n
theorem rngDn_get : ∀ (n : Nat) (lo : Int) (i : Nat) (d : D), (rngDn lo n)[i]? = some d → i < n ∧ d = .int (lo + (i : Nat) * (-1))
  | 0, _, _, _, h => by simp [rngDn] at h
  | n + 1, lo, 0, d, h => by
    simp [rngDn] at h
    exact ⟨Nat.succ_pos _, by rw [← h]; simp⟩
  | n + 1, lo, i + 1, d, h => by
    simp only [rngDn, List.getElem?_cons_succ] at h
    obtain ⟨h1, h2⟩ := rngDn_get n (lo - 1) i d h
    refine ⟨Nat.succ_lt_succ h1, ?_⟩
    rw [h2]
    congr 1
    push_cast
    omega
theorem rngDn_length : ∀ (n : Nat) (lo : Int), (rngDn lo n).length = n
  | 0, _ => rfl
  | n + 1, lo => by simp [rngDn, rngDn_length n]
def rng3 : List D → Option (List D)
  | [.int i, .int j, .int c] => if (inR i && inR j && decide (c = -1)) = true then some (rngDn i (i - j).toNat) else none
  | _ => none
def gRng3 (ga : GA) : GI := fun Γ M => (ga Γ M).bind fun ds M1 => opR (rng3 ds) M1
def gRev (ge : GE) : GI := fun Γ M => (ge Γ M).bind fun d M1 => opR ((seqD d).map List.reverse) M1
def mReverse : MF0 := fun ds => some (ds.reverse, .non)
def items1 (M : List MO) : List D → Option (List D)
  | [d] => itemsD M d
  | _ => none
def gListO (ga : GA) : GE := fun Γ M => (ga Γ M).bind fun xs M1 => match items1 M1 xs with
  | some ds => .ok (.ref M1.length) (M1 ++ [.lst ds])
  | none => .bad
section
variable {X : Cx} {C : CT} {W : WX} {tg e a b c : Expr} {g ga : GE} {gs : GA} {pos p : Pos}
theorem itr_c {K : PySem.W.Frag} {Z : Hp} {ι : Nat → Addr} {n : Nat} {lo : Int} {m : Nat} : ItR K (Itc lo (-1) m) (rngDn lo m) Z ι n := by
  intro i H' Z' ι' M' hz hi hn hr _
  refine ⟨fun hl => by rw [rngDn_length] at hl; exact Nat.le_of_eq hl, fun d hd => ?_⟩
  obtain ⟨h1, rfl⟩ := rngDn_get _ _ _ _ hd
  refine ⟨h1, fun x H2 hy => ?_⟩
  obtain ⟨rfl, rfl⟩ := hy
  exact ⟨Z', .refl, hr, .int _⟩
theorem qi_rng3 (hg : Gl X "range") (hm : X.mg "range" = none) (ha : QA X C W [a, b, c] gs)
    (hs : starEach [a, b, c] X.env = (false, eval a X.env) :: starEach [b, c] X.env := by rfl) (hpl : (backTo pos (starEach [b, c] X.env)).any (·.1) = false := by rfl) : QI X C W tg (.Call (.Name "range" p) [a, b, c] [] pos) (gRng3 gs) := by
  obtain ⟨ta, pa, qa⟩ := ha
  refine ⟨_, pi_range3 hg hm pa hs hpl, fun σ H Z ι Γ M Q sl hr h => qa σ H Z ι Γ M _ sl hr (h.bind fun x M1 v H1 Z1 ι1 e1 hr1 r1 h1 => ?_)⟩
  obtain ⟨ds, hd, h2⟩ := Post.of_opR (γ := D) (δ := V) h1
  unfold rng3 at hd
  split at hd
  · rename_i i j k
    cases r1 with
    | cons r rr =>
      cases r
      cases rr with
      | cons r2 rr =>
        cases r2
        cases rr with
        | cons r3 rr =>
          cases r3
          cases rr
          by_cases hj : (inR i && inR j && decide (k = -1)) = true
          · rw [if_pos hj] at hd
            cases hd
            simp only [inR, Bool.and_eq_true, decide_eq_true_eq] at hj
            obtain ⟨⟨h1', h2'⟩, h3'⟩ := hj
            subst h3'
            exact ⟨i, j, -1, _, rfl, RgC.neg h1'.1 h1'.2 h2'.1 h2'.2, h2 _ H1 Z1 ι1 .refl hr1 itr_c⟩
          · rw [if_neg hj] at hd
            cases hd
  · cases hd
theorem rev_get {ds : List D} {i : Nat} {d : D} (h : ds.reverse[i]? = some d) : i < ds.length ∧ ds[ds.length - 1 - i]? = some d := by
  have l : i < ds.reverse.length := (List.getElem?_eq_some_iff.mp h).1
  rw [List.length_reverse] at l
  rw [List.getElem?_reverse l] at h
  exact ⟨l, h⟩
theorem itr_vl {K : PySem.W.Frag} {Z : Hp} {ι : Nat → Addr} {n : Nat} {a : Addr} {xs : List V} {ds : List D} (s : ExL K Z a xs) (r : Rps K Z ι n ds xs) : ItR K (Itv K a xs.length) ds.reverse Z ι n := by
  intro i H' Z' ι' M' hz hi hn hr _
  have sH : SqL K H' a xs := (subL (fun a o h => hr.sub _ _ (hz _ _ h)) s).sq
  have l := r.length
  refine ⟨fun hl => by rw [List.length_reverse] at hl; exact Nat.le_of_eq (l.symm.trans hl), fun d hd => ?_⟩
  obtain ⟨h1, h2⟩ := rev_get hd
  obtain ⟨v, hv, rv⟩ := r.get h2
  rw [l] at hv
  refine ⟨⟨by omega, xs, v, sH, hv⟩, fun x H2 hy => ?_⟩
  obtain ⟨rfl, hx⟩ := hy
  have ex : xs[xs.length - 1 - i]? = some x := hx _ sH
  rw [hv] at ex
  cases ex
  exact ⟨Z', .refl, hr, Rp.mono hz hi hn _ _ rv⟩
theorem itr_vt {K : PySem.W.Frag} {Z : Hp} {ι : Nat → Addr} {n : Nat} {a : Addr} {xs : List V} {ds : List D} (s : SqT K Z a xs) (r : Rps K Z ι n ds xs) : ItR K (RT.ItvT K a xs.length) ds.reverse Z ι n := by
  intro i H' Z' ι' M' hz hi hn hr _
  have sH : SqT K H' a xs := subT (fun a o h => hr.sub _ _ (hz _ _ h)) s
  have l := r.length
  refine ⟨fun hl => by rw [List.length_reverse] at hl; exact Nat.le_of_eq (l.symm.trans hl), fun d hd => ?_⟩
  obtain ⟨h1, h2⟩ := rev_get hd
  obtain ⟨v, hv, rv⟩ := r.get h2
  rw [l] at hv
  refine ⟨⟨by omega, xs, v, sH, hv⟩, fun x H2 hy => ?_⟩
  obtain ⟨rfl, hx⟩ := hy
  have ex : xs[xs.length - 1 - i]? = some x := hx _ sH
  rw [hv] at ex
  cases ex
  exact ⟨Z', .refl, hr, Rp.mono hz hi hn _ _ rv⟩
theorem qi_rev (hg : Gl X "reversed") (hm : X.mg "reversed" = none) (ha : QE X C W e g) (hs : starEach [e] X.env = (false, eval e X.env) :: starEach [] X.env := by rfl) : QI X C W tg (.Call (.Name "reversed" p) [e] [] pos) (gRev g) := by
  obtain ⟨ta, pa, qa⟩ := ha
  refine ⟨_, RT.pi_revA hg hm pa hs, fun σ H Z ι Γ M Q sl hr h => qa σ H Z ι Γ M _ sl hr (h.bind fun x M1 v H1 Z1 ι1 e1 hr1 r1 h1 => ?_)⟩
  obtain ⟨ds, hd, h2⟩ := Post.of_opR (γ := D) (δ := V) h1
  cases r1 with
  | lst s r =>
    cases hd
    exact ⟨_, _, rfl, .inl ⟨(subL hr1.sub s).sq, h2 _ H1 Z1 ι1 .refl hr1 (itr_vl s r)⟩⟩
  | tup s r =>
    cases hd
    exact ⟨_, _, rfl, .inr ⟨subT hr1.sub s, h2 _ H1 Z1 ι1 .refl hr1 (itr_vt s r)⟩⟩
  | ptu s r =>
    cases hd
    exact ⟨_, _, rfl, .inr ⟨subT hr1.sub s.sq, h2 _ H1 Z1 ι1 .refl hr1 (itr_vt s.sq r)⟩⟩
  | _ => cases hd
theorem ok_reverse : OkM0 X rReverse mReverse := fun p xs H Z ι n ds ds' d Q e r h q => by
  cases h
  exact ⟨p, xs, rfl, rfl, e, q _ _ r.rev .non⟩
/-- list(x), the new list ours -/
theorem qe_listO (hg : Gl X "list") (hm : X.mg "list" = none) (hv : bootBuiltins "list" = some (.type "list")) (ha : QA X C W [e] gs) (he : starEach [e] X.env = (false, eval e X.env) :: starEach [] X.env := by rfl) (hpl : (backTo pos (starEach [] X.env)).any (·.1) = false := by rfl) :
    QE X C W (.Call (.Name "list" p) [e] [] pos) (gListO gs) := by
  obtain ⟨ta, pa, qa⟩ := ha
  refine ⟨_, pe_callTy call_list_of hg hm hv pa (by decide) (by decide) he hpl, fun σ H Z ι Γ M Q sl hr h => qa σ H Z ι Γ M _ sl hr (h.bind fun xs M1 vs H1 Z1 ι1 e1 hr1 r1 h1 => ?_)⟩
  cases ei : items1 M1 xs with
  | none => rw [ei] at h1; exact h1.elim
  | some ds =>
    rw [ei] at h1
    unfold items1 at ei
    split at ei
    · cases r1 with
      | cons r rr =>
        cases rr
        obtain ⟨a, ys, rfl, s, r2⟩ := itemsD_run hr1 r ei
        refine ⟨a, ys, rfl, s.elim (fun s => .inl s.sq) .inr, fun l hl => ?_⟩
        obtain ⟨hr2, x2⟩ := hr1.owned hl r2
        refine h1 _ _ Z1 _ x2 hr2 ?_
        have q : Rp X.K Z1 (put ι1 M1.length l) (M1 ++ [MO.lst ds]).length (.ref M1.length) (.ref (put ι1 M1.length l M1.length)) := .ref (by simp)
        rw [put_at] at q
        exact q
    · cases ei
end
@[simp] theorem u_gRng3 (ga : GA) (Γ : Env) (M : List MO) : gRng3 ga Γ M = (ga Γ M).bind fun ds M1 => opR (rng3 ds) M1 := Eq.trans rfl rfl
@[simp] theorem u_gRev (ge : GE) (Γ : Env) (M : List MO) : gRev ge Γ M = (ge Γ M).bind fun d M1 => opR ((seqD d).map List.reverse) M1 := Eq.trans rfl rfl
@[simp] theorem u_gListO (ga : GA) (Γ : Env) (M : List MO) : gListO ga Γ M = ((ga Γ M).bind fun xs M1 => match items1 M1 xs with
  | some ds => .ok (.ref M1.length) (M1 ++ [.lst ds])
  | none => .bad) := Eq.trans rfl rfl
@[simp] theorem u_items1 (M : List MO) (d : D) : items1 M [d] = itemsD M d := Eq.trans rfl rfl
@[simp] theorem u_rng3 (i j : Int) : rng3 [.int i, .int j, .int (-1)] = if (inR i && inR j) = true then some (rngDn i (i - j).toNat) else none := by
  show (if (inR i && inR j && decide ((-1 : Int) = -1)) = true then _ else _) = _
  simp
@[simp] theorem u_reverse (ds : List D) : mReverse ds = some (ds.reverse, .non) := Eq.trans rfl rfl
end Bk

set_option Elab.async false
set_option linter.all false
set_option maxRecDepth 100000
set_option maxHeartbeats 2000000
namespace Bk
open PySem PySem.Spec PyProof.Rows L2
theorem units65 {k : Nat} {A : Around} (r : Room k A) : A.units + 65 < cLine := by have := r.un; omega
/-! ### t >= u -/
def rGeT (K : PySem.W.Frag) : R2 := fun x y H Q => ∃ (a b : Addr) (ns ms : List Int), x = .ref a ∧ y = .ref b ∧ SqT K H a (ns.map V.int) ∧ SqT K H b (ms.map V.int) ∧
  Q (.bl (Ob.lexAt (fun j => decide (ns.getD j 0 = ms.getD j 0)) (fun j => decide (ms.getD j 0 ≤ ns.getD j 0)) (decide (ns.length ≥ ms.length)) 0 (min ns.length ms.length))) H
theorem op_geT {X : Cx} (hu : X.A.units < cLine) : OpR X (compareOp .GtE) (rGeT X.K) := by
  intro pins s σ H x y v u Q I rx ry h
  obtain ⟨a, b, ns, ms, rfl, rfl, ha, hb, q⟩ := h
  cases rx
  cases ry
  obtain ⟨its, r1, p1, _⟩ := I.tuple ha
  obtain ⟨its2, r2, p2, _⟩ := I.tuple hb
  have i1 : IntsAre its ns := Vals.ints r1
  have i2 : IntsAre its2 ms := Vals.ints r2
  have e1 : its.toArray.size = ns.length := by rw [List.size_toArray]; exact i1.length
  have e2 : its2.toArray.size = ms.length := by rw [List.size_toArray]; exact i2.length
  have at1 : ∀ j (h1 : j < its.toArray.size), ∃ t, its.toArray[j] = .int (ns.getD j 0) t := fun j h1 => PyProof.Rows.IntsAre.int_at i1 _ _ (by simp at h1; simp [h1])
  have at2 : ∀ j (h1 : j < its2.toArray.size), ∃ t, its2.toArray[j] = .int (ms.getD j 0) t := fun j h1 => PyProof.Rows.IntsAre.int_at i2 _ _ (by simp at h1; simp [h1])
  have R := Ob.RcOp.tuples_ge (A := X.A) (s := s) (e := fun j => decide (ns.getD j 0 = ms.getD j 0)) (r := fun j => decide (ms.getD j 0 ≤ ns.getD j 0)) p1 p2 hu (fun j h1 h2 => by
    obtain ⟨t, et⟩ := at1 j h1
    obtain ⟨t', et'⟩ := at2 j h2
    rw [et, et']
    have z : (ns.getD j 0 == ms.getD j 0) = decide (ns.getD j 0 = ms.getD j 0) := by
      by_cases q : ns.getD j 0 = ms.getD j 0
      · rw [decide_eq_true q]; exact beq_iff_eq.mpr q
      · rw [decide_eq_false q]; exact beq_eq_false_iff_ne.mpr q
    rw [← z]
    exact SeqAt.EqAt.int_int _ _ _ _) (fun j h1 h2 _ => by
    obtain ⟨t, et⟩ := at1 j h1
    obtain ⟨t', et'⟩ := at2 j h2
    rw [et, et']
    exact Ob.RcOp.ge_int _ _ _ _)
  rw [e1, e2] at R
  have z : wpAny (model X.prog X.w) X.A (compareOp .GtE (.ref a) (.ref b)) (EP X pins σ Q) X.xe s := R X.prog X.w X.xe (EP X pins σ Q) ⟨.bl _, H, I, rfl, q⟩
  exact z
def intsL : List D → Option (List Int)
  | [] => some []
  | .int i :: ds => (intsL ds).map fun is => i :: is
  | _ => none
theorem intsL_map : ∀ is : List Int, intsL (is.map D.int) = some is
  | [] => rfl
  | i :: is => by
    show (intsL (is.map D.int)).map (fun is => i :: is) = _
    rw [intsL_map is]
    rfl
theorem intsL_run {K : PySem.W.Frag} {Z : Hp} {ι : Nat → Addr} {n : Nat} : ∀ {ds : List D} {vs : List V} {is : List Int}, Rps K Z ι n ds vs → intsL ds = some is → vs = is.map V.int
  | [], _, _, r, h => by cases r; cases h; rfl
  | d :: ds, _, _, r, h => by
    cases r with
    | cons r rs =>
      cases r with
      | int i =>
        have h' : (intsL ds).map (fun is => i :: is) = some _ := h
        cases e : intsL ds with
        | none => rw [e] at h'; cases h'
        | some js =>
          rw [e] at h'
          cases h'
          rw [List.map_cons, intsL_run rs e]
      | _ => cases h
def geI (ns ms : List Int) : Bool := Ob.lexAt (fun j => decide (ns.getD j 0 = ms.getD j 0)) (fun j => decide (ms.getD j 0 ≤ ns.getD j 0)) (decide (ns.length ≥ ms.length)) 0 (min ns.length ms.length)
def dGeA (M : List MO) (x y : D) : Option D := match x, y with
  | .tup xs, .tup ys => match intsL xs, intsL ys with
    | some ns, some ms => some (.bl (geI ns ms))
    | _, _ => none
  | x, y => dGe M x y
section
variable {X : Cx}
theorem op_geA (hu : X.A.units < cLine) : OpR X (compareOp .GtE) (fun x y H Q => rGeT X.K x y H Q ∨ rI0 (fun i j => .bl (decide (j ≤ i))) x y H Q) := (op_geT hu).or op_ge
theorem ok_geA : Ok2 X (fun x y H Q => rGeT X.K x y H Q ∨ rI0 (fun i j => .bl (decide (j ≤ i))) x y H Q) dGeA := fun x y H Z ι M dx dy d Q hr rx ry e q => by
  unfold dGeA at e
  split at e
  · rename_i xs ys
    cases e1 : intsL xs with
    | none => rw [e1] at e; cases e
    | some ns =>
      cases e2 : intsL ys with
      | none => rw [e1, e2] at e; cases e
      | some ms =>
        rw [e1, e2] at e
        cases e
        cases rx with
        | tup s1 r1 =>
          cases ry with
          | tup s2 r2 =>
            have w1 := intsL_run r1 e1
            have w2 := intsL_run r2 e2
            subst w1 w2
            exact .inl ⟨_, _, ns, ms, rfl, rfl, subT hr.sub s1, subT hr.sub s2, q.now hr (.bl _)⟩
  · exact .inr (ok_ge x y H Z ι M dx dy d Q hr rx ry e q)
end
/-! ### x in l, items of any depth -/
def inDP (M : List MO) (x y : D) : Option Bool := match toP (deref M x), toP (deref M y) with
  | some p, some (.list qs) => if (SeqAt.shaped p && SeqAt.shaped (.list qs)) = true then some (qs.any fun z => PyData.eqv z p) else none
  | _, _ => none
def inAP (M : List MO) (x y : D) : Option Bool := match inP M x y with
  | some b => some b
  | none => inDP M x y
def dInA (M : List MO) (x y : D) : Option D := (inAP M x y).map D.bl
def dNotInA (M : List MO) (x y : D) : Option D := (inAP M x y).map fun b => D.bl (!b)
theorem inDP_run {K : PySem.W.Frag} {H Z : Hp} {ι : Nat → Addr} {M : List MO} {dx dy : D} {x y : V} {b : Bool} (hr : HR K H Z ι M) (rx : Rp K Z ι M.length dx x) (ry : Rp K Z ι M.length dy y) (e : inDP M dx dy = some b) :
    ∃ d ds, Dp K H x d ∧ Dp K H y (.list ds) ∧ SeqAt.shaped d = true ∧ SeqAt.shaped (.list ds) = true ∧ (ds.any fun z => PyData.eqv z d) = b := by
  unfold inDP at e
  cases e1 : toP (deref M dx) with
  | none => rw [e1] at e; cases e
  | some p =>
    cases e2 : toP (deref M dy) with
    | none => rw [e1, e2] at e; cases e
    | some q =>
      rw [e1, e2] at e
      cases q with
      | list qs =>
        simp only at e
        by_cases c : (SeqAt.shaped p && SeqAt.shaped (.list qs)) = true
        · rw [if_pos c] at e
          rw [Bool.and_eq_true] at c
          exact ⟨p, qs, deref_dp hr rx e1, deref_dp hr ry e2, c.1, c.2, Option.some.inj e⟩
        · rw [if_neg c] at e
          cases e
      | _ => cases e
section
variable {X : Cx}
theorem op_inA (hu : X.A.units + 65 < cLine) : OpR X (compareOp .In) (fun x y H Q => rInD X.K x y H Q ∨ rIn X.K false x y H Q) := (op_inD hu).or op_in_seq
theorem op_notInA (hu : X.A.units + 65 < cLine) : OpR X (compareOp .NotIn) (fun x y H Q => rNotInD X.K x y H Q ∨ rIn X.K true x y H Q) := (op_notInD hu).or op_notIn_seq
theorem ok_inA : Ok2 X (fun x y H Q => rInD X.K x y H Q ∨ rIn X.K false x y H Q) dInA := fun x y H Z ι M dx dy d Q hr rx ry e q => by
  unfold dInA inAP at e
  cases e1 : inP M dx dy with
  | some b =>
    rw [e1] at e
    cases e
    obtain ⟨p, xs, h1, h2, h3, h4, h5⟩ := inP_run hr rx ry e1
    exact .inr ⟨p, xs, h1, h2, h3, h4, by rw [h5]; exact q.now hr (.bl b)⟩
  | none =>
    rw [e1] at e
    simp only at e
    cases e2 : inDP M dx dy with
    | none => rw [e2] at e; cases e
    | some b =>
      rw [e2] at e
      cases e
      obtain ⟨p, ps, h1, h2, h3, h4, h5⟩ := inDP_run hr rx ry e2
      exact .inl ⟨p, ps, h1, h2, h3, h4, by rw [h5]; exact q.now hr (.bl b)⟩
theorem ok_notInA : Ok2 X (fun x y H Q => rNotInD X.K x y H Q ∨ rIn X.K true x y H Q) dNotInA := fun x y H Z ι M dx dy d Q hr rx ry e q => by
  unfold dNotInA inAP at e
  cases e1 : inP M dx dy with
  | some b =>
    rw [e1] at e
    cases e
    obtain ⟨p, xs, h1, h2, h3, h4, h5⟩ := inP_run hr rx ry e1
    exact .inr ⟨p, xs, h1, h2, h3, h4, by rw [h5]; exact q.now hr (.bl _)⟩
  | none =>
    rw [e1] at e
    simp only at e
    cases e2 : inDP M dx dy with
    | none => rw [e2] at e; cases e
    | some b =>
      rw [e2] at e
      cases e
      obtain ⟨p, ps, h1, h2, h3, h4, h5⟩ := inDP_run hr rx ry e2
      exact .inl ⟨p, ps, h1, h2, h3, h4, by rw [h5]; exact q.now hr (.bl _)⟩
end
/-! ### l.index(x) -/
def dIndex (M : List MO) (x y : D) : Option D := match toP (deref M x), toP (deref M y) with
  | some (.list ps), some q => if (SeqAt.shaped (.list ps) && SeqAt.shaped q) = true then (ps.findIdx? fun z => PyData.eqv z q).map fun j => .int (j : Nat) else none
  | _, _ => none
def gIndex (go ge : GE) : GE := fun Γ M => (go Γ M).bind fun x M1 => if isListD M1 x = true then (ge Γ M1).bind fun y M2 => opR (dIndex M2 x y) M2 else .bad
section
variable {X : Cx} {C : CT} {W : WX}
theorem qe_index {o e : Expr} {go ge : GE} {pos apos : Pos} (hu : X.A.units + 65 < cLine) (ho : QE X C W o go) (he : QE X C W e ge)
    (hbase : attributeBase o "index" X.env (eval o X.env) = eval o X.env := by rfl) (hs : starEach [e] X.env = (false, eval e X.env) :: starEach [] X.env := by rfl)
    (hfew : ((backTo pos (starEach [e] X.env)).all (fun x => !x.1) && (backToKw pos (keywordEach [] X.env)).all (fun x => x.1.isSome) && decide ([e].length + ([] : List Keyword).length + (if ([] : List Keyword).isEmpty then 0 else 1) < 30)) = true := by rfl)
    (hline : (apos.endLine == pos.line) = true := by rfl) : QE X C W (.Call (.Attribute o "index" apos) [e] [] pos) (gIndex go ge) := by
  obtain ⟨ta, pa, qa⟩ := ho
  obtain ⟨tb, pb, qb⟩ := he
  refine ⟨_, pe_bm PySem.F.plainAttrs_list PySem.F.slot_list_index PySem.F.type_list_index (mt_indexD hu) pa (pa_cons pb pa_nil hs) hbase hfew hline hs rfl, fun σ H Z ι Γ M Q sl hr h => qa σ H Z ι Γ M _ sl hr (h.bind fun x M1 v H1 Z1 ι1 e1 hr1 r1 h1 => ?_)⟩
  by_cases c : isListD M1 x = true
  · rw [if_pos c] at h1
    refine ⟨isListD_run hr1 r1 c, qb σ H1 Z1 ι1 Γ M1 _ (sl.ext e1) hr1 (h1.bind fun y M2 u H2 Z2 ι2 e2 hr2 r2 h2 => ?_)⟩
    obtain ⟨d, hd, h3⟩ := Post.of_opR (γ := D) (δ := V) h2
    unfold dIndex at hd
    cases ea : toP (deref M2 x) with
    | none => rw [ea] at hd; cases hd
    | some p =>
      cases eb : toP (deref M2 y) with
      | none => rw [ea, eb] at hd; cases p <;> cases hd
      | some q =>
        rw [ea, eb] at hd
        cases p with
        | list ps =>
          simp only at hd
          by_cases z : (SeqAt.shaped (.list ps) && SeqAt.shaped q) = true
          · rw [if_pos z] at hd
            rw [Bool.and_eq_true] at z
            cases ej : ps.findIdx? (fun z => PyData.eqv z q) with
            | none => rw [ej] at hd; cases hd
            | some j =>
              rw [ej] at hd
              cases hd
              obtain ⟨hj, h5, h6⟩ := List.findIdx?_eq_some_iff_getElem.mp ej
              have dx := deref_dp hr2 (r1.ext e2) ea
              have dy := deref_dp hr2 r2 eb
              cases dx with
              | lst hs ha =>
                refine ⟨_, u, q, ps, j, ps[j], rfl, rfl, .lst hs ha, dy, z.1, z.2, List.getElem?_eq_getElem hj, h5, fun m z' hm hz => ?_, h3 _ H2 Z2 ι2 .refl hr2 (.int _)⟩
                obtain ⟨hm', rfl⟩ := List.getElem?_eq_some_iff.mp hz
                have := h6 m hm
                simpa using this
          · rw [if_neg z] at hd
            cases hd
        | _ => cases hd
  · rw [if_neg c] at h1
    exact h1.elim
end
@[simp] theorem u_gIndex (go ge : GE) (Γ : Env) (M : List MO) : gIndex go ge Γ M = (go Γ M).bind fun x M1 => if isListD M1 x = true then (ge Γ M1).bind fun y M2 => opR (dIndex M2 x y) M2 else .bad := Eq.trans rfl rfl
@[simp] theorem e_geA (M : List MO) (i j : Int) : dGeA M (.int i) (.int j) = some (.bl (decide (j ≤ i))) := Eq.trans rfl rfl
theorem e_geT (M : List MO) (ns ms : List Int) : dGeA M (.tup (ns.map D.int)) (.tup (ms.map D.int)) = some (.bl (geI ns ms)) := by
  show (match intsL (ns.map D.int), intsL (ms.map D.int) with
    | some ns, some ms => some (D.bl (geI ns ms))
    | _, _ => none) = _
  rw [intsL_map, intsL_map]
/-- the first place that differs tells -/
theorem lexAt_diff {e r : Nat → Bool} {z : Bool} {j : Nat} (hd : e j = false) : ∀ (k i : Nat), i ≤ j → j < i + k → (∀ m, i ≤ m → m < j → e m = true) → Ob.lexAt e r z i k = r j
  | 0, i, h1, h2, _ => by omega
  | k + 1, i, h1, h2, h3 => by
    rw [Ob.lexAt_succ]
    by_cases q : i = j
    · subst q
      rw [hd]
      simp
    · rw [h3 i (Nat.le_refl _) (by omega), if_pos rfl]
      exact lexAt_diff hd k (i + 1) (by omega) (by omega) fun m a b => h3 m (by omega) b
theorem geI_less {ns ms : List Int} {j : Nat} (h1 : j < ns.length) (h2 : j < ms.length) (he : ∀ m, m < j → ns.getD m 0 = ms.getD m 0) (hl : ns.getD j 0 < ms.getD j 0) : geI ns ms = false := by
  unfold geI
  rw [lexAt_diff (j := j) (by simp only [decide_eq_false_iff_not]; omega) _ _ (Nat.zero_le _) (by omega) (fun m _ hm => by simpa using he m hm)]
  simp only [decide_eq_false_iff_not]
  omega
end Bk

set_option Elab.async false
set_option linter.all false
set_option maxRecDepth 100000
set_option maxHeartbeats 2000000
namespace Bk
open PySem PySem.Spec PyProof.Rows L2
/-! ### abs -/
def dAbs (_ : List MO) : D → Option D
  | .int i => some (.int (if i < 0 then -i else i))
  | _ => none
/-! ### sorted, ints -/
def insI (x : Int) : List Int → List Int
  | [] => [x]
  | y :: ys => if x ≤ y then x :: y :: ys else y :: insI x ys
def srtI : List Int → List Int
  | [] => []
  | x :: xs => insI x (srtI xs)
theorem insI_perm (x : Int) : ∀ l : List Int, (insI x l).Perm (x :: l)
  | [] => .refl _
  | y :: ys => by
    unfold insI
    split
    · exact .refl _
    · exact ((insI_perm x ys).cons y).trans (.swap x y ys)
theorem srtI_perm : ∀ l : List Int, (srtI l).Perm l
  | [] => .refl _
  | x :: xs => (insI_perm x _).trans ((srtI_perm xs).cons x)
theorem insI_ord {x : Int} : ∀ {l : List Int}, l.Pairwise (· ≤ ·) → (insI x l).Pairwise (· ≤ ·)
  | [], _ => by simp [insI]
  | y :: ys, h => by
    obtain ⟨h1, h2⟩ := List.pairwise_cons.mp h
    unfold insI
    split
    · rename_i c
      refine List.pairwise_cons.mpr ⟨fun z hz => ?_, h⟩
      rcases List.mem_cons.mp hz with rfl | hz
      · exact c
      · exact Int.le_trans c (h1 z hz)
    · rename_i c
      refine List.pairwise_cons.mpr ⟨fun z hz => ?_, insI_ord h2⟩
      rcases List.mem_cons.mp ((insI_perm x ys).mem_iff.mp hz) with rfl | hz
      · omega
      · exact h1 z hz
theorem srtI_ord : ∀ l : List Int, (srtI l).Pairwise (· ≤ ·)
  | [] => .nil
  | x :: xs => insI_ord (srtI_ord xs)
theorem ord_one : ∀ {l m : List Int}, l.Perm m → l.Pairwise (· ≤ ·) → m.Pairwise (· ≤ ·) → l = m
  | [], m, p, _, _ => (List.perm_nil.mp p.symm).symm
  | x :: l, [], p, _, _ => absurd (List.perm_nil.mp p) (by simp)
  | x :: l, y :: m, p, h, h' => by
    obtain ⟨a1, a2⟩ := List.pairwise_cons.mp h
    obtain ⟨b1, b2⟩ := List.pairwise_cons.mp h'
    have e : x = y := by
      rcases List.mem_cons.mp (p.mem_iff.mp (List.mem_cons_self ..)) with q | q
      · exact q
      · rcases List.mem_cons.mp (p.mem_iff.mpr (List.mem_cons_self ..)) with r | r
        · exact r.symm
        · have := a1 y r
          have := b1 x q
          omega
    subst e
    rw [ord_one (List.Perm.cons_inv p) a2 b2]
def dSort := ofInts fun is => some (.lst ((srtI is).map D.int))
def dSortR := ofInts fun is => some (.lst ((srtI is).reverse.map D.int))
def mClear : MF0 := fun _ => some ([], .non)
def dCnt (M : List MO) (x y : D) : Option D := match (listD M x).bind intsD, y with
  | some is, .int k => some (.int (is.count k : Nat))
  | _, _ => none
/-- a method of a list that reads it, with one argument -/
def gRd1 (f : List MO → D → D → Option D) (go ge : GE) : GE := fun Γ M => (go Γ M).bind fun x M1 => if isListD M1 x = true then (ge Γ M1).bind fun y M2 => opR (f M2 x y) M2 else .bad
def dRevL (M : List MO) (x : D) : Option D := (listD M x).map fun ds => .lst ds.reverse
def gRevL (ge : GE) : GE := fun Γ M => (ge Γ M).bind fun x M1 => opR (dRevL M1 x) M1
def gSortR (ge : GE) : GE := fun Γ M => (ge Γ M).bind fun x M1 => opR (dSortR M1 x) M1
section
variable {X : Cx} {C : CT} {W : WX} {e o : Expr} {g ge go : GE}
theorem ok_abs : Ok1 X (fun x H Q => ∃ i, [x] = [.int i] ∧ Q (.int (if i < 0 then -i else i)) H) dAbs := fun x H Z ι M dx d Q hr rx e q => by
  cases rx with
  | int i =>
    cases e
    exact ⟨i, rfl, q.now hr (.int _)⟩
  | _ => cases e
theorem ok_sort : Ok1 X (fun x H Q => rSortedI X.K [x] H Q) dSort := fun x H Z ι M dx d Q hr rx e q => by
  obtain ⟨a, is, rfl, s, e2⟩ := ofInts_run hr rx e
  cases e2
  refine ⟨a, is, rfl, s, fun ns' p h1 h2 hp => ?_⟩
  rw [ord_one (h1.trans (srtI_perm is).symm) h2 (srtI_ord is)]
  exact q.lst hr (rps_ints _) p hp
theorem ok_clear : OkM0 X rClear mClear := fun p xs H Z ι n ds ds' d Q e r h q => by
  cases h
  exact ⟨p, xs, rfl, rfl, e, q [] .non .nil .non⟩
theorem qe_count {pos apos : Pos} (ho : QE X C W o go) (he : QE X C W e ge)
    (hbase : attributeBase o "count" X.env (eval o X.env) = eval o X.env := by rfl) (hs : starEach [e] X.env = (false, eval e X.env) :: starEach [] X.env := by rfl)
    (hfew : ((backTo pos (starEach [e] X.env)).all (fun x => !x.1) && (backToKw pos (keywordEach [] X.env)).all (fun x => x.1.isSome) && decide ([e].length + ([] : List Keyword).length + (if ([] : List Keyword).isEmpty then 0 else 1) < 30)) = true := by rfl)
    (hline : (apos.endLine == pos.line) = true := by rfl) : QE X C W (.Call (.Attribute o "count" apos) [e] [] pos) (gRd1 dCnt go ge) := by
  obtain ⟨ta, pa, qa⟩ := ho
  obtain ⟨tb, pb, qb⟩ := he
  refine ⟨_, pe_bm PySem.F.plainAttrs_list PySem.F.slot_list_count PySem.F.type_list_count mt_lcount pa (pa_cons pb pa_nil hs) hbase hfew hline hs rfl, fun σ H Z ι Γ M Q sl hr h => qa σ H Z ι Γ M _ sl hr (h.bind fun x M1 v H1 Z1 ι1 e1 hr1 r1 h1 => ?_)⟩
  by_cases c : isListD M1 x = true
  · rw [if_pos c] at h1
    refine ⟨isListD_run hr1 r1 c, qb σ H1 Z1 ι1 Γ M1 _ (sl.ext e1) hr1 (h1.bind fun y M2 u H2 Z2 ι2 e2 hr2 r2 h2 => ?_)⟩
    obtain ⟨d, hd, h3⟩ := Post.of_opR (γ := D) (δ := V) h2
    unfold dCnt at hd
    cases e3 : listD M2 x with
    | none => rw [e3] at hd; cases hd
    | some ds =>
      rw [e3, Option.bind_some] at hd
      cases e4 : intsD ds with
      | none => rw [e4] at hd; cases hd
      | some is =>
        rw [e4] at hd
        obtain ⟨a, xs, rfl, s, r3⟩ := listD_run hr2 (r1.ext e2) e3
        rw [intsD_is r3 e4] at s
        cases r2 with
        | int k =>
          cases hd
          exact ⟨a, is, k, rfl, rfl, s.sq, h3 _ H2 Z2 ι2 .refl hr2 (.int _)⟩
        | _ => cases hd
  · rw [if_neg c] at h1
    exact h1.elim
theorem qe_revL {k : Nat} {p1 p2 p3 pos : Pos} (he : QE X C W e g) : QE X C W (.Subscript e (.Slice none none (some (.UnaryOp .USub (.Constant (.int 1) k p1) p2)) p3) pos) (gRevL g) := by
  obtain ⟨te, pe, qe⟩ := he
  refine ⟨_, pe_revL pe, fun σ H Z ι Γ M Q sl hr h => qe σ H Z ι Γ M _ sl hr (h.bind fun x M1 v H1 Z1 ι1 e1 hr1 r1 h1 => ?_)⟩
  obtain ⟨d, hd, h2⟩ := Post.of_opR (γ := D) (δ := V) h1
  unfold dRevL at hd
  cases e3 : listD M1 x with
  | none => rw [e3] at hd; cases hd
  | some ds =>
    rw [e3] at hd
    cases hd
    obtain ⟨a, xs, rfl, s, r3⟩ := listD_run hr1 r1 e3
    exact ⟨a, xs, rfl, s.sq, After.lst (X := X) (M := M1) (Q := Q) (fun v H' Z' e' hr' r' => h2 v H' Z' ι1 e' hr' r') hr1 r3.rev⟩
theorem qe_sortR {p cp pos kp : Pos} (hg : Gl X "sorted") (hm : X.mg "sorted" = none) (hv : bootBuiltins "sorted" = some (.builtin "sorted")) (he : QE X C W e g) (hs : starEach [e] X.env = (false, eval e X.env) :: starEach [] X.env := by rfl)
    (h1 : backTo pos (starEach [e] X.env) = (false, eval e X.env) :: backTo pos (starEach [] X.env) := by rfl) (h2 : (backTo pos (starEach [e] X.env)).any (·.1) = false := by rfl)
    (h3 : (backToKw pos (keywordEach [⟨some "reverse", .Constant (.bool true) 0 cp, kp⟩] X.env)).all (·.1.isSome) = true := by rfl) (h4 : (backToKw pos (keywordEach [⟨some "reverse", .Constant (.bool true) 0 cp, kp⟩] X.env)).any (·.1.isNone) = false := by rfl)
    (h5 : (backToKw pos (keywordEach [⟨some "reverse", .Constant (.bool true) 0 cp, kp⟩] X.env)).filterMap (·.1) = [Str.ofString "reverse"] := by rfl) :
    QE X C W (.Call (.Name "sorted" p) [e] [⟨some "reverse", .Constant (.bool true) 0 cp, kp⟩] pos) (gSortR g) := by
  obtain ⟨te, pe, qe⟩ := he
  refine ⟨_, pe_callBK (cr_sortedRev (b := true)) hg hm hv (pa_cons pe pa_nil hs) (pk_cons pe_bl pk_nil) (by decide) (by decide) h1 h2 h3 h4 h5, fun σ H Z ι Γ M Q sl hr h => qe σ H Z ι Γ M _ sl hr (h.bind fun x M1 v H1 Z1 ι1 e1 hr1 r1 h1 => ?_)⟩
  obtain ⟨d, hd, h2⟩ := Post.of_opR (γ := D) (δ := V) h1
  obtain ⟨a, is, rfl, s, e2⟩ := ofInts_run hr1 r1 hd
  cases e2
  refine ⟨a, is, rfl, rfl, s, fun ns' p h1 h2' hp => ?_⟩
  have o : ns'.Pairwise (· ≥ ·) := h2'
  have e : ns'.reverse = srtI is := ord_one ((List.reverse_perm ns').trans (h1.trans (srtI_perm is).symm)) (List.pairwise_reverse.mpr o) (srtI_ord is)
  have e' : ns' = (srtI is).reverse := by rw [← e, List.reverse_reverse]
  rw [e']
  exact After.lst (X := X) (M := M1) (Q := Q) (fun v H' Z' e' hr' r' => h2 v H' Z' ι1 e' hr' r') hr1 (rps_ints _) p hp
end
@[simp] theorem u_gRd1 (f : List MO → D → D → Option D) (go ge : GE) (Γ : Env) (M : List MO) : gRd1 f go ge Γ M = (go Γ M).bind fun x M1 => if isListD M1 x = true then (ge Γ M1).bind fun y M2 => opR (f M2 x y) M2 else .bad := Eq.trans rfl rfl
@[simp] theorem u_gRevL (ge : GE) (Γ : Env) (M : List MO) : gRevL ge Γ M = (ge Γ M).bind fun x M1 => opR (dRevL M1 x) M1 := Eq.trans rfl rfl
@[simp] theorem u_gSortR (ge : GE) (Γ : Env) (M : List MO) : gSortR ge Γ M = (ge Γ M).bind fun x M1 => opR (dSortR M1 x) M1 := Eq.trans rfl rfl
@[simp] theorem e_abs (M : List MO) (i : Int) : dAbs M (.int i) = some (.int (if i < 0 then -i else i)) := Eq.trans rfl rfl
theorem e_sort (M : List MO) (is : List Int) : dSort M (.lst (is.map D.int)) = some (.lst ((srtI is).map D.int)) := by
  simp only [dSort, ofInts, listD, Option.bind_some, intsD_map]
theorem e_sortR (M : List MO) (is : List Int) : dSortR M (.lst (is.map D.int)) = some (.lst ((srtI is).reverse.map D.int)) := by
  simp only [dSortR, ofInts, listD, Option.bind_some, intsD_map]
theorem e_cnt (M : List MO) (is : List Int) (k : Int) : dCnt M (.lst (is.map D.int)) (.int k) = some (.int (is.count k : Nat)) := by
  simp only [dCnt, listD, Option.bind_some, intsD_map]
@[simp] theorem e_revL (M : List MO) (ds : List D) : dRevL M (.lst ds) = some (.lst ds.reverse) := Eq.trans rfl rfl
@[simp] theorem e_clear (ds : List D) : mClear ds = some ([], .non) := Eq.trans rfl rfl
end Bk

set_option Elab.async false
set_option linter.all false
set_option maxRecDepth 100000
set_option maxHeartbeats 2000000
namespace Bk
open PySem PySem.Spec PyProof.Rows L2
/-! ### defs that work on the caller's whole store: things within things go in and come back -/
def finW : RS → R D
  | .rt d M' => .ok d M'
  | .nx _ M' => .ok .non M'
  | .exc c d _ M' => .exc c d M'
  | _ => .bad
def runW (n : Nat) (g : GS) (ds : List D) (M : List MO) : R D := finW (g (ds.map some ++ List.replicate (n - ds.length) none) M)
def callW (F : List D → List MO → R D) (ds : List D) (M : List MO) : R D := F ds M
def gCallW (n : Nat) (F : List D → List MO → R D) (ga : GA) : GE := fun Γ M => (ga Γ M).bind fun ds M1 => if ds.length = n then callW F ds M1 else .bad
def gCallWK (n : Nat) (F : List D → List MO → R D) (is : List Nat) (ga gk : GA) : GE := fun Γ M => (ga Γ M).bind fun ds M1 => (gk Γ M1).bind fun es M2 => if (pick (ds ++ es) is).length = n then callW F (pick (ds ++ es) is) M2 else .bad
section
variable {K : PySem.W.Frag} {C : CT} {H Z : Hp} {ι : Nat → Addr} {M : List MO} {E : XK} {Q : VK}
theorem finW_run {X : Cx} {W : WX} {r : RS} (hW : ∀ c d σ H, E c d H → W c d σ H) (eK : X.K = K) (h : PostF K C E H Z ι M (finW r) Q) : PostS X C W H Z ι M r { nx := fun _ H' => Q .non H', rt := Q } := by
  subst eK
  cases r with
  | bad => exact h
  | bk Γ M' => exact h.elim
  | ct Γ M' => exact h.elim
  | nx Γ M' => exact fun σ' H' Z' ι' e hr sl => h .non H' Z' ι' e hr .non
  | rt d M' => exact fun v H' Z' ι' e hr r => h v H' Z' ι' e hr r
  | exc n d Γ M' => exact fun cls dd σ' H' Z' ι' e hr sl x => hW _ _ _ _ (h cls dd H' Z' ι' e hr x)
end
section
variable {P : Program} {w : World} {K : PySem.W.Frag} {mg : Str → Option Value} {base : Heap} {C : CT}
/-- a def whose store stays whole -/
theorem fqW_of {x qual : Str} {st : Stmt} {f : Addr} {fd : FuncData} {N ps : List Str} {k : Nat} {g : GS} (F : Fun K x qual st f fd) (S : FnScope N ps (defScope st))
    (hbody : ∀ (cdv : Value) (A : Around) (outer : List PySem.Env) (s : Shared) (H : Hp) (E : XK), Room k (A.deeper (envOfC qual (defScope st) s.heap.objs.size f cdv)) → A.guards = some [] →
      QSs (cxOf (L2.CX P w) P w K mg base N qual (defScope st) f cdv A outer s H E) C (fun cls d _ H => E cls d H) (defBody st) g) : FnQ P w K mg base C (k + 1) f fd ps (runW N.length g) := by
  obtain ⟨oc, od, kV, doc, pm, an, cdv, ct, osl, rfl, lk, hcd⟩ := F.ex
  refine ⟨fun A outer s H args us vs Q E ds Z ι M room hgu env0 hbind rvs hlen rds hr hpost => ?_⟩
  have hK : K.In s.heap := env0.mod.kin.keeps fun b o z => (env0.bs b o z).1
  have hlim : s.heap.NoLimit := env0.mod.nolimit.keeps fun b o z => (env0.bs b o z).1
  have kinds : ∀ y ∈ ps.zip us, (defScope st).names.lookup y.1 = some .local ∨ ((defScope st).names.lookup y.1 = some .cell ∧ ((cellsFrom (s.heap.objs.size + 1) (defScope st).names []).lookup y.1).isSome = true) := fun y hy => by
    rcases S.par y.1 (List.of_mem_zip (a := y.1) (b := y.2) hy).1 with z | z
    · exact .inl z
    · exact .inr ⟨z, PySem.W.cellsFrom_some _ _ _ (.inl z)⟩
  refine codeAny_call_function room.depth (hK _ _ lk) rfl S.co S.gen rfl (PySem.W.codeRec_of hK hcd) (hbind _ _ _ _ (wpAny_newFunctionEnv_cells S.kind kinds fun env he s1 ic => ?_))
  subst he
  refine ⟨hlim.keeps ic.toInCall.keep, codeAny_func ?_⟩
  obtain ⟨ts, pts, qts⟩ := hbody cdv A outer s H E (room.deeper _) hgu
  have J : Inv (cxOf (L2.CX P w) P w K mg base N qual (defScope st) f cdv A outer s H E) [] (L2.start N vs) H s1 := inv_start S room.hd env0 hlen rvs ic
  have lN : vs.length ≤ N.length := by
    have z := congrArg List.length S.pre
    rw [List.length_take] at z
    omega
  have hq := qts _ (L2.start N vs) H Z ι _ M (slots_start rds lN) hr (finW_run (E := E) (fun _ _ _ _ z => z) rfl hpost)
  refine wpAny_mono (pts.run [] s1 _ H _ J hq) (fun fl s' hs => ?_) fun _ _ hs => hs
  have ends : ∀ {σ' : L2.St} {H' : Hp} {v : V} {u : Value}, Inv (cxOf (L2.CX P w) P w K mg base N qual (defScope st) f cdv A outer s H E) [] σ' H' s' → RelV v u → Q v H' → CE outer P w H s Q u s' :=
    fun {σ' H' v u} J2 rv q => ⟨v, H', J2.os, J2.bare, J2.base, J2.hok, rv, q⟩
  cases fl with
  | ret u => exact let ⟨v, σ', H', J2, rv, q⟩ := hs; ends J2 rv q
  | next => exact let ⟨σ', H', J2, q⟩ := hs; ends (v := V.non) (u := Value.none) J2 rfl q
  | brk => exact let ⟨_, _, _, q⟩ := hs; q.elim
  | cont => exact let ⟨_, _, _, q⟩ := hs; q.elim
end
section
variable {X : Cx} {C : CT} {W : WX} {k : Nat} {f : Addr} {fd : FuncData} {ps : List Str} {F : List D → List MO → R D} {x : Str} {p pos : Pos} {e : Expr} {es : List Expr} {gs : GA}
theorem whole_post {σ : St} {H Z : Hp} {ι : Nat → Addr} {ds : List D} {vs : List V} {M : List MO} {Q : VK} (hr : HR X.K H Z ι M) (r : Rps X.K Z ι M.length ds vs) (hl : vs.length = ps.length) (h : Post X C W (rpE X.K) σ H Z ι M (callW F ds M) Q) : rCallQ X.K C ps F (WE W σ) vs H Q := by
  refine ⟨hl, ds, Z, ι, M, r, hr, ?_⟩
  have h' : Post X C W (rpE X.K) σ H Z ι M (F ds M) Q := h
  cases e : F ds M with
  | bad => rw [e] at h'; exact h'.elim
  | ok d M' => rw [e] at h'; exact h'
  | exc c d M' => rw [e] at h'; exact h'
theorem qe_callW {n : Nat} (F0 : FnQ X.prog X.w X.K X.mg X.base C k f fd ps F) (hr : Room k X.A) (hgu : X.A.guards = some []) (tk : Takes X W) (hg : Gl X x) (hm : X.mg x = some (.ref f)) (hk : PySem.W.keepIn X.K (.ref f) = true) (hb : Binds X.K fd ps []) (ha : QA X C W (e :: es) gs) (hn : n = ps.length := by rfl)
    (hdb : (x == ("__debug__" : Str)) = false := by decide) (he : starEach (e :: es) X.env = (false, eval e X.env) :: starEach es X.env := by rfl) (hpl : (backTo pos (starEach es X.env)).any (·.1) = false := by rfl) :
    QE X C W (.Call (.Name x p) (e :: es) [] pos) (gCallW n F gs) := by
  subst hn
  obtain ⟨ta, pa, qa⟩ := ha
  refine ⟨fun σ H Q => ta σ H fun vs H1 => rCallQ X.K C ps F (WE W σ) vs H1 Q, ⟨fun pins s σ H Q I h => wpAny_Call_Name_kw (ld_glob I hg hm ?_ hdb)⟩, fun σ H Z ι Γ M Q sl hr h => qa σ H Z ι Γ M _ sl hr (h.bind fun ds M1 vs H1 Z1 ι1 e1 hr1 r1 h1 => ?_)⟩
  · refine PySem.W.callWith_K (h₀ := X.base) I.ok.mod.kin hk (thn (pa.run pos pins s σ H _ I h) fun us s1 hh => ?_) he hpl
    obtain ⟨vs, H1, J, r, q⟩ := hh
    have hl : us.length = ps.length := r.length.symm.trans q.1
    have hbb := hb s1 us J.kIn (by rw [List.append_nil]; exact hl)
    rw [List.append_nil] at hbb
    exact ⟨J.kIn, run_call F0 hr hgu tk J hbb r q⟩
  · by_cases c : ds.length = ps.length
    · rw [if_pos c] at h1
      exact whole_post hr1 r1 (by rw [← r1.length]; exact c) h1
    · rw [if_neg c] at h1
      exact h1.elim
variable {kws : List Keyword} {gk : GA} {ks : List Str} {is : List Nat} {np : Nat}
/-- f(k = v, ..) -/
theorem qe_callWK0 {n : Nat} (F0 : FnQ X.prog X.w X.K X.mg X.base C k f fd ps F) (hr : Room k X.A) (hgu : X.A.guards = some []) (tk : Takes X W) (hg : Gl X x) (hm : X.mg x = some (.ref f)) (hk : PySem.W.keepIn X.K (.ref f) = true) (hb : KwBinds X.K fd ps ks 0 is) (hkw : QK X C W kws gk)
    (hlen : ∀ (Γ : Env) (M M' : List MO) (ds : List D), gk Γ M = .ok ds M' → ds.length = ks.length) (hn : n = ps.length := by rfl)
    (hall : (backToKw pos (keywordEach kws X.env)).all (·.1.isSome) = true := by rfl) (hks : (backToKw pos (keywordEach kws X.env)).filterMap (·.1) = ks := by rfl) (hdb : (x == ("__debug__" : Str)) = false := by decide)
    (hpl : ((backTo pos (starEach [] X.env)).any (·.1) || (backToKw pos (keywordEach kws X.env)).any (·.1.isNone)) = false := by rfl) :
    QE X C W (.Call (.Name x p) [] kws pos) (gCallWK n F is gNil gk) := by
  subst hn
  obtain ⟨tk', pk, qk⟩ := hkw
  refine ⟨fun σ H Q => tk' σ H fun zs H2 => zs.length = ks.length ∧ rCallQ X.K C ps F (WE W σ) (pick zs is) H2 Q, ⟨fun pins s σ H Q I h => wpAny_Call_Name_kw (ld_glob I hg hm ?_ hdb)⟩, fun σ H Z ι Γ M Q sl hr h => ?_⟩
  · refine PySem.W.callWith_KW0 (h₀ := X.base) I.ok.mod.kin hk hall (thn (pk.run pos pins s σ H _ I h) fun ws s2 hh => ?_) hpl
    obtain ⟨zs, H2, J, r, hz, q⟩ := hh
    have hl : ws.length = ks.length := r.length.symm.trans hz
    refine ⟨J.kIn, ?_⟩
    rw [hks]
    exact run_call (us := []) F0 hr hgu tk J (by simpa using hb s2 [] ws J.kIn rfl hl) (vals_pick r is) q
  · have h1 : Post X C W (rpE X.K) σ H Z ι M ((gk Γ M).bind fun es M2 => if (pick ([] ++ es) is).length = ps.length then callW F (pick ([] ++ es) is) M2 else .bad) Q := h
    cases eg : gk Γ M with
    | bad => rw [eg] at h1; exact h1.elim
    | exc c d M' =>
      refine qk σ H Z ι Γ M _ sl hr ?_
      rw [eg] at h1 ⊢
      exact h1
    | ok es M' =>
      refine qk σ H Z ι Γ M _ sl hr ?_
      have hle := hlen _ _ _ _ eg
      rw [eg] at h1 ⊢
      intro vs H1 Z1 ι1 e1 hr1 r1
      have h2 : Post X C W (rpE X.K) σ H Z ι M (if (pick es is).length = ps.length then callW F (pick es is) M' else .bad) Q := h1
      have r2 := rps_pick r1 is
      refine ⟨by rw [← r1.length]; exact hle, ?_⟩
      by_cases c : (pick es is).length = ps.length
      · rw [if_pos c] at h2
        exact whole_post hr1 r2 (by rw [← r2.length]; exact c) (Post.shift h2 e1 hr1)
      · rw [if_neg c] at h2
        exact h2.elim
end
@[simp] theorem u_gCallW (n : Nat) (F : List D → List MO → R D) (ga : GA) (Γ : Env) (M : List MO) : gCallW n F ga Γ M = (ga Γ M).bind fun ds M1 => if ds.length = n then callW F ds M1 else .bad := Eq.trans rfl rfl
@[simp] theorem u_gCallWK (n : Nat) (F : List D → List MO → R D) (is : List Nat) (ga gk : GA) (Γ : Env) (M : List MO) : gCallWK n F is ga gk Γ M = (ga Γ M).bind fun ds M1 => (gk Γ M1).bind fun es M2 => if (pick (ds ++ es) is).length = n then callW F (pick (ds ++ es) is) M2 else .bad := Eq.trans rfl rfl
@[simp] theorem fw_rt (d : D) (M : List MO) : finW (.rt d M) = .ok d M := Eq.trans rfl rfl
@[simp] theorem fw_nx (Γ : Env) (M : List MO) : finW (.nx Γ M) = .ok .non M := Eq.trans rfl rfl
@[simp] theorem fw_ex (c : Nat) (d : D) (Γ : Env) (M : List MO) : finW (.exc c d Γ M) = .exc c d M := Eq.trans rfl rfl
end Bk

set_option Elab.async false
set_option linter.all false
set_option maxRecDepth 100000
set_option maxHeartbeats 2000000
namespace Bk
open PySem PySem.Spec PyProof.Rows L2
/-! ### keys -/
mutual
/-- the key that a tree is -/
def keyD : D → Option NestedKey
  | .non => some .none
  | .int i => some (.num i)
  | .tup ds => (keysD ds).map .tup
  | .ptu ds => (keysD ds).map .tup
  | _ => none
def keysD : List D → Option (List NestedKey)
  | [] => some []
  | d :: ds => match keyD d, keysD ds with
    | some k, some ks => some (k :: ks)
    | _, _ => none
end
section
variable {K : PySem.W.Frag} {H Z : Hp} {ι : Nat → Addr} {n : Nat}
mutual
theorem keyD_run (hz : Sub Z H) : ∀ (d : D) (v : V) (k : NestedKey), Rp K Z ι n d v → keyD d = some k → KeyV K H k v
  | .non, _, _, h, e => by cases h; cases e; exact .non
  | .bl _, _, _, _, e => by cases e
  | .int i, _, _, h, e => by cases h; cases e; exact .int i
  | .str _, _, _, _, e => by cases e
  | .tup ds, _, _, h, e => by
    cases h with
    | tup s r =>
      have e' : (keysD ds).map NestedKey.tup = some _ := e
      cases e2 : keysD ds with
      | none => rw [e2] at e'; cases e'
      | some ks =>
        rw [e2] at e'
        cases e'
        exact .tup (subT hz s) (keysD_run hz ds _ ks r e2)
  | .lst _, _, _, _, e => by cases e
  | .ref _, _, _, _, e => by cases e
  | .dct _ _, _, _, _, e => by cases e
  | .ptu ds, _, _, h, e => by
    cases h with
    | ptu s r =>
      have e' : (keysD ds).map NestedKey.tup = some _ := e
      cases e2 : keysD ds with
      | none => rw [e2] at e'; cases e'
      | some ks =>
        rw [e2] at e'
        cases e'
        exact .tup (subT hz s.sq) (keysD_run hz ds _ ks r e2)
theorem keysD_run (hz : Sub Z H) : ∀ (ds : List D) (vs : List V) (ks : List NestedKey), Rps K Z ι n ds vs → keysD ds = some ks → KeyVs K H ks vs
  | [], _, _, h, e => by cases h; cases e; exact .nil
  | d :: ds, _, _, h, e => by
    cases h with
    | cons r s =>
      have e' : (match keyD d, keysD ds with
        | some k, some ks => some (k :: ks)
        | _, _ => none) = some _ := e
      cases e1 : keyD d with
      | none => rw [e1] at e'; cases e'
      | some k =>
        cases e2 : keysD ds with
        | none => rw [e1, e2] at e'; cases e'
        | some ks =>
          rw [e1, e2] at e'
          cases e'
          exact .cons (keyD_run hz d _ k r e1) (keysD_run hz ds _ ks s e2)
end
end
section
variable {X : Cx} {pins : List (Addr × Obj)} {σ : L2.St} {H : Hp} {s : Shared}
mutual
theorem KeyV.is (I : Inv X pins σ H s) : ∀ (k : NestedKey) (v : V) (u : Value), KeyV X.K H k v → RelV v u → NestedIs s.heap k u
  | .none, _, _, h, r => by
    cases h
    have r' : _ = Value.none := r
    rw [r']
    exact .none
  | .num i, _, _, h, r => by
    cases h
    obtain ⟨t, rfl⟩ := r
    exact .int i t
  | .text _, _, _, h, _ => by cases h
  | .tup ks, _, _, h, r => by
    cases h with
    | tup sq kv =>
      have r' : _ = Value.ref _ := r
      rw [r']
      obtain ⟨its, rv, ⟨o, ho, hc, m, hd⟩, _⟩ := I.tuple sq
      exact .tup ho hc hd (by simpa using KeyVs.is I ks _ _ kv rv)
theorem KeyVs.is (I : Inv X pins σ H s) : ∀ (ks : List NestedKey) (vs : List V) (us : List Value), KeyVs X.K H ks vs → Vals vs us → NestedAll s.heap ks us
  | [], _, _, h, r => by
    cases h
    cases r
    exact .nil
  | k :: ks, _, _, h, r => by
    cases h with
    | cons h1 h2 =>
      cases r with
      | cons r1 r2 => exact .cons (KeyV.is I k _ _ h1 r1) (KeyVs.is I ks _ _ h2 r2)
end
abbrev NK (X : Cx) := nestedKind X.prog X.w
/-- a dict as the library tells of it -/
theorem Ents.trip (I : Inv X pins σ H s) : ∀ {nks : List NestedKey} {ks vs : List V} {es : List DictEntry}, Ents X.K H nks ks vs es → AllRef ks →
    ∃ xs : List (NestedKey × Addr × Value), es = xs.map (entryOfKey (NK X)) ∧ xs.map (·.1) = nks ∧ (∀ x ∈ xs, (NK X).is s.heap x.1 x.2.1) ∧ xs.length = vs.length ∧ ∀ (i : Nat) (v : V), vs[i]? = some v → ∃ x, xs[i]? = some x ∧ RelV v x.2.2
  | _, _, _, _, .nil, _ => ⟨[], rfl, rfl, by simp, rfl, by simp⟩
  | _, _, _, _, .cons (k := k) (y := y) (ku := ku) (v := v) (u := u) (hs := hs) a ry d h r t, hr => by
    obtain ⟨xs, e1, e2, e3, e4, e5⟩ := Ents.trip I t fun x hx => hr x (List.mem_cons_of_mem _ hx)
    obtain ⟨b, rfl⟩ := hr y (List.mem_cons_self)
    obtain rfl : ku = Value.ref b := ry
    refine ⟨(k, b, u) :: xs, ?_, by simp [e2], fun x hx => ?_, by simp [e4], fun i w hw => ?_⟩
    · rw [List.map_cons, ← e1]
      congr 1
      show (⟨hs, .ref b, u⟩ : DictEntry) = ⟨k.hash X.w, .ref b, u⟩
      rw [h X.w]
    · rcases List.mem_cons.mp hx with rfl | hx
      · exact ⟨KeyV.is I k _ _ a rfl, d⟩
      · exact e3 x hx
    · cases i with
      | zero =>
        have : v = w := by simpa using hw
        subst this
        exact ⟨(k, b, u), rfl, r⟩
      | succ i =>
        obtain ⟨x, hx, rx⟩ := e5 i w (by simpa using hw)
        exact ⟨x, by simpa using hx, rx⟩
theorem ExD.of (I : Inv X pins σ H s) {a : Addr} {nks : List NestedKey} {ks vs : List V} (h : ExD X.K H a nks ks vs) (hrf : AllRef ks) :
    ∃ xs : List (NestedKey × Addr × Value), s.heap.DictOfH (NK X) a xs ∧ xs.map (·.1) = nks ∧ xs.length = vs.length ∧ ∀ (i : Nat) (v : V), vs[i]? = some v → ∃ x, xs[i]? = some x ∧ RelV v x.2.2 := by
  obtain ⟨es, ep, h1, h2, h3, h4, h5⟩ := h
  obtain ⟨xs, e1, e2, e3, e4, e5⟩ := Ents.trip I h5 hrf
  obtain ⟨⟨o, ho, hx, hd⟩, _, _⟩ := I.hok a _ h1
  exact ⟨xs, ⟨o, es, ep, ho, hx, hd, e1, e3, by rw [e2]; exact h4⟩, e2, e4, e5⟩
theorem atKey_at {xs : List (NestedKey × Addr × Value)} (hn : (xs.map (·.1)).Nodup) {i : Nat} {x : NestedKey × Addr × Value} (h : xs[i]? = some x) : atKey xs x.1 = some x.2 := by
  induction xs generalizing i with
  | nil => simp at h
  | cons y ys ih =>
    rw [List.map_cons, List.nodup_cons] at hn
    unfold atKey
    rw [List.find?_cons]
    cases i with
    | zero =>
      have : y = x := by simpa using h
      subst this
      simp
    | succ i =>
      have h' : ys[i]? = some x := by simpa using h
      have ne : y.1 ≠ x.1 := fun e => hn.1 (by rw [e]; exact List.mem_map.mpr ⟨x, List.mem_of_getElem? h', rfl⟩)
      simp only [decide_eq_false ne]
      exact ih hn.2 h'
theorem atKey_none {xs : List (NestedKey × Addr × Value)} {k : NestedKey} (h : k ∉ xs.map (·.1)) : atKey xs k = none := by
  unfold atKey
  rw [Option.map_eq_none_iff, List.find?_eq_none]
  intro x hx
  simp only [decide_eq_true_eq]
  exact fun e => h (e ▸ List.mem_map.mpr ⟨x, hx, rfl⟩)
end
theorem Ents.keys {K : PySem.W.Frag} {Z : Hp} : ∀ {nks : List NestedKey} {ks vs : List V} {es : List DictEntry}, Ents K Z nks ks vs es → KeyVs K Z nks ks ∧ ∃ us, Vals ks us
  | _, _, _, _, .nil => ⟨.nil, [], .nil⟩
  | _, _, _, _, .cons (ku := ku) a ry d h r t => by
    obtain ⟨h1, us, h2⟩ := Ents.keys t
    exact ⟨.cons a h1, ku :: us, .cons ry h2⟩
theorem ExD.keys {X : Cx} {pins : List (Addr × Obj)} {σ : L2.St} {H : Hp} {s : Shared} (I : Inv X pins σ H s) {a : Addr} {nks nks' : List NestedKey} {ks vs : List V} (h : ExD X.K H a nks ks vs) (h' : KeyVs X.K H nks' ks) : nks = nks' := by
  obtain ⟨es, ep, h1, h2, h3, h4, h5⟩ := h
  obtain ⟨k1, us, k2⟩ := h5.keys
  exact NestedAll.inj _ _ _ (KeyVs.is I _ _ _ k1 k2) (KeyVs.is I _ _ _ h' k2)
def posK (k : NestedKey) : List NestedKey → Option Nat
  | [] => none
  | x :: xs => if x = k then some 0 else (posK k xs).map (· + 1)
theorem posK_at {k : NestedKey} : ∀ {xs : List NestedKey} {i : Nat}, posK k xs = some i → xs[i]? = some k
  | [], _, h => by cases h
  | x :: xs, i, h => by
    unfold posK at h
    by_cases e : x = k
    · rw [if_pos e] at h
      cases h
      rw [e]
      rfl
    · rw [if_neg e] at h
      cases p : posK k xs with
      | none => rw [p] at h; cases h
      | some j =>
        rw [p] at h
        cases h
        simpa using posK_at p
theorem posK_none {k : NestedKey} : ∀ {xs : List NestedKey}, posK k xs = none → k ∉ xs
  | [], _ => by simp
  | x :: xs, h => by
    unfold posK at h
    by_cases e : x = k
    · rw [if_pos e] at h; cases h
    · rw [if_neg e] at h
      cases p : posK k xs with
      | some j => rw [p] at h; cases h
      | none =>
        intro m
        rcases List.mem_cons.mp m with z | z
        · exact e z.symm
        · exact posK_none p z
/-! ### d[k] -/
def rIxN (K : PySem.W.Frag) : R2 := fun x y H Q => ∃ (a b : Addr) (nks nks' : List NestedKey) (ks vs : List V) (k : NestedKey) (i : Nat) (v : V), x = .ref a ∧ y = .ref b ∧ AllRef ks ∧ ExD K H a nks ks vs ∧ KeyVs K H nks' ks ∧ KeyV K H k (.ref b) ∧ k.depth ≤ 8 ∧ nks'[i]? = some k ∧ vs[i]? = some v ∧ Q v H
theorem room8 {k : Nat} {A : Around} (hr : Room k A) : A.units + 1 + 8 < cLine := by have := hr.un; omega
theorem ix_nkey {X : Cx} (hu : X.A.units + 1 + 8 < cLine) : IxR X (rIxN X.K) := by
  intro value slice pins s σ H x y v u Q I rx ry h hs
  obtain ⟨a, b, nks, nks', ks, vs, k, i, w, rfl, rfl, hrf, hd, hks, hk, hdp, hi, hv, q⟩ := h
  obtain rfl : v = Value.ref a := rx
  obtain rfl : u = Value.ref b := ry
  have en := hd.keys I hks
  subst en
  obtain ⟨xs, dd, e2, e4, e5⟩ := hd.of I hrf
  obtain ⟨x, hx, rx⟩ := e5 i w hv
  have n : xs.map (·.1) = nks := e2
  have kx : x.1 = k := by
    have : (xs.map (·.1))[i]? = some x.1 := by rw [List.getElem?_map, hx]; rfl
    rw [n, hi] at this
    exact (Option.some.inj this).symm
  have nd : (xs.map (·.1)).Nodup := by
    obtain ⟨_, _, _, _, _, _, _, _, z⟩ := dd
    exact z
  have ak := atKey_at nd hx
  rw [kx] at ak
  have hkey : (NK X).is s.heap k b := ⟨KeyV.is I k _ _ hk rfl, hdp⟩
  exact tail_any dd.typeIs slot_dict_getitem.lookup (wpAny_getItem_heap (show (NK X).room X.A.in1 from hu) hkey dd ak ⟨w, H, I.tok _, rx, q⟩) hs
def isTup : D → Bool
  | .tup _ => true
  | .ptu _ => true
  | _ => false
/-- the place of a key, and the value there -/
def lookD (ks vs : List D) (y : D) : Option (Option D) := match keysD ks, keyD y with
  | some nks, some k => if (ks.all isTup && isTup y && decide (k.depth ≤ 8)) = true then some ((posK k nks).bind fun i => vs[i]?) else none
  | _, _ => none
/-- a dict, frozen or ours -/
def dctD (M : List MO) : D → Option (List D × List D)
  | .dct ks vs => some (ks, vs)
  | .ref k => match M[k]? with
    | some (.dct ks vs) => some (ks, vs)
    | _ => none
  | _ => none
def dIxN (M : List MO) (x y : D) : Option D := match dctD M x with
  | some p => (lookD p.1 p.2 y).bind id
  | none => dIx M x y
section
variable {X : Cx}
theorem dctD_run {H Z : Hp} {ι : Nat → Addr} {M : List MO} {d : D} {v : V} {p : List D × List D} (hr : HR X.K H Z ι M) (r : Rp X.K Z ι M.length d v) (e : dctD M d = some p) :
    ∃ (a : Addr) (nks : List NestedKey) (kx xs : List V), v = .ref a ∧ ExD X.K H a nks kx xs ∧ Rps X.K Z ι M.length p.1 kx ∧ Rps X.K Z ι M.length p.2 xs := by
  cases r with
  | dct s rk rv =>
    cases e
    exact ⟨_, _, _, _, rfl, subD hr.sub s, rk, rv⟩
  | ref hk =>
    rename_i k
    have e' : (match M[k]? with
      | some (.dct ks vs) => some (ks, vs)
      | _ => none) = some p := e
    cases e1 : M[k]? with
    | none => rw [e1] at e'; cases e'
    | some o =>
      rw [e1] at e'
      cases o with
      | dct ks vs =>
        cases e'
        obtain ⟨nks, kx, xs, ⟨es, ep, h1, h2, h3, h4, h5⟩, rk, rv⟩ := hr.obj k _ e1
        exact ⟨_, nks, kx, xs, rfl, ⟨es, ep, h1, h2, h3, h4, h5.sub hr.sub⟩, rk, rv⟩
      | _ => cases e'
  | _ => cases e
theorem tups_ref {Z : Hp} {ι : Nat → Addr} {n : Nat} : ∀ {ks : List D} {kx : List V}, Rps X.K Z ι n ks kx → ks.all isTup = true → AllRef kx
  | [], _, h, _ => by cases h; intro x hx; cases hx
  | d :: ks, _, h, e => by
    cases h with
    | cons r s =>
      rw [List.all_cons, Bool.and_eq_true] at e
      intro x hx
      rcases List.mem_cons.mp hx with rfl | hx
      · cases r with
        | tup _ _ => exact ⟨_, rfl⟩
        | ptu _ _ => exact ⟨_, rfl⟩
        | _ => cases e.1
      · exact tups_ref s e.2 x hx
theorem look_run {H Z : Hp} {ι : Nat → Addr} {M : List MO} {d dy : D} {x y : V} {p : List D × List D} {o : Option D} (hr : HR X.K H Z ι M) (rx : Rp X.K Z ι M.length d x) (ry : Rp X.K Z ι M.length dy y) (ed : dctD M d = some p) (e : lookD p.1 p.2 dy = some o) :
    ∃ (a b : Addr) (nks nks' : List NestedKey) (kx xs : List V) (k : NestedKey), x = .ref a ∧ y = .ref b ∧ AllRef kx ∧ ExD X.K H a nks kx xs ∧ KeyVs X.K H nks' kx ∧ KeyV X.K H k (.ref b) ∧ k.depth ≤ 8 ∧ Rps X.K Z ι M.length p.2 xs ∧ o = (posK k nks').bind fun i => p.2[i]? := by
  obtain ⟨a, nks, kx, xs, h1, h2, h3, h4⟩ := dctD_run hr rx ed
  unfold lookD at e
  cases e1 : keysD p.1 with
  | none => rw [e1] at e; cases e
  | some nks' =>
    cases e2 : keyD dy with
    | none => rw [e1, e2] at e; cases e
    | some k =>
      rw [e1, e2] at e
      simp only at e
      by_cases c : (p.1.all isTup && isTup dy && decide (k.depth ≤ 8)) = true
      · rw [if_pos c] at e
        cases e
        simp only [Bool.and_eq_true, decide_eq_true_eq] at c
        obtain ⟨⟨c1, c2⟩, c3⟩ := c
        have kv := keyD_run hr.sub _ _ _ ry e2
        have kvs := keysD_run hr.sub _ _ _ h3 e1
        cases dy with
        | tup ds =>
          cases ry with
          | tup sq r => exact ⟨_, _, _, nks', _, _, k, h1, rfl, tups_ref h3 c1, h2, kvs, kv, c3, h4, rfl⟩
        | ptu ds =>
          cases ry with
          | ptu sq r => exact ⟨_, _, _, nks', _, _, k, h1, rfl, tups_ref h3 c1, h2, kvs, kv, c3, h4, rfl⟩
        | _ => cases c2
      · rw [if_neg c] at e
        cases e
theorem ix_N (hu : X.A.units + 1 + 8 < cLine) : IxR X (fun x y H Q => rIxN X.K x y H Q ∨ rIxA X.K x y H Q) := (ix_nkey hu).or ix_A
theorem ok_ixN : Ok2 X (fun x y H Q => rIxN X.K x y H Q ∨ rIxA X.K x y H Q) dIxN := fun x y H Z ι M dx dy d Q hr rx ry e q => by
  unfold dIxN at e
  cases ed : dctD M dx with
  | some p =>
    rw [ed] at e
    simp only at e
    cases e1 : lookD p.1 p.2 dy with
    | none => rw [e1] at e; cases e
    | some o =>
      rw [e1] at e
      have e' : o = some d := e
      subst e'
      obtain ⟨a, b, nks, nks', kx, xs, k, h1, h2, h2', h3, h4, h5, h6, h7, h8⟩ := look_run hr rx ry ed e1
      cases p' : posK k nks' with
      | none => rw [p'] at h8; cases h8
      | some i =>
        rw [p'] at h8
        obtain ⟨v, hv, rv⟩ := h7.get (i := i) h8.symm
        exact .inl ⟨a, b, nks, nks', kx, xs, k, i, v, h1, h2, h2', h3, h4, h5, h6, posK_at p', hv, q.now hr rv⟩
  | none =>
    rw [ed] at e
    exact .inr (ok_ix x y H Z ι M dx dy d Q hr rx ry e q)
end
end Bk

set_option Elab.async false
set_option linter.all false
set_option maxRecDepth 100000
set_option maxHeartbeats 2000000
namespace Bk
open PySem PySem.Spec PyProof.Rows L2
/-! ### d[k] = v for a dict that is being made -/
section
variable {K : PySem.W.Frag} {Z Z' : Hp}
mutual
theorem KeyV.map (ht : ∀ (a : Addr) (xs : List V), SqT K Z a xs → SqT K Z' a xs) : ∀ (k : NestedKey) (v : V), KeyV K Z k v → KeyV K Z' k v
  | .none, _, h => by cases h; exact .non
  | .num i, _, h => by cases h; exact .int i
  | .text x, _, h => by cases h
  | .tup ks, _, h => by
    cases h with
    | tup s r => exact .tup (ht _ _ s) (KeyVs.map ht ks _ r)
theorem KeyVs.map (ht : ∀ (a : Addr) (xs : List V), SqT K Z a xs → SqT K Z' a xs) : ∀ (ks : List NestedKey) (vs : List V), KeyVs K Z ks vs → KeyVs K Z' ks vs
  | [], _, h => by cases h; exact .nil
  | k :: ks, _, h => by
    cases h with
    | cons r s => exact .cons (KeyV.map ht k _ r) (KeyVs.map ht ks _ s)
end
mutual
/-- no text in a key: its hash is the same in every world -/
theorem KeyV.free : ∀ (k : NestedKey) (v : V), KeyV K Z k v → ∀ w w' : World, k.hash w = k.hash w'
  | .none, _, _, _, _ => rfl
  | .num _, _, _, _, _ => rfl
  | .text _, _, h, _, _ => by cases h
  | .tup ks, _, h, w, w' => by
    cases h with
    | tup s r =>
      unfold NestedKey.hash
      rw [KeyVs.free ks _ r w w']
theorem KeyVs.free : ∀ (ks : List NestedKey) (vs : List V), KeyVs K Z ks vs → ∀ w w' : World, NestedKey.hashes w ks = NestedKey.hashes w' ks
  | [], _, _, _, _ => rfl
  | k :: ks, _, h, w, w' => by
    cases h with
    | cons r s =>
      unfold NestedKey.hashes
      rw [KeyV.free k _ r w w', KeyVs.free ks _ s w w']
end
theorem Ents.map (ht : ∀ (a : Addr) (xs : List V), SqT K Z a xs → SqT K Z' a xs) : ∀ {ks : List NestedKey} {kv vs : List V} {es : List DictEntry}, Ents K Z ks kv vs es → Ents K Z' ks kv vs es
  | _, _, _, _, .nil => .nil
  | _, _, _, _, .cons a y b c d e => .cons (KeyV.map ht _ _ a) y b c d (Ents.map ht e)
theorem Ents.snoc {k : NestedKey} {y : V} {ku : Value} {z : V} {r : Value} {hs : Int} (hk : KeyV K Z k y) (hy : RelV y ku) (hd : k.depth ≤ 8) (hh : ∀ w : World, hs = k.hash w) (hr : RelV z r) : ∀ {nks : List NestedKey} {ks vs : List V} {es : List DictEntry}, Ents K Z nks ks vs es →
    Ents K Z (nks ++ [k]) (ks ++ [y]) (vs ++ [z]) (es ++ [⟨hs, ku, r⟩])
  | _, _, _, _, .nil => .cons hk hy hd hh hr .nil
  | _, _, _, _, .cons a y b c d e => .cons a y b c d (Ents.snoc hk hy hd hh hr e)
/-- another value at a place -/
def setV (r : Value) : Nat → List DictEntry → List DictEntry
  | _, [] => []
  | 0, e :: es => ⟨e.hash, e.key, r⟩ :: es
  | i + 1, e :: es => e :: setV r i es
theorem Ents.setv {z : V} {r : Value} (hr : RelV z r) : ∀ (i : Nat) {nks : List NestedKey} {ks vs : List V} {es : List DictEntry}, Ents K Z nks ks vs es → Ents K Z nks ks (vs.set i z) (setV r i es)
  | i, _, _, _, _, .nil => by
    have : (([] : List V).set i z) = [] := rfl
    rw [this]
    cases i <;> exact .nil
  | 0, _, _, _, _, .cons a y b c d e => .cons a y b c hr e
  | i + 1, _, _, _, _, .cons a y b c d e => .cons a y b c d (Ents.setv hr i e)
end
theorem put_old {X : Cx} {k : NestedKey} {r : Value} : ∀ {xs : List (NestedKey × Addr × Value)} {i : Nat}, (xs.map (·.1)).Nodup → (xs.map (·.1))[i]? = some k → (xs.map (putAt k r)).map (entryOfKey (NK X)) = setV r i (xs.map (entryOfKey (NK X)))
  | [], i, _, h => by simp at h
  | x :: xs, 0, hn, h => by
    have e : x.1 = k := by simpa using h
    rw [List.map_cons, List.nodup_cons] at hn
    have rest : xs.map (putAt k r) = xs := by
      conv => rhs; rw [← List.map_id xs]
      apply List.map_congr_left
      intro y hy
      have : y.1 ≠ k := fun z => hn.1 (by rw [e, ← z]; exact List.mem_map.mpr ⟨y, hy, rfl⟩)
      unfold putAt
      rw [if_neg this]
      rfl
    rw [List.map_cons, rest, List.map_cons, List.map_cons]
    unfold putAt setV
    rw [if_pos e]
    rfl
  | x :: xs, i + 1, hn, h => by
    rw [List.map_cons, List.nodup_cons] at hn
    have h' : (xs.map (·.1))[i]? = some k := by simpa using h
    have ne : x.1 ≠ k := fun z => hn.1 (by rw [z]; exact List.mem_of_getElem? h')
    have ih := put_old (X := X) (r := r) hn.2 h'
    rw [List.map_cons, List.map_cons, ih]
    unfold putAt
    rw [if_neg ne]
    rfl
section
variable {X : Cx} {pins : List (Addr × Obj)} {σ : L2.St} {H : Hp} {s : Shared}
theorem sqt_upd {D a : Addr} {φ : Heap → Prop} {o : HO} {xs : List V} (hD : H D = some (.ext φ)) (h : SqT X.K H a xs) : SqT X.K (upd H D o) a xs := by
  have ne : ∀ {b : Addr} {u : HO}, H b = some u → (∀ ψ, u ≠ .ext ψ) → upd H D o b = some u := fun {b u} e q => by
    rw [upd_ne (fun z => by rw [z, hD] at e; exact q φ (Option.some.inj e).symm)]
    exact e
  rcases h with (e | ⟨ob, e⟩) | q
  · exact .inl (.inl (ne e (fun _ z => by cases z)))
  · exact .inl (.inr ⟨ob, ne e (fun _ z => by cases z)⟩)
  · exact .inr q
theorem dn_set {E : Value → Shared → Prop} {D b : Addr} {es : Array DictEntry} {ep : Nat} {nks : List NestedKey} {ks vs : List V} {k : NestedKey} {z : V} {r : Value} {Q : Unit → Shared → Prop} (hu : X.A.units + 8 < cLine) (I : Inv X pins σ H s) (hD : H D = some (dnO D es ep)) (hs : (D == sysModules) = false) (hrf : AllRef ks)
    (he : Ents X.K H nks ks vs es.toList) (hn : nks.Nodup) (hz : vs.length < sizeLine) (hk : KeyV X.K H k (.ref b)) (hd : k.depth ≤ 8) (hr : RelV z r)
    (h : ∀ (s' : Shared) (es' : Array DictEntry) (ep' : Nat), Inv X pins σ (upd H D (dnO D es' ep')) s' →
      (match posK k nks with
        | some i => es'.toList = setV r i es.toList
        | none => es'.toList = es.toList ++ [⟨k.hash X.w, .ref b, r⟩]) → Q () s') : wpAny (model X.prog X.w) X.A (dictSet D (.ref b) r) Q E s := by
  obtain ⟨xs, e1, e2, e3, e4, e5⟩ := Ents.trip I he hrf
  obtain ⟨⟨o, ho, hx, hdat⟩, _, _⟩ := I.hok D _ hD
  have nd : (xs.map (·.1)).Nodup := by rw [e2]; exact hn
  have dd : s.heap.DictOfH (NK X) D xs := ⟨o, es, ep, ho, hx, hdat, e1, e3, nd⟩
  have hkey : (NK X).is s.heap k b := ⟨KeyV.is I k _ _ hk rfl, hd⟩
  refine wpAny_dictSet_heap (show (NK X).room X.A from hu) hkey dd (fun h' dd' sb => ?_) (by omega)
  obtain ⟨o', es', ep', ho', hx', hdat', e1', _, _⟩ := dd'
  have ok : ObjOk X.prog X.w (upd H D (dnO D es' ep')) h' D (dnO D es' ep') := ⟨⟨o', ho', hx', hdat'⟩, ⟨o', ho'⟩, fun h1 h2 ⟨u, hu1, hu2, hu3⟩ hk => ⟨u, hk u hu1, hu2, hu3⟩⟩
  refine h _ es' ep' (d_write I (by rw [hD]; exact True.intro) sb ⟨o', ho'⟩ ok) ?_
  cases p : posK k nks with
  | none =>
    have nk : k ∉ xs.map (·.1) := by rw [e2]; exact posK_none p
    rw [storedH_new (atKey_none nk), List.map_append, ← e1] at e1'
    exact e1'
  | some i =>
    have hi := posK_at p
    rw [← e2] at hi
    obtain ⟨x, hx1⟩ : ∃ x, xs[i]? = some x := by
      rw [List.getElem?_map] at hi
      cases hxx : xs[i]? with
      | none => rw [hxx] at hi; cases hi
      | some x => exact ⟨x, rfl⟩
    have kx : x.1 = k := by rw [List.getElem?_map, hx1] at hi; exact Option.some.inj hi
    have ak := atKey_at nd hx1
    rw [kx] at ak
    rw [storedH_old ak, put_old nd hi, ← e1] at e1'
    exact e1'
end
end Bk

set_option Elab.async false
set_option linter.all false
set_option maxRecDepth 100000
set_option maxHeartbeats 2000000
namespace Bk
open PySem PySem.Spec PyProof.Rows L2
/-! ### {k: v for t in it}, keys nested tuples: the dict in the making is an object of its own -/
/-- what one store asks: the dict as it stands, a key, and what holds behind it -/
def StepN (K : PySem.W.Frag) (H : Hp) (D : Addr) (y z : V) (Nx : Hp → Prop) : Prop :=
  ∃ (b : Addr) (es : Array DictEntry) (ep : Nat) (nks : List NestedKey) (ks vs : List V) (k : NestedKey), y = .ref b ∧ H D = some (dnO D es ep) ∧ AllRef ks ∧ Ents K H nks ks vs es.toList ∧ nks.Nodup ∧ vs.length < sizeLine ∧ KeyV K H k (.ref b) ∧ k.depth ≤ 8 ∧
    ∀ (es' : Array DictEntry) (ep' : Nat) (r : Value) (hs : Int), RelV z r → (∀ w : World, hs = k.hash w) → (match posK k nks with
      | some i => es'.toList = setV r i es.toList
      | none => es'.toList = es.toList ++ [⟨hs, .ref b, r⟩]) → Nx (upd H D (dnO D es' ep'))
def tDcN (K : PySem.W.Frag) (wi : TI) (g : TG) (tt : TT) (tk tv : TE) (vs : List Nat) : TE := fun σ H Q => wi σ H fun J H1 => ∀ D, H1 D = none → (D == sysModules) = false → ∃ Wv : Nat → Nat → Hp → Prop, (∃ m, Wv 0 m (upd H1 D (dnO D #[] 0))) ∧ ∀ i m H, Wv i m H →
  (J.stop i H ∧ Q (.ref D) H) ∨ (J.go i H ∧ ∃ Nx : Hp → Prop, (∀ H', Nx H' → ∃ m', m' < m ∧ Wv (i + 1) m' H') ∧ ∀ x H', J.yld i H x H' → g x (wipe σ vs) H' fun σ2 H2 => wipe σ2 vs = wipe σ vs ∧ tt σ2 H2 fun b H3 =>
    if b = true then tk σ2 H3 fun y H4 => tv σ2 H4 fun z H5 => StepN K H5 D y z Nx else Nx H3)
section
variable {X : Cx} {kx vx tg iter : Expr} {ifs : List Expr} {scope : Scope} {own : List (Str × Nat)} {pos : Pos} {wi : TI} {g : TG} {tt : TT} {tk tv : TE}
theorem dcN_core {pins : List (Addr × Obj)} {s : Shared} {σ : L2.St} {H : Hp} {Q : VK} {pos' : Pos} {use : Option (Value → Sem Unit)} {Qf : Value → Shared → Prop} (hu : X.A.units + 8 < cLine) (hc : X.calm = true) (hN : X.N.Nodup) (I : Inv X pins σ H s) (hi : PI X tg iter wi) (ok : BlkOk X.N X.env.scope scope own) (hg : Blk X scope fun Y => PG Y tg g) (ht : Blk X scope fun Y => PTs Y ifs tt) (hk : Blk X scope fun Y => PE Y kx tk) (he : Blk X scope fun Y => PE Y vx tv)
    (hs : ∀ x, foldedSetIterable iter X.env x = pure x) (h : tDcN X.K wi g tt tk tv (own.map (·.2)) σ H Q)
    (hRR : ∀ D C s' m H', Inv X pins σ H' s' → Q (.ref D) H' → s'.heap.Ns C m → FpOk X pins H' C → compPost (model X.prog X.w) X.A X.xe use Qf (.ref D) C (.ok .next) s') :
    wpAny (model X.prog X.w) X.A (comprehension (.DictComp kx vx [⟨tg, iter, ifs, 0⟩] scope pos) scope X.env pos' newDict false (eval iter X.env) use) Qf X.xe s := by
  have hfree : ∀ y ∈ scope.names, y.2 = .free → ∃ c, X.env.cells.lookup y.1 = some c := fun y hy e => (ok.free y hy e).elim (fun k => I.ok.has _ (.inl k)) fun k => I.ok.has _ (.inr k)
  refine wpAny_comprehension_free (use := use) rfl hs (closure_ok hfree) ok.kind (fun y hy e => by rw [ok.uniq y hy, e]) (thn (hi.run pins s σ H _ I h) fun xv s1 hx => thn hx fun itv s2 h2 => ?_)
  obtain ⟨it, fp, tn, J, H2, e, I2, T, st2, f2, q⟩ := h2
  subst e
  refine wpAny_newObj_type (newEnv_comp ?_)
  -- the dict
  have sm : (s2.heap.objs.size == sysModules) = false := (dk_empty (P := X.prog) (w := X.w) (H := H2) s2.heap I2.big).2.1
  generalize hD : s2.heap.objs.size = D at sm ⊢
  have hDn : H2 D = none := I2.hok.fresh (Nat.le_of_eq hD)
  obtain ⟨Wv, ⟨m0, w0⟩, turn⟩ := q D hDn sm
  have hnew : (s2.heap.push { cls := .type "dict", data := .dict #[] }).get? D = some { cls := .type "dict", data := .dict #[] } := by rw [← hD]; exact Heap.get?_push_size _ rfl
  generalize hs3 : ({ s2 with heap := s2.heap.push { cls := .type "dict", data := .dict #[] } } : Shared) = s3
  have e3 : s3.heap = s2.heap.push { cls := .type "dict", data := .dict #[] } := by rw [← hs3]
  have kp3 : ∀ b o, s2.heap.get? b = some o → s3.heap.get? b = some o := fun b o e => by rw [e3]; exact Heap.get?_push_of_some _ e
  have I3 : Inv X pins σ (upd H2 D (dnO D #[] 0)) s3 := by
    rw [← hs3]
    refine I2.laid (t' := s2.toks) (fun b o e => Heap.get?_push_of_some _ e) (Nat.le_of_eq hD) ?_
    exact ⟨⟨_, hnew, ⟨rfl, rfl, rfl⟩, rfl⟩, ⟨_, hnew⟩, fun h1 h2 ⟨u, a1, a2, a3⟩ hh => ⟨u, hh u a1, a2, a3⟩⟩
  have inside : ∀ b ∈ fp, b < s2.heap.objs.size := fun b hb => let ⟨_, e, _⟩ := T.obj _ _ st2 b hb; Heap.lt_size e
  have f3 : ∀ b ∈ fp, FpOk X pins (upd H2 D (dnO D #[] 0)) b ∧ b < s3.heap.objs.size := fun b hb => by
    have lt := inside b hb
    refine ⟨⟨?_, (f2 b hb).2⟩, by rw [e3, Heap.size_push]; exact Nat.lt_succ_of_lt lt⟩
    rw [upd_ne (show b ≠ D from Nat.ne_of_lt (by rw [← hD]; exact lt))]
    exact (f2 b hb).1
  have st3 : tn 0 s3.heap := T.keep _ _ _ st2 fun b _ o e => kp3 b o e
  generalize upd H2 D (dnO D #[] 0) = H3 at *
  have I4 := block_start I3 ok hN f3
  have pg := hg s3 H3 s3.heap.objs.size (cellsFrom (s3.heap.objs.size + 1) scope.names (cloFrom X.env.cells scope.names [])) fp
  have pt := ht s3 H3 s3.heap.objs.size (cellsFrom (s3.heap.objs.size + 1) scope.names (cloFrom X.env.cells scope.names [])) fp
  have pk := hk s3 H3 s3.heap.objs.size (cellsFrom (s3.heap.objs.size + 1) scope.names (cloFrom X.env.cells scope.names [])) fp
  have pv := he s3 H3 s3.heap.objs.size (cellsFrom (s3.heap.objs.size + 1) scope.names (cloFrom X.env.cells scope.names [])) fp
  show codeAny _ _ (.compStart (.DictComp kx vx [⟨tg, iter, ifs, 0⟩] scope pos) 0 (.ref it) (.ref D) (compEnvC scope (cellsFrom (s3.heap.objs.size + 1) scope.names (cloFrom X.env.cells scope.names [])) s3.heap.objs.size X.env)) (compPost (model X.prog X.w) X.A X.xe use Qf (.ref D) s3.heap.objs.size) { s3 with heap := pushCells (s3.heap.push { cls := .type "dict", data := .dict #[] }) scope.names }
  generalize hce : compEnvC scope (cellsFrom (s3.heap.objs.size + 1) scope.names (cloFrom X.env.cells scope.names [])) s3.heap.objs.size X.env = ce at I4 pg pt pk pv ⊢
  have hloc : ce.locals = s3.heap.objs.size := by subst hce; rfl
  have n3 : ∀ b ∈ fp, H3 b = none := fun b hb => (f3 b hb).1.1
  generalize hs4 : ({ s3 with heap := pushCells (s3.heap.push { cls := .type "dict", data := .dict #[] }) scope.names } : Shared) = s4 at I4 ⊢
  have st4 : tn 0 s4.heap := T.keep _ _ _ st3 fun b _ o e => by rw [← hs4]; exact pushCells_keeps _ _ _ _ (Heap.get?_push_of_some _ e)
  -- what stays true of the walked things inside the block
  have fps : ∀ {σ' : L2.St} {H' : Hp} {s' : Shared}, Inv (X.blk s3 H3 scope ce fp) [] σ' H' s' → (∀ b ∈ fp, H' b = none) → ∀ b ∈ fp, FpOk (X.blk s3 H3 scope ce fp) [] H' b := fun {σ' H' s'} J' nn b hb =>
    ⟨nn b hb, (J'.ok.exf b hb).1, J'.ok.exfs b hb, .inl hb, fun x c e => (J'.ok.exf b hb).2 x c e, fun p hp => absurd (show p ∈ ([] : List (Addr × Obj)) ++ [] from hp) (by simp)⟩
  have loop : codeAny (model X.prog X.w) X.A (.compLoop (.DictComp kx vx [⟨tg, iter, ifs, 0⟩] scope pos) 0 (.ref it) (.ref D) ce) (compPost (model X.prog X.w) X.A X.xe use Qf (.ref D) s3.heap.objs.size) s4 := by
    refine compLoop_anyD (fun n s' => ∃ i H', Inv (X.blk s3 H3 scope ce fp) [] (wipe σ (own.map (·.2))) H' s' ∧ tn i s'.heap ∧ (∀ b ∈ fp, H' b = none) ∧ Wv i n H') ?_ m0 ⟨0, H3, I4, st4, n3, w0⟩
    rintro n s5 ⟨i, H5, I5, st5, n5, w5⟩
    rcases turn i n H5 w5 with ⟨stop, qq⟩ | ⟨go, Nx, hNx, step⟩
    · refine thnF (T.done (X.blk s3 H3 scope ce fp) rfl rfl rfl hc i [] s5 _ H5 (fun _ _ => False) I5 (fps I5 n5) st5 stop) fun r s6 hr6 => ?_
      obtain ⟨hr, I6⟩ := hr6
      subst hr
      have nC : H5 s3.heap.objs.size = none := by rw [← hloc]; exact I6.free
      obtain ⟨m, hn, _⟩ := I6.loc
      have hn' : s6.heap.Ns s3.heap.objs.size m := by rw [← hloc]; exact hn
      have I7 : Inv X pins σ H5 s6 := I3.call' (ch := fp) I6.os I6.base I6.hok I6.bare fun b hb => ⟨(f3 b hb).1.2.2.2.1, (f3 b hb).1.2.1, (f3 b hb).1.2.2.2.2.1, (f3 b hb).1.2.2.2.2.2⟩
      exact hRR D s3.heap.objs.size s6 m H5 I7 qq hn' (I3.fpOk (Nat.le_refl _) nC)
    · refine thnF (T.item (X.blk s3 H3 scope ce fp) rfl rfl rfl hc i [] s5 _ H5 (fun _ _ => False) I5 (fps I5 n5) st5 go) fun r s6 hr6 => ?_
      obtain ⟨u, hr, h6⟩ := hr6
      subst hr
      refine thnF h6 fun _ s7 h7 => ?_
      obtain ⟨x, H7, I7, r7, y7, st7, n7⟩ := h7
      have I7p := I7.pinned (fps I7 n7) (T.obj _ _ st7)
      refine thnF (pg.run _ s7 _ H7 x u _ I7p r7 (step x H7 y7)) fun _ s8 h8 => ?_
      obtain ⟨σ8, H8, I8, hw8, q8⟩ := h8
      refine thnF (pt.run _ s8 σ8 H8 _ I8 q8) fun b s9 h9 => ?_
      obtain ⟨H9, I9, q9⟩ := h9
      -- the turn's end
      have again : ∀ {s' : Shared} {H' : Hp}, Inv (X.blk s3 H3 scope ce fp) ([] ++ pinsAt fp s7.heap) σ8 H' s' → Nx H' → ∃ m, m < n ∧ ∃ i H', Inv (X.blk s3 H3 scope ce fp) [] (wipe σ (own.map (·.2))) H' s' ∧ tn i s'.heap ∧ (∀ b ∈ fp, H' b = none) ∧ Wv i m H' := fun {s' H'} J' nx => by
        obtain ⟨m', hm, w'⟩ := hNx H' nx
        have pin' : ∀ b ∈ fp, ∀ o, s7.heap.get? b = some o → s'.heap.get? b = some o ∧ H' b = none := fun b hb o e =>
          ⟨(J'.pin (b, o) (List.mem_append_right _ (List.mem_append_right _ (mem_pinsAt hb e)))).1, (J'.pin (b, o) (List.mem_append_right _ (List.mem_append_right _ (mem_pinsAt hb e)))).2.1⟩
        have hl : (wipe σ (own.map (·.2))).length = σ8.length := by rw [← hw8, wipe_length]
        refine ⟨m', hm, i + 1, H', (J'.unpinned (pins := [])).weak hl (fun j v e => ?_), T.keep _ _ _ st7 fun b hb o e => (pin' b hb o e).1, fun b hb => ?_, w'⟩
        · rw [← hw8] at e
          exact (wipe_some e).1
        · obtain ⟨o, e, _⟩ := T.obj _ _ st7 b hb
          exact (pin' b hb o e).2
      cases b with
      | false => exact again I9 (by simpa using q9)
      | true =>
        simp only [if_true] at q9 ⊢
        refine thnF (pk.run _ s9 σ8 H9 _ I9 q9) fun y s10 h10 => ?_
        obtain ⟨yv, H10, I10, r10, q10⟩ := h10
        refine thnF (pv.run _ s10 σ8 H10 _ I10 q10) fun z s11 h11 => ?_
        obtain ⟨zv, H11, I11, r11, b, es, ep, nks, ks, vs, k, ey, d1, d1', d2, d3, d4, d5, d6, d7⟩ := h11
        subst ey
        obtain rfl : y = Value.ref b := r10
        exact dn_set (X := X.blk s3 H3 scope ce fp) hu I11 d1 sm d1' d2 d3 d4 d5 d6 r11 fun s12 es' ep' I12 hE => again I12 (d7 es' ep' _ _ r11 (fun w => KeyV.free k _ d5 X.w w) hE)
  exact codeAny_compStart_dict loop (T.self X.A 0 _ _ _ st4 loop)
theorem pe_dcN (hu : X.A.units + 8 < cLine) (hc : X.calm = true) (hN : X.N.Nodup) (hi : PI X tg iter wi) (ok : BlkOk X.N X.env.scope scope own) (hg : Blk X scope fun Y => PG Y tg g) (ht : Blk X scope fun Y => PTs Y ifs tt) (hk : Blk X scope fun Y => PE Y kx tk) (he : Blk X scope fun Y => PE Y vx tv)
    (hs : ∀ x, foldedSetIterable iter X.env x = pure x := by intro _; rfl) : PE X (.DictComp kx vx [⟨tg, iter, ifs, 0⟩] scope pos) (tDcN X.K wi g tt tk tv (own.map (·.2))) := by
  refine ⟨fun pins s σ H Q I h => ?_⟩
  rw [arm_eval_DictComp]
  refine dcN_core hu hc hN I hi ok hg ht hk he hs h fun D C s' m H' I' q hn f => ⟨m, hn, fun h'' sb => ?_⟩
  obtain ⟨g0, g1, g2, g3, g4, g5⟩ := f
  exact ⟨.ref D, H', I'.turned (t' := s'.toks) (fun b o hb e => (sb.2 b hb).trans e) g0 g1 g3 g4 g5, rfl, q⟩
theorem ps_setDcN {i : Nat} {y : Str} {py spos : Pos} (hu : X.A.units + 8 < cLine) (hc : X.calm = true) (hN : X.N.Nodup) (hy : X.N[i]? = some y) (hyl : X.env.scope.names.lookup y = some .local) (hsw : swapsWith (.DictComp kx vx [⟨tg, iter, ifs, 0⟩] scope pos) (some (.Name y py)) spos.line X.env = pure true)
    (hi : PI X tg iter wi) (ok : BlkOk X.N X.env.scope scope own) (hg : Blk X scope fun Y => PG Y tg g) (ht : Blk X scope fun Y => PTs Y ifs tt) (hk : Blk X scope fun Y => PE Y kx tk) (he : Blk X scope fun Y => PE Y vx tv)
    (hs : ∀ x, foldedSetIterable iter X.env x = pure x := by intro _; rfl) : PS X (.Assign [.Name y py] (.DictComp kx vx [⟨tg, iter, ifs, 0⟩] scope pos) spos) (tAsg (tDcN X.K wi g tt tk tv (own.map (·.2))) (gName i)) := by
  refine ⟨fun pins s σ H D I h => ?_⟩
  rw [exec_Assign_Name_used _ _ _ _ hsw]
  refine wpAny_bind (wpAny_standAt (wpAny_bind ?_))
  show wpAny _ X.A (do let _ ← comprehension (.DictComp kx vx [⟨tg, iter, ifs, 0⟩] scope pos) scope X.env (firstIterPos [⟨tg, iter, ifs, 0⟩] pos) newDict false (eval iter X.env) (some (assign (.Name y py) X.env))) _ _ s
  have hq : tDcN X.K wi g tt tk tv (own.map (·.2)) σ H (fun x H1 => gName i x σ H1 D.nx) := h
  refine wpAny_bind (thn (dcN_core (Qf := fun _ s' => SP X pins D .next s') hu hc hN I hi ok hg ht hk he hs hq fun L C s' m H' I' q hn f => ?_) fun _ s' hp => wpAny_pure (wpAny_pure hp))
  show wpAny _ _ (assign (.Name y py) X.env (.ref L)) _ _ _
  refine wpAny_assign_Name (store_ok2 (v := V.ref L) I' hN hy (.inl hyl) rfl (fun s2 I2 hh => ?_) (.inr hyl))
  obtain ⟨a, sb, ha⟩ := hh
  obtain ⟨g0, g1, g2, g3, g4, g5⟩ := f
  have hne : C ≠ a := by
    rcases ha with z | z
    · rw [z]; exact g1
    · exact fun e => g4 y a z e.symm
  exact ⟨m, hn.sameBut sb hne, fun h3 sb3 => ⟨_, H', I2.turned (t' := s2.toks) (fun b o hb e => (sb3.2 b hb).trans e) g0 g1 g3 g4 g5, q⟩⟩
end
end Bk

set_option Elab.async false
set_option linter.all false
set_option maxRecDepth 100000
set_option maxHeartbeats 2000000
namespace Bk
open PySem PySem.Spec PyProof.Rows L2
/-! ### dict comprehensions, as trees -/
/-- d[k] = v -/
def putKV (ks vs : List D) (k v : D) : Option (List D × List D) := match keysD ks, keyD k with
  | some nks, some nk => if (isTup k && decide (nk.depth ≤ 8) && decide (vs.length < sizeLine)) = true then (match posK nk nks with
    | some i => some (ks, vs.set i v)
    | none => some (ks ++ [k], vs ++ [v])) else none
  | _, _ => none
def gDcL (gg : GG) (gt : GT) (gk gv : GE) (Γ : Env) : List D → List D → List D → List MO → R D
  | [], ks, vs, M => .ok (.dct ks vs) M
  | d :: ds, ks, vs, M => match gg d Γ with
    | none => .bad
    | some Γ1 => (gt Γ1 M).only fun b M1 => if b = true then (gk Γ1 M1).only fun k M2 => (gv Γ1 M2).only fun v M3 => match putKV ks vs k v with
        | some r => gDcL gg gt gk gv Γ ds r.1 r.2 M3
        | none => .bad
      else gDcL gg gt gk gv Γ ds ks vs M1
def gDc (gi : GI) (gg : GG) (gt : GT) (gk gv : GE) (own : List Nat) : GE := fun Γ M => (gi Γ M).bind fun ds M1 => gDcL gg gt gk gv (forget Γ own) ds [] [] M1
theorem keysD_snoc {k : D} {nk : NestedKey} (h : keyD k = some nk) : ∀ {ks : List D} {nks : List NestedKey}, keysD ks = some nks → keysD (ks ++ [k]) = some (nks ++ [nk])
  | [], nks, e => by
    cases e
    show (match keyD k, keysD [] with
      | some k, some ks => some (k :: ks)
      | _, _ => none) = _
    rw [h]
    rfl
  | d :: ks, nks, e => by
    have e' : (match keyD d, keysD ks with
      | some k, some ks => some (k :: ks)
      | _, _ => none) = some nks := e
    cases e1 : keyD d with
    | none => rw [e1] at e'; cases e'
    | some a =>
      cases e2 : keysD ks with
      | none => rw [e1, e2] at e'; cases e'
      | some as =>
        rw [e1, e2] at e'
        cases e'
        have ih := keysD_snoc h e2
        show (match keyD d, keysD (ks ++ [k]) with
          | some k, some ks => some (k :: ks)
          | _, _ => none) = _
        rw [e1, ih]
        rfl
/-- a dict that is being made, as it stands -/
def DI (K : PySem.W.Frag) (H Z : Hp) (ι : Nat → Addr) (n : Nat) (p : Addr) (ks vs : List D) : Prop :=
  ∃ (es : Array DictEntry) (ep : Nat) (nks : List NestedKey) (kx xs : List V), H p = some (dnO p es ep) ∧ Ents K Z nks kx xs es.toList ∧ nks.Nodup ∧ Rps K Z ι n ks kx ∧ Rps K Z ι n vs xs ∧ keysD ks = some nks ∧ kx.length ≤ sizeLine ∧ kx.length = xs.length ∧ AllRef kx
theorem DI.ext {K : PySem.W.Frag} {H Z H1 Z1 : Hp} {ι ι1 : Nat → Addr} {n n1 : Nat} {p : Addr} {ks vs : List D} (h : DI K H Z ι n p ks vs) (od : Odd Z ι n p) (e : Ext H Z ι n H1 Z1 ι1 n1) : DI K H1 Z1 ι1 n1 p ks vs := by
  obtain ⟨es, ep, nks, kx, xs, h1, h2, h3, h4, h5, h6, h7, h8, h9⟩ := h
  exact ⟨es, ep, nks, kx, xs, (od.ext h1 e).2, h2.sub e.zz, h3, h4.ext e, h5.ext e, h6, h7, h8, h9⟩
section
variable {X : Cx} {C : CT} {W : WX}
theorem put_step {H Z : Hp} {ι : Nat → Addr} {n : Nat} {p : Addr} {ks vs : List D} {k v : D} {yk yv : V} {r : List D × List D} {Nx : Hp → Prop} (hs : Sub Z H) (h : DI X.K H Z ι n p ks vs) (rk : Rp X.K Z ι n k yk) (rv : Rp X.K Z ι n v yv) (e : putKV ks vs k v = some r)
    (hN : ∀ o, DI X.K (upd H p o) Z ι n p r.1 r.2 → Nx (upd H p o)) : StepN X.K H p yk yv Nx := by
  obtain ⟨es, ep, nks, kx, xs, h1, h2, h3, h4, h5, h6, h7, h8, h9⟩ := h
  unfold putKV at e
  rw [h6] at e
  cases ek : keyD k with
  | none => rw [ek] at e; cases e
  | some nk =>
    rw [ek] at e
    simp only at e
    by_cases c : (isTup k && decide (nk.depth ≤ 8) && decide (vs.length < sizeLine)) = true
    · rw [if_pos c] at e
      simp only [Bool.and_eq_true, decide_eq_true_eq] at c
      obtain ⟨⟨c1, c2⟩, c3⟩ := c
      cases k with
      | tup ds =>
        have kz := keyD_run (fun _ _ z => z) _ _ _ rk ek
        have kh := keyD_run hs _ _ _ rk ek
        cases rk with
        | tup sq rr =>
          refine ⟨_, es, ep, nks, kx, xs, nk, rfl, h1, h9, h2.sub hs, h3, by rw [← h5.length]; exact c3, kh, c2, fun es' ep' rr' hs' hr' hf hm => hN _ ?_⟩
          cases q : posK nk nks with
          | some i =>
            rw [q] at e hm
            cases e
            have hm' : es'.toList = setV rr' i es.toList := hm
            refine ⟨es', ep', nks, kx, xs.set i yv, upd_same, by rw [hm']; exact h2.setv hr' i, h3, h4, h5.set i rv, h6, h7, by rw [List.length_set]; exact h8, h9⟩
          | none =>
            rw [q] at e hm
            cases e
            have hm' : es'.toList = es.toList ++ [⟨hs', _, rr'⟩] := hm
            refine ⟨es', ep', nks ++ [nk], kx ++ [_], xs ++ [yv], upd_same, by rw [hm']; exact h2.snoc kz rfl c2 hf hr', ?_, h4.append (.cons (.tup sq rr) .nil), h5.append (.cons rv .nil), keysD_snoc ek h6, ?_, by simp [h8], fun x hx => by
              rcases List.mem_append.mp hx with hx | hx
              · exact h9 x hx
              · exact ⟨_, by simpa using hx⟩⟩
            · rw [List.nodup_append]
              refine ⟨h3, by simp, fun x hx y hy => ?_⟩
              have : y = nk := by simpa using hy
              rw [this]
              exact fun z => posK_none q (z ▸ hx)
            · rw [List.length_append, List.length_singleton, h8, ← h5.length]
              omega
      | ptu ds =>
        have kz := keyD_run (fun _ _ z => z) _ _ _ rk ek
        have kh := keyD_run hs _ _ _ rk ek
        cases rk with
        | ptu sq rr =>
          refine ⟨_, es, ep, nks, kx, xs, nk, rfl, h1, h9, h2.sub hs, h3, by rw [← h5.length]; exact c3, kh, c2, fun es' ep' rr' hs' hr' hf hm => hN _ ?_⟩
          cases q : posK nk nks with
          | some i =>
            rw [q] at e hm
            cases e
            have hm' : es'.toList = setV rr' i es.toList := hm
            refine ⟨es', ep', nks, kx, xs.set i yv, upd_same, by rw [hm']; exact h2.setv hr' i, h3, h4, h5.set i rv, h6, h7, by rw [List.length_set]; exact h8, h9⟩
          | none =>
            rw [q] at e hm
            cases e
            have hm' : es'.toList = es.toList ++ [⟨hs', _, rr'⟩] := hm
            refine ⟨es', ep', nks ++ [nk], kx ++ [_], xs ++ [yv], upd_same, by rw [hm']; exact h2.snoc kz rfl c2 hf hr', ?_, h4.append (.cons (.ptu sq rr) .nil), h5.append (.cons rv .nil), keysD_snoc ek h6, ?_, by simp [h8], fun x hx => by
              rcases List.mem_append.mp hx with hx | hx
              · exact h9 x hx
              · exact ⟨_, by simpa using hx⟩⟩
            · rw [List.nodup_append]
              refine ⟨h3, by simp, fun x hx y hy => ?_⟩
              have : y = nk := by simpa using hy
              rw [this]
              exact fun z => posK_none q (z ▸ hx)
            · rw [List.length_append, List.length_singleton, h8, ← h5.length]
              omega
      | _ => cases c1
    · rw [if_neg c] at e
      cases e
theorem gDcL_run {gg : GG} {gt : GT} {gk gv : GE} {is own : List Nat} {σ : St} {Γ0 : Env} {Q : VK} {J : It} {p : Addr} {ds : List D} {H0 Z0 : Hp} {ι0 : Nat → Addr} {M0 : List MO} (hsub : ∀ i ∈ is, i ∈ own) (sl : Slots X.K Z0 ι0 M0.length Γ0 (wipe σ own)) (rJ : ItC anyM X.K J ds Z0 ι0 M0.length)
    (hp0 : H0 p = none) (hsm : (p == sysModules) = false) (hr0 : HR X.K H0 Z0 ι0 M0) (h : Post X C W (rpE X.K) σ H0 Z0 ι0 M0 (gDcL gg gt gk gv Γ0 ds [] [] M0) Q) :
    ∃ Wv : Nat → Nat → Hp → Prop, (∃ m, Wv 0 m (upd H0 p (dnO p #[] 0))) ∧ ∀ i m H, Wv i m H →
      (J.stop i H ∧ Q (.ref p) H) ∨ (J.go i H ∧ ∃ Nx : Hp → Prop, (∀ H', Nx H' → ∃ m', m' < m ∧ Wv (i + 1) m' H') ∧ ∀ x H', J.yld i H x H' → liftG X.K gg is x (wipe σ own) H' fun σ2 H2 => wipe σ2 own = wipe σ own ∧ liftT X.K X C noW gt σ2 H2 fun b H3 =>
        if b = true then liftE X.K X C noW gk σ2 H3 fun y H4 => liftE X.K X C noW gv σ2 H4 fun z H5 => StepN X.K H5 p y z Nx else Nx H3) := by
  let Inv' : Nat → Hp → Prop := fun i H => ∃ (Z : Hp) (ι : Nat → Addr) (M : List MO) (ks vs : List D), Ext H0 Z0 ι0 M0.length H Z ι M.length ∧ HR X.K H Z ι M ∧ Odd Z ι M.length p ∧ DI X.K H Z ι M.length p ks vs ∧ Post X C W (rpE X.K) σ H0 Z0 ι0 M0 (gDcL gg gt gk gv Γ0 (ds.drop i) ks vs M) Q
  have q0 : Odd Z0 ι0 M0.length p := .new hr0 hp0
  have d0 : DI X.K (upd H0 p (dnO p #[] 0)) Z0 ι0 M0.length p [] [] := ⟨#[], 0, [], [], [], upd_same, .nil, .nil, .nil, .nil, rfl, Nat.zero_le _, rfl, fun x hx => by cases hx⟩
  refine ⟨fun i m H => m = ds.length - i ∧ i ≤ ds.length ∧ Inv' i H, ⟨ds.length, rfl, Nat.zero_le _, Z0, ι0, M0, [], [], (Ext.refl).touch hp0, hr0.odd q0, q0, d0, h⟩, ?_⟩
  rintro i m H ⟨em, hle, Z, ι, M, ks, vs, e1, hr1, od, di, hpost⟩
  obtain ⟨hstop, hgo⟩ := rJ i H Z ι M e1.zz e1.ii e1.ln hr1 trivial
  by_cases hi : i < ds.length
  · refine .inr ?_
    have ed : ds.drop i = ds[i] :: ds.drop (i + 1) := List.drop_eq_getElem_cons hi
    obtain ⟨go, yl⟩ := hgo ds[i] (List.getElem?_eq_getElem hi)
    refine ⟨go, Inv' (i + 1), fun H' hN => ⟨ds.length - (i + 1), by omega, rfl, by omega, hN⟩, fun x H2 hy => ?_⟩
    obtain ⟨Z2, e2, hr2, rx⟩ := yl x H2 hy
    have hp1 : ∃ u, H p = some u := let ⟨es, ep, _, _, _, q, _⟩ := di; ⟨_, q⟩
    obtain ⟨u1, hp1⟩ := hp1
    obtain ⟨od2, hp2⟩ := od.ext hp1 e2
    have di2 := di.ext od e2
    have e12 := e1.trans e2 hr1.ali
    rw [ed] at hpost
    cases eg : gg ds[i] Γ0 with
    | none =>
      have z : gDcL gg gt gk gv Γ0 (ds[i] :: ds.drop (i + 1)) ks vs M = .bad := by
        unfold gDcL
        rw [eg]
      rw [z] at hpost
      exact hpost.elim
    | some Γ1 =>
      have z : gDcL gg gt gk gv Γ0 (ds[i] :: ds.drop (i + 1)) ks vs M = ((gt Γ1 M).only fun b M1 => if b = true then (gk Γ1 M1).only fun k M2 => (gv Γ1 M2).only fun v M3 => match putKV ks vs k v with
          | some r => gDcL gg gt gk gv Γ0 (ds.drop (i + 1)) r.1 r.2 M3
          | none => .bad
        else gDcL gg gt gk gv Γ0 (ds.drop (i + 1)) ks vs M1) := by
        conv => lhs; unfold gDcL
        rw [eg]
      rw [z] at hpost
      refine ⟨Z2, ι, M.length, ds[i], Γ0, Γ1, hr2.sub, sl.ext e12, rx, eg, fun σ2 s2 w2 => ⟨(w2 own hsub).trans (wipe_wipe own), Z2, ι, Γ1, M, s2, hr2, ?_⟩⟩
      cases et : gt Γ1 M with
      | bad => rw [et] at hpost; exact hpost.elim
      | exc c d M' => rw [et] at hpost; exact hpost.elim
      | ok b M3 =>
        rw [et] at hpost
        intro b' H3 Z3 ι3 e3 hr3 hb
        have hb' : b = b' := hb
        subst hb'
        obtain ⟨od3, hp3⟩ := od2.ext hp2 e3
        have di3 := di2.ext od2 e3
        have e13 := e12.trans e3 hr2.ali
        cases b with
        | false => exact ⟨Z3, ι3, M3, ks, vs, e13, hr3, od3, di3, hpost⟩
        | true =>
          rw [if_pos rfl]
          refine ⟨Z3, ι3, Γ1, M3, s2.ext e3, hr3, ?_⟩
          have hpost2 : Post X C W (rpE X.K) σ H0 Z0 ι0 M0 ((gk Γ1 M3).only fun k M2 => (gv Γ1 M2).only fun v M3 => match putKV ks vs k v with
            | some r => gDcL gg gt gk gv Γ0 (ds.drop (i + 1)) r.1 r.2 M3
            | none => .bad) Q := hpost
          cases ek : gk Γ1 M3 with
          | bad => rw [ek] at hpost2; exact hpost2.elim
          | exc c d M' => rw [ek] at hpost2; exact hpost2.elim
          | ok k M4 =>
            rw [ek] at hpost2
            intro yk H4 Z4 ι4 e4 hr4 rk
            obtain ⟨od4, hp4⟩ := od3.ext hp3 e4
            have di4 := di3.ext od3 e4
            have e14 := e13.trans e4 hr3.ali
            refine ⟨Z4, ι4, Γ1, M4, (s2.ext e3).ext e4, hr4, ?_⟩
            have hpost3 : Post X C W (rpE X.K) σ H0 Z0 ι0 M0 ((gv Γ1 M4).only fun v M3 => match putKV ks vs k v with
              | some r => gDcL gg gt gk gv Γ0 (ds.drop (i + 1)) r.1 r.2 M3
              | none => .bad) Q := hpost2
            cases ev : gv Γ1 M4 with
            | bad => rw [ev] at hpost3; exact hpost3.elim
            | exc c d M' => rw [ev] at hpost3; exact hpost3.elim
            | ok v M5 =>
              rw [ev] at hpost3
              intro yv H5 Z5 ι5 e5 hr5 rv
              obtain ⟨od5, hp5⟩ := od4.ext hp4 e5
              have di5 := di4.ext od4 e5
              have e15 := e14.trans e5 hr4.ali
              have hpost4 : Post X C W (rpE X.K) σ H0 Z0 ι0 M0 (match putKV ks vs k v with
                | some r => gDcL gg gt gk gv Γ0 (ds.drop (i + 1)) r.1 r.2 M5
                | none => .bad) Q := hpost3
              cases ep : putKV ks vs k v with
              | none => rw [ep] at hpost4; exact hpost4.elim
              | some r =>
                rw [ep] at hpost4
                exact put_step hr5.sub di5 (rk.ext e5) rv ep fun o di' => ⟨Z5, ι5, M5, r.1, r.2, e15.touch hp0, hr5.odd od5, od5, di', hpost4⟩
  · refine .inl ⟨hstop (by omega), ?_⟩
    rw [List.drop_eq_nil_of_le (Nat.le_of_not_lt hi)] at hpost
    obtain ⟨es, ep, nks, kx, xs, h1, h2, h3, h4, h5, h6, h7, h8, h9⟩ := di
    have s1 : Sub Z (upd Z p (dnO p es ep)) := fun a u q => by rw [upd_ne (ne_of_none q od.z)]; exact q
    have up : ∀ {as : List D} {ws : List V}, Rps X.K Z ι M.length as ws → Rps X.K (upd Z p (dnO p es ep)) ι M.length as ws := fun r => Rps.mono s1 (fun _ _ => rfl) (Nat.le_refl _) _ _ r
    exact hpost _ H _ ι (e1.adoptZ od.z hp0) (hr1.adoptZ od h1) (.dct ⟨es, ep, upd_same, hsm, h7, h3, h2.sub s1⟩ (up h4) (up h5))
theorem dc_post {σ : St} {H Z : Hp} {ι : Nat → Addr} {M : List MO} {Q : VK} {wi : TI} {gi : GI} {gg : GG} {gt : GT} {gk gv : GE} {is own : List Nat} {Γ : Env}
    (qi : ∀ (σ : St) (H Z : Hp) (ι : Nat → Addr) (Γ : Env) (M : List MO) (Q : It → Hp → Prop), Slots X.K Z ι M.length Γ σ → HR X.K H Z ι M → Post X C W (rpI X.K) σ H Z ι M (gi Γ M) Q → wi σ H Q) (hsub : ∀ i ∈ is, i ∈ own)
    (sl : Slots X.K Z ι M.length Γ σ) (hr : HR X.K H Z ι M) (h : Post X C W (rpE X.K) σ H Z ι M (gDc gi gg gt gk gv own Γ M) Q) :
    tDcN X.K wi (liftG X.K gg is) (liftT X.K X C noW gt) (liftE X.K X C noW gk) (liftE X.K X C noW gv) own σ H Q :=
  qi σ H Z ι Γ M _ sl hr (Post.bind h fun ds M1 J H1 Z1 ι1 e1 hr1 rJ h1 => fun p hp hsm =>
    gDcL_run hsub (slots_wipe _ (sl.ext e1)) rJ hp hsm hr1 h1)
theorem qe_dc {kx vx tg iter : Expr} {ifs : List Expr} {scope : Scope} {own : List (Str × Nat)} {pos : Pos} {gi : GI} {gg : GG} {gt : GT} {gk gv : GE} {is ixs : List Nat} (hu : X.A.units + 8 < cLine) (hc : X.calm = true) (hN : X.N.Nodup) (hi : QI X C W tg iter gi) (ok : BlkOk X.N X.env.scope scope own)
    (hg : Blk X scope fun Y => QG Y tg gg is) (ht : Blk X scope fun Y => QTs Y C noW ifs gt) (hk : Blk X scope fun Y => QE Y C noW kx gk) (he : Blk X scope fun Y => QE Y C noW vx gv) (hix : ixs = own.map (·.2) := by rfl) (hsub : ∀ i ∈ is, i ∈ own.map (·.2) := by decide) (hs : ∀ x, foldedSetIterable iter X.env x = pure x := by intro _; rfl) :
    QE X C W (.DictComp kx vx [⟨tg, iter, ifs, 0⟩] scope pos) (gDc gi gg gt gk gv ixs) := by
  subst hix
  obtain ⟨wi, pi, qi⟩ := hi
  exact ⟨_, pe_dcN hu hc hN pi ok (blk_g hg) (blk_t ht) (blk_e hk) (blk_e he) hs, fun σ H Z ι Γ M Q sl hr h => dc_post qi hsub sl hr h⟩
/-- y = {..} -/
theorem qs_dc {i : Nat} {y : Str} {kx vx tg iter : Expr} {ifs : List Expr} {scope : Scope} {own : List (Str × Nat)} {pos spos py : Pos} {gi : GI} {gg : GG} {gt : GT} {gk gv : GE} {is ixs : List Nat} (hu : X.A.units + 8 < cLine) (hc : X.calm = true) (hN : X.N.Nodup) (hy : X.N[i]? = some y) (hyl : X.env.scope.names.lookup y = some .local) (hsw : swapsWith (.DictComp kx vx [⟨tg, iter, ifs, 0⟩] scope pos) (some (.Name y py)) spos.line X.env = pure true)
    (hi : QI X C W tg iter gi) (ok : BlkOk X.N X.env.scope scope own)
    (hg : Blk X scope fun Y => QG Y tg gg is) (ht : Blk X scope fun Y => QTs Y C noW ifs gt) (hk : Blk X scope fun Y => QE Y C noW kx gk) (he : Blk X scope fun Y => QE Y C noW vx gv) (hix : ixs = own.map (·.2) := by rfl) (hsub : ∀ i ∈ is, i ∈ own.map (·.2) := by decide) (hs : ∀ x, foldedSetIterable iter X.env x = pure x := by intro _; rfl) :
    QS X C W (.Assign [.Name y py] (.DictComp kx vx [⟨tg, iter, ifs, 0⟩] scope pos) spos) (gAsg (gDc gi gg gt gk gv ixs) (gTo i)) := by
  subst hix
  obtain ⟨wi, pi, qi⟩ := hi
  refine ⟨_, ps_setDcN hu hc hN hy hyl hsw pi ok (blk_g hg) (blk_t ht) (blk_e hk) (blk_e he) hs, fun Dd σ H Z ι Γ M sl hr h => ?_⟩
  refine dc_post qi hsub sl hr (PostS.bind (Γ := Γ) h sl fun x M1 v H1 Z1 ι1 e1 hr1 r1 h1 => ?_)
  exact h1 _ H1 Z1 ι1 .refl hr1 ((sl.ext e1).set i r1)
end
end Bk

set_option Elab.async false
set_option linter.all false
set_option maxRecDepth 100000
set_option maxHeartbeats 2000000
namespace Bk
open PySem PySem.Spec PyProof.Rows L2
/-! ### for k in d -/
def Itn (d : Addr) (es : Array DictEntry) (ep : Nat) (kx : List V) : It :=
  ⟨fun i H => H d = some (dnO d es ep) ∧ i < kx.length, fun i H x H' => H' = H ∧ kx[i]? = some x, fun i H => H d = some (dnO d es ep) ∧ kx.length ≤ i⟩
def KeyAt (es : Array DictEntry) (kx : List V) : Prop := es.size = kx.length ∧ ∀ (i : Nat) (x : V), kx[i]? = some x → ∃ en, es[i]? = some en ∧ RelV x en.key
theorem Ents.keyAt {K : PySem.W.Frag} {Z : Hp} : ∀ {nks : List NestedKey} {ks vs : List V} {es : List DictEntry}, Ents K Z nks ks vs es → es.length = ks.length ∧ ∀ (i : Nat) (x : V), ks[i]? = some x → ∃ en, es[i]? = some en ∧ RelV x en.key
  | _, _, _, _, .nil => ⟨rfl, by simp⟩
  | _, _, _, _, .cons (y := y) (ku := ku) a ry d h r t => by
    obtain ⟨h1, h2⟩ := Ents.keyAt t
    refine ⟨by simp [h1], fun i x hx => ?_⟩
    cases i with
    | zero =>
      have : y = x := by simpa using hx
      subst this
      exact ⟨_, rfl, ry⟩
    | succ i =>
      obtain ⟨en, e1, e2⟩ := h2 i x (by simpa using hx)
      exact ⟨en, by simpa using e1, e2⟩
section
variable {P : Program} {w : World} {K : PySem.W.Frag} {tg : Expr} {d : Addr} {es : Array DictEntry} {ep : Nat} {kx : List V}
theorem turn_keysN (it : Addr) (hk : KeyAt es kx) : Turn P w K tg (Itn d es ep kx) [it] it (fun i h => h.IsKeyIter it d i kx.length ep) where
  mem := by simp
  obj := fun i h st b hb => by
    have e : b = it := by simpa using hb
    subst e
    obtain ⟨oi, e, c, dd⟩ := st
    exact ⟨oi, e, fun v z => by rw [dd] at z; cases z⟩
  keep := fun i h h' st k => st.at fun oi e => k it (by simp) oi e
  item := by
    intro X hP hw hK hc i pins s σ H E I hf st hg
    subst hP hw hK
    obtain ⟨hd, hi⟩ := hg
    obtain ⟨f0, f1, f2, f3, f4, f5⟩ := hf it (by simp)
    obtain ⟨⟨o, ho, hx, hdt⟩, _, _⟩ := I.hok d _ hd
    have hx1 : kx[i]? = some kx[i] := List.getElem?_eq_getElem hi
    obtain ⟨en, he, hr⟩ := hk.2 i _ hx1
    refine next_key_item st ho hdt hk.1 he fun h' st' sb => ?_
    have I1 : Inv X pins σ H { s with heap := h' } := I.turned (t' := s.toks) (fun b ob hb e => (sb.2 b hb).trans e) f0 f1 f3 f4 f5
    obtain ⟨oi, e, c, dd⟩ := id st'
    exact ⟨en.key, rfl, go_of (s := { s with heap := h' }) e c dd (by decide) ⟨_, H, I1, hr, ⟨rfl, hx1⟩, st', fun b hb => (hf b hb).1⟩⟩
  done := by
    intro X hP hw hK hc i pins s σ H E I hf st hg
    subst hP hw hK
    obtain ⟨hd, hi⟩ := hg
    obtain ⟨f0, f1, f2, f3, f4, f5⟩ := hf it (by simp)
    obtain ⟨⟨o, ho, hx, hdt⟩, _, _⟩ := I.hok d _ hd
    exact next_key_end (I.ok.hd hc) st ho hdt hk.1 hi fun h' eb => ⟨rfl, I.turned (t' := s.toks) (fun b ob hb e => eb b ob hb e) f0 f1 f3 f4 f5⟩
  self := fun A i s Q E st h => wpAny_pyIter_keyiter st h
end
def iKeysN (td : TE) : TI := fun σ H R => td σ H fun x H1 => ∃ (d : Addr) (es : Array DictEntry) (ep : Nat) (kx : List V), x = .ref d ∧ (d == sysModules) = false ∧ H1 d = some (dnO d es ep) ∧ KeyAt es kx ∧ R (Itn d es ep kx) H1
theorem pi_keysN {X : Cx} {tg e : Expr} {td : TE} (he : PE X e td) : PI X tg e (iKeysN td) := by
  refine ⟨fun pins s σ H R I h => ?_⟩
  refine thn (he.run pins s σ H _ I h) fun u s1 ⟨x, H1, I1, rx, d, es, ep, kx, ex, hs, hd, hk, q⟩ => ?_
  subst ex
  obtain rfl : u = Value.ref d := rx
  obtain ⟨⟨o, ho, hx, hdt⟩, _, _⟩ := I1.hok d _ hd
  refine iter_keys hs ho hx hdt (pi_one (tk := s1.toks) I1 _ (turn_keysN _ hk) ⟨_, Heap.get?_push_size _ rfl, rfl, ?_⟩ q)
  rw [hk.1] <;> rfl
def dKeys : D → Option (List D)
  | .dct ks _ => some ks
  | _ => none
def gKeysI (ge : GE) : GI := fun Γ M => (ge Γ M).bind fun d M1 => opR (dKeys d) M1
theorem itr_keys {K : PySem.W.Frag} {Z : Hp} {ι : Nat → Addr} {n : Nat} {a : Addr} {es : Array DictEntry} {ep : Nat} {kx : List V} {ks : List D} (h : Z a = some (dnO a es ep)) (r : Rps K Z ι n ks kx) : ItR K (Itn a es ep kx) ks Z ι n := by
  intro i H' Z' ι' M' hz hi hn hr _
  have h' : H' a = some (dnO a es ep) := hr.sub _ _ (hz _ _ h)
  have l := r.length
  refine ⟨fun hl => ⟨h', by rw [← l]; exact Nat.le_of_eq hl⟩, fun d hd => ?_⟩
  obtain ⟨v, hv, rv⟩ := r.get hd
  refine ⟨⟨h', (List.getElem?_eq_some_iff.mp hv).1⟩, fun x H2 hy => ?_⟩
  obtain ⟨rfl, hx⟩ := hy
  rw [hv] at hx
  cases hx
  exact ⟨Z', .refl, hr, Rp.mono hz hi hn _ _ rv⟩
theorem qi_keys {X : Cx} {C : CT} {W : WX} {tg e : Expr} {g : GE} (ha : QE X C W e g) : QI X C W tg e (gKeysI g) := by
  obtain ⟨ta, pa, qa⟩ := ha
  refine ⟨_, pi_keysN pa, fun σ H Z ι Γ M Q sl hr h => qa σ H Z ι Γ M _ sl hr (h.bind fun x M1 v H1 Z1 ι1 e1 hr1 r1 h1 => ?_)⟩
  obtain ⟨ds, hd, h2⟩ := Post.of_opR (γ := D) (δ := V) h1
  cases r1 with
  | dct s rk rv =>
    cases hd
    obtain ⟨es, ep, s1, s2, s3, s4, s5⟩ := s
    obtain ⟨k1, k2⟩ := s5.keyAt
    exact ⟨_, es, ep, _, rfl, s2, hr1.sub _ _ s1, ⟨by simpa using k1, fun i x hx => by
      obtain ⟨en, a1, a2⟩ := k2 i x hx
      exact ⟨en, by simpa using a1, a2⟩⟩, h2 _ H1 Z1 ι1 .refl hr1 (itr_keys s1 rk)⟩
  | _ => cases hd
@[simp] theorem u_gKeysI (ge : GE) (Γ : Env) (M : List MO) : gKeysI ge Γ M = (ge Γ M).bind fun d M1 => opR (dKeys d) M1 := Eq.trans rfl rfl
@[simp] theorem e_keys (ks vs : List D) : dKeys (.dct ks vs) = some ks := Eq.trans rfl rfl
end Bk

set_option Elab.async false
set_option linter.all false
set_option maxRecDepth 100000
set_option maxHeartbeats 2000000
namespace Bk
open PySem PySem.Spec PyProof.Rows L2
/-! ### len(d) -/
def rLenN (K : PySem.W.Frag) : List V → Hp → VK → Prop := fun xs H Q => ∃ (a : Addr) (nks : List NestedKey) (ks vs : List V), xs = [.ref a] ∧ ExD K H a nks ks vs ∧ Q (.int (vs.length : Nat)) H
theorem ents_len {K : PySem.W.Frag} {Z : Hp} : ∀ {nks : List NestedKey} {ks vs : List V} {es : List DictEntry}, Ents K Z nks ks vs es → ks.length = vs.length
  | _, _, _, _, .nil => rfl
  | _, _, _, _, .cons _ _ _ _ _ t => by rw [List.length_cons, List.length_cons, ents_len t]
theorem len_body_raw {prog : Program} {w : World} {A : Around} {E : Value → Shared → Prop} {s : Shared} {d : Addr} {es : Array DictEntry} {ep : Nat} {Q : Value → Shared → Prop} (hd : (d == sysModules) = false) (hm : s.heap.DictRaw d es ep) (hfit : (es.size : Int) < 2 ^ 63)
    (h : Q (.int es.size (s.toks + 1)) { s with toks := s.toks + 1 + 1 }) : wpAny (model prog w) A (call (.builtin "len") [.ref d]) Q E s := by
  refine Calls.call_function_entry kind_len plain_len entry_len (args_len1 _) ?_
  unfold Builtin.«len»
  refine wpAny_bind (m := oneArg "len" _) (wpAny_pure ?_)
  refine wpAny_bind (m := callSpecial? (.ref d) (Str.ofString "__len__")) (wpAny_callSpecial?_slot (name := Str.ofString "__len__") hm.typeIs F.slot_dict_len
    (call_meetsIn F.slot_dict_len hm.typeIs F.entry_dict_len (F.args_dict_len_1 _) (meets_dict_len_raw d hd) ⟨es, ep, hm, ?_⟩))
  show wpAny _ _ _ _ _ { s with toks := s.toks + 1 }
  refine wpAny_bind (wpAny_holding (wpAny_pure ?_))
  refine wpAny_bind (wpAny_letGo ?_)
  show wpAny _ _ (if ((es.size : Nat) : Int) < 0 then _ else _) _ _ _
  rw [if_neg (by omega)]
  show wpAny _ _ (if ((es.size : Nat) : Int) ≥ 2 ^ 63 then _ else _) _ _ _
  rw [if_neg (by omega)]
  exact wpAny_bind (wpAny_mkInt (wpAny_pure ⟨_, rfl, h⟩))
theorem ents_sz {K : PySem.W.Frag} {Z : Hp} : ∀ {nks : List NestedKey} {ks vs : List V} {es : List DictEntry}, Ents K Z nks ks vs es → es.length = vs.length
  | _, _, _, _, .nil => rfl
  | _, _, _, _, .cons _ _ _ _ _ t => by rw [List.length_cons, List.length_cons, ents_sz t]
theorem cr_lenN {X : Cx} : CallR X (.builtin "len") (rLenN X.K) := by
  intro pins s σ H xs us Q I r h
  obtain ⟨a, nks, ks, vs, rfl, hd, q⟩ := h
  obtain ⟨u, rfl, rx⟩ := vals1 r
  obtain rfl : u = Value.ref a := rx
  obtain ⟨es, ep, h1, h2, h3, h4, h5⟩ := hd
  have l := ents_len h5
  have l2 := ents_sz h5
  obtain ⟨hm, _, _⟩ := I.hok a _ h1
  have hm' : s.heap.DictRaw a es ep := hm
  have hs : sizeLine = 16777216 := sizeLine_eq
  have l3 : es.size = vs.length := by rw [← l2, Array.length_toList]
  exact len_body_raw h2 hm' (by omega) ⟨.int (vs.length : Nat), H, I.tok _, ⟨_, by rw [l3]⟩, q⟩
theorem cr_lenA {X : Cx} : CallR X (.builtin "len") (fun xs H Q => rLenN X.K xs H Q ∨ ∃ x n, xs = [x] ∧ LenV X.K x H n ∧ Q (.int n) H) := by
  intro pins s σ H xs us Q I r h
  rcases h with h | h
  · exact cr_lenN pins s σ H xs us Q I r h
  · exact call_len pins s σ H xs us Q I r h
def dLenN (M : List MO) (x : D) : Option D := match dctD M x with
  | some p => some (.int (p.2.length : Nat))
  | none => dLen M x
theorem ok_lenN {X : Cx} : Ok1 X (fun x H Q => rLenN X.K [x] H Q ∨ ∃ y n, [x] = [y] ∧ LenV X.K y H n ∧ Q (.int n) H) dLenN := fun x H Z ι M dx d Q hr rx e q => by
  unfold dLenN at e
  cases ed : dctD M dx with
  | some p =>
    rw [ed] at e
    cases e
    obtain ⟨a, nks, kx, xs, h1, h2, h3, h4⟩ := dctD_run hr rx ed
    subst h1
    exact .inl ⟨_, _, _, _, rfl, h2, by rw [← h4.length]; exact q.now hr (.int _)⟩
  | none =>
    rw [ed] at e
    exact .inr (ok_len x H Z ι M dx d Q hr rx e q)
@[simp] theorem e_lenN (M : List MO) (ks vs : List D) : dLenN M (.dct ks vs) = some (.int (vs.length : Nat)) := Eq.trans rfl rfl
end Bk

set_option Elab.async false
set_option linter.all false
set_option maxRecDepth 100000
set_option maxHeartbeats 2000000
namespace Bk
open PySem PySem.Spec PyProof.Rows L2
/-! ### for v in d.values() -/
def ValAt (es : Array DictEntry) (xs : List V) : Prop := es.size = xs.length ∧ ∀ (i : Nat) (x : V), xs[i]? = some x → ∃ en, es[i]? = some en ∧ RelV x en.val
theorem Ents.valAt {K : PySem.W.Frag} {Z : Hp} : ∀ {nks : List NestedKey} {ks vs : List V} {es : List DictEntry}, Ents K Z nks ks vs es → es.length = vs.length ∧ ∀ (i : Nat) (x : V), vs[i]? = some x → ∃ en, es[i]? = some en ∧ RelV x en.val
  | _, _, _, _, .nil => ⟨rfl, by simp⟩
  | _, _, _, _, .cons (v := v) a ry d h r t => by
    obtain ⟨h1, h2⟩ := Ents.valAt t
    refine ⟨by simp [h1], fun i x hx => ?_⟩
    cases i with
    | zero =>
      have : v = x := by simpa using hx
      subst this
      exact ⟨_, rfl, r⟩
    | succ i =>
      obtain ⟨en, e1, e2⟩ := h2 i x (by simpa using hx)
      exact ⟨en, by simpa using e1, e2⟩
section
variable {P : Program} {w : World} {K : PySem.W.Frag} {tg : Expr} {d : Addr} {es : Array DictEntry} {ep : Nat} {xs : List V}
theorem turn_valsN (it : Addr) (hk : ValAt es xs) : Turn P w K tg (Itn d es ep xs) [it] it (fun i h => h.IsValIter it d i es.size ep) where
  mem := by simp
  obj := fun i h st b hb => by
    have e : b = it := by simpa using hb
    subst e
    obtain ⟨oi, e, c, dd⟩ := st
    exact ⟨oi, e, fun v z => by rw [dd] at z; cases z⟩
  keep := fun i h h' st k => st.at fun oi e => k it (by simp) oi e
  item := by
    intro X hP hw hK hc i pins s σ H E I hf st hg
    subst hP hw hK
    obtain ⟨hd, hi⟩ := hg
    obtain ⟨f0, f1, f2, f3, f4, f5⟩ := hf it (by simp)
    obtain ⟨hm, _, _⟩ := I.hok d _ hd
    have hx1 : xs[i]? = some xs[i] := List.getElem?_eq_getElem hi
    obtain ⟨en, he, hr⟩ := hk.2 i _ hx1
    refine wpAny_pyNext_values_item_raw st hm (by rw [hk.1]; exact hi) fun h' st' sb => ?_
    have I1 : Inv X pins σ H { s with heap := h' } := I.turned (t' := s.toks) (fun b ob hb e => (sb.2 b hb).trans e) f0 f1 f3 f4 f5
    obtain ⟨oi, e, c, dd⟩ := id st'
    have hen : es[i]'(by rw [hk.1]; exact hi) = en := by
      rw [Array.getElem?_eq_getElem (by rw [hk.1]; exact hi)] at he
      exact Option.some.inj he
    exact ⟨_, rfl, go_of (s := { s with heap := h' }) e c dd (by decide) ⟨_, H, I1, by rw [hen]; exact hr, ⟨rfl, hx1⟩, st', fun b hb => (hf b hb).1⟩⟩
  done := by
    intro X hP hw hK hc i pins s σ H E I hf st hg
    subst hP hw hK
    obtain ⟨hd, hi⟩ := hg
    obtain ⟨f0, f1, f2, f3, f4, f5⟩ := hf it (by simp)
    obtain ⟨hm, _, _⟩ := I.hok d _ hd
    exact wpAny_pyNext_values_end_raw (I.ok.hd hc) st hm (by rw [hk.1]; exact hi) fun h' eb => ⟨rfl, I.turned (t' := s.toks) (fun b ob hb e => eb b ob hb e) f0 f1 f3 f4 f5⟩
  self := fun A i s Q E st h => wpAny_pyIter_valiter st h
end
def iValsN (td : TE) : TI := fun σ H R => td σ H fun x H1 => ∃ (d : Addr) (es : Array DictEntry) (ep : Nat) (xs : List V), x = .ref d ∧ (d == sysModules) = false ∧ H1 d = some (dnO d es ep) ∧ ValAt es xs ∧ R (Itn d es ep xs) H1
theorem pi_valuesN {X : Cx} {tg e : Expr} {td : TE} {apos cpos : Pos} (he : PE X e td) (hbase : attributeBase e "values" X.env (eval e X.env) = eval e X.env := by rfl) (hline : (apos.endLine == cpos.line) = true := by rfl) : PI X tg (.Call (.Attribute e "values" apos) [] [] cpos) (iValsN td) := by
  refine ⟨fun pins s σ H R I h => ?_⟩
  refine wpAny_Call_method (T := "dict") (id := "dict.values") hbase rfl hline F.plainAttrs_dict F.slot_dict_values F.type_dict_values (thn (he.run pins s σ H _ I h) fun u s1 ⟨x, H1, I1, rx, d, es, ep, xs, ex, hs, hd, hk, q⟩ => ?_)
  subst ex
  obtain rfl : u = Value.ref d := rx
  obtain ⟨hm, _, _⟩ := I1.hok d _ hd
  have hm' : s1.heap.DictRaw d es ep := hm
  obtain ⟨o, ho, hx, hdt⟩ := id hm
  refine ⟨hm'.typeIs, ?_, ?_⟩
  · exact fun a e => by cases e; exact ⟨o, ho, hx.2.1⟩
  have I2 : Inv X pins σ H1 { s1 with heap := s1.heap.push { cls := .type "dict_values", data := .fields #[.ref d] } } := I1.kept (t' := s1.toks) fun b ob q => Heap.get?_push_of_some _ q
  have hm2 : (s1.heap.push { cls := .type "dict_values", data := .fields #[.ref d] }).DictRaw d es ep := hm'.at fun o e => Heap.get?_push_of_some _ e
  have fin : wpAny (model X.prog X.w) X.A (pyIter (.ref s1.heap.objs.size)) (PIE X pins σ tg R) X.xe { s1 with heap := s1.heap.push { cls := .type "dict_values", data := .fields #[.ref d] } } :=
    wpAny_pyIter_values_raw (d := d) ⟨_, Heap.get?_push_size _ rfl, rfl, rfl⟩ hm2 (pi_one (tk := s1.toks) I2 _ (turn_valsN _ hk) ⟨_, Heap.get?_push_size _ rfl, rfl, rfl⟩ q)
  show wpAny _ _ (callWith cpos (.builtin "dict.values") [.ref d] [] []) _ X.xe s1
  exact method_meetsIn F.slot_dict_values F.entry_dict_values rfl (PySem.evalArgs_none ⟨rfl, hm'.typeIs, F.args_dict_values_1 _, _, meets_dict_values_raw d hs, ⟨⟨es, ep, hm'⟩, fin⟩⟩)
def dVals : D → Option (List D)
  | .dct _ vs => some vs
  | _ => none
def gValsI (ge : GE) : GI := fun Γ M => (ge Γ M).bind fun d M1 => opR (dVals d) M1
theorem qi_values {X : Cx} {C : CT} {W : WX} {tg e : Expr} {g : GE} {apos cpos : Pos} (ha : QE X C W e g) (hbase : attributeBase e "values" X.env (eval e X.env) = eval e X.env := by rfl) (hline : (apos.endLine == cpos.line) = true := by rfl) : QI X C W tg (.Call (.Attribute e "values" apos) [] [] cpos) (gValsI g) := by
  obtain ⟨ta, pa, qa⟩ := ha
  refine ⟨_, pi_valuesN pa hbase hline, fun σ H Z ι Γ M Q sl hr h => qa σ H Z ι Γ M _ sl hr (h.bind fun x M1 v H1 Z1 ι1 e1 hr1 r1 h1 => ?_)⟩
  obtain ⟨ds, hd, h2⟩ := Post.of_opR (γ := D) (δ := V) h1
  cases r1 with
  | dct s rk rv =>
    cases hd
    obtain ⟨es, ep, s1, s2, s3, s4, s5⟩ := s
    obtain ⟨k1, k2⟩ := s5.valAt
    exact ⟨_, es, ep, _, rfl, s2, hr1.sub _ _ s1, ⟨by simpa using k1, fun i x hx => by
      obtain ⟨en, a1, a2⟩ := k2 i x hx
      exact ⟨en, by simpa using a1, a2⟩⟩, h2 _ H1 Z1 ι1 .refl hr1 (itr_keys s1 rv)⟩
  | _ => cases hd
@[simp] theorem u_gValsI (ge : GE) (Γ : Env) (M : List MO) : gValsI ge Γ M = (ge Γ M).bind fun d M1 => opR (dVals d) M1 := Eq.trans rfl rfl
@[simp] theorem e_vals (ks vs : List D) : dVals (.dct ks vs) = some vs := Eq.trans rfl rfl
end Bk

set_option Elab.async false
set_option linter.all false
set_option maxRecDepth 100000
set_option maxHeartbeats 2000000
namespace Bk
open PySem PySem.Spec PyProof.Rows L2
/-! ### for k, v in d.items() -/
def Itm (d : Addr) (es : Array DictEntry) (ep : Nat) (kx xs : List V) : It :=
  ⟨fun i H => H d = some (dnO d es ep) ∧ i < xs.length, fun i H x H' => ∃ T k v, kx[i]? = some k ∧ xs[i]? = some v ∧ x = .ref T ∧ H T = none ∧ H' = upd H T (.tup [k, v]), fun i H => H d = some (dnO d es ep) ∧ xs.length ≤ i⟩
section
variable {P : Program} {w : World} {K : PySem.W.Frag} {d : Addr} {es : Array DictEntry} {ep : Nat} {kx xs : List V}
theorem turn_itemsN {elts : List Expr} {kk : Nat} {tpos : Pos} (it : Addr) (hk : KeyAt es kx) (hv : ValAt es xs) :
    Turn P w K (.Tuple elts kk tpos) (Itm d es ep kx xs) [it] it (fun i h => ∃ ok ov, IsItemIter h it d i es.size ep ok ov) where
  mem := by simp
  obj := fun i h st b hb => by
    have e : b = it := by simpa using hb
    subst e
    obtain ⟨ok, ov, e⟩ := st
    exact ⟨_, e, fun v z => nomatch z⟩
  keep := fun i h h' st k => let ⟨ok, ov, e⟩ := st; ⟨ok, ov, k it (by simp) _ e⟩
  item := by
    intro X hP hw hK hc i pins s σ H E I hf st hg
    subst hP hw hK
    obtain ⟨hd, hi⟩ := hg
    obtain ⟨hm, _, _⟩ := I.hok d _ hd
    have hz : i < es.size := by rw [hv.1]; exact hi
    have hkx : i < kx.length := by rw [← hk.1]; exact hz
    obtain ⟨e1, he1, rk⟩ := hk.2 i _ (List.getElem?_eq_getElem hkx)
    obtain ⟨e2, he2, rv⟩ := hv.2 i _ (List.getElem?_eq_getElem hi)
    rw [Array.getElem?_eq_getElem hz] at he1 he2
    cases he1
    cases he2
    obtain ⟨ok, ov, he⟩ := st
    have hlt : it < s.heap.objs.size := Heap.lt_size he
    refine wpAny_pyNext_items_item_raw he hm hz fun h' ho hT hsz hkeep => ?_
    refine ⟨_, rfl, wpAny_letOwnedTupleGo_items (s := { s with heap := h' }) ho fun h'' he' sb => ?_⟩
    have hT2 : h''.get? s.heap.objs.size = some { cls := .type "tuple", data := .seq #[es[i].key, es[i].val] } := (sb.2 _ (Nat.ne_of_gt hlt)).trans hT
    have new : ObjOk X.prog X.w (upd H s.heap.objs.size (.tup [kx[i], xs[i]])) h'' s.heap.objs.size (.tup [kx[i], xs[i]]) :=
      ⟨by show 2 ≤ sizeLine; decide, [es[i].key, es[i].val], .cons rk (.cons rv .nil), ⟨_, hT2, rfl, _, rfl⟩⟩
    have I1 : Inv X pins σ (upd H s.heap.objs.size (.tup [kx[i], xs[i]])) { s with heap := h'' } :=
      I.turnedNew (t' := s.toks) (ch := [it]) (fun b ob hb e => (sb.2 b (by simpa using hb)).trans (hkeep b ob (by simpa using hb) e)) hf (Nat.le_refl _) new
    refine ⟨.ref s.heap.objs.size, _, I1, rfl, ⟨_, _, _, List.getElem?_eq_getElem hkx, List.getElem?_eq_getElem hi, rfl, I.hok.fresh (Nat.le_refl _), rfl⟩, ⟨_, _, he'⟩, fun b hb => ?_⟩
    have e : b = it := by simpa using hb
    rw [e, upd_ne (Nat.ne_of_lt hlt)]
    exact (hf it (by simp)).1
  done := by
    intro X hP hw hK hc i pins s σ H E I hf st hg
    subst hP hw hK
    obtain ⟨hd, hi⟩ := hg
    obtain ⟨f0, f1, f2, f3, f4, f5⟩ := hf it (by simp)
    obtain ⟨hm, _, _⟩ := I.hok d _ hd
    obtain ⟨ok, ov, he⟩ := st
    exact wpAny_pyNext_items_end_raw (I.ok.hd hc) he hm (by rw [hv.1]; exact hi) fun h' eb => ⟨rfl, I.turned (t' := s.toks) (fun b ob hb e => eb b ob hb e) f0 f1 f3 f4 f5⟩
  self := fun A i s Q E st h => let ⟨_, _, e⟩ := st; PySem.W.kcp_self e h
end
def iItemsN (td : TE) : TI := fun σ H R => td σ H fun x H1 => ∃ (d : Addr) (es : Array DictEntry) (ep : Nat) (kx xs : List V), x = .ref d ∧ (d == sysModules) = false ∧ H1 d = some (dnO d es ep) ∧ KeyAt es kx ∧ ValAt es xs ∧ R (Itm d es ep kx xs) H1
theorem pi_itemsN {X : Cx} {e : Expr} {td : TE} {elts : List Expr} {kk : Nat} {tpos apos cpos : Pos} (he : PE X e td) (hbase : attributeBase e "items" X.env (eval e X.env) = eval e X.env := by rfl) (hline : (apos.endLine == cpos.line) = true := by rfl) :
    PI X (.Tuple elts kk tpos) (.Call (.Attribute e "items" apos) [] [] cpos) (iItemsN td) := by
  refine ⟨fun pins s σ H R I h => ?_⟩
  refine wpAny_Call_method (T := "dict") (id := "dict.items") hbase rfl hline F.plainAttrs_dict F.slot_dict_items F.type_dict_items (thn (he.run pins s σ H _ I h) fun u s1 ⟨x, H1, I1, rx, d, es, ep, kx, xs, ex, hs, hd, hk, hv, q⟩ => ?_)
  subst ex
  obtain rfl : u = Value.ref d := rx
  obtain ⟨hm, _, _⟩ := I1.hok d _ hd
  have hm' : s1.heap.DictRaw d es ep := hm
  obtain ⟨o, ho, hx, hdt⟩ := id hm
  refine ⟨hm'.typeIs, ?_, ?_⟩
  · exact fun a e => by cases e; exact ⟨o, ho, hx.2.1⟩
  have I2 : Inv X pins σ H1 { s1 with heap := s1.heap.push { cls := .type "dict_items", data := .fields #[.ref d] } } := I1.kept (t' := s1.toks) fun b ob q => Heap.get?_push_of_some _ q
  have hm2 : (s1.heap.push { cls := .type "dict_items", data := .fields #[.ref d] }).DictRaw d es ep := hm'.at fun o e => Heap.get?_push_of_some _ e
  have fin : wpAny (model X.prog X.w) X.A (pyIter (.ref s1.heap.objs.size)) (PIE X pins σ (.Tuple elts kk tpos) R) X.xe { s1 with heap := s1.heap.push { cls := .type "dict_items", data := .fields #[.ref d] } } :=
    wpAny_pyIter_items_raw (d := d) ⟨_, Heap.get?_push_size _ rfl, rfl, rfl⟩ hm2 (pi_one (tk := s1.toks) I2 _ (turn_itemsN _ hk hv) ⟨.none, .none, Heap.get?_push_size _ rfl⟩ q)
  show wpAny _ _ (callWith cpos (.builtin "dict.items") [.ref d] [] []) _ X.xe s1
  exact method_meetsIn F.slot_dict_items F.entry_dict_items rfl (PySem.evalArgs_none ⟨rfl, hm'.typeIs, F.args_dict_items_1 _, _, meets_dict_items_raw d hs, ⟨⟨es, ep, hm'⟩, fin⟩⟩)
def pairsD (ks vs : List D) : List D := (ks.zip vs).map fun p => .tup [p.1, p.2]
def dItems : D → Option (List D)
  | .dct ks vs => some (pairsD ks vs)
  | _ => none
def gItemsI (ge : GE) : GI := fun Γ M => (ge Γ M).bind fun d M1 => opR (dItems d) M1
theorem itr_items {K : PySem.W.Frag} {Z : Hp} {ι : Nat → Addr} {n : Nat} {a : Addr} {es : Array DictEntry} {ep : Nat} {kx xs : List V} {ks vs : List D} (h : Z a = some (dnO a es ep)) (r : Rps K Z ι n ks kx) (r' : Rps K Z ι n vs xs) (hl : kx.length = xs.length) : ItR K (Itm a es ep kx xs) (pairsD ks vs) Z ι n := by
  intro i H' Z' ι' M' hz hi hn hr _
  have h' : H' a = some (dnO a es ep) := hr.sub _ _ (hz _ _ h)
  have l := r.length
  have l' := r'.length
  have lp : (pairsD ks vs).length = xs.length := by unfold pairsD; rw [List.length_map, List.length_zip]; omega
  refine ⟨fun hh => ⟨h', by rw [← lp]; exact Nat.le_of_eq hh⟩, fun d hd => ?_⟩
  have lt : i < xs.length := by rw [← lp]; exact (List.getElem?_eq_some_iff.mp hd).1
  obtain ⟨dk, hk1⟩ : ∃ x, ks[i]? = some x := ⟨_, List.getElem?_eq_getElem (by omega)⟩
  obtain ⟨dv, hv1⟩ : ∃ x, vs[i]? = some x := ⟨_, List.getElem?_eq_getElem (by omega)⟩
  have ed : d = .tup [dk, dv] := by
    unfold pairsD at hd
    rw [List.getElem?_map, show (ks.zip vs)[i]? = some (dk, dv) from List.getElem?_zip_eq_some.mpr ⟨hk1, hv1⟩] at hd
    exact (Option.some.inj hd).symm
  subst ed
  obtain ⟨vk, hk2, rk⟩ := r.get hk1
  obtain ⟨vv, hv2, rv⟩ := r'.get hv1
  refine ⟨⟨h', lt⟩, fun x H2 hy => ?_⟩
  obtain ⟨T, k, v, a1, a2, rfl, hT, rfl⟩ := hy
  rw [hk2] at a1
  rw [hv2] at a2
  cases a1
  cases a2
  obtain ⟨q1, q2⟩ := hr.frozen (o := .tup [vk, vv]) hT
  exact ⟨_, q2, q1, .tup (.inl (.inl upd_same)) (.cons (Rp.ext (Rp.mono hz hi hn _ _ rk) q2) (.cons (Rp.ext (Rp.mono hz hi hn _ _ rv) q2) .nil))⟩
theorem qi_items {X : Cx} {C : CT} {W : WX} {e : Expr} {g : GE} {elts : List Expr} {kk : Nat} {tpos apos cpos : Pos} (ha : QE X C W e g) (hbase : attributeBase e "items" X.env (eval e X.env) = eval e X.env := by rfl) (hline : (apos.endLine == cpos.line) = true := by rfl) :
    QI X C W (.Tuple elts kk tpos) (.Call (.Attribute e "items" apos) [] [] cpos) (gItemsI g) := by
  obtain ⟨ta, pa, qa⟩ := ha
  refine ⟨_, pi_itemsN pa hbase hline, fun σ H Z ι Γ M Q sl hr h => qa σ H Z ι Γ M _ sl hr (h.bind fun x M1 v H1 Z1 ι1 e1 hr1 r1 h1 => ?_)⟩
  obtain ⟨ds, hd, h2⟩ := Post.of_opR (γ := D) (δ := V) h1
  cases r1 with
  | dct s rk rv =>
    cases hd
    obtain ⟨es, ep, s1, s2, s3, s4, s5⟩ := s
    obtain ⟨k1, k2⟩ := s5.keyAt
    obtain ⟨v1, v2⟩ := s5.valAt
    exact ⟨_, es, ep, _, _, rfl, s2, hr1.sub _ _ s1, ⟨by simpa using k1, fun i x hx => by
      obtain ⟨en, a1, a2⟩ := k2 i x hx
      exact ⟨en, by simpa using a1, a2⟩⟩, ⟨by simpa using v1, fun i x hx => by
      obtain ⟨en, a1, a2⟩ := v2 i x hx
      exact ⟨en, by simpa using a1, a2⟩⟩, h2 _ H1 Z1 ι1 .refl hr1 (itr_items s1 rk rv (ents_len s5))⟩
  | _ => cases hd
@[simp] theorem u_gItemsI (ge : GE) (Γ : Env) (M : List MO) : gItemsI ge Γ M = (ge Γ M).bind fun d M1 => opR (dItems d) M1 := Eq.trans rfl rfl
@[simp] theorem e_items (ks vs : List D) : dItems (.dct ks vs) = some (pairsD ks vs) := Eq.trans rfl rfl
end Bk

set_option Elab.async false
set_option linter.all false
set_option maxRecDepth 100000
set_option maxHeartbeats 2000000
namespace Bk
open PySem PySem.Spec PyProof.Rows L2
/-! ### d.get(k, x) -/
def rGetN (K : PySem.W.Frag) : V → List V → Hp → VK → Prop := fun x xs H Q => ∃ (a b : Addr) (nks nks' : List NestedKey) (ks vs : List V) (k : NestedKey) (z : V), x = .ref a ∧ xs = [.ref b, z] ∧ AllRef ks ∧ ExD K H a nks ks vs ∧ KeyVs K H nks' ks ∧ KeyV K H k (.ref b) ∧ k.depth ≤ 8 ∧
  (match (posK k nks').bind fun i => vs[i]? with
    | some v => Q v H
    | none => posK k nks' = none ∧ Q z H)
theorem mt_getN {X : Cx} (hu : X.A.units + 1 + 8 < cLine) : MtR X "dict.get" (rGetN X.K) := by
  intro pins s σ H x xs v us Q I rx rxs h
  obtain ⟨a, b, nks, nks', ks, vs, k, z, rfl, rfl, hrf, hd, hks, hk, hdp, q⟩ := h
  have en := hd.keys I hks
  subst en
  obtain rfl : v = Value.ref a := rx
  cases rxs with
  | cons rb rt =>
    rename_i ub ut
    obtain rfl : ub = Value.ref b := rb
    obtain ⟨uz, rfl, rz⟩ := Vals.one rt
    obtain ⟨ys, dd, e2, e4, e5⟩ := hd.of I hrf
    have nd : (ys.map (·.1)).Nodup := by
      obtain ⟨_, _, _, _, _, _, _, _, w⟩ := dd
      exact w
    have hkey : (NK X).is s.heap k b := ⟨KeyV.is I k _ _ hk rfl, hdp⟩
    have hsm : (a == sysModules) = false := by obtain ⟨_, _, _, w, _⟩ := hd; exact w
    have hq : EP X pins σ Q (((atKey ys k).map (·.2)).getD uz) { s with toks := s.toks + (NK X).draws k } := by
      cases p : posK k nks with
      | none =>
        rw [p] at q
        have q' : (none : Option Nat) = none ∧ Q z H := q
        rw [atKey_none (by rw [e2]; exact posK_none p)]
        exact ⟨z, H, I.tok _, rz, q'.2⟩
      | some i =>
        have hi := posK_at p
        rw [← e2, List.getElem?_map] at hi
        cases hy : ys[i]? with
        | none => rw [hy] at hi; cases hi
        | some y =>
          rw [hy] at hi
          have ky : y.1 = k := Option.some.inj hi
          have lt : i < vs.length := by rw [← e4]; exact (List.getElem?_eq_some_iff.mp hy).1
          obtain ⟨y', hy', ry⟩ := e5 i _ (List.getElem?_eq_getElem lt)
          rw [hy] at hy'
          cases hy'
          have ak := atKey_at nd hy
          rw [ky] at ak
          rw [ak]
          rw [p, Option.bind_some, List.getElem?_eq_getElem lt] at q
          exact ⟨_, H, I.tok _, ry, q⟩
    exact call_meetsIn F.slot_dict_get dd.typeIs F.entry_dict_get (F.args_dict_get_3 _ _ _) (meetsH_dict_get_default (NK X) a b hsm uz) ⟨(show (NK X).room X.A.in1 from hu), k, ys, hkey, dd, hq⟩
def tGetN (X : Cx) (to : TE) (t : TA) : TE := fun σ H Q => to σ H fun x H1 => (∃ (a : Addr) (nks : List NestedKey) (ks vs : List V), x = .ref a ∧ AllRef ks ∧ ExD X.K H1 a nks ks vs) ∧ t σ H1 fun vs H2 => rGetN X.K x vs H2 Q
theorem pe_getN {X : Cx} {o e : Expr} {es : List Expr} {to : TE} {t : TA} {apos cpos : Pos} (hu : X.A.units + 1 + 8 < cLine) (ho : PE X o to) (ha : PA X (e :: es) t)
    (hbase : attributeBase o "get" X.env (eval o X.env) = eval o X.env := by rfl)
    (hfew : ((backTo cpos (starEach (e :: es) X.env)).all (fun x => !x.1) && (backToKw cpos (keywordEach [] X.env)).all (fun x => x.1.isSome) && decide ((e :: es).length + ([] : List Keyword).length + (if ([] : List Keyword).isEmpty then 0 else 1) < 30)) = true := by rfl)
    (hline : (apos.endLine == cpos.line) = true := by rfl) (hs : starEach (e :: es) X.env = (false, eval e X.env) :: starEach es X.env := by rfl) (hplain : (backTo cpos (starEach es X.env)).any (·.1) = false := by rfl) :
    PE X (.Call (.Attribute o "get" apos) (e :: es) [] cpos) (tGetN X to t) := by
  refine ⟨fun pins s σ H Q I h => ?_⟩
  refine wpAny_Call_method_late hbase hfew hline rfl (thn (ho.run pins s σ H _ I h) fun v s1 ⟨x, H1, I1, r1, q1⟩ => ?_)
  obtain ⟨⟨a, nks, ks, vs, rfl, hrf, hd⟩, q2⟩ := q1
  obtain rfl : v = Value.ref a := r1
  obtain ⟨ys, dd, _, _, _⟩ := hd.of I1 hrf
  obtain ⟨od, es', ep', hod, hcd, _⟩ := id dd
  refine ⟨"dict", "dict.get", F.plainAttrs_dict, F.slot_dict_get, F.type_dict_get, dd.typeIs, fun b e => by cases e; exact ⟨od, hod, hcd.2.1⟩, ?_⟩
  have hA := ha.run cpos pins s1 σ H1 _ I1 q2
  rw [hs] at hA ⊢
  refine Calls.callWith_builtin (by show (false || (backTo cpos (starEach es X.env)).any (·.1)) = false; rw [hplain] <;> rfl) (Calls.evalArgs_plain ?_)
  exact thn hA fun us s2 ⟨vs2, H2, I2, r2, q3⟩ => mt_getN hu pins s2 σ H2 (.ref a) vs2 (.ref a) us Q I2 rfl r2 q3
def dGetN (M : List MO) (x y z : D) : Option D := match dctD M x with
  | some p => (lookD p.1 p.2 y).map fun o => o.getD z
  | none => none
def isDct (M : List MO) (d : D) : Bool := match dctD M d with
  | some p => p.1.all isTup
  | none => false
def gGetN (go gk gx : GE) : GE := fun Γ M => (go Γ M).bind fun x M1 => if isDct M1 x = true then (gk Γ M1).bind fun y M2 => (gx Γ M2).bind fun z M3 => opR (dGetN M3 x y z) M3 else .bad
theorem posK_lt {k : NestedKey} : ∀ {xs : List NestedKey} {i : Nat}, posK k xs = some i → i < xs.length := fun h => (List.getElem?_eq_some_iff.mp (posK_at h)).1
theorem qe_getN {X : Cx} {C : CT} {W : WX} {o e e2 : Expr} {go gk gx : GE} {apos cpos : Pos} (hu : X.A.units + 1 + 8 < cLine) (ho : QE X C W o go) (hk : QE X C W e gk) (hx : QE X C W e2 gx)
    (hbase : attributeBase o "get" X.env (eval o X.env) = eval o X.env := by rfl)
    (hfew : ((backTo cpos (starEach [e, e2] X.env)).all (fun x => !x.1) && (backToKw cpos (keywordEach [] X.env)).all (fun x => x.1.isSome) && decide ([e, e2].length + ([] : List Keyword).length + (if ([] : List Keyword).isEmpty then 0 else 1) < 30)) = true := by rfl)
    (hline : (apos.endLine == cpos.line) = true := by rfl) (hs : starEach [e, e2] X.env = (false, eval e X.env) :: starEach [e2] X.env := by rfl) (hs2 : starEach [e2] X.env = (false, eval e2 X.env) :: starEach [] X.env := by rfl) (hplain : (backTo cpos (starEach [e2] X.env)).any (·.1) = false := by rfl) :
    QE X C W (.Call (.Attribute o "get" apos) [e, e2] [] cpos) (gGetN go gk gx) := by
  obtain ⟨ta, pa, qa⟩ := ho
  obtain ⟨tb, pb, qb⟩ := hk
  obtain ⟨tc, pc, qc⟩ := hx
  refine ⟨_, pe_getN hu pa (pa_cons pb (pa_cons pc pa_nil hs2) hs) hbase hfew hline hs hplain, fun σ H Z ι Γ M Q sl hr h => qa σ H Z ι Γ M _ sl hr (h.bind fun x M1 v H1 Z1 ι1 e1 hr1 r1 h1 => ?_)⟩
  by_cases c : isDct M1 x = true
  · rw [if_pos c] at h1
    unfold isDct at c
    cases ed : dctD M1 x with
    | none => rw [ed] at c; cases c
    | some p =>
      rw [ed] at c
      have c : p.1.all isTup = true := c
      refine ⟨?_, qb σ H1 Z1 ι1 Γ M1 _ (sl.ext e1) hr1 (h1.bind fun y M2 u H2 Z2 ι2 e2 hr2 r2 h2 => qc σ H2 Z2 ι2 Γ M2 _ ((sl.ext e1).ext e2) hr2 (h2.bind fun z M3 uz H3 Z3 ι3 e3 hr3 r3 h3 => ?_))⟩
      · obtain ⟨a, nks, kx, xs, b1, b2, b3, b4⟩ := dctD_run hr1 r1 ed
        exact ⟨_, _, _, _, b1, tups_ref b3 c, b2⟩
      · obtain ⟨d, hd, h4⟩ := Post.of_opR (γ := D) (δ := V) h3
        unfold dGetN at hd
        cases ed3 : dctD M3 x with
        | none => rw [ed3] at hd; cases hd
        | some p3 =>
          rw [ed3] at hd
          simp only at hd
          cases e5 : lookD p3.1 p3.2 y with
          | none => rw [e5] at hd; cases hd
          | some oo =>
            rw [e5] at hd
            cases hd
            obtain ⟨a, b, nks, nks', kx, xs, k, a1, a2, a2', a3, a4, a5, a6, a7, a8⟩ := look_run hr3 ((r1.ext e2).ext e3) (r2.ext e3) ed3 e5
            subst a1 a2
            refine ⟨a, b, nks, nks', kx, xs, k, uz, rfl, rfl, a2', a3, a4, a5, a6, ?_⟩
            cases p : posK k nks' with
            | none =>
              rw [p] at a8
              have a9 : oo = none := a8
              subst a9
              exact ⟨rfl, h4 _ H3 Z3 ι3 .refl hr3 r3⟩
            | some i =>
              rw [p, Option.bind_some] at a8
              rw [Option.bind_some]
              have lt : i < p3.2.length := by
                obtain ⟨_, _, _, _, _, _, hE⟩ := a3
                have l1 := ents_len hE
                have l2 := a7.length
                have l3 := posK_lt p
                have l4 : ∀ {nk : List NestedKey} {kv : List V}, KeyVs X.K H3 nk kv → nk.length = kv.length := fun {nk} => by
                  induction nk with
                  | nil => intro kv hh; cases hh; rfl
                  | cons n nk ih =>
                    intro kv hh
                    cases hh with
                    | cons q1 q2 => rw [List.length_cons, List.length_cons, ih q2]
                have := l4 a4
                omega
              rw [List.getElem?_eq_getElem lt] at a8
              subst a8
              obtain ⟨vv, hv, rv⟩ := a7.get (List.getElem?_eq_getElem lt)
              rw [hv]
              exact h4 _ H3 Z3 ι3 .refl hr3 rv
  · rw [if_neg c] at h1
    exact h1.elim
@[simp] theorem u_gGetN (go gk gx : GE) (Γ : Env) (M : List MO) : gGetN go gk gx Γ M = (go Γ M).bind fun x M1 => if isDct M1 x = true then (gk Γ M1).bind fun y M2 => (gx Γ M2).bind fun z M3 => opR (dGetN M3 x y z) M3 else .bad := Eq.trans rfl rfl
end Bk

set_option Elab.async false
set_option linter.all false
set_option maxRecDepth 100000
set_option maxHeartbeats 4000000
namespace Bk
open PySem PySem.Spec PyProof.Rows L2
/-! ### {k: v for t in it for t1 in it1} -/
section
variable {prog : Program} {w : World} {A : Around} {R : Result → Shared → Prop} {s : Shared} {kx vx t0 i0 t1 i1 : Expr} {ifs0 ifs1 : List Expr} {scope : Scope} {pos : Pos} {it : Value} {D : Addr} {env : PySem.Env}
abbrev dcE (kx vx t0 i0 t1 i1 : Expr) (ifs0 ifs1 : List Expr) (scope : Scope) (pos : Pos) : Expr := .DictComp kx vx [⟨t0, i0, ifs0, 0⟩, ⟨t1, i1, ifs1, 0⟩] scope pos
theorem dc2_out : compTurn (dcE kx vx t0 i0 t1 i1 ifs0 ifs1 scope pos) 0 it (.ref D) env = (do
      standAt i0.pos
      match ← pyNext it with
      | none => pure (.done .next)
      | some v =>
        letOwnedTupleGo t0 it v
        assign t0 env v
        let mut ok := true
        for c in ifs0 do
          if ok then ok ← PySem.isTrue c env (eval c env)
        if ok then
          let x ← eval i1 env
          standAt i1.pos
          let x ← foldedSetIterable i1 env x
          let _ ← runOwn (.compStart (dcE kx vx t0 i0 t1 i1 ifs0 ifs1 scope pos) 1 (← holding [x] (pyIter x)) (.ref D) env) env
        again (.compLoop (dcE kx vx t0 i0 t1 i1 ifs0 ifs1 scope pos) 0 it (.ref D) env)) := by rfl
theorem dc2_in : compTurn (dcE kx vx t0 i0 t1 i1 ifs0 ifs1 scope pos) 1 it (.ref D) env = (do
      standAt i1.pos
      match ← pyNext it with
      | none => pure (.done .next)
      | some v =>
        letOwnedTupleGo t1 it v
        assign t1 env v
        let mut ok := true
        for c in ifs1 do
          if ok then ok ← PySem.isTrue c env (eval c env)
        if ok then
          (do
            let kv ← eval kx env
            let vv ← holding [kv] (eval vx env)
            standAt { kx.pos with endLine := vx.pos.endLine, endCol := vx.pos.endCol }
            holding [kv, vv] (dictSet D kv vv))
        again (.compLoop (dcE kx vx t0 i0 t1 i1 ifs0 ifs1 scope pos) 1 it (.ref D) env)) := by rfl
abbrev nB (prog : Program) (w : World) (A : Around) (env : PySem.Env) (R : Result → Shared → Prop) : Value → Shared → Prop := notedBy (model prog w) A env fun e s' => R (.error e) s'
/-- the first clause's loop -/
theorem dc2_loop0 (hs : ∀ x, foldedSetIterable i1 env x = pure x) (I : Nat → Shared → Prop)
    (turn : ∀ n s, I n s → wpAny (model prog w) A (pyNext it) (fun r s1 => match r with
      | none => R (.ok .next) s1
      | some v => wpAny (model prog w) A (letOwnedTupleGo t0 it v) (fun _ s2 => wpAny (model prog w) A (assign t0 env v) (fun _ s3 =>
          wpAny (model prog w) A (forIn ifs0 true fun c r => if r = true then do let ok ← PySem.isTrue c env (eval c env); pure (ForInStep.yield ok) else pure (ForInStep.yield r)) (fun ok s4 =>
            if ok = true then wpAny (model prog w) A (eval i1 env) (fun x s5 => wpAny (model prog w) A (pyIter x) (fun it1 s6 =>
              codeAny (model prog w) A (.compStart (dcE kx vx t0 i0 t1 i1 ifs0 ifs1 scope pos) 1 it1 (.ref D) env) (fun r s' => match r with
                | .ok _ => ∃ m, m < n ∧ I m s'
                | .error _ => False) s6) (nB prog w A env R) s5) (nB prog w A env R) s4
            else ∃ m, m < n ∧ I m s4) (nB prog w A env R) s3) (nB prog w A env R) s2) (nB prog w A env R) s1) (nB prog w A env R) s)
    (n : Nat) (h : I n s) : codeAny (model prog w) A (.compLoop (dcE kx vx t0 i0 t1 i1 ifs0 ifs1 scope pos) 0 it (.ref D) env) R s := by
  refine codeAny_loop rfl I (fun n s hI => ?_) n h
  show wpAny _ A ((compTurn (dcE kx vx t0 i0 t1 i1 ifs0 ifs1 scope pos) 0 it (.ref D) env).onRaise (fun x => do noteFrame x env; theTreesLotGoes x)) _ _ s
  refine wpAny_noted ?_
  rw [dc2_out]
  refine wpAny_bind (wpAny_standAt (wpAny_bind (wpAny_mono (turn n s hI) (fun r s1 h1 => ?_) fun _ _ q => q)))
  cases r with
  | none => exact wpAny_pure h1
  | some v =>
    refine wpAny_bind (wpAny_mono h1 (fun _ s2 h2 => ?_) fun _ _ q => q)
    refine wpAny_bind (wpAny_mono h2 (fun _ s3 h3 => wpAny_bind (wpAny_mono h3 (fun ok s4 h4 => ?_) fun _ _ q => q)) fun _ _ q => q)
    cases ok with
    | false => exact wpAny_pure ⟨rfl, h4⟩
    | true =>
      refine wpAny_bind (wpAny_mono h4 (fun x s5 h5 => ?_) fun _ _ q => q)
      refine wpAny_bind (wpAny_standAt (wpAny_bind (wpAny_of_eq (hs x) (wpAny_bind (wpAny_holding (wpAny_mono h5 (fun it1 s6 h6 => ?_) fun _ _ q => q))))))
      refine wpAny_bind (wpAny_runOwn ?_)
      rw [Around.mark_none]
      refine codeAny_mono h6 fun r s' hr => ?_
      cases r with
      | ok f =>
        first
          | exact wpAny_pure ⟨rfl, hr⟩
          | exact wpAny_bind (wpAny_pure (wpAny_pure ⟨rfl, hr⟩))
      | error e => exact hr.elim
/-- the second clause's loop -/
theorem dc2_loop1 (I : Nat → Shared → Prop)
    (turn : ∀ n s, I n s → wpAny (model prog w) A (pyNext it) (fun r s1 => match r with
      | none => R (.ok .next) s1
      | some v => wpAny (model prog w) A (letOwnedTupleGo t1 it v) (fun _ s2 => wpAny (model prog w) A (assign t1 env v) (fun _ s3 =>
          wpAny (model prog w) A (forIn ifs1 true fun c r => if r = true then do let ok ← PySem.isTrue c env (eval c env); pure (ForInStep.yield ok) else pure (ForInStep.yield r)) (fun ok s4 =>
            if ok = true then wpAny (model prog w) A (eval kx env) (fun kv s5 => wpAny (model prog w) A (eval vx env) (fun vv s6 =>
              wpAny (model prog w) A (dictSet D kv vv) (fun _ s7 => ∃ m, m < n ∧ I m s7) (nB prog w A env R) s6) (nB prog w A env R) s5) (nB prog w A env R) s4
            else ∃ m, m < n ∧ I m s4) (nB prog w A env R) s3) (nB prog w A env R) s2) (nB prog w A env R) s1) (nB prog w A env R) s)
    (n : Nat) (h : I n s) : codeAny (model prog w) A (.compLoop (dcE kx vx t0 i0 t1 i1 ifs0 ifs1 scope pos) 1 it (.ref D) env) R s := by
  refine codeAny_loop rfl I (fun n s hI => ?_) n h
  show wpAny _ A ((compTurn (dcE kx vx t0 i0 t1 i1 ifs0 ifs1 scope pos) 1 it (.ref D) env).onRaise (fun x => do noteFrame x env; theTreesLotGoes x)) _ _ s
  refine wpAny_noted ?_
  rw [dc2_in]
  refine wpAny_bind (wpAny_standAt (wpAny_bind (wpAny_mono (turn n s hI) (fun r s1 h1 => ?_) fun _ _ q => q)))
  cases r with
  | none => exact wpAny_pure h1
  | some v =>
    refine wpAny_bind (wpAny_mono h1 (fun _ s2 h2 => ?_) fun _ _ q => q)
    refine wpAny_bind (wpAny_mono h2 (fun _ s3 h3 => wpAny_bind (wpAny_mono h3 (fun ok s4 h4 => ?_) fun _ _ q => q)) fun _ _ q => q)
    cases ok with
    | false => exact wpAny_pure ⟨rfl, h4⟩
    | true =>
      exact wpAny_bind (wpAny_bind (wpAny_mono h4 (fun kv s5 h5 => wpAny_bind (wpAny_holding (wpAny_mono h5 (fun vv s6 h6 => wpAny_bind (wpAny_standAt (wpAny_holding (wpAny_mono h6 (fun _ s7 h7 => wpAny_pure ⟨rfl, h7⟩) fun _ _ q => q)))) fun _ _ q => q))) fun _ _ q => q))
theorem dc2_start (h0 : codeAny (model prog w) A (.compLoop (dcE kx vx t0 i0 t1 i1 ifs0 ifs1 scope pos) 1 it (.ref D) env) R s)
    (h : wpAny (model prog w) A (pyIter it) (fun it' s' => codeAny (model prog w) A (.compLoop (dcE kx vx t0 i0 t1 i1 ifs0 ifs1 scope pos) 1 it' (.ref D) env) R s') (nB prog w A env R) s) :
    codeAny (model prog w) A (.compStart (dcE kx vx t0 i0 t1 i1 ifs0 ifs1 scope pos) 1 it (.ref D) env) R s := by
  refine codeAny_of_tree ?_
  show wpAny _ _ ((compStart (dcE kx vx t0 i0 t1 i1 ifs0 ifs1 scope pos) 1 it (.ref D) env).onRaise (fun x => do noteFrame x env; standAt theWindowsPlace)) _ _ s
  refine wpAny_notedAt ?_
  unfold compStart
  show wpAny _ _ (ask >>= _) _ _ s
  refine wpAny_bind (wpAny_askSetting (wpAny_ite ?_))
  split
  · first
      | exact wpAny_bind (wpAny_pure (wpAny_pure (And.intro rfl h0)))
      | exact wpAny_pure (And.intro rfl h0)
  · first
      | exact wpAny_bind (wpAny_rule (wpAny_bind (wpAny_standAt (wpAny_bind (wpAny_mono h (fun it' s' q => wpAny_pure (And.intro rfl q)) fun _ _ x => x)))))
      | (refine wpAny_bind (wpAny_rule ?_); show wpAny _ _ (standAt i1.pos >>= _) _ _ s; exact wpAny_bind (wpAny_standAt (wpAny_bind (wpAny_mono h (fun it' s' q => wpAny_pure (And.intro rfl q)) fun _ _ x => x))))
end
/-- what the second clause's walk asks -/
def tDcI (K : PySem.W.Frag) (D : Addr) (wi1 : TI) (g1 : TG) (tt1 : TT) (tk tv : TE) (vs1 : List Nat) (Nx : Hp → Prop) : L2.St → Hp → Prop := fun σ2 H3 => wi1 σ2 H3 fun J1 H4 => ∃ W1 : Nat → Nat → Hp → Prop, (∃ m, W1 0 m H4) ∧ ∀ j k H, W1 j k H →
      (J1.stop j H ∧ Nx H) ∨ (J1.go j H ∧ ∃ Nx1 : Hp → Prop, (∀ H', Nx1 H' → ∃ k', k' < k ∧ W1 (j + 1) k' H') ∧ ∀ x H', J1.yld j H x H' → g1 x (wipe σ2 vs1) H' fun σ3 H5 => wipe σ3 vs1 = wipe σ2 vs1 ∧ tt1 σ3 H5 fun b H6 =>
        if b = true then tk σ3 H6 fun y H7 => tv σ3 H7 fun z H8 => StepN K H8 D y z Nx1 else Nx1 H6)
def tDc2 (K : PySem.W.Frag) (wi : TI) (g : TG) (tt : TT) (wi1 : TI) (g1 : TG) (tt1 : TT) (tk tv : TE) (vs vs1 : List Nat) : TE := fun σ H Q => wi σ H fun J H1 => ∀ D, H1 D = none → (D == sysModules) = false → ∃ Wv : Nat → Nat → Hp → Prop, (∃ m, Wv 0 m (upd H1 D (dnO D #[] 0))) ∧ ∀ i m H, Wv i m H →
  (J.stop i H ∧ Q (.ref D) H) ∨ (J.go i H ∧ ∃ Nx : Hp → Prop, (∀ H', Nx H' → ∃ m', m' < m ∧ Wv (i + 1) m' H') ∧ ∀ x H', J.yld i H x H' → g x (wipe σ vs) H' fun σ2 H2 => wipe σ2 vs = wipe σ vs ∧ tt σ2 H2 fun b H3 =>
    if b = true then tDcI K D wi1 g1 tt1 tk tv vs1 Nx σ2 H3 else Nx H3)
section
variable {X : Cx} {kx vx tg iter tg1 iter1 : Expr} {ifs ifs1 : List Expr} {scope : Scope} {own : List (Str × Nat)} {vs1 : List Nat} {pos : Pos} {wi wi1 : TI} {g g1 : TG} {tt tt1 : TT} {tk tv : TE}
theorem dc2_core {pins : List (Addr × Obj)} {s : Shared} {σ : L2.St} {H : Hp} {Q : VK} {pos' : Pos} {use : Option (Value → Sem Unit)} {Qf : Value → Shared → Prop} (hu : X.A.units + 8 < cLine) (hc : X.calm = true) (hN : X.N.Nodup) (I : Inv X pins σ H s) (hi : PI X tg iter wi) (ok : BlkOk X.N X.env.scope scope own) (hg : Blk X scope fun Y => PG Y tg g) (ht : Blk X scope fun Y => PTs Y ifs tt) (hk : Blk X scope fun Y => PE Y kx tk) (he : Blk X scope fun Y => PE Y vx tv)
    (hv : ∀ i ∈ vs1, i ∈ own.map (·.2)) (hi1 : Blk X scope fun Y => PI Y tg1 iter1 wi1) (hg1 : Blk X scope fun Y => PG Y tg1 g1) (ht1 : Blk X scope fun Y => PTs Y ifs1 tt1) (hs1 : ∀ env x, foldedSetIterable iter1 env x = pure x)
    (hs : ∀ x, foldedSetIterable iter X.env x = pure x) (h : tDc2 X.K wi g tt wi1 g1 tt1 tk tv (own.map (·.2)) vs1 σ H Q)
    (hRR : ∀ D C s' m H', Inv X pins σ H' s' → Q (.ref D) H' → s'.heap.Ns C m → FpOk X pins H' C → compPost (model X.prog X.w) X.A X.xe use Qf (.ref D) C (.ok .next) s') :
    wpAny (model X.prog X.w) X.A (comprehension (dcE kx vx tg iter tg1 iter1 ifs ifs1 scope pos) scope X.env pos' newDict false (eval iter X.env) use) Qf X.xe s := by
  have hfree : ∀ y ∈ scope.names, y.2 = .free → ∃ c, X.env.cells.lookup y.1 = some c := fun y hy e => (ok.free y hy e).elim (fun k => I.ok.has _ (.inl k)) fun k => I.ok.has _ (.inr k)
  refine wpAny_comprehension_free (use := use) rfl hs (closure_ok hfree) ok.kind (fun y hy e => by rw [ok.uniq y hy, e]) (thn (hi.run pins s σ H _ I h) fun xv s1 hx => thn hx fun itv s2 h2 => ?_)
  obtain ⟨it, fp, tn, J, H2, e, I2, T, st2, f2, q⟩ := h2
  subst e
  refine wpAny_newObj_type (newEnv_comp ?_)
  -- the dict
  have sm : (s2.heap.objs.size == sysModules) = false := (dk_empty (P := X.prog) (w := X.w) (H := H2) s2.heap I2.big).2.1
  generalize hD : s2.heap.objs.size = D at sm ⊢
  have hDn : H2 D = none := I2.hok.fresh (Nat.le_of_eq hD)
  obtain ⟨Wv, ⟨m0, w0⟩, turn⟩ := q D hDn sm
  have hnew : (s2.heap.push { cls := .type "dict", data := .dict #[] }).get? D = some { cls := .type "dict", data := .dict #[] } := by rw [← hD]; exact Heap.get?_push_size _ rfl
  generalize hs3 : ({ s2 with heap := s2.heap.push { cls := .type "dict", data := .dict #[] } } : Shared) = s3
  have e3 : s3.heap = s2.heap.push { cls := .type "dict", data := .dict #[] } := by rw [← hs3]
  have kp3 : ∀ b o, s2.heap.get? b = some o → s3.heap.get? b = some o := fun b o e => by rw [e3]; exact Heap.get?_push_of_some _ e
  have I3 : Inv X pins σ (upd H2 D (dnO D #[] 0)) s3 := by
    rw [← hs3]
    refine I2.laid (t' := s2.toks) (fun b o e => Heap.get?_push_of_some _ e) (Nat.le_of_eq hD) ?_
    exact ⟨⟨_, hnew, ⟨rfl, rfl, rfl⟩, rfl⟩, ⟨_, hnew⟩, fun h1 h2 ⟨u, a1, a2, a3⟩ hh => ⟨u, hh u a1, a2, a3⟩⟩
  have inside : ∀ b ∈ fp, b < s2.heap.objs.size := fun b hb => let ⟨_, e, _⟩ := T.obj _ _ st2 b hb; Heap.lt_size e
  have f3 : ∀ b ∈ fp, FpOk X pins (upd H2 D (dnO D #[] 0)) b ∧ b < s3.heap.objs.size := fun b hb => by
    have lt := inside b hb
    refine ⟨⟨?_, (f2 b hb).2⟩, by rw [e3, Heap.size_push]; exact Nat.lt_succ_of_lt lt⟩
    rw [upd_ne (show b ≠ D from Nat.ne_of_lt (by rw [← hD]; exact lt))]
    exact (f2 b hb).1
  have st3 : tn 0 s3.heap := T.keep _ _ _ st2 fun b _ o e => kp3 b o e
  generalize upd H2 D (dnO D #[] 0) = H3 at *
  have I4 := block_start I3 ok hN f3
  have pg := hg s3 H3 s3.heap.objs.size (cellsFrom (s3.heap.objs.size + 1) scope.names (cloFrom X.env.cells scope.names [])) fp
  have pt := ht s3 H3 s3.heap.objs.size (cellsFrom (s3.heap.objs.size + 1) scope.names (cloFrom X.env.cells scope.names [])) fp
  have pk := hk s3 H3 s3.heap.objs.size (cellsFrom (s3.heap.objs.size + 1) scope.names (cloFrom X.env.cells scope.names [])) fp
  have pi1 := hi1 s3 H3 s3.heap.objs.size (cellsFrom (s3.heap.objs.size + 1) scope.names (cloFrom X.env.cells scope.names [])) fp
  have pg1 := hg1 s3 H3 s3.heap.objs.size (cellsFrom (s3.heap.objs.size + 1) scope.names (cloFrom X.env.cells scope.names [])) fp
  have pt1 := ht1 s3 H3 s3.heap.objs.size (cellsFrom (s3.heap.objs.size + 1) scope.names (cloFrom X.env.cells scope.names [])) fp
  have pv := he s3 H3 s3.heap.objs.size (cellsFrom (s3.heap.objs.size + 1) scope.names (cloFrom X.env.cells scope.names [])) fp
  show codeAny _ _ (.compStart (dcE kx vx tg iter tg1 iter1 ifs ifs1 scope pos) 0 (.ref it) (.ref D) (compEnvC scope (cellsFrom (s3.heap.objs.size + 1) scope.names (cloFrom X.env.cells scope.names [])) s3.heap.objs.size X.env)) (compPost (model X.prog X.w) X.A X.xe use Qf (.ref D) s3.heap.objs.size) { s3 with heap := pushCells (s3.heap.push { cls := .type "dict", data := .dict #[] }) scope.names }
  generalize hce : compEnvC scope (cellsFrom (s3.heap.objs.size + 1) scope.names (cloFrom X.env.cells scope.names [])) s3.heap.objs.size X.env = ce at I4 pg pt pk pv pi1 pg1 pt1 ⊢
  have hloc : ce.locals = s3.heap.objs.size := by subst hce; rfl
  have n3 : ∀ b ∈ fp, H3 b = none := fun b hb => (f3 b hb).1.1
  generalize hs4 : ({ s3 with heap := pushCells (s3.heap.push { cls := .type "dict", data := .dict #[] }) scope.names } : Shared) = s4 at I4 ⊢
  have st4 : tn 0 s4.heap := T.keep _ _ _ st3 fun b _ o e => by rw [← hs4]; exact pushCells_keeps _ _ _ _ (Heap.get?_push_of_some _ e)
  -- what stays true of the walked things inside the block
  have fps : ∀ {σ' : L2.St} {H' : Hp} {s' : Shared}, Inv (X.blk s3 H3 scope ce fp) [] σ' H' s' → (∀ b ∈ fp, H' b = none) → ∀ b ∈ fp, FpOk (X.blk s3 H3 scope ce fp) [] H' b := fun {σ' H' s'} J' nn b hb =>
    ⟨nn b hb, (J'.ok.exf b hb).1, J'.ok.exfs b hb, .inl hb, fun x c e => (J'.ok.exf b hb).2 x c e, fun p hp => absurd (show p ∈ ([] : List (Addr × Obj)) ++ [] from hp) (by simp)⟩
  have loop : codeAny (model X.prog X.w) X.A (.compLoop (dcE kx vx tg iter tg1 iter1 ifs ifs1 scope pos) 0 (.ref it) (.ref D) ce) (compPost (model X.prog X.w) X.A X.xe use Qf (.ref D) s3.heap.objs.size) s4 := by
    refine dc2_loop0 (hs1 ce) (fun n s' => ∃ i H', Inv (X.blk s3 H3 scope ce fp) [] (wipe σ (own.map (·.2))) H' s' ∧ tn i s'.heap ∧ (∀ b ∈ fp, H' b = none) ∧ Wv i n H') ?_ m0 ⟨0, H3, I4, st4, n3, w0⟩
    rintro n s5 ⟨i, H5, I5, st5, n5, w5⟩
    rcases turn i n H5 w5 with ⟨stop, qq⟩ | ⟨go, Nx, hNx, step⟩
    · refine thnF (T.done (X.blk s3 H3 scope ce fp) rfl rfl rfl hc i [] s5 _ H5 (fun _ _ => False) I5 (fps I5 n5) st5 stop) fun r s6 hr6 => ?_
      obtain ⟨hr, I6⟩ := hr6
      subst hr
      have nC : H5 s3.heap.objs.size = none := by rw [← hloc]; exact I6.free
      obtain ⟨m, hn, _⟩ := I6.loc
      have hn' : s6.heap.Ns s3.heap.objs.size m := by rw [← hloc]; exact hn
      have I7 : Inv X pins σ H5 s6 := I3.call' (ch := fp) I6.os I6.base I6.hok I6.bare fun b hb => ⟨(f3 b hb).1.2.2.2.1, (f3 b hb).1.2.1, (f3 b hb).1.2.2.2.2.1, (f3 b hb).1.2.2.2.2.2⟩
      exact hRR D s3.heap.objs.size s6 m H5 I7 qq hn' (I3.fpOk (Nat.le_refl _) nC)
    · refine thnF (T.item (X.blk s3 H3 scope ce fp) rfl rfl rfl hc i [] s5 _ H5 (fun _ _ => False) I5 (fps I5 n5) st5 go) fun r s6 hr6 => ?_
      obtain ⟨u, hr, h6⟩ := hr6
      subst hr
      refine thnF h6 fun _ s7 h7 => ?_
      obtain ⟨x, H7, I7, r7, y7, st7, n7⟩ := h7
      have I7p := I7.pinned (fps I7 n7) (T.obj _ _ st7)
      refine thnF (pg.run _ s7 _ H7 x u _ I7p r7 (step x H7 y7)) fun _ s8 h8 => ?_
      obtain ⟨σ8, H8, I8, hw8, q8⟩ := h8
      refine thnF (pt.run _ s8 σ8 H8 _ I8 q8) fun b s9 h9 => ?_
      obtain ⟨H9, I9, q9⟩ := h9
      -- the turn's end, from any slots that know what the block knew
      have again : ∀ {σ9 : L2.St} {s' : Shared} {H' : Hp}, Inv (X.blk s3 H3 scope ce fp) ([] ++ pinsAt fp s7.heap) σ9 H' s' → (wipe σ (own.map (·.2))).length = σ9.length → (∀ (j : Nat) v, (wipe σ (own.map (·.2)))[j]? = some (some v) → σ9[j]? = some (some v)) → Nx H' →
          ∃ m, m < n ∧ ∃ i H', Inv (X.blk s3 H3 scope ce fp) [] (wipe σ (own.map (·.2))) H' s' ∧ tn i s'.heap ∧ (∀ b ∈ fp, H' b = none) ∧ Wv i m H' := fun {σ9 s' H'} J' hl hkn nx => by
        obtain ⟨m', hm, w'⟩ := hNx H' nx
        have pin' : ∀ b ∈ fp, ∀ o, s7.heap.get? b = some o → s'.heap.get? b = some o ∧ H' b = none := fun b hb o e =>
          ⟨(J'.pin (b, o) (List.mem_append_right _ (List.mem_append_right _ (mem_pinsAt hb e)))).1, (J'.pin (b, o) (List.mem_append_right _ (List.mem_append_right _ (mem_pinsAt hb e)))).2.1⟩
        refine ⟨m', hm, i + 1, H', (J'.unpinned (pins := [])).weak hl hkn, T.keep _ _ _ st7 fun b hb o e => (pin' b hb o e).1, fun b hb => ?_, w'⟩
        obtain ⟨o, e, _⟩ := T.obj _ _ st7 b hb
        exact (pin' b hb o e).2
      have l8 : (wipe σ (own.map (·.2))).length = σ8.length := by rw [← hw8, wipe_length]
      have k8 : ∀ (j : Nat) v, (wipe σ (own.map (·.2)))[j]? = some (some v) → σ8[j]? = some (some v) := fun j v e => by
        rw [← hw8] at e
        exact (wipe_some e).1
      have k9 : ∀ (j : Nat) v, (wipe σ (own.map (·.2)))[j]? = some (some v) → (wipe σ8 vs1)[j]? = some (some v) := fun j v e => by
        rw [← hw8] at e
        obtain ⟨e1, e2⟩ := wipe_some e
        rw [wipe_out fun z => e2 (hv j z)]
        exact e1
      cases b with
      | false => exact again I9 l8 k8 (by simpa using q9)
      | true =>
        simp only [if_true] at q9 ⊢
        refine thnF (pi1.run _ s9 σ8 H9 _ I9 q9) fun xv s10 hx => thnF hx fun itv s11 h11 => ?_
        obtain ⟨it1, fp1, tn1, J1, H11, e1, I11, T1, st11, f11, W1, ⟨m1, w1⟩, turn1⟩ := h11
        subst e1
        have fps1 : ∀ {H' : Hp}, (∀ b ∈ fp1, H' b = none) → ∀ b ∈ fp1, FpOk (X.blk s3 H3 scope ce fp) ([] ++ pinsAt fp s7.heap) H' b := fun nn b hb => ⟨nn b hb, (f11 b hb).2⟩
        have loop1 : codeAny (model X.prog X.w) X.A (.compLoop (dcE kx vx tg iter tg1 iter1 ifs ifs1 scope pos) 1 (.ref it1) (.ref D) ce)
            (fun r s' => match r with
              | .ok _ => ∃ m, m < n ∧ ∃ i H', Inv (X.blk s3 H3 scope ce fp) [] (wipe σ (own.map (·.2))) H' s' ∧ tn i s'.heap ∧ (∀ b ∈ fp, H' b = none) ∧ Wv i m H'
              | .error _ => False) s11 := by
          refine dc2_loop1 (fun k s' => ∃ j H', Inv (X.blk s3 H3 scope ce fp) ([] ++ pinsAt fp s7.heap) (wipe σ8 vs1) H' s' ∧ tn1 j s'.heap ∧ (∀ b ∈ fp1, H' b = none) ∧ W1 j k H') ?_ m1 ⟨0, H11, I11.weak (wipe_length _ _) (fun j v e => (wipe_some e).1), st11, fun b hb => (f11 b hb).1, w1⟩
          rintro k s12 ⟨j, H12, I12, st12, n12, w12⟩
          rcases turn1 j k H12 w12 with ⟨stop1, nx1⟩ | ⟨go1, Nx1, hNx1, step1⟩
          · refine thnF (T1.done (X.blk s3 H3 scope ce fp) rfl rfl rfl hc j _ s12 (wipe σ8 vs1) H12 (fun _ _ => False) I12 (fps1 n12) st12 stop1) fun r s13 h13 => ?_
            obtain ⟨hr, I13⟩ := h13
            subst hr
            exact again I13 (l8.trans (wipe_length σ8 vs1).symm) k9 nx1
          · refine thnF (T1.item (X.blk s3 H3 scope ce fp) rfl rfl rfl hc j _ s12 (wipe σ8 vs1) H12 (fun _ _ => False) I12 (fps1 n12) st12 go1) fun r s13 h13 => ?_
            obtain ⟨u1, hr, h13⟩ := h13
            subst hr
            refine thnF h13 fun _ s14 h14 => ?_
            obtain ⟨x1, H14, I14, r14, y14, st14, n14⟩ := h14
            have I14p := I14.pinned (fps1 n14) (T1.obj _ _ st14)
            refine thnF (pg1.run _ s14 (wipe σ8 vs1) H14 x1 u1 _ I14p r14 (step1 x1 H14 y14)) fun _ s15 h15 => ?_
            obtain ⟨σ15, H15, I15, hw15, q15⟩ := h15
            refine thnF (pt1.run _ s15 σ15 H15 _ I15 q15) fun b1 s16 h16 => ?_
            obtain ⟨H16, I16, q16⟩ := h16
            have again1 : ∀ {s' : Shared} {H' : Hp}, Inv (X.blk s3 H3 scope ce fp) (([] ++ pinsAt fp s7.heap) ++ pinsAt fp1 s14.heap) σ15 H' s' → Nx1 H' → ∃ m, m < k ∧ ∃ j H', Inv (X.blk s3 H3 scope ce fp) ([] ++ pinsAt fp s7.heap) (wipe σ8 vs1) H' s' ∧ tn1 j s'.heap ∧ (∀ b ∈ fp1, H' b = none) ∧ W1 j m H' := fun {s' H'} J' nx => by
              obtain ⟨m', hm, w'⟩ := hNx1 H' nx
              have pin' : ∀ b ∈ fp1, ∀ o, s14.heap.get? b = some o → s'.heap.get? b = some o ∧ H' b = none := fun b hb o e =>
                ⟨(J'.pin (b, o) (List.mem_append_right _ (List.mem_append_right _ (mem_pinsAt hb e)))).1, (J'.pin (b, o) (List.mem_append_right _ (List.mem_append_right _ (mem_pinsAt hb e)))).2.1⟩
              refine ⟨m', hm, j + 1, H', J'.unpinned.weak (by rw [← hw15, wipe_length]) (fun j v e => by rw [← hw15] at e; exact (wipe_some e).1), T1.keep _ _ _ st14 fun b hb o e => (pin' b hb o e).1, fun b hb => ?_, w'⟩
              obtain ⟨o, e, _⟩ := T1.obj _ _ st14 b hb
              exact (pin' b hb o e).2
            cases b1 with
            | false => exact again1 I16 (by simpa using q16)
            | true =>
              simp only [if_true] at q16 ⊢
              refine thnF (pk.run _ s16 σ15 H16 _ I16 q16) fun y s17 h17 => ?_
              obtain ⟨yv, H17, I17, r17, q17⟩ := h17
              refine thnF (pv.run _ s17 σ15 H17 _ I17 q17) fun z s18 h18 => ?_
              obtain ⟨zv, H18, I18, r18, b, es, ep, nks, ks, vs, k, ey, d1, d1', d2, d3, d4, d5, d6, d7⟩ := h18
              subst ey
              obtain rfl : y = Value.ref b := r17
              exact dn_set (X := X.blk s3 H3 scope ce fp) hu I18 d1 sm d1' d2 d3 d4 d5 d6 r18 fun s19 es' ep' I19 hE => again1 I19 (d7 es' ep' _ _ r18 (fun w => KeyV.free k _ d5 X.w w) hE)
        exact dc2_start loop1 (T1.self X.A 0 _ _ _ st11 loop1)
  exact codeAny_compStart_dict loop (T.self X.A 0 _ _ _ st4 loop)
theorem pe_dc2 (hu : X.A.units + 8 < cLine) (hc : X.calm = true) (hN : X.N.Nodup) (hi : PI X tg iter wi) (ok : BlkOk X.N X.env.scope scope own) (hg : Blk X scope fun Y => PG Y tg g) (ht : Blk X scope fun Y => PTs Y ifs tt) (hk : Blk X scope fun Y => PE Y kx tk) (he : Blk X scope fun Y => PE Y vx tv)
    (hv : ∀ i ∈ vs1, i ∈ own.map (·.2)) (hi1 : Blk X scope fun Y => PI Y tg1 iter1 wi1) (hg1 : Blk X scope fun Y => PG Y tg1 g1) (ht1 : Blk X scope fun Y => PTs Y ifs1 tt1) (hs1 : ∀ env x, foldedSetIterable iter1 env x = pure x := by intro _ _; rfl)
    (hs : ∀ x, foldedSetIterable iter X.env x = pure x := by intro _; rfl) : PE X (dcE kx vx tg iter tg1 iter1 ifs ifs1 scope pos) (tDc2 X.K wi g tt wi1 g1 tt1 tk tv (own.map (·.2)) vs1) := by
  refine ⟨fun pins s σ H Q I h => ?_⟩
  unfold dcE
  rw [arm_eval_DictComp]
  refine dc2_core hu hc hN I hi ok hg ht hk he hv hi1 hg1 ht1 hs1 hs h fun D C s' m H' I' q hn f => ⟨m, hn, fun h'' sb => ?_⟩
  obtain ⟨g0, g1, g2, g3, g4, g5⟩ := f
  exact ⟨.ref D, H', I'.turned (t' := s'.toks) (fun b o hb e => (sb.2 b hb).trans e) g0 g1 g3 g4 g5, rfl, q⟩
theorem ps_setDc2 {i : Nat} {y : Str} {py spos : Pos} (hu : X.A.units + 8 < cLine) (hc : X.calm = true) (hN : X.N.Nodup) (hy : X.N[i]? = some y) (hyl : X.env.scope.names.lookup y = some .local) (hsw : swapsWith (dcE kx vx tg iter tg1 iter1 ifs ifs1 scope pos) (some (.Name y py)) spos.line X.env = pure true)
    (hi : PI X tg iter wi) (ok : BlkOk X.N X.env.scope scope own) (hg : Blk X scope fun Y => PG Y tg g) (ht : Blk X scope fun Y => PTs Y ifs tt) (hk : Blk X scope fun Y => PE Y kx tk) (he : Blk X scope fun Y => PE Y vx tv)
    (hv : ∀ i ∈ vs1, i ∈ own.map (·.2)) (hi1 : Blk X scope fun Y => PI Y tg1 iter1 wi1) (hg1 : Blk X scope fun Y => PG Y tg1 g1) (ht1 : Blk X scope fun Y => PTs Y ifs1 tt1) (hs1 : ∀ env x, foldedSetIterable iter1 env x = pure x := by intro _ _; rfl)
    (hs : ∀ x, foldedSetIterable iter X.env x = pure x := by intro _; rfl) : PS X (.Assign [.Name y py] (dcE kx vx tg iter tg1 iter1 ifs ifs1 scope pos) spos) (tAsg (tDc2 X.K wi g tt wi1 g1 tt1 tk tv (own.map (·.2)) vs1) (gName i)) := by
  refine ⟨fun pins s σ H D I h => ?_⟩
  rw [exec_Assign_Name_used _ _ _ _ hsw]
  refine wpAny_bind (wpAny_standAt (wpAny_bind ?_))
  show wpAny _ X.A (do let _ ← comprehension (dcE kx vx tg iter tg1 iter1 ifs ifs1 scope pos) scope X.env (firstIterPos [⟨tg, iter, ifs, 0⟩, ⟨tg1, iter1, ifs1, 0⟩] pos) newDict false (eval iter X.env) (some (assign (.Name y py) X.env))) _ _ s
  have hq : tDc2 X.K wi g tt wi1 g1 tt1 tk tv (own.map (·.2)) vs1 σ H (fun x H1 => gName i x σ H1 D.nx) := h
  refine wpAny_bind (thn (dc2_core (Qf := fun _ s' => SP X pins D .next s') hu hc hN I hi ok hg ht hk he hv hi1 hg1 ht1 hs1 hs hq fun L C s' m H' I' q hn f => ?_) fun _ s' hp => wpAny_pure (wpAny_pure hp))
  show wpAny _ _ (assign (.Name y py) X.env (.ref L)) _ _ _
  refine wpAny_assign_Name (store_ok2 (v := V.ref L) I' hN hy (.inl hyl) rfl (fun s2 I2 hh => ?_) (.inr hyl))
  obtain ⟨a, sb, ha⟩ := hh
  obtain ⟨g0, g1, g2, g3, g4, g5⟩ := f
  have hne : C ≠ a := by
    rcases ha with z | z
    · rw [z]; exact g1
    · exact fun e => g4 y a z e.symm
  exact ⟨m, hn.sameBut sb hne, fun h3 sb3 => ⟨_, H', I2.turned (t' := s2.toks) (fun b o hb e => (sb3.2 b hb).trans e) g0 g1 g3 g4 g5, q⟩⟩
end
end Bk

set_option Elab.async false
set_option linter.all false
set_option maxRecDepth 100000
set_option maxHeartbeats 4000000
namespace Bk
open PySem PySem.Spec PyProof.Rows L2
/-! ### {k: v for t in it for t1 in it1}, as trees -/
def gDcI (gg : GG) (gt : GT) (gk gv : GE) (Γ : Env) : List D → List D → List D → List MO → R (List D × List D)
  | [], ks, vs, M => .ok (ks, vs) M
  | d :: ds, ks, vs, M => match gg d Γ with
    | none => .bad
    | some Γ1 => (gt Γ1 M).only fun b M1 => if b = true then (gk Γ1 M1).only fun k M2 => (gv Γ1 M2).only fun v M3 => match putKV ks vs k v with
        | some r => gDcI gg gt gk gv Γ ds r.1 r.2 M3
        | none => .bad
      else gDcI gg gt gk gv Γ ds ks vs M1
def gDcO (gg : GG) (gt : GT) (gi1 : GI) (gg1 : GG) (gt1 : GT) (gk gv : GE) (vs1 : List Nat) (Γ : Env) : List D → List D → List D → List MO → R D
  | [], ks, vs, M => .ok (.dct ks vs) M
  | d :: ds, ks, vs, M => match gg d Γ with
    | none => .bad
    | some Γ1 => (gt Γ1 M).only fun b M1 => if b = true then (gi1 Γ1 M1).only fun ds1 M2 => (gDcI gg1 gt1 gk gv (forget Γ1 vs1) ds1 ks vs M2).only fun r M3 => gDcO gg gt gi1 gg1 gt1 gk gv vs1 Γ ds r.1 r.2 M3
      else gDcO gg gt gi1 gg1 gt1 gk gv vs1 Γ ds ks vs M1
def gDc2 (gi : GI) (gg : GG) (gt : GT) (gi1 : GI) (gg1 : GG) (gt1 : GT) (gk gv : GE) (own vs1 : List Nat) : GE := fun Γ M => (gi Γ M).bind fun ds M1 => gDcO gg gt gi1 gg1 gt1 gk gv vs1 (forget Γ own) ds [] [] M1
def liftI (K : PySem.W.Frag) (X : Cx) (C : CT) (W : WX) (g : GI) : TI := fun σ H Q => ∃ (Z : Hp) (ι : Nat → Addr) (Γ : Env) (M : List MO), Slots K Z ι M.length Γ σ ∧ HR K H Z ι M ∧ Post X C W (rpI K) σ H Z ι M (g Γ M) Q
section
variable {X : Cx} {C : CT} {W : WX}
theorem blk_i {tg e : Expr} {scope : Scope} {gi : GI} (hi : Blk X scope fun Y => QI Y C noW tg e gi) : Blk X scope fun Y => PI Y tg e (liftI X.K X C noW gi) := fun s H c cl fp => by
  obtain ⟨t, p, q⟩ := hi s H c cl fp
  exact ⟨fun pins s σ H Q I h => p.run pins s σ H Q I (let ⟨Z, ι, Γ, M, h1, h2, h3⟩ := h; q σ H Z ι Γ M Q h1 h2 (h3.blk rfl))⟩
theorem gDcI_run {gg : GG} {gt : GT} {gk gv : GE} {is vs1 : List Nat} {σ σ2 : St} {Γ1 : Env} {Q : VK} {Nx : Hp → Prop} {J : It} {p : Addr} {ds ks0 vs0 : List D} {H0 Z0 H4 Z4 : Hp} {ι0 ι4 : Nat → Addr} {M0 M4 : List MO} {fin : List D × List D → List MO → R D} (hsub : ∀ i ∈ is, i ∈ vs1)
    (e04 : Ext H0 Z0 ι0 M0.length H4 Z4 ι4 M4.length) (hr4 : HR X.K H4 Z4 ι4 M4) (sl : Slots X.K Z4 ι4 M4.length Γ1 (wipe σ2 vs1)) (rJ : ItC anyM X.K J ds Z4 ι4 M4.length) (hp0 : H0 p = none) (od4 : Odd Z4 ι4 M4.length p) (di4 : DI X.K H4 Z4 ι4 M4.length p ks0 vs0)
    (h : Post X C W (rpE X.K) σ H0 Z0 ι0 M0 ((gDcI gg gt gk gv Γ1 ds ks0 vs0 M4).only fin) Q)
    (hfin : ∀ (r : List D × List D) (M : List MO) (H Z : Hp) (ι : Nat → Addr), Ext H0 Z0 ι0 M0.length H Z ι M.length → HR X.K H Z ι M → Odd Z ι M.length p → DI X.K H Z ι M.length p r.1 r.2 → Post X C W (rpE X.K) σ H0 Z0 ι0 M0 (fin r M) Q → Nx H) :
    ∃ W1 : Nat → Nat → Hp → Prop, (∃ m, W1 0 m H4) ∧ ∀ j k H, W1 j k H →
      (J.stop j H ∧ Nx H) ∨ (J.go j H ∧ ∃ Nx1 : Hp → Prop, (∀ H', Nx1 H' → ∃ k', k' < k ∧ W1 (j + 1) k' H') ∧ ∀ x H', J.yld j H x H' → liftG X.K gg is x (wipe σ2 vs1) H' fun σ3 H5 => wipe σ3 vs1 = wipe σ2 vs1 ∧ liftT X.K X C noW gt σ3 H5 fun b H6 =>
        if b = true then liftE X.K X C noW gk σ3 H6 fun y H7 => liftE X.K X C noW gv σ3 H7 fun z H8 => StepN X.K H8 p y z Nx1 else Nx1 H6) := by
  let Inv' : Nat → Hp → Prop := fun i H => ∃ (Z : Hp) (ι : Nat → Addr) (M : List MO) (ks vs : List D), Ext H4 Z4 ι4 M4.length H Z ι M.length ∧ Ext H0 Z0 ι0 M0.length H Z ι M.length ∧ HR X.K H Z ι M ∧ Odd Z ι M.length p ∧ DI X.K H Z ι M.length p ks vs ∧ Post X C W (rpE X.K) σ H0 Z0 ι0 M0 ((gDcI gg gt gk gv Γ1 (ds.drop i) ks vs M).only fin) Q
  have hp4 : ∃ u, H4 p = some u := let ⟨es, ep, _, _, _, q, _⟩ := di4; ⟨_, q⟩
  have touch4 : ∀ {H Z : Hp} {ι : Nat → Addr} {n : Nat} {o : HO}, Ext H4 Z4 ι4 M4.length H Z ι n → True := fun _ => trivial
  refine ⟨fun i m H => m = ds.length - i ∧ i ≤ ds.length ∧ (∃ (Z : Hp) (ι : Nat → Addr) (M : List MO) (ks vs : List D), Sub Z4 Z ∧ (∀ k, k < M4.length → ι k = ι4 k) ∧ M4.length ≤ M.length ∧ Ext H0 Z0 ι0 M0.length H Z ι M.length ∧ HR X.K H Z ι M ∧ Odd Z ι M.length p ∧ DI X.K H Z ι M.length p ks vs ∧ Post X C W (rpE X.K) σ H0 Z0 ι0 M0 ((gDcI gg gt gk gv Γ1 (ds.drop i) ks vs M).only fin) Q),
    ⟨ds.length, rfl, Nat.zero_le _, Z4, ι4, M4, ks0, vs0, fun _ _ q => q, fun _ _ => rfl, Nat.le_refl _, e04, hr4, od4, di4, h⟩, ?_⟩
  rintro i m H ⟨em, hle, Z, ι, M, ks, vs, z1, i1, n1, e1, hr1, od, di, hpost⟩
  obtain ⟨hstop, hgo⟩ := rJ i H Z ι M z1 i1 n1 hr1 trivial
  have slM : Slots X.K Z ι M.length Γ1 (wipe σ2 vs1) := ⟨sl.1, fun i d hd => let ⟨v, a, b⟩ := sl.2 i d hd; ⟨v, a, Rp.mono z1 i1 n1 _ _ b⟩⟩
  by_cases hi : i < ds.length
  · refine .inr ?_
    have ed : ds.drop i = ds[i] :: ds.drop (i + 1) := List.drop_eq_getElem_cons hi
    obtain ⟨go, yl⟩ := hgo ds[i] (List.getElem?_eq_getElem hi)
    refine ⟨go, fun H => ∃ (Z : Hp) (ι : Nat → Addr) (M : List MO) (ks vs : List D), Sub Z4 Z ∧ (∀ k, k < M4.length → ι k = ι4 k) ∧ M4.length ≤ M.length ∧ Ext H0 Z0 ι0 M0.length H Z ι M.length ∧ HR X.K H Z ι M ∧ Odd Z ι M.length p ∧ DI X.K H Z ι M.length p ks vs ∧ Post X C W (rpE X.K) σ H0 Z0 ι0 M0 ((gDcI gg gt gk gv Γ1 (ds.drop (i + 1)) ks vs M).only fin) Q,
      fun H' hN => ⟨ds.length - (i + 1), by omega, rfl, by omega, hN⟩, fun x H2 hy => ?_⟩
    obtain ⟨Z2, e2, hr2, rx⟩ := yl x H2 hy
    have hp1 : ∃ u, H p = some u := let ⟨es, ep, _, _, _, q, _⟩ := di; ⟨_, q⟩
    obtain ⟨u1, hp1⟩ := hp1
    obtain ⟨od2, hp2⟩ := od.ext hp1 e2
    have di2 := di.ext od e2
    have e12 := e1.trans e2 hr1.ali
    rw [ed] at hpost
    cases eg : gg ds[i] Γ1 with
    | none =>
      have z : gDcI gg gt gk gv Γ1 (ds[i] :: ds.drop (i + 1)) ks vs M = .bad := by
        unfold gDcI
        rw [eg]
      rw [z] at hpost
      exact hpost.elim
    | some Γ2 =>
      have z : gDcI gg gt gk gv Γ1 (ds[i] :: ds.drop (i + 1)) ks vs M = ((gt Γ2 M).only fun b M1 => if b = true then (gk Γ2 M1).only fun k M2 => (gv Γ2 M2).only fun v M3 => match putKV ks vs k v with
          | some r => gDcI gg gt gk gv Γ1 (ds.drop (i + 1)) r.1 r.2 M3
          | none => .bad
        else gDcI gg gt gk gv Γ1 (ds.drop (i + 1)) ks vs M1) := by
        conv => lhs; unfold gDcI
        rw [eg]
      rw [z] at hpost
      refine ⟨Z2, ι, M.length, ds[i], Γ1, Γ2, hr2.sub, slM.ext e2, rx, eg, fun σ3 s3 w3 => ⟨(w3 vs1 hsub).trans (wipe_wipe vs1), Z2, ι, Γ2, M, s3, hr2, ?_⟩⟩
      cases et : gt Γ2 M with
      | bad => rw [et] at hpost; exact hpost.elim
      | exc c d M' => rw [et] at hpost; exact hpost.elim
      | ok b M3 =>
        rw [et] at hpost
        intro b' H3 Z3 ι3 e3 hr3 hb
        have hb' : b = b' := hb
        subst hb'
        obtain ⟨od3, hp3⟩ := od2.ext hp2 e3
        have di3 := di2.ext od2 e3
        have e13 := e12.trans e3 hr2.ali
        have z3 : Sub Z4 Z3 := fun a o q => e3.zz _ _ (e2.zz _ _ (z1 _ _ q))
        have i3 : ∀ k, k < M4.length → ι3 k = ι4 k := fun k hk => (e3.ii k (Nat.lt_of_lt_of_le hk n1)).trans (i1 k hk)
        have n3 : M4.length ≤ M3.length := Nat.le_trans n1 e3.ln
        cases b with
        | false => exact ⟨Z3, ι3, M3, ks, vs, z3, i3, n3, e13, hr3, od3, di3, hpost⟩
        | true =>
          rw [if_pos rfl]
          refine ⟨Z3, ι3, Γ2, M3, s3.ext e3, hr3, ?_⟩
          have hpost2 : Post X C W (rpE X.K) σ H0 Z0 ι0 M0 (((gk Γ2 M3).only fun k M2 => (gv Γ2 M2).only fun v M3 => match putKV ks vs k v with
            | some r => gDcI gg gt gk gv Γ1 (ds.drop (i + 1)) r.1 r.2 M3
            | none => .bad).only fin) Q := hpost
          cases ek : gk Γ2 M3 with
          | bad => rw [ek] at hpost2; exact hpost2.elim
          | exc c d M' => rw [ek] at hpost2; exact hpost2.elim
          | ok k M5 =>
            rw [ek] at hpost2
            intro yk H5 Z5 ι5 e5 hr5 rk
            obtain ⟨od5, hp5⟩ := od3.ext hp3 e5
            have di5 := di3.ext od3 e5
            have e15 := e13.trans e5 hr3.ali
            refine ⟨Z5, ι5, Γ2, M5, (s3.ext e3).ext e5, hr5, ?_⟩
            have hpost3 : Post X C W (rpE X.K) σ H0 Z0 ι0 M0 (((gv Γ2 M5).only fun v M3 => match putKV ks vs k v with
              | some r => gDcI gg gt gk gv Γ1 (ds.drop (i + 1)) r.1 r.2 M3
              | none => .bad).only fin) Q := hpost2
            cases ev : gv Γ2 M5 with
            | bad => rw [ev] at hpost3; exact hpost3.elim
            | exc c d M' => rw [ev] at hpost3; exact hpost3.elim
            | ok v M6 =>
              rw [ev] at hpost3
              intro yv H6 Z6 ι6 e6 hr6 rv
              obtain ⟨od6, hp6⟩ := od5.ext hp5 e6
              have di6 := di5.ext od5 e6
              have e16 := e15.trans e6 hr5.ali
              have hpost4 : Post X C W (rpE X.K) σ H0 Z0 ι0 M0 ((match putKV ks vs k v with
                | some r => gDcI gg gt gk gv Γ1 (ds.drop (i + 1)) r.1 r.2 M6
                | none => .bad).only fin) Q := hpost3
              cases ep : putKV ks vs k v with
              | none => rw [ep] at hpost4; exact hpost4.elim
              | some r =>
                rw [ep] at hpost4
                refine put_step hr6.sub di6 (rk.ext e6) rv ep fun o di' => ⟨Z6, ι6, M6, r.1, r.2, fun a o q => e6.zz _ _ (e5.zz _ _ (z3 _ _ q)), fun k hk => (e6.ii k (Nat.lt_of_lt_of_le hk (Nat.le_trans n3 e5.ln))).trans ((e5.ii k (Nat.lt_of_lt_of_le hk n3)).trans (i3 k hk)), Nat.le_trans n3 (Nat.le_trans e5.ln e6.ln), e16.touch hp0, hr6.odd od6, od6, di', hpost4⟩
  · refine .inl ⟨hstop (by omega), ?_⟩
    rw [List.drop_eq_nil_of_le (Nat.le_of_not_lt hi)] at hpost
    exact hfin (ks, vs) M H Z ι e1 hr1 od di hpost
theorem gDcO_run {gg gg1 : GG} {gt gt1 : GT} {gi1 : GI} {gk gv : GE} {is is1 own vs1 : List Nat} {σ : St} {Γ0 : Env} {Q : VK} {J : It} {p : Addr} {ds : List D} {H0 Z0 : Hp} {ι0 : Nat → Addr} {M0 : List MO} (hsub : ∀ i ∈ is, i ∈ own) (hsub1 : ∀ i ∈ is1, i ∈ vs1) (sl : Slots X.K Z0 ι0 M0.length Γ0 (wipe σ own)) (rJ : ItC anyM X.K J ds Z0 ι0 M0.length)
    (hp0 : H0 p = none) (hsm : (p == sysModules) = false) (hr0 : HR X.K H0 Z0 ι0 M0) (h : Post X C W (rpE X.K) σ H0 Z0 ι0 M0 (gDcO gg gt gi1 gg1 gt1 gk gv vs1 Γ0 ds [] [] M0) Q) :
    ∃ Wv : Nat → Nat → Hp → Prop, (∃ m, Wv 0 m (upd H0 p (dnO p #[] 0))) ∧ ∀ i m H, Wv i m H →
      (J.stop i H ∧ Q (.ref p) H) ∨ (J.go i H ∧ ∃ Nx : Hp → Prop, (∀ H', Nx H' → ∃ m', m' < m ∧ Wv (i + 1) m' H') ∧ ∀ x H', J.yld i H x H' → liftG X.K gg is x (wipe σ own) H' fun σ2 H2 => wipe σ2 own = wipe σ own ∧ liftT X.K X C noW gt σ2 H2 fun b H3 =>
        if b = true then tDcI X.K p (liftI X.K X C noW gi1) (liftG X.K gg1 is1) (liftT X.K X C noW gt1) (liftE X.K X C noW gk) (liftE X.K X C noW gv) vs1 Nx σ2 H3 else Nx H3) := by
  let Inv' : Nat → Hp → Prop := fun i H => ∃ (Z : Hp) (ι : Nat → Addr) (M : List MO) (ks vs : List D), Ext H0 Z0 ι0 M0.length H Z ι M.length ∧ HR X.K H Z ι M ∧ Odd Z ι M.length p ∧ DI X.K H Z ι M.length p ks vs ∧ Post X C W (rpE X.K) σ H0 Z0 ι0 M0 (gDcO gg gt gi1 gg1 gt1 gk gv vs1 Γ0 (ds.drop i) ks vs M) Q
  have q0 : Odd Z0 ι0 M0.length p := .new hr0 hp0
  have d0 : DI X.K (upd H0 p (dnO p #[] 0)) Z0 ι0 M0.length p [] [] := ⟨#[], 0, [], [], [], upd_same, .nil, .nil, .nil, .nil, rfl, Nat.zero_le _, rfl, fun x hx => by cases hx⟩
  refine ⟨fun i m H => m = ds.length - i ∧ i ≤ ds.length ∧ Inv' i H, ⟨ds.length, rfl, Nat.zero_le _, Z0, ι0, M0, [], [], (Ext.refl).touch hp0, hr0.odd q0, q0, d0, h⟩, ?_⟩
  rintro i m H ⟨em, hle, Z, ι, M, ks, vs, e1, hr1, od, di, hpost⟩
  obtain ⟨hstop, hgo⟩ := rJ i H Z ι M e1.zz e1.ii e1.ln hr1 trivial
  by_cases hi : i < ds.length
  · refine .inr ?_
    have ed : ds.drop i = ds[i] :: ds.drop (i + 1) := List.drop_eq_getElem_cons hi
    obtain ⟨go, yl⟩ := hgo ds[i] (List.getElem?_eq_getElem hi)
    refine ⟨go, Inv' (i + 1), fun H' hN => ⟨ds.length - (i + 1), by omega, rfl, by omega, hN⟩, fun x H2 hy => ?_⟩
    obtain ⟨Z2, e2, hr2, rx⟩ := yl x H2 hy
    have hp1 : ∃ u, H p = some u := let ⟨es, ep, _, _, _, q, _⟩ := di; ⟨_, q⟩
    obtain ⟨u1, hp1⟩ := hp1
    obtain ⟨od2, hp2⟩ := od.ext hp1 e2
    have di2 := di.ext od e2
    have e12 := e1.trans e2 hr1.ali
    rw [ed] at hpost
    cases eg : gg ds[i] Γ0 with
    | none =>
      have z : gDcO gg gt gi1 gg1 gt1 gk gv vs1 Γ0 (ds[i] :: ds.drop (i + 1)) ks vs M = .bad := by
        unfold gDcO
        rw [eg]
      rw [z] at hpost
      exact hpost.elim
    | some Γ1 =>
      have z : gDcO gg gt gi1 gg1 gt1 gk gv vs1 Γ0 (ds[i] :: ds.drop (i + 1)) ks vs M = ((gt Γ1 M).only fun b M1 => if b = true then (gi1 Γ1 M1).only fun ds1 M2 => (gDcI gg1 gt1 gk gv (forget Γ1 vs1) ds1 ks vs M2).only fun r M3 => gDcO gg gt gi1 gg1 gt1 gk gv vs1 Γ0 (ds.drop (i + 1)) r.1 r.2 M3
        else gDcO gg gt gi1 gg1 gt1 gk gv vs1 Γ0 (ds.drop (i + 1)) ks vs M1) := by
        conv => lhs; unfold gDcO
        rw [eg]
      rw [z] at hpost
      refine ⟨Z2, ι, M.length, ds[i], Γ0, Γ1, hr2.sub, sl.ext e12, rx, eg, fun σ2 s2 w2 => ⟨(w2 own hsub).trans (wipe_wipe own), Z2, ι, Γ1, M, s2, hr2, ?_⟩⟩
      cases et : gt Γ1 M with
      | bad => rw [et] at hpost; exact hpost.elim
      | exc c d M' => rw [et] at hpost; exact hpost.elim
      | ok b M3 =>
        rw [et] at hpost
        intro b' H3 Z3 ι3 e3 hr3 hb
        have hb' : b = b' := hb
        subst hb'
        obtain ⟨od3, hp3⟩ := od2.ext hp2 e3
        have di3 := di2.ext od2 e3
        have e13 := e12.trans e3 hr2.ali
        cases b with
        | false => exact ⟨Z3, ι3, M3, ks, vs, e13, hr3, od3, di3, hpost⟩
        | true =>
          rw [if_pos rfl]
          have hpost2 : Post X C W (rpE X.K) σ H0 Z0 ι0 M0 ((gi1 Γ1 M3).only fun ds1 M2 => (gDcI gg1 gt1 gk gv (forget Γ1 vs1) ds1 ks vs M2).only fun r M3 => gDcO gg gt gi1 gg1 gt1 gk gv vs1 Γ0 (ds.drop (i + 1)) r.1 r.2 M3) Q := hpost
          refine ⟨Z3, ι3, Γ1, M3, s2.ext e3, hr3, ?_⟩
          cases ei : gi1 Γ1 M3 with
          | bad => rw [ei] at hpost2; exact hpost2.elim
          | exc c d M' => rw [ei] at hpost2; exact hpost2.elim
          | ok ds1 M4 =>
            rw [ei] at hpost2
            intro J1 H4 Z4 ι4 e4 hr4 rJ1
            obtain ⟨od4, hp4⟩ := od3.ext hp3 e4
            have di4 := di3.ext od3 e4
            have e14 := e13.trans e4 hr3.ali
            exact gDcI_run hsub1 e14 hr4 (slots_wipe _ ((s2.ext e3).ext e4)) rJ1 hp0 od4 di4 hpost2 fun r M H Z ι a1 a2 a3 a4 a5 => ⟨Z, ι, M, r.1, r.2, a1, a2, a3, a4, a5⟩
  · refine .inl ⟨hstop (by omega), ?_⟩
    rw [List.drop_eq_nil_of_le (Nat.le_of_not_lt hi)] at hpost
    obtain ⟨es, ep, nks, kx, xs, h1, h2, h3, h4, h5, h6, h7, h8, h9⟩ := di
    have s1 : Sub Z (upd Z p (dnO p es ep)) := fun a u q => by rw [upd_ne (ne_of_none q od.z)]; exact q
    have up : ∀ {as : List D} {ws : List V}, Rps X.K Z ι M.length as ws → Rps X.K (upd Z p (dnO p es ep)) ι M.length as ws := fun r => Rps.mono s1 (fun _ _ => rfl) (Nat.le_refl _) _ _ r
    exact hpost _ H _ ι (e1.adoptZ od.z hp0) (hr1.adoptZ od h1) (.dct ⟨es, ep, upd_same, hsm, h7, h3, h2.sub s1⟩ (up h4) (up h5))
theorem dc2_post {σ : St} {H Z : Hp} {ι : Nat → Addr} {M : List MO} {Q : VK} {wi : TI} {gi gi1 : GI} {gg gg1 : GG} {gt gt1 : GT} {gk gv : GE} {is is1 own vs1 : List Nat} {Γ : Env}
    (qi : ∀ (σ : St) (H Z : Hp) (ι : Nat → Addr) (Γ : Env) (M : List MO) (Q : It → Hp → Prop), Slots X.K Z ι M.length Γ σ → HR X.K H Z ι M → Post X C W (rpI X.K) σ H Z ι M (gi Γ M) Q → wi σ H Q) (hsub : ∀ i ∈ is, i ∈ own) (hsub1 : ∀ i ∈ is1, i ∈ vs1)
    (sl : Slots X.K Z ι M.length Γ σ) (hr : HR X.K H Z ι M) (h : Post X C W (rpE X.K) σ H Z ι M (gDc2 gi gg gt gi1 gg1 gt1 gk gv own vs1 Γ M) Q) :
    tDc2 X.K wi (liftG X.K gg is) (liftT X.K X C noW gt) (liftI X.K X C noW gi1) (liftG X.K gg1 is1) (liftT X.K X C noW gt1) (liftE X.K X C noW gk) (liftE X.K X C noW gv) own vs1 σ H Q :=
  qi σ H Z ι Γ M _ sl hr (Post.bind h fun ds M1 J H1 Z1 ι1 e1 hr1 rJ h1 => fun p hp hsm =>
    gDcO_run hsub hsub1 (slots_wipe _ (sl.ext e1)) rJ hp hsm hr1 h1)
section
variable {kx vx tg iter tg1 iter1 : Expr} {ifs ifs1 : List Expr} {scope : Scope} {own : List (Str × Nat)} {pos spos py : Pos} {gi gi1 : GI} {gg gg1 : GG} {gt gt1 : GT} {gk gv : GE} {is is1 ixs vs1 : List Nat}
theorem qe_dc2 (hu : X.A.units + 8 < cLine) (hc : X.calm = true) (hN : X.N.Nodup) (hi : QI X C W tg iter gi) (ok : BlkOk X.N X.env.scope scope own)
    (hg : Blk X scope fun Y => QG Y tg gg is) (ht : Blk X scope fun Y => QTs Y C noW ifs gt) (hi1 : Blk X scope fun Y => QI Y C noW tg1 iter1 gi1) (hg1 : Blk X scope fun Y => QG Y tg1 gg1 is1) (ht1 : Blk X scope fun Y => QTs Y C noW ifs1 gt1) (hk : Blk X scope fun Y => QE Y C noW kx gk) (he : Blk X scope fun Y => QE Y C noW vx gv)
    (hix : ixs = own.map (·.2) := by rfl) (hsub : ∀ i ∈ is, i ∈ own.map (·.2) := by decide) (hsub1 : ∀ i ∈ is1, i ∈ vs1 := by decide) (hv : ∀ i ∈ vs1, i ∈ own.map (·.2) := by decide) (hs1 : ∀ env x, foldedSetIterable iter1 env x = pure x := by intro _ _; rfl) (hs : ∀ x, foldedSetIterable iter X.env x = pure x := by intro _; rfl) :
    QE X C W (.DictComp kx vx [⟨tg, iter, ifs, 0⟩, ⟨tg1, iter1, ifs1, 0⟩] scope pos) (gDc2 gi gg gt gi1 gg1 gt1 gk gv ixs vs1) := by
  subst hix
  obtain ⟨wi, pi, qi⟩ := hi
  exact ⟨_, pe_dc2 hu hc hN pi ok (blk_g hg) (blk_t ht) (blk_e hk) (blk_e he) hv (blk_i hi1) (blk_g hg1) (blk_t ht1) hs1 hs, fun σ H Z ι Γ M Q sl hr h => dc2_post qi hsub hsub1 sl hr h⟩
theorem qs_dc2 {i : Nat} {y : Str} (hu : X.A.units + 8 < cLine) (hc : X.calm = true) (hN : X.N.Nodup) (hy : X.N[i]? = some y) (hyl : X.env.scope.names.lookup y = some .local) (hsw : swapsWith (.DictComp kx vx [⟨tg, iter, ifs, 0⟩, ⟨tg1, iter1, ifs1, 0⟩] scope pos) (some (.Name y py)) spos.line X.env = pure true) (hi : QI X C W tg iter gi) (ok : BlkOk X.N X.env.scope scope own)
    (hg : Blk X scope fun Y => QG Y tg gg is) (ht : Blk X scope fun Y => QTs Y C noW ifs gt) (hi1 : Blk X scope fun Y => QI Y C noW tg1 iter1 gi1) (hg1 : Blk X scope fun Y => QG Y tg1 gg1 is1) (ht1 : Blk X scope fun Y => QTs Y C noW ifs1 gt1) (hk : Blk X scope fun Y => QE Y C noW kx gk) (he : Blk X scope fun Y => QE Y C noW vx gv)
    (hix : ixs = own.map (·.2) := by rfl) (hsub : ∀ i ∈ is, i ∈ own.map (·.2) := by decide) (hsub1 : ∀ i ∈ is1, i ∈ vs1 := by decide) (hv : ∀ i ∈ vs1, i ∈ own.map (·.2) := by decide) (hs1 : ∀ env x, foldedSetIterable iter1 env x = pure x := by intro _ _; rfl) (hs : ∀ x, foldedSetIterable iter X.env x = pure x := by intro _; rfl) :
    QS X C W (.Assign [.Name y py] (.DictComp kx vx [⟨tg, iter, ifs, 0⟩, ⟨tg1, iter1, ifs1, 0⟩] scope pos) spos) (gAsg (gDc2 gi gg gt gi1 gg1 gt1 gk gv ixs vs1) (gTo i)) := by
  subst hix
  obtain ⟨wi, pi, qi⟩ := hi
  refine ⟨_, ps_setDc2 hu hc hN hy hyl hsw pi ok (blk_g hg) (blk_t ht) (blk_e hk) (blk_e he) hv (blk_i hi1) (blk_g hg1) (blk_t ht1) hs1 hs, fun Dd σ H Z ι Γ M sl hr h => ?_⟩
  refine dc2_post qi hsub hsub1 sl hr (PostS.bind (Γ := Γ) h sl fun x M1 v H1 Z1 ι1 e1 hr1 r1 h1 => ?_)
  exact h1 _ H1 Z1 ι1 .refl hr1 ((sl.ext e1).set i r1)
end
end
@[simp] theorem u_gDc2 (gi : GI) (gg : GG) (gt : GT) (gi1 : GI) (gg1 : GG) (gt1 : GT) (gk gv : GE) (own vs1 : List Nat) (Γ : Env) (M : List MO) : gDc2 gi gg gt gi1 gg1 gt1 gk gv own vs1 Γ M = (gi Γ M).bind fun ds M1 => gDcO gg gt gi1 gg1 gt1 gk gv vs1 (forget Γ own) ds [] [] M1 := Eq.trans rfl rfl
@[simp] theorem u_gDc (gi : GI) (gg : GG) (gt : GT) (gk gv : GE) (own : List Nat) (Γ : Env) (M : List MO) : gDc gi gg gt gk gv own Γ M = (gi Γ M).bind fun ds M1 => gDcL gg gt gk gv (forget Γ own) ds [] [] M1 := Eq.trans rfl rfl
end Bk

set_option Elab.async false
set_option linter.all false
set_option maxRecDepth 100000
set_option maxHeartbeats 4000000
namespace Bk
open PySem PySem.Spec PyProof.Rows L2
/-! ### sum(d.values()) -/
theorem preSum_list (xs : List Int) (f : Nat → Int) (hf : ∀ (i : Nat) x, xs[i]? = some x → f i = x) : ∀ n, n ≤ xs.length → preSum f n = (xs.take n).sum
  | 0, _ => by simp [preSum]
  | n + 1, h => by
    have lt : n < xs.length := h
    have := preSum_list xs f hf n (Nat.le_of_lt lt)
    have e : (xs.take (n + 1)).sum = (xs.take n).sum + xs[n] := by
      rw [List.take_succ, List.getElem?_eq_getElem lt, List.sum_append]
      simp
    rw [e]
    show preSum f n + f n = _
    rw [this, hf n _ (List.getElem?_eq_getElem lt)]
theorem sum_vals {prog : Program} {w : World} {A : Around} {E : Value → Shared → Prop} {s : Shared} {r d : Addr} {es : Array DictEntry} {ep : Nat} {Q : Value → Shared → Prop} {xs : List Int} (hh : A.handled = none) (hv : s.heap.IsValuesView r d) (hm : s.heap.DictRaw d es ep)
    (hz : es.size = xs.length) (hx : ∀ (i : Nat) (x : Int), xs[i]? = some x → ∃ en t, es[i]? = some en ∧ en.val = Value.int x t)
    (h : ∀ (h' : Heap) (tk : Nat) (t' : Tok), (∀ b o, s.heap.get? b = some o → h'.get? b = some o) → Q (.int xs.sum t') { s with heap := h', toks := tk }) :
    wpAny (model prog w) A (call (.builtin "sum") [.ref r]) Q E s := by
  have K := KdlSrc.rawValues (prog := prog) (w := w) (r := r) (d := d) (es := es) (ep := ep)
  refine PySem.call_sum_walkAnyS ?_
  obtain ⟨oI, St, hit, Wk, st⟩ := K.iter A.in1 s hh ⟨hv, hm⟩
  refine hit _ _ ⟨s.heap.objs.size, _, _, _, es.size, _, _, fun i => xs.getD i 0, rfl, Wk.toS, st, fun b hb => ?_, fun i v hi => ?_, fun s' t' hmv => ?_⟩
  · show b < (s.heap.push oI).objs.size
    rw [Heap.size_push]
    rcases List.mem_cons.mp hb with e | hb
    · rw [e]; exact Nat.lt_succ_self _
    · rw [List.mem_singleton.mp hb]; exact Nat.lt_succ_of_lt (K.there _ ⟨hv, hm⟩).2
  · obtain ⟨lt, rfl⟩ := hi
    have lt2 : i < xs.length := by rw [← hz]; exact lt
    obtain ⟨en, t, e1, e2⟩ := hx i _ (List.getElem?_eq_getElem lt2)
    rw [Array.getElem?_eq_getElem lt] at e1
    cases e1
    exact ⟨t, by rw [e2]; simp [List.getD_eq_getElem?_getD, List.getElem?_eq_getElem lt2]⟩
  · have hk : ∀ b o, s.heap.get? b = some o → s'.heap.get? b = some o := fun b o e =>
      hmv.heap b o (fun hI => absurd (Heap.lt_size e) (by rw [List.mem_singleton.mp hI]; exact Nat.lt_irrefl _)) (Heap.get?_push_of_some _ e)
    have es' : preSum (fun i => xs.getD i 0) es.size = xs.sum := by
      rw [preSum_list xs _ (fun i x e => by simp [List.getD_eq_getElem?_getD, e]) _ (Nat.le_of_eq hz), hz, List.take_length]
    rw [PySem.Moved.eq_with hmv, es']
    exact h s'.heap s'.toks t' hk
/-- a view of a dict's values -/
def VwO (r d : Addr) : HO := .ext fun h => h.IsValuesView r d
def tVw (te : TE) : TA := fun σ H Q => te σ H fun x H1 => ∃ (d : Addr) (es : Array DictEntry) (ep : Nat), x = .ref d ∧ (d == sysModules) = false ∧ H1 d = some (dnO d es ep) ∧ ∀ r, H1 r = none → Q [.ref r] (upd H1 r (VwO r d))
def rSumV : List V → Hp → VK → Prop := fun vs H Q => ∃ (r d : Addr) (es : Array DictEntry) (ep : Nat) (is : List Int), vs = [.ref r] ∧ H r = some (VwO r d) ∧ H d = some (dnO d es ep) ∧ ValAt es (is.map V.int) ∧ Q (.int is.sum) H
theorem cr_sumV {X : Cx} (hc : X.calm = true) : CallR X (.builtin "sum") rSumV := by
  intro pins s σ H vs us Q I r h
  obtain ⟨a, d, es, ep, is, rfl, hr, hd, hv, q⟩ := h
  obtain ⟨u, rfl, rx⟩ := vals1 r
  obtain rfl : u = Value.ref a := rx
  obtain ⟨hw, _, _⟩ := I.hok a _ hr
  obtain ⟨hm, _, _⟩ := I.hok d _ hd
  have hm' : s.heap.DictRaw d es ep := hm
  refine sum_vals (I.ok.hd hc) hw hm' (xs := is) (by have := hv.1; simpa using this) (fun i x hx => ?_) fun h' tk t' hk => ⟨.int _, H, I.kept hk, ⟨_, rfl⟩, q⟩
  obtain ⟨en, e1, rv⟩ := hv.2 i (.int x) (by simp [hx])
  obtain ⟨t, e2⟩ := rv
  exact ⟨en, t, e1, e2⟩
theorem pa_vw {X : Cx} {e : Expr} {te : TE} {apos cpos : Pos} (he : PE X e te) (hbase : attributeBase e "values" X.env (eval e X.env) = eval e X.env := by rfl) (hline : (apos.endLine == cpos.line) = true := by rfl) (hs : starEach [(.Call (.Attribute e "values" apos) [] [] cpos : Expr)] X.env = (false, eval (.Call (.Attribute e "values" apos) [] [] cpos) X.env) :: starEach [] X.env := by rfl) : PA X [.Call (.Attribute e "values" apos) [] [] cpos] (tVw te) := by
  have pv : PE X (.Call (.Attribute e "values" apos) [] [] cpos) (fun σ H Q => te σ H fun x H1 => ∃ (d : Addr) (es : Array DictEntry) (ep : Nat), x = .ref d ∧ (d == sysModules) = false ∧ H1 d = some (dnO d es ep) ∧ ∀ r, H1 r = none → Q (.ref r) (upd H1 r (VwO r d))) := by
    refine ⟨fun pins s σ H Q I h => ?_⟩
    refine wpAny_Call_method (T := "dict") (id := "dict.values") hbase rfl hline F.plainAttrs_dict F.slot_dict_values F.type_dict_values (thn (he.run pins s σ H _ I h) fun u s1 ⟨x, H1, I1, rx, d, es, ep, ex, hs, hd, q⟩ => ?_)
    subst ex
    obtain rfl : u = Value.ref d := rx
    obtain ⟨hm, _, _⟩ := I1.hok d _ hd
    have hm' : s1.heap.DictRaw d es ep := hm
    obtain ⟨o, ho, hx, hdt⟩ := id hm
    refine ⟨hm'.typeIs, ?_, ?_⟩
    · exact fun a e => by cases e; exact ⟨o, ho, hx.2.1⟩
    have lf : H1 s1.heap.objs.size = none := I1.hok.fresh (Nat.le_refl _)
    have I2 : Inv X pins σ (upd H1 s1.heap.objs.size (VwO s1.heap.objs.size d)) { s1 with heap := s1.heap.push { cls := .type "dict_values", data := .fields #[.ref d] } } :=
      I1.laid (t' := s1.toks) (fun b ob q => Heap.get?_push_of_some _ q) (Nat.le_refl _) ⟨⟨_, Heap.get?_push_size _ rfl, rfl, rfl⟩, ⟨_, Heap.get?_push_size _ rfl⟩, fun h1 h2 hv hh => let ⟨o, a1, a2⟩ := hv; ⟨o, hh o a1, a2⟩⟩
    show wpAny _ _ (callWith cpos (.builtin "dict.values") [.ref d] [] []) _ X.xe s1
    exact method_meetsIn F.slot_dict_values F.entry_dict_values rfl (PySem.evalArgs_none ⟨rfl, hm'.typeIs, F.args_dict_values_1 _, _, meets_dict_values_raw d hs, ⟨⟨es, ep, hm'⟩, ⟨V.ref s1.heap.objs.size, _, I2, rfl, q _ lf⟩⟩⟩)
  have pc := pa_cons pv pa_nil hs
  refine ⟨fun pos pins s σ H Q I h => pc.run pos pins s σ H Q I ?_⟩
  exact h
def gSumV (ge : GE) : GE := fun Γ M => (ge Γ M).bind fun d M1 => opR (match d with
  | .dct _ vs => (intsD vs).map fun is => .int is.sum
  | _ => none) M1
theorem qe_sumV {X : Cx} {C : CT} {W : WX} {e : Expr} {g : GE} {p apos cpos pos : Pos} (hc : X.calm = true) (hg : Gl X "sum") (hm : X.mg "sum" = none) (ha : QE X C W e g)
    (hbase : attributeBase e "values" X.env (eval e X.env) = eval e X.env := by rfl) (hline : (apos.endLine == cpos.line) = true := by rfl) (hs : starEach [(.Call (.Attribute e "values" apos) [] [] cpos : Expr)] X.env = (false, eval (.Call (.Attribute e "values" apos) [] [] cpos) X.env) :: starEach [] X.env := by rfl)
    (hpl : (backTo pos (starEach [] X.env)).any (·.1) = false := by rfl) : QE X C W (.Call (.Name "sum" p) [.Call (.Attribute e "values" apos) [] [] cpos] [] pos) (gSumV g) := by
  obtain ⟨ta, pa, qa⟩ := ha
  refine ⟨_, pe_callB (cr_sumV hc) hg hm (by decide +kernel) (pa_vw pa hbase hline hs) (by decide) (by decide) hs hpl, fun σ H Z ι Γ M Q sl hr h => qa σ H Z ι Γ M _ sl hr (h.bind fun x M1 v H1 Z1 ι1 e1 hr1 r1 h1 => ?_)⟩
  obtain ⟨d, hd, h3⟩ := Post.of_opR (γ := D) (δ := V) h1
  cases r1 with
  | dct s rk rv =>
    rename_i ks vs a nks kx xs
    have hd' : (intsD vs).map (fun is => D.int is.sum) = some d := hd
    cases ei : intsD vs with
    | none => rw [ei] at hd'; cases hd'
    | some is =>
      rw [ei] at hd'
      cases hd'
      obtain ⟨es, ep, s1, s2, s3, s4, s5⟩ := s
      obtain ⟨k1, k2⟩ := s5.valAt
      have hda : H1 a = some (dnO a es ep) := hr1.sub _ _ s1
      refine ⟨a, es, ep, rfl, s2, hda, fun r hrn => ?_⟩
      have ev := intsD_is rv ei
      subst ev
      have ne : a ≠ r := fun z => by rw [z, hrn] at hda; cases hda
      refine ⟨r, a, es, ep, is, rfl, upd_same, by rw [upd_ne ne]; exact hda, ⟨by simpa using k1, fun i x hx => ?_⟩, ?_⟩
      · obtain ⟨en, a1, a2⟩ := k2 i x hx
        exact ⟨en, by simpa using a1, a2⟩
      · exact h3 _ _ Z1 ι1 (Ext.touch .refl hrn) (hr1.odd (Odd.new hr1 hrn)) (.int _)
  | _ => cases hd
@[simp] theorem u_gSumV (ge : GE) (Γ : Env) (M : List MO) : gSumV ge Γ M = (ge Γ M).bind fun d M1 => opR (match d with
  | .dct _ vs => (intsD vs).map fun is => .int is.sum
  | _ => none) M1 := Eq.trans rfl rfl
end Bk

set_option Elab.async false
set_option linter.all false
set_option maxRecDepth 100000
set_option maxHeartbeats 4000000
namespace Bk
open PySem PySem.Spec PyProof.Rows L2
/-! ### a new thing of ours, from a thing that is neither frozen nor ours -/
section
variable {K : PySem.W.Frag} {H Z : Hp} {ι : Nat → Addr} {M : List MO} {p : Addr}
theorem HR.adoptG (h : HR K H Z ι M) (q : Odd Z ι M.length p) {o' : MO} {ho : HO} (hp : H p = some ho) (hd' : o' ≠ .dead) (r : OR K H Z (put ι M.length p) (M.length + 1) o' p) : HR K H Z (put ι M.length p) (M ++ [o']) := by
  have ln : (M ++ [o']).length = M.length + 1 := by simp
  have cs : ∀ {k : Nat} {u : MO}, (M ++ [o'])[k]? = some u → (k < M.length ∧ M[k]? = some u) ∨ (k = M.length ∧ u = o') := fun {k u} e => by
    by_cases hk : k < M.length
    · rw [List.getElem?_append_left hk] at e
      exact .inl ⟨hk, e⟩
    · rw [List.getElem?_append_right (Nat.le_of_not_lt hk)] at e
      by_cases hz : k - M.length = 0
      · rw [hz] at e
        exact .inr ⟨by omega, (Option.some.inj e).symm⟩
      · rw [List.getElem?_eq_none (by simp; omega)] at e
        cases e
  refine ⟨h.sub, fun k hk => ?_, fun k u e d => ?_, fun j k o u e1 e2 d1 d2 e => ?_, fun k u e => ?_, fun k e => ?_⟩
  · rw [ln] at hk
    by_cases hk' : k < M.length
    · rw [put_lt hk']
      exact h.ali k hk'
    · have : k = M.length := by omega
      subst this
      exact ⟨_, by rw [put_at]; exact hp⟩
  · rcases cs e with ⟨hk, e⟩ | ⟨rfl, rfl⟩
    · rw [put_lt hk]
      exact h.sep k u e d
    · rw [put_at]
      exact q.z
  · rcases cs e1 with ⟨hj, e1⟩ | ⟨rfl, rfl⟩ <;> rcases cs e2 with ⟨hk, e2⟩ | ⟨rfl, rfl⟩
    · rw [put_lt hj, put_lt hk] at e
      exact h.inj j k o u e1 e2 d1 d2 e
    · rw [put_lt hj, put_at] at e
      exact absurd e (q.i j hj)
    · rw [put_lt hk, put_at] at e
      exact absurd e.symm (q.i k hk)
    · rfl
  · rcases cs e with ⟨hk, e⟩ | ⟨rfl, rfl⟩
    · rw [put_lt hk]
      exact OR.mono (fun _ _ z => z) (fun _ z => put_lt z) (by rw [ln]; omega) (fun _ z => z) (h.obj k u e)
    · rw [put_at, ln]
      exact r
  · rcases cs e with ⟨hk, e⟩ | ⟨_, e⟩
    · rw [put_lt hk]
      exact h.ded k e
    · exact absurd e.symm hd'
end
/-! ### dict displays -/
section
variable {X : Cx} {C : CT} {W : WX} {pos : Pos}
theorem pe_dnewN : PE X (.Dict [] [] pos) (fun _ H Q => ∀ p, H p = none → (p == sysModules) = false → Q (.ref p) (upd H p (dnO p #[] 0))) := ⟨fun pins s σ H Q I h => by
  have sm : (s.heap.objs.size == sysModules) = false := (dk_empty (P := X.prog) (w := X.w) (H := H) s.heap I.big).2.1
  have hnew : (s.heap.push { cls := .type "dict", data := .dict #[] }).get? s.heap.objs.size = some { cls := .type "dict", data := .dict #[] } := Heap.get?_push_size _ rfl
  refine wpAny_Dict_empty ⟨.ref s.heap.objs.size, _, I.laid (a := s.heap.objs.size) (o := dnO s.heap.objs.size #[] 0) (t' := s.toks) (fun _ _ q => Heap.get?_push_of_some _ q) (Nat.le_refl _) ?_, rfl, h _ (I.hok.fresh (Nat.le_refl _)) sm⟩
  exact ⟨⟨_, hnew, ⟨rfl, rfl, rfl⟩, rfl⟩, ⟨_, hnew⟩, fun h1 h2 ⟨u, a1, a2, a3⟩ hh => ⟨u, hh u a1, a2, a3⟩⟩⟩
def gDct0 : GE := fun _ M => .ok (.dct [] []) M
def gDct0O : GE := fun _ M => .ok (.ref M.length) (M ++ [.dct [] []])
def gDki0O : GE := fun _ M => .ok (.ref M.length) (M ++ [.dki []])
theorem qe_dct0 : QE X C W (.Dict [] [] pos) gDct0 := ⟨_, pe_dnewN, fun σ H Z ι Γ M Q sl hr h p hp hs => by
  obtain ⟨hr1, e1⟩ := hr.frozen (o := dnO p #[] 0) hp
  exact h _ _ _ ι e1 hr1 (.dct ⟨#[], 0, upd_same, hs, Nat.zero_le _, List.nodup_nil, .nil⟩ .nil .nil)⟩
theorem ref_new {K : PySem.W.Frag} {Z : Hp} {ι : Nat → Addr} {M : List MO} {p : Addr} {o : MO} : Rp K Z (put ι M.length p) (M ++ [o]).length (.ref M.length) (.ref p) := by
  have q : Rp K Z (put ι M.length p) (M ++ [o]).length (.ref M.length) (.ref (put ι M.length p M.length)) := .ref (by simp)
  rw [put_at] at q
  exact q
theorem qe_dct0O : QE X C W (.Dict [] [] pos) gDct0O := ⟨_, pe_dnewN, fun σ H Z ι Γ M Q sl hr h p hp hs => by
  obtain ⟨hr1, e1⟩ := hr.ownedG (o' := .dct [] []) (ho := dnO p #[] 0) hp (by simp) ⟨[], [], [], ⟨#[], 0, upd_same, hs, Nat.zero_le _, List.nodup_nil, .nil⟩, .nil, .nil⟩
  exact h _ _ _ _ e1 hr1 ref_new⟩
theorem qe_dki0O : QE X C W (.Dict [] [] pos) gDki0O := ⟨_, pe_dnewK, fun σ H Z ι Γ M Q sl hr h p hp => by
  obtain ⟨hr1, e1⟩ := hr.ownedG (o' := .dki []) (ho := .dK []) hp (by simp) ⟨[], upd_same, rfl, .nil⟩
  exact h _ _ _ _ e1 hr1 ref_new⟩
/-- {k: v} -/
def tDisp1 (K : PySem.W.Frag) (tk tv : TE) : TE := fun σ H Q => ∀ p, H p = none → (p == sysModules) = false → tk σ (upd H p (dnO p #[] 0)) fun y H1 => tv σ H1 fun z H2 => ∃ (b : Addr) (k : NestedKey), y = .ref b ∧ H2 p = some (dnO p #[] 0) ∧ KeyV K H2 k (.ref b) ∧ k.depth ≤ 8 ∧
  ∀ (es : Array DictEntry) (ep : Nat) (r : Value) (hs : Int), RelV z r → (∀ w : World, hs = k.hash w) → es.toList = [⟨hs, .ref b, r⟩] → Q (.ref p) (upd H2 p (dnO p es ep))
theorem pe_disp1 {ke ve : Expr} {tk tv : TE} (hu : X.A.units + 8 < cLine) (hk : PE X ke tk) (hv : PE X ve tv) : PE X (.Dict [some ke] [ve] pos) (tDisp1 X.K tk tv) := by
  refine ⟨fun pins s σ H Q I h => ?_⟩
  have hshape := zip_pairTrees [some ke] [ve] X.env pos rfl rfl
  have sm : (s.heap.objs.size == sysModules) = false := (dk_empty (P := X.prog) (w := X.w) (H := H) s.heap I.big).2.1
  have lf : H s.heap.objs.size = none := I.hok.fresh (Nat.le_refl _)
  have hnew : (s.heap.push { cls := .type "dict", data := .dict #[] }).get? s.heap.objs.size = some { cls := .type "dict", data := .dict #[] } := Heap.get?_push_size _ rfl
  have I1 : Inv X pins σ (upd H s.heap.objs.size (dnO s.heap.objs.size #[] 0)) { s with heap := s.heap.push { cls := .type "dict", data := .dict #[] } } :=
    I.laid (t' := s.toks) (fun _ _ q => Heap.get?_push_of_some _ q) (Nat.le_refl _) ⟨⟨_, hnew, ⟨rfl, rfl, rfl⟩, rfl⟩, ⟨_, hnew⟩, fun h1 h2 ⟨u, a1, a2, a3⟩ hh => ⟨u, hh u a1, a2, a3⟩⟩
  rw [arm_eval_Dict, hshape, dictDisplay_pairs (pairTrees [some ke] [ve] X.env pos) (by simp [pairTrees]) (by simp [pairTrees])]
  refine wpAny_bind (wpAny_standAt (wpAny_bind (wpAny_subDictH (knd := NK X) (Q := fun d s' => wpAny (model X.prog X.w) X.A (pure (Value.ref d)) (EP X pins σ Q) X.xe s') (show (NK X).room X.A from hu) (by simp [pairTrees]) ?_)))
  generalize hp : s.heap.objs.size = p at *
  refine pairTrees_cons_walk (thn (hk.run pins _ σ _ _ I1 (h p lf sm)) fun u s1 h1 => ?_)
  obtain ⟨y, H1, I2, ry, q1⟩ := h1
  refine thn (hv.run pins s1 σ H1 _ I2 q1) fun w2 s2 h2 => pairTrees_nil_walk ?_
  obtain ⟨z, H2, I3, rz, b, k, ey, hp2, kv, kd, q2⟩ := h2
  subst ey
  obtain rfl : u = Value.ref b := ry
  have hkey : (NK X).is s2.heap k b := ⟨KeyV.is I3 k _ _ kv rfl, kd⟩
  obtain ⟨⟨o, ho, hx, hdat⟩, _, _⟩ := I3.hok p _ hp2
  refine ⟨[(k, b, w2)], ⟨rfl, rfl, hkey, trivial⟩, ⟨o, #[], 0, ho, hx, hdat, rfl, by simp, by simp⟩, fun h' tk' dd sb => wpAny_pure ?_⟩
  have est : storedAllH [] [(k, b, w2)] = [(k, b, w2)] := rfl
  rw [est] at dd
  obtain ⟨o', es', ep', ho', hx', hdat', e1', _, _⟩ := dd
  have ok : ObjOk X.prog X.w (upd H2 p (dnO p es' ep')) h' p (dnO p es' ep') := ⟨⟨o', ho', hx', hdat'⟩, ⟨o', ho'⟩, fun h1 h2 ⟨u, hu1, hu2, hu3⟩ hk => ⟨u, hk u hu1, hu2, hu3⟩⟩
  refine ⟨.ref p, _, ?_, rfl, q2 es' ep' w2 (k.hash X.w) rz (fun w => KeyV.free k _ kv X.w w) (by rw [e1']; rfl)⟩
  have := d_write (t' := tk') I3 (by rw [hp2]; exact True.intro) sb ⟨o', ho'⟩ ok
  exact this
def okKey (k : D) : Bool := isTup k && match keyD k with
  | some nk => decide (nk.depth ≤ 8)
  | none => false
def gDisp1 (ga gb : GE) : GE := fun Γ M => (ga Γ M).bind fun k M1 => (gb Γ M1).bind fun v M2 => if okKey k = true then .ok (.dct [k] [v]) M2 else .bad
def gDisp1O (ga gb : GE) : GE := fun Γ M => (ga Γ M).bind fun k M1 => (gb Γ M1).bind fun v M2 => if okKey k = true then .ok (.ref M2.length) (M2 ++ [.dct [k] [v]]) else .bad
theorem disp_read {ga gb : GE} {ta tb : TE} {fin : D → D → List MO → R D} (qa : Rd1 X C W ga ta) (qb : Rd1 X C W gb tb)
    (hfin : ∀ (σ : St) (H0 Z0 : Hp) (ι0 : Nat → Addr) (M0 : List MO) (p : Addr) (Q : VK) (k v : D) (M : List MO) (H Z : Hp) (ι : Nat → Addr) (ho : HO) (nks : List NestedKey) (kx xs : List V), H0 p = none → (p == sysModules) = false → Ext H0 Z0 ι0 M0.length H Z ι M.length → HR X.K H Z ι M → Odd Z ι M.length p → (∃ es ep, ho = dnO p es ep ∧ Ents X.K Z nks kx xs es.toList) → kx.length ≤ sizeLine → nks.Nodup →
      Rps X.K Z ι M.length [k] kx → Rps X.K Z ι M.length [v] xs → Post X C W (rpE X.K) σ H0 Z0 ι0 M0 (fin k v M) Q → Q (.ref p) (upd H p ho)) :
    Rd1 X C W (fun Γ M => (ga Γ M).bind fun k M1 => (gb Γ M1).bind fun v M2 => if okKey k = true then fin k v M2 else .bad) (tDisp1 X.K ta tb) := by
  intro σ H Z ι Γ M Q sl hr h p hp hs
  have h : Post X C W (rpE X.K) σ H Z ι M ((ga Γ M).bind fun k M1 => (gb Γ M1).bind fun v M2 => if okKey k = true then fin k v M2 else .bad) Q := h
  have od0 : Odd Z ι M.length p := .new hr hp
  have hr0 : HR X.K (upd H p (dnO p #[] 0)) Z ι M := hr.odd od0
  have x0 : Ext H Z ι M.length (upd H p (dnO p #[] 0)) Z ι M.length := Ext.touch .refl hp
  refine qa σ _ Z ι Γ M _ sl hr0 ?_
  cases ea : ga Γ M with
  | bad => rw [ea] at h; exact h.elim
  | exc c d M' =>
    rw [ea] at h
    exact Post.shift (r := (.exc c d M' : R D)) (rp := rpE X.K) (Q := Q) h x0 hr0
  | ok k M1 =>
    rw [ea] at h
    have h : Post X C W (rpE X.K) σ H Z ι M ((gb Γ M1).bind fun v M2 => if okKey k = true then fin k v M2 else .bad) Q := h
    intro y H1 Z1 ι1 e1 hr1 r1
    have e01 := x0.trans e1 hr0.ali
    refine qb σ H1 Z1 ι1 Γ M1 _ (sl.ext e1) hr1 ?_
    cases eb : gb Γ M1 with
    | bad => rw [eb] at h; exact h.elim
    | exc c d M' =>
      rw [eb] at h
      exact Post.shift (r := (.exc c d M' : R D)) (rp := rpE X.K) (Q := Q) h e01 hr1
    | ok v M2 =>
      rw [eb] at h
      have h2 : Post X C W (rpE X.K) σ H Z ι M (if okKey k = true then fin k v M2 else .bad) Q := h
      intro z H2 Z2 ι2 e2 hr2 r2
      obtain ⟨od1, hp1⟩ := od0.ext upd_same e1
      obtain ⟨od2, hp2⟩ := od1.ext hp1 e2
      have e02 := e01.trans e2 hr1.ali
      by_cases c : okKey k = true
      · rw [if_pos c] at h2
        have c' : (isTup k && match keyD k with
          | some nk => decide (nk.depth ≤ 8)
          | none => false) = true := c
        rw [Bool.and_eq_true] at c'
        obtain ⟨c1, c2⟩ := c'
        cases ek : keyD k with
        | none => rw [ek] at c2; cases c2
        | some nk =>
          rw [ek] at c2
          have c2 : nk.depth ≤ 8 := by simpa using c2
          have rk := r1.ext e2
          have kz := keyD_run (fun _ _ z => z) _ _ _ rk ek
          have kh := keyD_run hr2.sub _ _ _ rk ek
          cases k with
          | tup ds =>
            cases rk with
            | tup sq rr =>
              refine ⟨_, nk, rfl, hp2, kh, c2, fun es ep r hsh rz hh he => ?_⟩
              exact hfin σ H Z ι M p Q (.tup ds) v M2 H2 Z2 ι2 _ [nk] _ _ hp hs e02 hr2 od2 ⟨es, ep, rfl, by rw [he]; exact .cons kz rfl c2 hh rz .nil⟩ (by show 1 ≤ sizeLine; decide) (by simp) (.cons (.tup sq rr) .nil) (.cons r2 .nil) h2
          | ptu ds =>
            cases rk with
            | ptu sq rr =>
              refine ⟨_, nk, rfl, hp2, kh, c2, fun es ep r hsh rz hh he => ?_⟩
              exact hfin σ H Z ι M p Q (.ptu ds) v M2 H2 Z2 ι2 _ [nk] _ _ hp hs e02 hr2 od2 ⟨es, ep, rfl, by rw [he]; exact .cons kz rfl c2 hh rz .nil⟩ (by show 1 ≤ sizeLine; decide) (by simp) (.cons (.ptu sq rr) .nil) (.cons r2 .nil) h2
          | _ => cases c1
      · rw [if_neg c] at h2
        exact h2.elim
theorem qe_disp1 {ke ve : Expr} {ga gb : GE} (hu : X.A.units + 8 < cLine) (ha : QE X C W ke ga) (hb : QE X C W ve gb) : QE X C W (.Dict [some ke] [ve] pos) (gDisp1 ga gb) := by
  obtain ⟨ta, pa, qa⟩ := ha
  obtain ⟨tb, pb, qb⟩ := hb
  refine ⟨_, pe_disp1 hu pa pb, disp_read (fin := fun k v M => .ok (.dct [k] [v]) M) qa qb ?_⟩
  intro σ H0 Z0 ι0 M0 p Q k v M H Z ι ho nks kx xs h0 hs e hr od hE hl hn rk rv h
  obtain ⟨es, ep, rfl, hE⟩ := hE
  have s1 : Sub Z (upd Z p (dnO p es ep)) := fun a u q => by rw [upd_ne (ne_of_none q od.z)]; exact q
  have hr1 : HR X.K (upd H p (dnO p es ep)) Z ι M := hr.odd od
  exact h _ _ _ ι ((e.touch h0).adoptZ od.z h0) (hr1.adoptZ od upd_same) (.dct ⟨es, ep, upd_same, hs, hl, hn, hE.sub s1⟩ (Rps.mono s1 (fun _ _ => rfl) (Nat.le_refl _) _ _ rk) (Rps.mono s1 (fun _ _ => rfl) (Nat.le_refl _) _ _ rv))
theorem qe_disp1O {ke ve : Expr} {ga gb : GE} (hu : X.A.units + 8 < cLine) (ha : QE X C W ke ga) (hb : QE X C W ve gb) : QE X C W (.Dict [some ke] [ve] pos) (gDisp1O ga gb) := by
  obtain ⟨ta, pa, qa⟩ := ha
  obtain ⟨tb, pb, qb⟩ := hb
  refine ⟨_, pe_disp1 hu pa pb, disp_read (fin := fun k v M => R.ok (D.ref M.length) (M ++ [MO.dct [k] [v]])) qa qb ?_⟩
  intro σ H0 Z0 ι0 M0 p Q k v M H Z ι ho nks kx xs h0 hs e hr od hE hl hn rk rv h
  obtain ⟨es, ep, rfl, hE⟩ := hE
  have hr1 : HR X.K (upd H p (dnO p es ep)) Z ι M := hr.odd od
  have up : ∀ {as : List D} {ws : List V}, Rps X.K Z ι M.length as ws → Rps X.K Z (put ι M.length p) (M.length + 1) as ws := fun r => Rps.mono (fun _ _ z => z) (fun _ z => put_lt z) (Nat.le_succ _) _ _ r
  have ln : (M ++ [MO.dct [k] [v]]).length = (M ++ [MO.lst []]).length := by simp
  refine h _ _ _ _ ?_ (hr1.adoptG (o' := .dct [k] [v]) od upd_same (by simp) ⟨nks, kx, xs, ⟨es, ep, upd_same, hs, hl, hn, hE⟩, up rk, up rv⟩) ref_new
  rw [ln]
  exact (e.touch h0).adoptM h0
@[simp] theorem u_gDct0 (Γ : Env) (M : List MO) : gDct0 Γ M = .ok (.dct [] []) M := Eq.trans rfl rfl
@[simp] theorem u_gDct0O (Γ : Env) (M : List MO) : gDct0O Γ M = .ok (.ref M.length) (M ++ [.dct [] []]) := Eq.trans rfl rfl
@[simp] theorem u_gDki0O (Γ : Env) (M : List MO) : gDki0O Γ M = .ok (.ref M.length) (M ++ [.dki []]) := Eq.trans rfl rfl
@[simp] theorem u_gDisp1 (ga gb : GE) (Γ : Env) (M : List MO) : gDisp1 ga gb Γ M = (ga Γ M).bind fun k M1 => (gb Γ M1).bind fun v M2 => if okKey k = true then .ok (.dct [k] [v]) M2 else .bad := Eq.trans rfl rfl
@[simp] theorem u_gDisp1O (ga gb : GE) (Γ : Env) (M : List MO) : gDisp1O ga gb Γ M = (ga Γ M).bind fun k M1 => (gb Γ M1).bind fun v M2 => if okKey k = true then .ok (.ref M2.length) (M2 ++ [.dct [k] [v]]) else .bad := Eq.trans rfl rfl
end
end Bk

set_option Elab.async false
set_option linter.all false
set_option maxRecDepth 100000
set_option maxHeartbeats 4000000
namespace Bk
open PySem PySem.Spec PyProof.Rows L2
/-! ### tuples that are known to have no dict -/
section
variable {X : Cx} {C : CT} {W : WX} {pos : Pos}
theorem pe_tup0P {x1} : PE X (.Tuple [] x1 pos) (fun σ H Q => ∀ (p : Addr) (o : Obj), H p = none → o.dict = none → Q (.ref p) (upd H p (.frz o (.tup [])))) := by
  refine ⟨fun pins s σ H Q I hq => ?_⟩
  have pa := (pa_nil (X := X)).run pos pins s σ H (fun xs H1 => xs = [] ∧ H1 = H) I ⟨rfl, rfl⟩
  refine wpAny_Tuple_spliced (thn pa fun us s1 hh => ?_)
  obtain ⟨xs, H1, I1, r, e1, e2⟩ := hh
  subst e1 e2
  cases r
  have hf : H1 s1.heap.objs.size = none := I1.hok.fresh (Nat.le_refl _)
  have hnew : (s1.heap.push { cls := .type "tuple", data := .seq #[] }).get? s1.heap.objs.size = some { cls := .type "tuple", data := .seq #[] } := Heap.get?_push_size _ rfl
  refine ⟨Nat.zero_le _, .ref s1.heap.objs.size, upd H1 s1.heap.objs.size (.frz { cls := .type "tuple", data := .seq #[] } (.tup [])), I1.laid (t' := s1.toks) (fun b u e => Heap.get?_push_of_some _ e) (Nat.le_refl _) ?_, rfl, hq _ _ hf rfl⟩
  exact ⟨hnew, Nat.zero_le _, [], .nil, ⟨_, hnew, rfl, _, rfl⟩⟩
def gTup0P : GE := fun _ M => .ok (.ptu []) M
theorem After.ptu {H Z : Hp} {ι : Nat → Addr} {M : List MO} {ds : List D} {Q : VK} {xs : List V} (h : After X H Z ι M (.ptu ds) Q) (hr : HR X.K H Z ι M) (r : Rps X.K Z ι M.length ds xs) : ∀ (p : Addr) (o : Obj), H p = none → o.dict = none → Q (.ref p) (upd H p (.frz o (.tup xs))) := fun p o hp ho => by
  obtain ⟨h1, e1⟩ := hr.frozen (o := .frz o (.tup xs)) hp
  exact h _ _ _ e1 h1 (.ptu ⟨o, upd_same, ho⟩ (r.ext e1))
theorem qe_tup0P {x1} : QE X C W (.Tuple [] x1 pos) gTup0P := ⟨_, pe_tup0P, fun σ H Z ι Γ M Q sl hr h p o hp ho => h.after.ptu hr .nil p o hp ho⟩
theorem call_tupleP : CallR X (.type "tuple") (fun xs H Q => ∃ p ys, xs = [.ref p] ∧ SqL X.K H p ys ∧ ∀ (l : Addr) (o : Obj), H l = none → o.dict = none → Q (.ref l) (upd H l (.frz o (.tup ys)))) := by
  intro pins s σ H xs us Q I r h
  obtain ⟨p, ys, rfl, hq, q⟩ := h
  obtain ⟨u, rfl, rx⟩ := vals1 r
  cases rx
  obtain ⟨its, r', pl, hz⟩ := I.list hq
  have hlen := r'.length
  refine call_tuple_list pl.isList (fun h' kp => ?_) (by simp only [List.size_toArray] <;> omega)
  have I1 : Inv X pins σ H { s with heap := h' } := I.kept (t' := s.toks) kp
  have hnew : (h'.push { cls := .type "tuple", data := .seq its.toArray }).get? h'.objs.size = some { cls := .type "tuple", data := .seq its.toArray } := Heap.get?_push_size _ rfl
  have I2 : Inv X pins σ (upd H h'.objs.size (.frz { cls := .type "tuple", data := .seq its.toArray } (.tup ys))) { s with heap := h'.push { cls := .type "tuple", data := .seq its.toArray } } :=
    I1.laid (t' := s.toks) (fun b o e => Heap.get?_push_of_some _ e) (Nat.le_refl _) ⟨hnew, hz, its, r', IsTup.new _ _⟩
  exact ⟨.ref h'.objs.size, _, I2, rfl, q _ _ (I1.hok.fresh (Nat.le_refl _)) rfl⟩
def dTupleP (M : List MO) (d : D) : Option D := (listD M d).map .ptu
theorem ok_tupleP : Ok1 X (fun x H Q => ∃ p ys, [x] = [.ref p] ∧ SqL X.K H p ys ∧ ∀ (l : Addr) (o : Obj), H l = none → o.dict = none → Q (.ref l) (upd H l (.frz o (.tup ys)))) dTupleP := fun x H Z ι M dx d Q hr rx e q => by
  unfold dTupleP at e
  cases e1 : listD M dx with
  | none => rw [e1] at e; cases e
  | some ds =>
    rw [e1] at e
    cases e
    obtain ⟨a, xs, rfl, s, r⟩ := listD_run hr rx e1
    exact ⟨_, _, rfl, s.sq, q.ptu hr r⟩
end
/-! ### sorted, pairs of ints -/
def leP (p q : Int × Int) : Bool := decide (p.1 < q.1) || (decide (p.1 = q.1) && decide (p.2 ≤ q.2))
def insP (x : Int × Int) : List (Int × Int) → List (Int × Int)
  | [] => [x]
  | y :: ys => if leP x y = true then x :: y :: ys else y :: insP x ys
def srtP : List (Int × Int) → List (Int × Int)
  | [] => []
  | x :: xs => insP x (srtP xs)
theorem insP_perm (x : Int × Int) : ∀ l, (insP x l).Perm (x :: l)
  | [] => .refl _
  | y :: ys => by
    unfold insP
    split
    · exact .refl _
    · exact ((insP_perm x ys).cons y).trans (.swap x y ys)
theorem srtP_perm : ∀ l, (srtP l).Perm l
  | [] => .refl _
  | x :: xs => (insP_perm x _).trans ((srtP_perm xs).cons x)
theorem leP_iff {p q : Int × Int} : leP p q = true ↔ p.1 < q.1 ∨ (p.1 = q.1 ∧ p.2 ≤ q.2) := by simp [leP]
abbrev LeP (p q : Int × Int) : Prop := p.1 < q.1 ∨ (p.1 = q.1 ∧ p.2 ≤ q.2)
theorem insP_ord {x : Int × Int} : ∀ {l : List (Int × Int)}, l.Pairwise LeP → (insP x l).Pairwise LeP
  | [], _ => by simp [insP]
  | y :: ys, h => by
    obtain ⟨h1, h2⟩ := List.pairwise_cons.mp h
    unfold insP
    split
    · rename_i c
      have c := leP_iff.mp c
      refine List.pairwise_cons.mpr ⟨fun z hz => ?_, h⟩
      rcases List.mem_cons.mp hz with rfl | hz
      · exact c
      · have := h1 z hz
        unfold LeP at *
        omega
    · rename_i c
      have c : ¬ LeP x y := fun z => c (leP_iff.mpr z)
      refine List.pairwise_cons.mpr ⟨fun z hz => ?_, insP_ord h2⟩
      rcases List.mem_cons.mp ((insP_perm x ys).mem_iff.mp hz) with rfl | hz
      · unfold LeP at *
        omega
      · exact h1 z hz
theorem srtP_ord : ∀ l, (srtP l).Pairwise LeP
  | [] => .nil
  | x :: xs => insP_ord (srtP_ord xs)
theorem ordP_one : ∀ {l m : List (Int × Int)}, l.Perm m → l.Pairwise LeP → m.Pairwise LeP → l = m
  | [], m, p, _, _ => (List.perm_nil.mp p.symm).symm
  | x :: l, [], p, _, _ => absurd (List.perm_nil.mp p) (by simp)
  | x :: l, y :: m, p, h, h' => by
    obtain ⟨a1, a2⟩ := List.pairwise_cons.mp h
    obtain ⟨b1, b2⟩ := List.pairwise_cons.mp h'
    have e : x = y := by
      rcases List.mem_cons.mp (p.mem_iff.mp (List.mem_cons_self ..)) with q | q
      · exact q
      · rcases List.mem_cons.mp (p.mem_iff.mpr (List.mem_cons_self ..)) with r | r
        · exact r.symm
        · have h1 := a1 y r
          have h2 := b1 x q
          unfold LeP at h1 h2
          exact Prod.ext (by omega) (by omega)
    subst e
    rw [ordP_one (List.Perm.cons_inv p) a2 b2]
def duoD (p : Int × Int) : D := .tup [.int p.1, .int p.2]
def pairsOf : List D → Option (List (Int × Int))
  | [] => some []
  | .tup [.int a, .int b] :: ds => (pairsOf ds).map ((a, b) :: ·)
  | _ => none
@[simp] theorem pairsOf_map (ps : List (Int × Int)) : pairsOf (ps.map duoD) = some ps := by
  induction ps with
  | nil => rfl
  | cons p ps ih => simp [pairsOf, duoD] at ih ⊢; exact ih
theorem pairsOf_is : ∀ {ds : List D} {ps : List (Int × Int)}, pairsOf ds = some ps → ds = ps.map duoD
  | [], ps, h => by cases h; rfl
  | d :: ds, ps, h => by
    unfold pairsOf at h
    split at h
    · rename_i e
      cases e
    · rename_i a b ds' e
      cases e
      cases e1 : pairsOf ds with
      | none => rw [e1] at h; cases h
      | some qs =>
        rw [e1] at h
        cases h
        rw [List.map_cons, ← pairsOf_is e1]
        rfl
    · cases h
def pairAt (h : Heap) : Value → Int × Int
  | .ref t => match h.get? t with
    | some o => match o.data with
      | .seq xs _ => match xs.toList with
        | [.int a _, .int b _] => (a, b)
        | _ => (0, 0)
      | _ => (0, 0)
    | none => (0, 0)
  | _ => (0, 0)
section
variable {X : Cx}
theorem pair_there {pins : List (Addr × Obj)} {σ : St} {H Z : Hp} {ι : Nat → Addr} {n : Nat} {s : Shared} (I : Inv X pins σ H s) (hz : Sub Z H) {p : Int × Int} {x : V} {u : Value} (r : Rp X.K Z ι n (duoD p) x) (rv : RelV x u) : Srt.IsPair s.heap u p.1 p.2 ∧ pairAt s.heap u = p ∧ (∃ a, x = .ref a) := by
  cases r with
  | tup sq rr =>
    rename_i a xs
    obtain rfl : u = Value.ref a := rv
    obtain ⟨its, rv2, ⟨o, ho, hc, m, hd⟩, _⟩ := I.tuple (subT hz sq)
    cases rr with
    | cons r1 rr =>
      cases rr with
      | cons r2 rr =>
        cases rr
        cases r1
        cases r2
        obtain ⟨u1, u2, rfl, ri, rj⟩ := vals2 rv2
        obtain ⟨t1, rfl⟩ := ri
        obtain ⟨t2, rfl⟩ := rj
        refine ⟨⟨a, o, t1, t2, m, rfl, ho, hc, by rw [hd]⟩, ?_, _, rfl⟩
        simp [pairAt, ho, hd]
def rSrtP (K : PySem.W.Frag) : List V → Hp → VK → Prop := fun vs H Q => ∃ (a : Addr) (Z : Hp) (ι : Nat → Addr) (n : Nat) (ps : List (Int × Int)) (xs : List V), vs = [.ref a] ∧ SqL K H a xs ∧ Sub Z H ∧ Rps K Z ι n (ps.map duoD) xs ∧
  ∀ ys p, Rps K Z ι n ((srtP ps).map duoD) ys → H p = none → Q (.ref p) (upd H p (.lst ys))
theorem pairs_there {pins : List (Addr × Obj)} {σ : St} {H Z : Hp} {ι : Nat → Addr} {n : Nat} {s : Shared} (I : Inv X pins σ H s) (hz : Sub Z H) : ∀ {ps : List (Int × Int)} {xs : List V} {us : List Value}, Rps X.K Z ι n (ps.map duoD) xs → Vals xs us →
    us.map (pairAt s.heap) = ps ∧ (∀ u ∈ us, Srt.IsPair s.heap u (pairAt s.heap u).1 (pairAt s.heap u).2 ∧ Rp X.K Z ι n (duoD (pairAt s.heap u)) (backV u)) ∧ (∀ x ∈ xs, ∃ a, x = V.ref a)
  | [], _, _, h, r => by
    cases h
    cases r
    exact ⟨rfl, by simp, by simp⟩
  | p :: ps, _, _, h, r => by
    cases h with
    | cons h1 h2 =>
      cases r with
      | cons r1 r2 =>
        obtain ⟨a1, a2, a3⟩ := pairs_there I hz h2 r2
        obtain ⟨b1, b2, a, b3⟩ := pair_there I hz h1 r1
        refine ⟨by rw [List.map_cons, a1, b2], fun u hu => ?_, fun x hx => ?_⟩
        · rcases List.mem_cons.mp hu with rfl | hu
          · rw [b2]
            refine ⟨b1, ?_⟩
            subst b3
            obtain rfl : u = Value.ref a := r1
            exact h1
          · exact a2 u hu
        · rcases List.mem_cons.mp hx with rfl | hx
          · exact ⟨a, b3⟩
          · exact a3 x hx
theorem cr_srtP : CallR X (.builtin "sorted") (rSrtP X.K) := by
  intro pins s σ H vs us Q I r h
  obtain ⟨a, Z, ι, n, ps, xs, rfl, hs, hz, hp, q⟩ := h
  obtain ⟨its, rv, hl, hsz⟩ := I.list hs
  obtain ⟨u, rfl, ru⟩ := vals1 r
  obtain rfl : u = Value.ref a := ru
  obtain ⟨e1, e2, e3⟩ := pairs_there I hz hp rv
  obtain ⟨e4, e5⟩ := refs_back rv e3
  refine SrtO.sorted_pairsO (k := pairAt s.heap) hl.isList (by rw [← rv.length]; exact hsz) (fun v hv => (e2 v hv).1) fun h' d out h1 h2 kp hd hn => ?_
  have hperm := h2.perm
  have h3 : ∀ u ∈ out, ∃ a, u = Value.ref a := fun u hu => e5 u (hperm.mem_iff.mp hu)
  obtain ⟨m, hn⟩ := hn
  have ho : out.map (pairAt s.heap) = srtP ps := by
    refine ordP_one ((hperm.map _).trans (by rw [e1]; exact (srtP_perm ps).symm)) ?_ (srtP_ord ps)
    refine List.pairwise_map.mpr (h1.imp fun {x y} z => ?_)
    have z : SrtO.lexB (pairAt s.heap y) (pairAt s.heap x) = false := z
    have z' : ¬ (SrtO.lexB (pairAt s.heap y) (pairAt s.heap x) = true) := by rw [z]; simp
    rw [SrtO.lexB_iff] at z'
    unfold LeP
    omega
  have rys : ∀ l : List Value, (∀ u ∈ l, u ∈ its) → Rps X.K Z ι n ((l.map (pairAt s.heap)).map duoD) (l.map backV) := fun l => by
    induction l with
    | nil => intro _; exact .nil
    | cons v l ih =>
      intro hl
      exact .cons (e2 v (hl v (List.mem_cons_self))).2 (ih fun u hu => hl u (List.mem_cons_of_mem _ hu))
  have ry := rys out fun u hu => hperm.mem_iff.mp hu
  rw [ho] at ry
  have lo : out.length = its.length := hperm.length_eq
  refine ⟨.ref d, upd H d (.lst (out.map backV)), I.laid (t' := s.toks) kp hd ⟨?_, out, m, vals_back h3, hn⟩, rfl, q _ d ry (I.hok.fresh hd)⟩
  rw [List.length_map, lo, ← rv.length]
  exact hsz
def dSortP (M : List MO) (d : D) : Option D := ((listD M d).bind pairsOf).map fun ps => .lst ((srtP ps).map duoD)
theorem ok_srtP : Ok1 X (fun x H Q => rSrtP X.K [x] H Q) dSortP := fun x H Z ι M dx d Q hr rx e q => by
  unfold dSortP at e
  cases e1 : listD M dx with
  | none => rw [e1] at e; cases e
  | some ds =>
    rw [e1, Option.bind_some] at e
    cases e2 : pairsOf ds with
    | none => rw [e2] at e; cases e
    | some ps =>
      rw [e2] at e
      cases e
      obtain ⟨a, xs, rfl, s, r⟩ := listD_run hr rx e1
      rw [pairsOf_is e2] at r
      exact ⟨a, Z, ι, M.length, ps, xs, rfl, s.sq, hr.sub, r, fun ys p ry hp => q.lst hr ry p hp⟩
def dSortA (M : List MO) (d : D) : Option D := match dSort M d with
  | some r => some r
  | none => dSortP M d
theorem cr_srtA (hc : X.calm = true) : CallR X (.builtin "sorted") (fun xs H Q => rSortedI X.K xs H Q ∨ rSrtP X.K xs H Q) := CallR.or cr_sortedI cr_srtP
theorem ok_srtA : Ok1 X (fun x H Q => rSortedI X.K [x] H Q ∨ rSrtP X.K [x] H Q) dSortA := fun x H Z ι M dx d Q hr rx e q => by
  unfold dSortA at e
  cases e1 : dSort M dx with
  | some r =>
    rw [e1] at e
    cases e
    exact .inl (ok_sort x H Z ι M dx _ Q hr rx e1 q)
  | none =>
    rw [e1] at e
    exact .inr (ok_srtP x H Z ι M dx d Q hr rx e q)
end
theorem e_srtP (M : List MO) (ps : List (Int × Int)) : dSortP M (.lst (ps.map duoD)) = some (.lst ((srtP ps).map duoD)) := by
  simp [dSortP, listD]
@[simp] theorem u_gTup0P (Γ : Env) (M : List MO) : gTup0P Γ M = .ok (.ptu []) M := Eq.trans rfl rfl
end Bk

set_option Elab.async false
set_option linter.all false
set_option maxRecDepth 100000
set_option maxHeartbeats 4000000
namespace Bk
open PySem PySem.Spec PyProof.Rows L2
/-! ### dicts of ours with whole numbers as keys -/
def kiGet : List (Int × D) → Int → Option D
  | [], _ => none
  | p :: r, i => if p.1 = i then some p.2 else kiGet r i
def kiHas : List (Int × D) → Int → Bool
  | [], _ => false
  | p :: r, i => decide (p.1 = i) || kiHas r i
def kiRep : List (Int × D) → Int → D → List (Int × D)
  | [], _, _ => []
  | p :: r, i, d => (if p.1 = i then (p.1, d) else p) :: kiRep r i d
def kiPut (kvs : List (Int × D)) (i : Int) (d : D) : List (Int × D) := if kiHas kvs i = true then kiRep kvs i d else kvs ++ [(i, d)]
/-- the entries as they stand -/
inductive KiR (K : PySem.W.Frag) (Z : Hp) (ι : Nat → Addr) (n : Nat) : List (Int × D) → List (L2.Key × V) → Prop
  | nil : KiR K Z ι n [] []
  | cons {i : Int} {d : D} {v : V} {ks : List (Int × D)} {gs : List (L2.Key × V)} : Rp K Z ι n d v → KiR K Z ι n ks gs → KiR K Z ι n ((i, d) :: ks) ((Sum.inl i, v) :: gs)
section
variable {K : PySem.W.Frag} {Z : Hp} {ι : Nat → Addr} {n : Nat}
theorem KiR.of : ∀ {ks : List (Int × D)} {gs : List (L2.Key × V)}, gs.map (·.1) = ks.map (fun p => Sum.inl p.1) → Rps K Z ι n (ks.map (·.2)) (gs.map (·.2)) → KiR K Z ι n ks gs
  | [], [], _, _ => .nil
  | [], g :: gs, h, _ => by simp at h
  | k :: ks, [], h, _ => by simp at h
  | (i, d) :: ks, (j, v) :: gs, h, r => by
    simp only [List.map_cons, List.cons.injEq] at h
    obtain ⟨rfl, h2⟩ := h
    simp only [List.map_cons] at r
    cases r with
    | cons r1 r2 => exact .cons r1 (KiR.of h2 r2)
theorem KiR.back : ∀ {ks : List (Int × D)} {gs : List (L2.Key × V)}, KiR K Z ι n ks gs → gs.map (·.1) = ks.map (fun p => Sum.inl p.1) ∧ Rps K Z ι n (ks.map (·.2)) (gs.map (·.2)) ∧ Rps K Z ι n (ks.map fun p => .int p.1) (gs.map fun p => kV p.1) ∧ ks.length = gs.length
  | _, _, .nil => ⟨rfl, .nil, .nil, rfl⟩
  | _, _, .cons r s => by
    obtain ⟨a, b, c, d⟩ := s.back
    exact ⟨by simp [a], .cons r b, .cons (.int _) c, by simp [d]⟩
theorem KiR.get (i : Int) : ∀ {ks : List (Int × D)} {gs : List (L2.Key × V)}, KiR K Z ι n ks gs → (match kiGet ks i with
    | some d => ∃ v, valV gs (Sum.inl i) = some v ∧ Rp K Z ι n d v
    | none => valV gs (Sum.inl i) = none)
  | _, _, .nil => rfl
  | _, _, .cons (i := j) (d := d) (v := v) r s => by
    by_cases e : j = i
    · subst e
      simp only [kiGet, if_true]
      exact ⟨v, valV_pos rfl, r⟩
    · have ne : ¬ ((Sum.inl j : L2.Key) = Sum.inl i) := fun z => e (Sum.inl.inj z)
      simp only [kiGet, if_neg e]
      have ih := s.get i
      rw [valV_neg (p := ((Sum.inl j : L2.Key), v)) ne]
      exact ih
theorem KiR.has (i : Int) : ∀ {ks : List (Int × D)} {gs : List (L2.Key × V)}, KiR K Z ι n ks gs → (gs.any fun kv => decide (kv.1 = Sum.inl i)) = kiHas ks i
  | _, _, .nil => rfl
  | _, _, .cons (i := j) r s => by
    rw [List.any_cons, s.has i]
    have : (decide ((Sum.inl j : L2.Key) = Sum.inl i)) = decide (j = i) := by
      rw [decide_eq_decide]
      exact ⟨fun z => Sum.inl.inj z, fun z => by rw [z]⟩
    rw [this]
    rfl
theorem KiR.rep (i : Int) {d : D} {v : V} (rv : Rp K Z ι n d v) : ∀ {ks : List (Int × D)} {gs : List (L2.Key × V)}, KiR K Z ι n ks gs → KiR K Z ι n (kiRep ks i d) (gs.map fun kv => if kv.1 = Sum.inl i then (kv.1, v) else kv)
  | _, _, .nil => .nil
  | _, _, .cons (i := j) (v := w) r s => by
    have ih := s.rep i rv
    by_cases e : j = i
    · subst e
      simp only [kiRep, List.map_cons, if_true]
      exact .cons rv ih
    · have ne : ¬ ((Sum.inl j : L2.Key) = Sum.inl i) := fun z => e (Sum.inl.inj z)
      simp only [kiRep, List.map_cons, if_neg e, if_neg ne]
      exact .cons r ih
theorem KiR.snoc {i : Int} {d : D} {v : V} (rv : Rp K Z ι n d v) : ∀ {ks : List (Int × D)} {gs : List (L2.Key × V)}, KiR K Z ι n ks gs → KiR K Z ι n (ks ++ [(i, d)]) (gs ++ [(Sum.inl i, v)])
  | _, _, .nil => .cons rv .nil
  | _, _, .cons r s => .cons r (s.snoc rv)
theorem KiR.put (i : Int) {d : D} {v : V} (rv : Rp K Z ι n d v) {ks : List (Int × D)} {gs : List (L2.Key × V)} (h : KiR K Z ι n ks gs) : KiR K Z ι n (kiPut ks i d) (putK gs (Sum.inl i) v) := by
  unfold kiPut putK
  rw [h.has i]
  by_cases c : kiHas ks i = true
  · rw [if_pos c, if_pos c]
    exact h.rep i rv
  · rw [if_neg c, if_neg c]
    exact h.snoc rv
def kiMerge (kvs more : List (Int × D)) : List (Int × D) := more.foldl (fun acc p => kiPut acc p.1 p.2) kvs
theorem KiR.merge : ∀ {more : List (Int × D)} {gm : List (L2.Key × V)} {ks : List (Int × D)} {gs : List (L2.Key × V)}, KiR K Z ι n more gm → KiR K Z ι n ks gs → KiR K Z ι n (kiMerge ks more) (mergeK gs gm)
  | _, _, _, _, .nil, h => h
  | _, _, _, _, .cons r s, h => s.merge (h.put _ r)
theorem KiR.mono {Z' : Hp} {ι' : Nat → Addr} {n' : Nat} (hz : Sub Z Z') (hi : ∀ k, k < n → ι' k = ι k) (hn : n ≤ n') : ∀ {ks : List (Int × D)} {gs : List (L2.Key × V)}, KiR K Z ι n ks gs → KiR K Z' ι' n' ks gs
  | _, _, .nil => .nil
  | _, _, .cons r s => .cons (Rp.mono hz hi hn _ _ r) (s.mono hz hi hn)
end
/-! ### dict(t), t a tuple of pairs -/
section
variable {X : Cx}
def rDictT (K : PySem.W.Frag) : List V → Hp → VK → Prop := fun xs H Q => ∃ (a : Addr) (ps : List Addr) (kvs : List (L2.Key × V)), xs = [.ref a] ∧ PlT H a (ps.map V.ref) ∧ Paired (fun p kv => SqT K H p [kV kv.1, kv.2]) ps kvs ∧
    ∀ p, H p = none → Q (.ref p) (upd H p (.dK (mergeK [] kvs)))
theorem call_dictT (hcalm : X.calm = true) : CallR X (.type "dict") (rDictT X.K) := by
  intro pins s σ H xs us Q I r q
  obtain ⟨a, ps, kvs, ex, hq, hp, q⟩ := q
  subst ex
  obtain ⟨u, eu, rx⟩ := vals1 r
  subst eu
  cases rx
  obtain ⟨its, rv, pl, hz⟩ := I.tuple (hq.sq (K := X.K))
  obtain ⟨o, ho, hdn⟩ := hq
  obtain ⟨hob, _⟩ := I.hok a _ ho
  have ei := refs_at rv
  subst ei
  obtain ⟨o', ho', hc', m', hd'⟩ := pl
  rw [hob] at ho'
  cases ho'
  rw [List.length_map] at hz
  obtain ⟨prs, rel, hl, hpr⟩ := pairs_of I hp
  have get2 : ∀ (j : Nat) (w : L2.Key × Value), prs[j]? = some w → ∃ u, (∃ b, ps[j]? = some b ∧ IsTup s.heap b #[u, w.2]) ∧ keyIs w.1 u = true := fun j w e =>
    let ⟨b, u, e1, e2, e3⟩ := hpr j w e
    ⟨u, ⟨b, e1, e2⟩, e3⟩
  classical
  let us' : List (Value × Value) := (List.range prs.length).map fun j => if h : ∃ (u : Value) (w : L2.Key × Value), prs[j]? = some w ∧ (∃ b, ps[j]? = some b ∧ IsTup s.heap b #[u, w.2]) ∧ keyIs w.1 u = true then (h.choose, h.choose_spec.choose.2) else (.none, .none)
  have hus : us'.length = prs.length := by simp [us']
  have hat : ∀ (j : Nat) (k v : Value), us'[j]? = some (k, v) → ∃ w b, prs[j]? = some w ∧ w.2 = v ∧ ps[j]? = some b ∧ IsTup s.heap b #[k, v] ∧ keyIs w.1 k = true := fun j k v e => by
    have lt : j < prs.length := by rw [← hus]; exact (List.getElem?_eq_some_iff.mp e).1
    have hw : prs[j]? = some prs[j] := List.getElem?_eq_getElem lt
    have hx : ∃ (u : Value) (w : L2.Key × Value), prs[j]? = some w ∧ (∃ b, ps[j]? = some b ∧ IsTup s.heap b #[u, w.2]) ∧ keyIs w.1 u = true := let ⟨u, h1, h2⟩ := get2 j _ hw; ⟨u, _, hw, h1, h2⟩
    have e2 : us'[j]? = some (hx.choose, hx.choose_spec.choose.2) := by
      simp only [us', List.getElem?_map, List.getElem?_range lt, Option.map_some]
      rw [dif_pos hx]
    rw [e2] at e
    cases e
    obtain ⟨b1, ⟨b, b2, b3⟩, b4⟩ := hx.choose_spec.choose_spec
    exact ⟨_, b, b1, rfl, b2, b3, b4⟩
  have P := PySem.PairArg.tuple (prog := X.prog) (w := X.w) a (ps.map Value.ref).toArray (fun j => ps.getD j 0) us'
  have ok : PlainSeq "tuple" s.heap a (ps.map Value.ref).toArray ∧ PairItems s.heap (ps.map Value.ref).toArray (fun j => ps.getD j 0) us' := by
    refine ⟨⟨o, m', hob, hc', hdn, hd'⟩, by simp [hus, hl], fun j k v e => ?_⟩
    obtain ⟨w, b, b1, b2, b3, b4, b5⟩ := hat j k v e
    refine ⟨by simp [b3], .inl ?_⟩
    show s.heap.IsTuple (ps.getD j 0) #[k, v]
    rw [List.getD_eq_getElem?_getD, b3]
    obtain ⟨o2, c1, c2, m2, c3⟩ := b4
    exact ⟨o2, c1, c2, m2, c3⟩
  refine PySem.call_dict_pairs (knd := mixKind X.prog X.w) (kvs := prs) P (I.ok.hd hcalm) ok ⟨hus.symm, fun j k v e => ?_⟩ (by rw [hus, hl]; exact hz) fun h' tk hd' k => ?_
  · obtain ⟨w, b, b1, b2, b3, b4, b5⟩ := hat j k v e
    refine ⟨w.1, ?_, b5⟩
    rw [b1, ← b2]
  · have hm : (s.heap.objs.size == sysModules) = false := beq_eq_false_iff_ne.mpr (Nat.ne_of_gt I.big)
    have hlen : (mergeK [] kvs).length ≤ sizeLine := by
      refine Nat.le_trans (length_mergeK kvs []) ?_
      rw [List.length_nil, Nat.zero_add, rel.length, hl]
      exact hz
    exact ⟨.ref s.heap.objs.size, upd H s.heap.objs.size (.dK (mergeK [] kvs)), I.laid (t' := tk) (fun b o e => k b o (by simp) e) (Nat.le_refl _) (show ObjOk X.prog X.w _ _ _ (.dK (mergeK [] kvs)) from ⟨hlen, hm, merged [] prs, KV.merge rel .nil, hd'⟩), rfl, q _ (I.hok.fresh (Nat.le_refl _))⟩
end
end Bk

set_option Elab.async false
set_option linter.all false
set_option maxRecDepth 100000
set_option maxHeartbeats 4000000
namespace Bk
open PySem PySem.Spec PyProof.Rows L2
/-! ### dict(t) as a dict of ours -/
def kiOf : List D → Option (List (Int × D))
  | [] => some []
  | .tup [.int i, d] :: ds => (kiOf ds).map ((i, d) :: ·)
  | _ => none
theorem kiOf_is : ∀ {ds : List D} {ps : List (Int × D)}, kiOf ds = some ps → ds = ps.map fun p => .tup [.int p.1, p.2]
  | [], ps, h => by cases h; rfl
  | d :: ds, ps, h => by
    unfold kiOf at h
    split at h
    · rename_i e
      cases e
    · rename_i i d' ds' e
      cases e
      cases e1 : kiOf ds with
      | none => rw [e1] at h; cases h
      | some qs =>
        rw [e1] at h
        cases h
        rw [List.map_cons, ← kiOf_is e1]
    · cases h
@[simp] theorem kiOf_map (ps : List (Int × D)) : kiOf (ps.map fun p => .tup [.int p.1, p.2]) = some ps := by
  induction ps with
  | nil => rfl
  | cons p ps ih => simp [kiOf, ih]
def gDictT (ge : GE) : GE := fun Γ M => (ge Γ M).bind fun x M1 => match x with
  | .ptu ds => match kiOf ds with
    | some kvs => .ok (.ref M1.length) (M1 ++ [.dki (kiMerge [] kvs)])
    | none => .bad
  | _ => .bad
def gGetK (go gk gx : GE) : GE := fun Γ M => (go Γ M).bind fun x M1 => match x with
  | .ref k => match M1[k]? with
    | some (.dki _) => (gk Γ M1).bind fun y M2 => (gx Γ M2).bind fun z M3 => match y, M3[k]? with
      | .int i, some (.dki kvs) => .ok ((kiGet kvs i).getD z) M3
      | _, _ => .bad
    | _ => .bad
  | _ => .bad
section
variable {X : Cx} {C : CT} {W : WX}
theorem kis_paired {H Z : Hp} {ι : Nat → Addr} {n : Nat} (hz : Sub Z H) : ∀ {ps : List (Int × D)} {xs : List V}, Rps X.K Z ι n (ps.map fun p => .tup [.int p.1, p.2]) xs → ∃ (as : List Addr) (gs : List (L2.Key × V)), xs = as.map V.ref ∧ Paired (fun p kv => SqT X.K H p [kV kv.1, kv.2]) as gs ∧ KiR X.K Z ι n ps gs
  | [], _, h => by cases h; exact ⟨[], [], rfl, .nil, .nil⟩
  | p :: ps, _, h => by
    rw [List.map_cons] at h
    cases h with
    | cons h1 h2 =>
      obtain ⟨as, gs, e, q, r⟩ := kis_paired hz h2
      subst e
      cases h1 with
      | tup sq rr =>
        rename_i a xs
        cases rr with
        | cons r1 rr =>
          cases rr with
          | cons r2 rr =>
            cases rr
            cases r1
            exact ⟨a :: as, (Sum.inl p.1, _) :: gs, rfl, .cons (subT hz sq) q, .cons r2 r⟩
theorem qe_dictT {e : Expr} {g : GE} {p pos : Pos} (hc : X.calm = true) (hg : Gl X "dict") (hm : X.mg "dict" = none) (ha : QE X C W e g)
    (he : starEach [e] X.env = (false, eval e X.env) :: starEach [] X.env := by rfl) (hpl : (backTo pos (starEach [] X.env)).any (·.1) = false := by rfl) : QE X C W (.Call (.Name "dict" p) [e] [] pos) (gDictT g) := by
  obtain ⟨ta, pa, qa⟩ := ha
  refine ⟨_, pe_callTy (call_dictT hc) hg hm (by decide +kernel) (pa_cons pa pa_nil he) (by decide) (by decide) he hpl, fun σ H Z ι Γ M Q sl hr h => ?_⟩
  refine qa σ H Z ι Γ M _ sl hr (Post.bind h fun x M1 v H1 Z1 ι1 e1 hr1 r1 h1 => ?_)
  cases r1 with
  | ptu s r =>
    rename_i ds a xs
    simp only at h1
    cases e1 : kiOf ds with
    | none => rw [e1] at h1; exact h1.elim
    | some kvs =>
      rw [e1] at h1
      rw [kiOf_is e1] at r
      obtain ⟨as, gs, rfl, q, kr⟩ := kis_paired hr1.sub r
      obtain ⟨o, s1, s2⟩ := s
      refine ⟨a, as, gs, rfl, ⟨o, hr1.sub _ _ s1, s2⟩, q, fun p hp => ?_⟩
      have km : KiR X.K Z1 ι1 M1.length (kiMerge [] kvs) (mergeK [] gs) := kr.merge .nil
      have km2 := km.mono (Z' := Z1) (ι' := put ι1 M1.length p) (n' := M1.length + 1) (fun _ _ z => z) (fun _ z => put_lt z) (Nat.le_succ _)
      obtain ⟨b1, b2, b3, b4⟩ := km2.back
      obtain ⟨hr2, x2⟩ := hr1.ownedG (o' := .dki (kiMerge [] kvs)) (ho := .dK (mergeK [] gs)) hp (by simp) ⟨_, upd_same, b1, b2⟩
      exact h1 _ _ _ _ x2 hr2 ref_new
  | _ => exact h1.elim
theorem dki_there {H Z : Hp} {ι : Nat → Addr} {M : List MO} (hr : HR X.K H Z ι M) {k : Nat} {kvs : List (Int × D)} (h : M[k]? = some (.dki kvs)) : ∃ gs, H (ι k) = some (.dK gs) ∧ KiR X.K Z ι M.length kvs gs := by
  obtain ⟨gs, h1, h2, h3⟩ := hr.obj k _ h
  exact ⟨gs, h1, KiR.of h2 h3⟩
theorem qe_getK {o e e2 : Expr} {go gk gx : GE} {apos cpos : Pos} (hu : X.A.units + 1 < cLine) (ho : QE X C W o go) (hk : QE X C W e gk) (hx : QE X C W e2 gx) (m : M2 X o "get" apos e e2 cpos := by exact ⟨rfl, rfl, rfl, rfl⟩) :
    QE X C W (.Call (.Attribute o "get" apos) [e, e2] [] cpos) (gGetK go gk gx) := by
  obtain ⟨ta, pa, qa⟩ := ho
  obtain ⟨tb, pb, qb⟩ := hk
  obtain ⟨tc, pc, qc⟩ := hx
  refine ⟨_, pe_dget2 hu pa pb pc m, fun σ H Z ι Γ M Q sl hr h => qa σ H Z ι Γ M _ sl hr (h.bind fun x M1 v H1 Z1 ι1 e1 hr1 r1 h1 => ?_)⟩
  cases r1 with
  | ref hk =>
    rename_i k
    simp only at h1
    cases ek : M1[k]? with
    | none => rw [ek] at h1; exact h1.elim
    | some o =>
      rw [ek] at h1
      cases o with
      | dki kvs =>
        obtain ⟨gs, d1, d2⟩ := dki_there hr1 ek
        refine ⟨_, rfl, .inl ⟨gs, .inl d1⟩, qb σ H1 Z1 ι1 Γ M1 _ (sl.ext e1) hr1 (Post.bind h1 fun y M2 u H2 Z2 ι2 e2 hr2 r2 h2 => qc σ H2 Z2 ι2 Γ M2 _ ((sl.ext e1).ext e2) hr2 (h2.bind fun z M3 uz H3 Z3 ι3 e3 hr3 r3 h3 => ?_))⟩
        have r2' := r2.ext e3
        cases r2' with
        | int i =>
          have h3 : Post X C W (rpE X.K) σ H3 Z3 ι3 M3 (match M3[k]? with
            | some (.dki kvs) => .ok ((kiGet kvs i).getD z) M3
            | _ => .bad) Q := by
            cases ek3 : M3[k]? with
            | none => rw [ek3] at h3; exact h3
            | some o3 => rw [ek3] at h3; cases o3 <;> exact h3
          cases ek3 : M3[k]? with
          | none => rw [ek3] at h3; exact h3.elim
          | some o3 =>
            rw [ek3] at h3
            cases o3 with
            | dki kvs3 =>
              obtain ⟨gs3, f1, f2⟩ := dki_there hr3 ek3
              have ei : ι3 k = ι1 k := (e3.ii k (Nat.lt_of_lt_of_le hk e2.ln)).trans (e2.ii k hk)
              rw [ei] at f1
              refine ⟨_, DGet.k (k := Sum.inl i) f1, ?_⟩
              have g := f2.get i
              have h4 : Post X C W (rpE X.K) σ H3 Z3 ι3 M3 (.ok ((kiGet kvs3 i).getD z) M3) Q := h3
              generalize kiGet kvs3 i = og at g h4
              cases og with
              | none =>
                have g : valV gs3 (Sum.inl i) = none := g
                rw [g]
                exact h4 _ H3 Z3 ι3 .refl hr3 r3
              | some d =>
                obtain ⟨w, g1, g2⟩ := g
                rw [g1]
                exact h4 _ H3 Z3 ι3 .refl hr3 g2
            | _ => exact h3.elim
        | _ => exact h3.elim
      | _ => exact h1.elim
  | _ => exact h1.elim
/-! ### d[k] = v -/
theorem PSet.or {t t' : TSet} (h : PSet X t) (h' : PSet X t') : PSet X (fun o i v H Q => t o i v H Q ∨ t' o i v H Q) := by
  intro pins s σ H o i v ov iv u Q I ro ri rv q
  rcases q with q | q
  · exact h pins s σ H o i v ov iv u Q I ro ri rv q
  · exact h' pins s σ H o i v ov iv u Q I ro ri rv q
def rSetN (K : PySem.W.Frag) : TSet := fun o i v H Q => ∃ (D b : Addr) (es : Array DictEntry) (ep : Nat) (nks nks' : List NestedKey) (ks vs : List V) (k : NestedKey), o = .ref D ∧ (D == sysModules) = false ∧ i = .ref b ∧ H D = some (dnO D es ep) ∧ AllRef ks ∧ ks.length ≤ sizeLine ∧ Ents K H nks ks vs es.toList ∧ nks.Nodup ∧ KeyVs K H nks' ks ∧ vs.length < sizeLine ∧ KeyV K H k (.ref b) ∧ k.depth ≤ 8 ∧
    ∀ (es' : Array DictEntry) (ep' : Nat) (r : Value) (hs : Int), RelV v r → (∀ w : World, hs = k.hash w) → nks = nks' → (match posK k nks with
      | some i => es'.toList = setV r i es.toList
      | none => es'.toList = es.toList ++ [⟨hs, .ref b, r⟩]) → Q (upd H D (dnO D es' ep'))
theorem set_dctN (hu : X.A.units + 1 + 8 < cLine) : PSet X (rSetN X.K) := by
  intro pins s σ H o i v ov iv u Q I ro ri rv q
  obtain ⟨D, b, es, ep, nks, nks', ks, vs, k, rfl, hs, rfl, hD, hrf, hl, he, hn, hkv, hz, hk, hd, hq⟩ := q
  have en : nks = nks' := ExD.keys I (a := D) (vs := vs) ⟨es, ep, hD, hs, hl, hn, he⟩ hkv
  obtain rfl : ov = Value.ref D := ro
  obtain rfl : iv = Value.ref b := ri
  obtain ⟨xs, e1, e2, e3, e4, e5⟩ := Ents.trip I he hrf
  obtain ⟨⟨o, ho, hx, hdat⟩, _, _⟩ := I.hok D _ hD
  have nd : (xs.map (·.1)).Nodup := by rw [e2]; exact hn
  have dd : s.heap.DictOfH (NK X) D xs := ⟨o, es, ep, ho, hx, hdat, e1, e3, nd⟩
  have hkey : (NK X).is s.heap k b := ⟨KeyV.is I k _ _ hk rfl, hd⟩
  refine wpAny_setItem_heap (show (NK X).room X.A.in1 from hu) hkey dd (fun h' dd' sb => ?_) (by omega)
  obtain ⟨o', es', ep', ho', hx', hdat', e1', _, _⟩ := dd'
  have ok : ObjOk X.prog X.w (upd H D (dnO D es' ep')) h' D (dnO D es' ep') := ⟨⟨o', ho', hx', hdat'⟩, ⟨o', ho'⟩, fun h1 h2 ⟨u, hu1, hu2, hu3⟩ hk => ⟨u, hk u hu1, hu2, hu3⟩⟩
  refine ⟨_, d_write I (by rw [hD]; exact True.intro) sb ⟨o', ho'⟩ ok, hq es' ep' u (k.hash X.w) rv (fun w => KeyV.free k _ hk X.w w) en ?_⟩
  cases p : posK k nks with
  | none =>
    have nk : k ∉ xs.map (·.1) := by rw [e2]; exact posK_none p
    rw [storedH_new (atKey_none nk), List.map_append, ← e1] at e1'
    exact e1'
  | some i =>
    have hi := posK_at p
    rw [← e2] at hi
    obtain ⟨x, hx1⟩ : ∃ x, xs[i]? = some x := by
      rw [List.getElem?_map] at hi
      cases hxx : xs[i]? with
      | none => rw [hxx] at hi; cases hi
      | some x => exact ⟨x, rfl⟩
    have kx : x.1 = k := by rw [List.getElem?_map, hx1] at hi; exact Option.some.inj hi
    have ak := atKey_at nd hx1
    rw [kx] at ak
    rw [storedH_old ak, put_old nd hi, ← e1] at e1'
    exact e1'
def rSetK : TSet := fun o i v H Q => ∃ (a : Addr) (kvs : List (L2.Key × V)) (k : L2.Key), o = .ref a ∧ i = kV k ∧ H a = some (.dK kvs) ∧ kvs.length < sizeLine ∧ Q (upd H a (.dK (putK kvs k v)))
theorem set_dctK (hu : X.A.units + 1 < cLine) : PSet X rSetK := by
  intro pins s σ H o i v ov iv u Q I ro ri rv q
  obtain ⟨a, kvs, k, rfl, rfl, hD, hz, hq⟩ := q
  obtain rfl : ov = Value.ref a := ro
  exact d_setItem hu I (DPut.k hD hz) ri rv fun s' I' => ⟨_, I', hq⟩
def setX (M : List MO) (o i v : D) : Option (List MO) := match o with
  | .ref k => match M[k]? with
    | some (.dct ks vs) => (putKV ks vs i v).bind fun r => if ks.all isTup = true then some (M.set k (.dct r.1 r.2)) else none
    | some (.dki kvs) => match i with
      | .int j => if kvs.length < sizeLine then some (M.set k (.dki (kiPut kvs j v))) else none
      | _ => none
    | _ => setR M o i v
  | _ => none
def gSetX (ge go gi : GE) : GS := fun Γ M => (ge Γ M).thenS Γ fun v M1 => (go Γ M1).thenS Γ fun o M2 => (gi Γ M2).thenS Γ fun i M3 => match setX M3 o i v with
  | some M4 => .nx Γ M4
  | none => .bad
theorem qs_setX {o i e : Expr} {go gi ge : GE} {pos spos : Pos} (hu : X.A.units + 1 + 8 < cLine) (he : QE X C W e ge) (ho : QE X C W o go) (hi : QE X C W i gi) (hs : swapsWithSole [Expr.Subscript o i spos] e pos.line X.env = pure false := by rfl) (hp : swappedStores [Expr.Subscript o i spos] e X.env = pure none := by rfl)
    (h1 : (assignEach [Expr.Subscript o i spos] X.env).map (·.2) = [assign (Expr.Subscript o i spos) X.env] := by rfl)
    (ha : ∀ v, assign (.Subscript o i spos) X.env v = (do let ov ← holding [v] (eval o X.env); let iv ← holding [v, ov] (eval i X.env); standAt spos; holding [v, ov, iv] (setItem ov iv v); release [v, ov, iv] []) := by intro _; rfl) :
    QS X C W (.Assign [.Subscript o i spos] e pos) (gSetX ge go gi) := by
  obtain ⟨te, pe, qe⟩ := he
  obtain ⟨to, po, qo⟩ := ho
  obtain ⟨ti, pi, qi⟩ := hi
  refine ⟨_, ps_asg pe (pg_sub po pi (PSet.or set_list (PSet.or (set_dctN hu) (set_dctK (by omega)))) ha) hs hp h1, fun Dd σ H Z ι Γ M sl hr h => qe σ H Z ι Γ M _ sl hr (PostS.bind h sl fun v M1 v' H1 Z1 ι1 e1 hr1 r1 h1 => qo σ H1 Z1 ι1 Γ M1 _ (sl.ext e1) hr1 (PostS.bind h1 (sl.ext e1) fun o M2 o' H2 Z2 ι2 e2 hr2 r2 h2 =>
    qi σ H2 Z2 ι2 Γ M2 _ ((sl.ext e1).ext e2) hr2 (PostS.bind h2 ((sl.ext e1).ext e2) fun i M3 i' H3 Z3 ι3 e3 hr3 r3 h3 => ?_)))⟩
  have ro := r2.ext e3
  have rv := (r1.ext e2).ext e3
  have sl3 := ((sl.ext e1).ext e2).ext e3
  cases es : setX M3 o i v with
  | none => rw [es] at h3; exact h3.elim
  | some M4 =>
    rw [es] at h3
    cases ro with
    | ref hk =>
      rename_i k
      unfold setX at es
      simp only at es
      have lists : setR M3 (.ref k) i v = some M4 → rSetL (.ref (ι3 k)) i' v' H3 (fun H' => Dd.nx σ H') := fun es => by
        unfold setR at es
        cases r3 with
        | int j =>
          simp only at es
          cases ek : M3[k]? with
          | none => rw [ek] at es; cases es
          | some u =>
            rw [ek] at es
            cases u with
            | lst ds =>
              simp only at es
              cases em : ixN ds.length j with
              | none => rw [em] at es; cases es
              | some m =>
                rw [em] at es
                cases es
                obtain ⟨xs, a1, a2⟩ := hr3.obj k _ ek
                obtain ⟨b1, b2⟩ := hr3.change ek (a2.set m rv)
                exact ⟨_, xs, j, m, rfl, rfl, a1, by rw [← a2.length]; exact em, h3 σ _ Z3 ι3 b2 b1 (sl3.ext b2)⟩
            | _ => cases es
        | _ => cases es
      cases ek : M3[k]? with
      | none => rw [ek] at es; exact .inl (lists es)
      | some u =>
        rw [ek] at es
        cases u with
        | dead => exact .inl (lists es)
        | lst ds => exact .inl (lists es)
        | obj nm fs => exact .inl (lists es)
        | dct ks vs =>
          simp only at es
          cases ep : putKV ks vs i v with
          | none => rw [ep] at es; cases es
          | some r =>
            rw [ep, Option.bind_some] at es
            by_cases ct : ks.all isTup = true
            · rw [if_pos ct] at es
              cases es
              refine .inr (.inl ?_)
              obtain ⟨nks, kx, xs, ⟨ens, eph, g1, g2, g3, g4, g5⟩, rk, rv0⟩ := hr3.obj k _ ek
              have hE : Ents X.K H3 nks kx xs ens.toList := g5.sub hr3.sub
              unfold putKV at ep
              cases e1' : keysD ks with
              | none => rw [e1'] at ep; cases ep
              | some nks' =>
                cases e2' : keyD i with
                | none => rw [e1', e2'] at ep; cases ep
                | some nk =>
                  rw [e1', e2'] at ep
                  simp only at ep
                  by_cases c : (isTup i && decide (nk.depth ≤ 8) && decide (vs.length < sizeLine)) = true
                  · rw [if_pos c] at ep
                    simp only [Bool.and_eq_true, decide_eq_true_eq] at c
                    obtain ⟨⟨c1, c2⟩, c3⟩ := c
                    have kvs' := keysD_run hr3.sub _ _ _ rk e1'
                    have kz := keyD_run (fun _ _ z => z) _ _ _ r3 e2'
                    have kh := keyD_run hr3.sub _ _ _ r3 e2'
                    have hrf := tups_ref rk ct
                    have hb : ∃ b, i' = .ref b := by
                      have : AllRef [i'] := tups_ref (X := X) (ks := [i]) (.cons r3 .nil) (by simp [c1])
                      exact this i' (by simp)
                    obtain ⟨b, rfl⟩ := hb
                    have hzv : vs.length = xs.length := rv0.length
                    refine ⟨ι3 k, b, ens, eph, nks, nks', kx, xs, nk, rfl, g2, rfl, g1, hrf, g3, hE, g4, kvs', by rw [← hzv]; exact c3, kh, c2, fun es' ep' rr' hs' hr' hf hsame hm => ?_⟩
                    subst hsame
                    have lkx := ents_len g5
                    cases q : posK nk nks with
                    | some m =>
                      rw [q] at ep hm
                      cases ep
                      have hm' : es'.toList = setV rr' m ens.toList := hm
                      obtain ⟨hr4, x4⟩ := hr3.changeG (o' := .dct ks (vs.set m v)) (ho := dnO (ι3 k) es' ep') ek (by simp) (by simp) ⟨nks, kx, xs.set m v', ⟨es', ep', upd_same, g2, g3, g4, by rw [hm']; exact g5.setv hr' m⟩, rk, rv0.set m rv⟩
                      exact h3 σ _ Z3 ι3 x4 hr4 (sl3.ext x4)
                    | none =>
                      rw [q] at ep hm
                      cases ep
                      have hm' : es'.toList = ens.toList ++ [⟨hs', .ref b, rr'⟩] := hm
                      obtain ⟨hr4, x4⟩ := hr3.changeG (o' := .dct (ks ++ [i]) (vs ++ [v])) (ho := dnO (ι3 k) es' ep') ek (by simp) (by simp) ⟨nks ++ [nk], kx ++ [.ref b], xs ++ [v'], ⟨es', ep', upd_same, g2, by rw [List.length_append, List.length_singleton]; omega, by
                        rw [List.nodup_append]
                        refine ⟨g4, by simp, fun x hx y hy => ?_⟩
                        have : y = nk := by simpa using hy
                        rw [this]
                        exact fun z => posK_none q (z ▸ hx), by rw [hm']; exact g5.snoc kz rfl c2 hf hr'⟩, rk.append (.cons r3 .nil), rv0.append (.cons rv .nil)⟩
                      exact h3 σ _ Z3 ι3 x4 hr4 (sl3.ext x4)
                  · rw [if_neg c] at ep; cases ep
            · rw [if_neg ct] at es; cases es
        | dki kvs =>
          simp only at es
          cases r3 with
          | int j =>
            simp only at es
            by_cases c : kvs.length < sizeLine
            · rw [if_pos c] at es
              cases es
              obtain ⟨gs, g1, g2⟩ := dki_there hr3 ek
              have gp := g2.put j rv
              obtain ⟨b1, b2, b3, b4⟩ := gp.back
              obtain ⟨_, _, _, bl⟩ := g2.back
              obtain ⟨hr4, x4⟩ := hr3.changeG (o' := .dki (kiPut kvs j v)) (ho := .dK (putK gs (Sum.inl j) v')) ek (by simp) (by simp) ⟨_, upd_same, b1, b2⟩
              exact .inr (.inr ⟨_, gs, Sum.inl j, rfl, rfl, g1, by rw [← bl]; exact c, h3 σ _ Z3 ι3 x4 hr4 (sl3.ext x4)⟩)
            · rw [if_neg c] at es; cases es
          | _ => cases es
    | _ => cases es
end
end Bk

set_option Elab.async false
set_option linter.all false
set_option maxRecDepth 100000
set_option maxHeartbeats 4000000
namespace Bk
open PySem PySem.Spec PyProof.Rows L2
/-! ### methods on the whole store -/
def gMethW (nm m : Str) (n : Nat) (F : List D → List MO → R D) (go : GE) (ga : GA) : GE := fun Γ M => (go Γ M).bind fun x M1 => if isObj nm m M1 x = true then (ga Γ M1).bind fun ds M2 => if ds.length + 1 = n then callW F (x :: ds) M2 else .bad else .bad
section
variable {X : Cx} {C : CT} {W : WX} {e o : Expr} {nm f m x : Str} {ge go : GE} {gs : GA} {pos apos pos' p : Pos} {C0 : Addr} {es : List Expr}
variable {k n : Nat} {fa : Addr} {fd : FuncData} {ps : List Str} {F : List D → List MO → R D} {pl : Sem Bool}
/-- o.m(e, ..) of an own class -/
theorem qe_methW (hn0 : PySem.W.nsIn X.K mainGlobals nm = some (some (.ref C0))) (c : Cls X.K C0) (hm : Meth X.K C0 m fa) (F0 : FnQ X.prog X.w X.K X.mg X.base C k fa fd ps F) (hr : Room k X.A) (hgu : X.A.guards = some []) (tk : Takes X W) (hb : Binds X.K fd ps []) (ho : QE X C W o go) (ha : QA X C W (e :: es) gs) (hn : n = ps.length := by rfl)
    (hst : starEach (e :: es) X.env = (false, eval e X.env) :: starEach es X.env := by rfl) (hpl : (backTo pos (starEach es X.env)).any (·.1) = false := by rfl)
    (ht : eval (.Call (.Attribute o m apos) (e :: es) [] pos) X.env = (do
      let ov ← eval o X.env
      standAt apos.atName
      let (f, first) ← holding [ov] (getMethod ov m pl)
      callWith pos f first (backTo pos (starEach (e :: es) X.env)) (backToKw pos (keywordEach [] X.env))) := by rfl) :
    QE X C W (.Call (.Attribute o m apos) (e :: es) [] pos) (gMethW nm m n F go gs) := by
  subst hn
  obtain ⟨to, po, qo⟩ := ho
  obtain ⟨ta, pa, qa⟩ := ha
  refine ⟨fun σ H Q => to σ H fun x H1 => ∃ a dx fs, x = .ref a ∧ H1 a = some (.ins C0 dx fs) ∧ fs.lookup m = none ∧ ta σ H1 fun vs H2 => rCallQ X.K C ps F (WE W σ) (x :: vs) H2 Q, ⟨fun pins s σ H Q I h => ?_⟩,
    fun σ H Z ι Γ M Q sl hr h => qo σ H Z ι Γ M _ sl hr (h.bind fun x M1 v H1 Z1 ι1 e1 hr1 r1 h1 => ?_)⟩
  · refine PySem.W.methodCall_KW (pl := pl) (thn (po.run pins s σ H _ I h) fun u s1 ⟨x, H1, I1, rx, a, dx, fs, ex, ea, l, q⟩ => ?_) ht
    subst ex
    obtain rfl : u = Value.ref a := rx
    refine getmeth_ok I1 ea c hm l ?_
    refine PySem.W.callWith_K (first := [.ref a]) (h₀ := X.base) I.ok.mod.kin hm.kp (thn (pa.run pos pins s1 σ H1 _ I1 q) fun us s2 hh => ?_) hst hpl
    obtain ⟨vs, H2, I2, r, q2⟩ := hh
    have r2 : Vals (V.ref a :: vs) (Value.ref a :: us) := .cons rfl r
    have hl : (Value.ref a :: us).length = ps.length := r2.length.symm.trans q2.1
    have hbb := hb s2 (Value.ref a :: us) I2.kIn (by rw [List.append_nil]; exact hl)
    rw [List.append_nil] at hbb
    exact ⟨I2.kIn, run_call F0 hr hgu tk I2 hbb r2 q2⟩
  · by_cases z : isObj nm m M1 x = true
    · rw [if_pos z] at h1
      obtain ⟨a, dx, fs, b1, b2, b3⟩ := isObj_run hn0 hr1 r1 z
      subst b1
      refine ⟨a, dx, fs, rfl, b2, b3, qa σ H1 Z1 ι1 Γ M1 _ (sl.ext e1) hr1 (h1.bind fun ds M2 vs H2 Z2 ι2 e2 hr2 r2 h2 => ?_)⟩
      by_cases cc : ds.length + 1 = ps.length
      · rw [if_pos cc] at h2
        exact whole_post hr2 (.cons (r1.ext e2) r2) (by rw [List.length_cons, ← r2.length]; exact cc) h2
      · rw [if_neg cc] at h2
        exact h2.elim
    · rw [if_neg z] at h1
      exact h1.elim
theorem qe_methW0 (hn0 : PySem.W.nsIn X.K mainGlobals nm = some (some (.ref C0))) (c : Cls X.K C0) (hm : Meth X.K C0 m fa) (F0 : FnQ X.prog X.w X.K X.mg X.base C k fa fd ps F) (hr : Room k X.A) (hgu : X.A.guards = some []) (tk : Takes X W) (hb : Binds X.K fd ps []) (ho : QE X C W o go) (hn : n = ps.length := by rfl)
    (ht : eval (.Call (.Attribute o m apos) [] [] pos) X.env = (do
      let ov ← eval o X.env
      standAt apos.atName
      let (f, first) ← holding [ov] (getMethod ov m pl)
      callWith pos f first (backTo pos (starEach [] X.env)) (backToKw pos (keywordEach [] X.env))) := by rfl) :
    QE X C W (.Call (.Attribute o m apos) [] [] pos) (gMethW nm m n F go gNil) := by
  subst hn
  obtain ⟨to, po, qo⟩ := ho
  refine ⟨fun σ H Q => to σ H fun x H1 => ∃ a dx fs, x = .ref a ∧ H1 a = some (.ins C0 dx fs) ∧ fs.lookup m = none ∧ rCallQ X.K C ps F (WE W σ) [x] H1 Q, ⟨fun pins s σ H Q I h => ?_⟩,
    fun σ H Z ι Γ M Q sl hr h => qo σ H Z ι Γ M _ sl hr (h.bind fun x M1 v H1 Z1 ι1 e1 hr1 r1 h1 => ?_)⟩
  · refine PySem.W.methodCall_KW (pl := pl) (thn (po.run pins s σ H _ I h) fun u s1 ⟨x, H1, I1, rx, a, dx, fs, ex, ea, l, q⟩ => ?_) ht
    subst ex
    obtain rfl : u = Value.ref a := rx
    refine getmeth_ok I1 ea c hm l ?_
    have r2 : Vals [V.ref a] [Value.ref a] := .cons rfl .nil
    have hl : [Value.ref a].length = ps.length := r2.length.symm.trans q.1
    have hbb := hb s1 [Value.ref a] I1.kIn (by rw [List.append_nil]; exact hl)
    rw [List.append_nil] at hbb
    exact PySem.W.callWith_K0 (first := [.ref a]) I1.kIn hm.kp (run_call F0 hr hgu tk I1 hbb r2 q)
  · by_cases z : isObj nm m M1 x = true
    · rw [if_pos z] at h1
      obtain ⟨a, dx, fs, b1, b2, b3⟩ := isObj_run hn0 hr1 r1 z
      subst b1
      have h2 : Post X C W (rpE X.K) σ H1 Z1 ι1 M1 (if ([] : List D).length + 1 = ps.length then callW F [x] M1 else .bad) Q := h1
      by_cases cc : ([] : List D).length + 1 = ps.length
      · rw [if_pos cc] at h2
        exact ⟨a, dx, fs, rfl, b2, b3, whole_post hr1 (.cons r1 .nil) cc h2⟩
      · rw [if_neg cc] at h2
        exact h2.elim
    · rw [if_neg z] at h1
      exact h1.elim
end
@[simp] theorem u_gMethW (nm m : Str) (n : Nat) (F : List D → List MO → R D) (go : GE) (ga : GA) (Γ : Env) (M : List MO) : gMethW nm m n F go ga Γ M = (go Γ M).bind fun x M1 => if isObj nm m M1 x = true then (ga Γ M1).bind fun ds M2 => if ds.length + 1 = n then callW F (x :: ds) M2 else .bad else .bad := Eq.trans rfl rfl
/-! ### for k, v in d.items() of a dict of ours with whole numbers as keys; it is not used any more -/
theorem mixPairs {P : Program} {w : World} : ∀ {es : List DictEntry} {kvs : List (L2.Key × Value)}, Pairs (mixKind P w) es kvs → es.length = kvs.length ∧ ∀ (i : Nat) (kv : L2.Key × Value), kvs[i]? = some kv → ∃ en, es[i]? = some en ∧ keyIs kv.1 en.key = true ∧ en.val = kv.2
  | _, _, .nil => ⟨rfl, by simp⟩
  | _, _, .cons a b t => by
    obtain ⟨h1, h2⟩ := mixPairs t
    refine ⟨by simp [h1], fun i kv e => ?_⟩
    cases i with
    | zero =>
      simp only [List.getElem?_cons_zero, Option.some.injEq] at e
      subst e
      exact ⟨_, rfl, a, b⟩
    | succ i =>
      obtain ⟨en, e1, e2⟩ := h2 i kv (by simpa using e)
      exact ⟨en, by simpa using e1, e2⟩
theorem kvPaired : ∀ {gs : List (L2.Key × V)} {vs : List (L2.Key × Value)}, KV gs vs → gs.length = vs.length ∧ ∀ (i : Nat) (kv : L2.Key × V), gs[i]? = some kv → ∃ u, vs[i]? = some (kv.1, u) ∧ RelV kv.2 u
  | _, _, .nil => ⟨rfl, by simp⟩
  | _, _, .cons (a := a) (b := b) r t => by
    obtain ⟨h1, h2⟩ := kvPaired t
    refine ⟨by simp [h1], fun i kv e => ?_⟩
    cases i with
    | zero =>
      simp only [List.getElem?_cons_zero, Option.some.injEq] at e
      subst e
      obtain ⟨r1, r2⟩ := r
      exact ⟨b.2, by rw [r1]; rfl, r2⟩
    | succ i =>
      obtain ⟨u, e1, e2⟩ := h2 i kv (by simpa using e)
      exact ⟨u, by simpa using e1, e2⟩
def iItemsK (td : TE) : TI := fun σ H R => td σ H fun x H1 => ∃ (d : Addr) (gs : List (L2.Key × V)), x = .ref d ∧ H1 d = some (.dK gs) ∧ (∀ p ∈ gs, ∃ i : Int, p.1 = Sum.inl i) ∧
  ∀ es ep, KeyAt es (gs.map fun p => kV p.1) → ValAt es (gs.map (·.2)) → R (Itm d es ep (gs.map fun p => kV p.1) (gs.map (·.2))) (upd H1 d (dnO d es ep))
theorem pi_itemsK {X : Cx} {e : Expr} {td : TE} {elts : List Expr} {kk : Nat} {tpos apos cpos : Pos} (he : PE X e td) (hbase : attributeBase e "items" X.env (eval e X.env) = eval e X.env := by rfl) (hline : (apos.endLine == cpos.line) = true := by rfl) :
    PI X (.Tuple elts kk tpos) (.Call (.Attribute e "items" apos) [] [] cpos) (iItemsK td) := by
  refine ⟨fun pins s σ H R I h => ?_⟩
  refine wpAny_Call_method (T := "dict") (id := "dict.items") hbase rfl hline F.plainAttrs_dict F.slot_dict_items F.type_dict_items (thn (he.run pins s σ H _ I h) fun u s1 ⟨x, H1, I1, rx, d, gs, ex, hd, hi, q⟩ => ?_)
  subst ex
  obtain rfl : u = Value.ref d := rx
  obtain ⟨hz, hs, vs, rel, o, es, ep, ho, hx, hdt, hko, hpr, hnd⟩ := dk_of I1.hok hd
  obtain ⟨l1, f1⟩ := kvPaired rel
  obtain ⟨l2, f2⟩ := mixPairs hpr
  have hm' : s1.heap.DictRaw d es ep := ⟨o, ho, hx, hdt⟩
  have hk : KeyAt es (gs.map fun p => kV p.1) := by
    refine ⟨by simp [← Array.length_toList, l2, l1], fun i y hy => ?_⟩
    rw [List.getElem?_map] at hy
    cases eg : gs[i]? with
    | none => rw [eg] at hy; cases hy
    | some g =>
      rw [eg] at hy
      cases hy
      obtain ⟨u, u1, u2⟩ := f1 i g eg
      obtain ⟨en, v1, v2, v3⟩ := f2 i _ u1
      refine ⟨en, by simpa using v1, ?_⟩
      obtain ⟨j, hj⟩ := hi g (List.mem_of_getElem? eg)
      show RelV (kV g.1) en.key
      rw [hj] at v2 ⊢
      rcases keyIs_shape v2 with ⟨i', t, a1, a2⟩ | ⟨x', t, a1, a2⟩
      · cases a1
        exact ⟨t, a2⟩
      · cases a1
  have hv : ValAt es (gs.map (·.2)) := by
    refine ⟨by simp [← Array.length_toList, l2, l1], fun i y hy => ?_⟩
    rw [List.getElem?_map] at hy
    cases eg : gs[i]? with
    | none => rw [eg] at hy; cases hy
    | some g =>
      rw [eg] at hy
      cases hy
      obtain ⟨u, u1, u2⟩ := f1 i g eg
      obtain ⟨en, v1, v2, v3⟩ := f2 i _ u1
      exact ⟨en, by simpa using v1, by rw [v3]; exact u2⟩
  refine ⟨hm'.typeIs, fun a e => by cases e; exact ⟨o, ho, hx.2.1⟩, ?_⟩
  have ok : ObjOk X.prog X.w (upd H1 d (dnO d es ep)) s1.heap d (dnO d es ep) := ⟨⟨o, ho, hx, hdt⟩, ⟨o, ho⟩, fun h1 h2 ⟨u, hu1, hu2, hu3⟩ hk => ⟨u, hk u hu1, hu2, hu3⟩⟩
  have I1' : Inv X pins σ (upd H1 d (dnO d es ep)) s1 := d_write (t' := s1.toks) I1 (by rw [hd]; exact True.intro) (Heap.SameBut.refl d s1.heap) ⟨o, ho⟩ ok
  have I2 : Inv X pins σ (upd H1 d (dnO d es ep)) { s1 with heap := s1.heap.push { cls := .type "dict_items", data := .fields #[.ref d] } } := I1'.kept (t' := s1.toks) fun b ob q => Heap.get?_push_of_some _ q
  have hm2 : (s1.heap.push { cls := .type "dict_items", data := .fields #[.ref d] }).DictRaw d es ep := hm'.at fun o e => Heap.get?_push_of_some _ e
  have fin : wpAny (model X.prog X.w) X.A (pyIter (.ref s1.heap.objs.size)) (PIE X pins σ (.Tuple elts kk tpos) R) X.xe { s1 with heap := s1.heap.push { cls := .type "dict_items", data := .fields #[.ref d] } } :=
    wpAny_pyIter_items_raw (d := d) ⟨_, Heap.get?_push_size _ rfl, rfl, rfl⟩ hm2 (pi_one (tk := s1.toks) I2 _ (turn_itemsN _ hk hv) ⟨.none, .none, Heap.get?_push_size _ rfl⟩ (q es ep hk hv))
  show wpAny _ _ (callWith cpos (.builtin "dict.items") [.ref d] [] []) _ X.xe s1
  exact method_meetsIn F.slot_dict_items F.entry_dict_items rfl (PySem.evalArgs_none ⟨rfl, hm'.typeIs, F.args_dict_items_1 _, _, meets_dict_items_raw d hs, ⟨⟨es, ep, hm'⟩, fin⟩⟩)
/-- a thing of ours is frozen as another thing -/
theorem HR.retire {K : PySem.W.Frag} {H Z : Hp} {ι : Nat → Addr} {M : List MO} (h : HR K H Z ι M) {j : Nat} {o : MO} (ho : HO) (hj : M[j]? = some o) (hd : o ≠ .dead) :
    HR K (upd H (ι j) ho) (upd Z (ι j) ho) ι (M.set j .dead) ∧ Ext H Z ι M.length (upd H (ι j) ho) (upd Z (ι j) ho) ι (M.set j MO.dead).length ∧ Sub Z (upd Z (ι j) ho) := by
  have lt : j < M.length := (List.getElem?_eq_some_iff.mp hj).1
  have ln : (M.set j MO.dead).length = M.length := List.length_set
  have zj : Z (ι j) = none := h.sep j _ hj hd
  have s1 : Sub Z (upd Z (ι j) ho) := fun a u e => by rw [upd_ne (ne_of_none e zj)]; exact e
  have cs : ∀ {k : Nat} {u : MO}, (M.set j .dead)[k]? = some u → u ≠ .dead → k ≠ j ∧ M[k]? = some u := fun {k u} e d => by
    by_cases hk : k = j
    · subst hk
      rw [List.getElem?_set_self lt] at e
      exact absurd (Option.some.inj e).symm d
    · rw [List.getElem?_set_ne (Ne.symm hk)] at e
      exact ⟨hk, e⟩
  refine ⟨⟨fun a u e => ?_, fun k hk => ?_, fun k u e d => ?_, fun a b o u q1 q2 d1 d2 e => ?_, fun k u e => ?_, fun k e => ?_⟩, ⟨s1, fun _ _ => rfl, fun a u e z => ?_, fun k h1 h2 => absurd h2 (by rw [ln]; exact Nat.not_lt.mpr h1), by rw [ln]; exact Nat.le_refl _, fun a u e => ?_⟩, s1⟩
  · by_cases ha : a = ι j
    · rw [ha, upd_same] at e ⊢
      exact e
    · rw [upd_ne ha] at e ⊢
      exact h.sub _ _ e
  · rw [ln] at hk
    by_cases e : ι k = ι j
    · exact ⟨_, by rw [e, upd_same]⟩
    · rw [upd_ne e]
      exact h.ali k hk
  · obtain ⟨hk, e⟩ := cs e d
    rw [upd_ne fun z => hk (h.inj k j u _ e hj d hd z)]
    exact h.sep k u e d
  · exact h.inj a b o u (cs q1 d1).2 (cs q2 d2).2 d1 d2 e
  · rw [ln]
    by_cases du : u = .dead
    · subst du
      trivial
    · obtain ⟨hk, e⟩ := cs e du
      exact OR.mono s1 (fun _ _ => rfl) (Nat.le_refl _) (fun o z => by rw [upd_ne fun w => hk (h.inj k j u _ e hj du hd w)]; exact z) (h.obj k u e)
  · by_cases hk : k = j
    · subst hk
      exact ⟨_, upd_same⟩
    · rw [List.getElem?_set_ne (Ne.symm hk)] at e
      obtain ⟨u, hu⟩ := h.ded k e
      exact ⟨u, s1 _ _ hu⟩
  · rw [upd_ne (z j lt)]
    exact e
  · by_cases ha : a = ι j
    · exact .inr (.inr ⟨j, lt, ha⟩)
    · rw [upd_ne ha] at e
      exact .inl e
def gItemsK (ge : GE) : GI := fun Γ M => (ge Γ M).bind fun x M1 => match x with
  | .ref k => match M1[k]? with
    | some (.dki kvs) => .ok (kvs.map fun p => .tup [.int p.1, p.2]) (M1.set k .dead)
    | _ => .bad
  | _ => .bad
theorem kir_ints {K : PySem.W.Frag} {Z : Hp} {ι : Nat → Addr} {n : Nat} : ∀ {ks : List (Int × D)} {gs : List (L2.Key × V)}, KiR K Z ι n ks gs → ∀ p ∈ gs, ∃ i : Int, p.1 = Sum.inl i
  | _, _, .nil, _, h => by cases h
  | _, _, .cons r s, p, h => by
    rcases List.mem_cons.mp h with rfl | h
    · exact ⟨_, rfl⟩
    · exact kir_ints s p h
theorem qi_itemsK {X : Cx} {C : CT} {W : WX} {e : Expr} {g : GE} {elts : List Expr} {kk : Nat} {tpos apos cpos : Pos} (ha : QE X C W e g) (hbase : attributeBase e "items" X.env (eval e X.env) = eval e X.env := by rfl) (hline : (apos.endLine == cpos.line) = true := by rfl) :
    QI X C W (.Tuple elts kk tpos) (.Call (.Attribute e "items" apos) [] [] cpos) (gItemsK g) := by
  obtain ⟨ta, pa, qa⟩ := ha
  refine ⟨_, pi_itemsK pa hbase hline, fun σ H Z ι Γ M Q sl hr h => qa σ H Z ι Γ M _ sl hr (Post.bind h fun x M1 v H1 Z1 ι1 e1 hr1 r1 h1 => ?_)⟩
  cases r1 with
  | ref hk =>
    rename_i k
    simp only at h1
    cases ek : M1[k]? with
    | none => rw [ek] at h1; exact h1.elim
    | some o =>
      rw [ek] at h1
      cases o with
      | dki kvs =>
        obtain ⟨gs, d1, d2⟩ := dki_there hr1 ek
        refine ⟨ι1 k, gs, rfl, d1, kir_ints d2, fun es ep ke va => ?_⟩
        obtain ⟨hr2, x2, s2⟩ := hr1.retire (dnO (ι1 k) es ep) ek (by simp)
        obtain ⟨b1, b2, b3, b4⟩ := d2.back
        have it := itr_items (K := X.K) (n := M1.length) (ι := ι1) (es := es) (ep := ep) (Z := upd Z1 (ι1 k) (dnO (ι1 k) es ep)) upd_same (Rps.mono s2 (fun _ _ => rfl) (Nat.le_refl _) _ _ b3) (Rps.mono s2 (fun _ _ => rfl) (Nat.le_refl _) _ _ b2) (by simp)
        have ep' : pairsD (kvs.map fun p => .int p.1) (kvs.map (·.2)) = kvs.map fun p => .tup [.int p.1, p.2] := by
          unfold pairsD
          rw [List.zip_map', List.map_map]
          rfl
        rw [ep'] at it
        have ln : (M1.set k MO.dead).length = M1.length := List.length_set
        exact h1 _ _ _ ι1 x2 hr2 (by rw [ln]; exact it)
      | _ => exact h1.elim
  | _ => exact h1.elim
@[simp] theorem u_gItemsK (ge : GE) (Γ : Env) (M : List MO) : gItemsK ge Γ M = (ge Γ M).bind fun x M1 => match x with
  | .ref k => match M1[k]? with
    | some (.dki kvs) => .ok (kvs.map fun p => .tup [.int p.1, p.2]) (M1.set k .dead)
    | _ => .bad
  | _ => .bad := Eq.trans rfl rfl
@[simp] theorem u_gDictT (ge : GE) (Γ : Env) (M : List MO) : gDictT ge Γ M = (ge Γ M).bind fun x M1 => match x with
  | .ptu ds => match kiOf ds with
    | some kvs => .ok (.ref M1.length) (M1 ++ [.dki (kiMerge [] kvs)])
    | none => .bad
  | _ => .bad := Eq.trans rfl rfl
@[simp] theorem u_gGetK (go gk gx : GE) (Γ : Env) (M : List MO) : gGetK go gk gx Γ M = (go Γ M).bind fun x M1 => match x with
  | .ref k => match M1[k]? with
    | some (.dki _) => (gk Γ M1).bind fun y M2 => (gx Γ M2).bind fun z M3 => match y, M3[k]? with
      | .int i, some (.dki kvs) => .ok ((kiGet kvs i).getD z) M3
      | _, _ => .bad
    | _ => .bad
  | _ => .bad := Eq.trans rfl rfl
@[simp] theorem u_gSetX (ge go gi : GE) (Γ : Env) (M : List MO) : gSetX ge go gi Γ M = (ge Γ M).thenS Γ fun v M1 => (go Γ M1).thenS Γ fun o M2 => (gi Γ M2).thenS Γ fun i M3 => match setX M3 o i v with
  | some M4 => .nx Γ M4
  | none => .bad := Eq.trans rfl rfl
end Bk

set_option Elab.async false
set_option linter.all false
set_option maxRecDepth 100000
set_option maxHeartbeats 4000000
namespace Bk
open PySem PySem.Spec PyProof.Rows L2
theorem room7 {k : Nat} {A : Around} (hr : Room k A) : A.units + 8 < cLine := by have := hr.un; omega
theorem room6 {k : Nat} {A : Around} (hr : Room k A) : A.units + 1 < cLine := by have := hr.un; omega
theorem sw_trueD {kx vx : Expr} {gs : List Comprehension} {scope : Scope} {pos py : Pos} {y : Str} {l : Nat} {env : PySem.Env} (hk : env.scope.kind = .function) (hy : env.scope.names.lookup y = some .local) (hl : (py.line == pos.line) = true)
    (ha : (scope.names.any fun (n, k) => n == y && (k == .local || k == .cell)) = false) : swapsWith (.DictComp kx vx gs scope pos) (some (.Name y py)) l env = pure true := by
  have ky : env.kindOf y = some .local := hy
  have hb : env.blockKind = .function := by unfold PySem.Env.blockKind; rw [hk]; rfl
  unfold swapsWith
  simp only [hb, ky, ha, Expr.pos, hl]
  rfl
@[simp] theorem rr_ptu (m : Nat) (M : List MO) (ds : List D) : retR m M (.ptu ds) = if belows m ds = true then .ok (.ptu ds) (M.take m) else .bad := Eq.trans rfl rfl
@[simp] theorem rr_dct (m : Nat) (M : List MO) (ks vs : List D) : retR m M (.dct ks vs) = if (belows m ks && belows m vs) = true then .ok (.dct ks vs) (M.take m) else .bad := Eq.trans rfl rfl
@[simp] theorem bl_ptu (m : Nat) (ds : List D) : below m (.ptu ds) = belows m ds := Eq.trans rfl rfl
@[simp] theorem bl_dct (m : Nat) (ks vs : List D) : below m (.dct ks vs) = (belows m ks && belows m vs) := Eq.trans rfl rfl
@[simp] theorem blo_dct (m : Nat) (ks vs : List D) : belowO m (.dct ks vs) = (belows m ks && belows m vs) := Eq.trans rfl rfl
@[simp] theorem blo_dki (m : Nat) (kvs : List (Int × D)) : belowO m (.dki kvs) = belows m (kvs.map (·.2)) := Eq.trans rfl rfl
@[simp] theorem it_ptu (M : List MO) (ds : List D) : itemsD M (.ptu ds) = some ds := Eq.trans rfl rfl
@[simp] theorem e_lenNd (M : List MO) (ks vs : List D) : dLenN M (.dct ks vs) = some (.int (vs.length : Nat)) := Eq.trans rfl rfl
@[simp] theorem dn_dct (M : List MO) (ks vs : List D) : dctD M (.dct ks vs) = some (ks, vs) := Eq.trans rfl rfl
theorem dn_ref {M : List MO} {k : Nat} {ks vs : List D} (h : M[k]? = some (.dct ks vs)) : dctD M (.ref k) = some (ks, vs) := by simp [dctD, h]
@[simp] theorem u_runW (n : Nat) (g : GS) (ds : List D) (M : List MO) : runW n g ds M = finW (g (ds.map some ++ List.replicate (n - ds.length) none) M) := Eq.trans rfl rfl
@[simp] theorem u_callW (F : List D → List MO → R D) (ds : List D) (M : List MO) : callW F ds M = F ds M := Eq.trans rfl rfl
@[simp] theorem seqD_p (ds : List D) : seqD (.ptu ds) = some ds := Eq.trans rfl rfl
end Bk

set_option Elab.async false
set_option linter.all false
set_option maxRecDepth 100000
set_option maxHeartbeats 4000000
namespace Bk
open PySem PySem.Spec PyProof.Rows L2
/-! ### a, b = a list -/
def gToL (gs : GGs) : GG := fun d Γ => match d with
  | .lst ds => gs ds Γ
  | _ => none
section
variable {X : Cx} {es : List Expr} {gs : GGs} {is : List Nat} {pos : Pos}
theorem qg_lst {k : Nat} {n : Nat} (hc : X.calm = true) (h : QGs X es gs is) (hn : (assignEach es X.env).length = n := by rfl) (hst : (assignEach es X.env).findIdx? (·.1) = none := by rfl) (hlen : ∀ ds Γ Γ', gs ds Γ = some Γ' → ds.length = n) : QG X (.Tuple es k pos) (gToL gs) is := by
  obtain ⟨t, p, q⟩ := h
  refine ⟨_, pg_lst hc p hn (hst := hst), fun v σ H Z ι m d Γ Γ' Q hs sl r e h => ?_⟩
  cases r with
  | lst s r =>
    have e' : gs _ Γ = some Γ' := e
    exact ⟨_, _, rfl, (subL hs s).sq, by rw [← r.length]; exact hlen _ _ _ e', q _ σ H Z ι m _ Γ Γ' Q hs sl r e' h⟩
  | _ => cases e
end
@[simp] theorem u_gToL (gs : GGs) (ds : List D) (Γ : Env) : gToL gs (.lst ds) Γ = gs ds Γ := Eq.trans rfl rfl
end Bk

set_option Elab.async false
set_option linter.all false
set_option maxRecDepth 100000
set_option maxHeartbeats 4000000
namespace Bk
open PySem PySem.Spec PyProof.Rows L2
/-! ### {"a": "b", "c": "d"}[e] -/
def gStrM (a b c d : Str) (ge : GE) : GE := fun Γ M => (ge Γ M).bind fun x M1 => match x with
  | .str s => if s = a then .ok (.str b) M1 else if s = c then .ok (.str d) M1 else .bad
  | _ => .bad
section
variable {X : Cx} {C : CT} {W : WX} {e : Expr} {ge : GE} {pos dp p1 p2 p3 p4 : Pos}
theorem qe_strM {a b c d : Str} {j1 j2 j3 j4} (hu : X.A.units + 1 < cLine) (he : QE X C W e ge) (hac : a ≠ c) (hs : NoSl e := by exact fun _ _ => rfl) :
    QE X C W (.Subscript (.Dict [some (.Constant (.str a) j1 p1), some (.Constant (.str c) j2 p2)] [.Constant (.str b) j3 p3, .Constant (.str d) j4 p4] dp) e pos) (gStrM a b c d ge) := by
  obtain ⟨te, pe, qe⟩ := he
  refine ⟨_, pe_dget hu (pe_disp (pps_cons pe_str pe_str (pps_cons pe_str pe_str pps_nil)) rfl rfl (by simp) (by simp)) pe hs, fun σ H Z ι Γ M Q sl hr h => ?_⟩
  intro p hp
  refine ⟨upd_same, [(.inr a, .str b), (.inr c, .str d)], rfl, by simp, ?_⟩
  have od : Odd Z ι M.length p := .new hr hp
  have mk : mergeK [] [((.inr a : Key), V.str b), (.inr c, .str d)] = [((.inr a : Key), V.str b), (.inr c, .str d)] := by
    have : ¬ (Sum.inr a : Key) = Sum.inr c := fun z => hac (by injection z)
    simp [mergeK, putK, this]
  rw [mk]
  have hr1 : HR X.K (upd (upd H p (.dK [])) p (.dK [((.inr a : Key), V.str b), (.inr c, .str d)])) Z ι M := (hr.odd od).odd od
  have x0 : Ext H Z ι M.length (upd (upd H p (.dK [])) p (.dK [((.inr a : Key), V.str b), (.inr c, .str d)])) Z ι M.length := (Ext.touch .refl hp).touch hp
  refine qe σ _ Z ι Γ M _ sl hr1 ?_
  have h : Post X C W (rpE X.K) σ H Z ι M ((ge Γ M).bind fun x M1 => match x with
    | .str s => if s = a then .ok (.str b) M1 else if s = c then .ok (.str d) M1 else .bad
    | _ => .bad) Q := h
  cases ea : ge Γ M with
  | bad => rw [ea] at h; exact h.elim
  | exc cc dd M' =>
    rw [ea] at h
    exact Post.shift (r := (.exc cc dd M' : R D)) (rp := rpE X.K) (Q := Q) h x0 hr1
  | ok x M1 =>
    rw [ea] at h
    intro y H1 Z1 ι1 e1 hr2 r1
    obtain ⟨od1, hp1⟩ := od.ext upd_same e1
    have e01 := x0.trans e1 hr1.ali
    cases x with
    | str s =>
      cases r1
      have h3 : Post X C W (rpE X.K) σ H Z ι M (if s = a then .ok (.str b) M1 else if s = c then .ok (.str d) M1 else .bad : R D) Q := h
      have g : DGet H1 p (.str s) (valV [((.inr a : Key), V.str b), (.inr c, .str d)] (.inr s)) := DGet.k (k := .inr s) hp1
      by_cases q1 : s = a
      · rw [if_pos q1] at h3
        subst q1
        have v : valV [((.inr s : Key), V.str b), (.inr c, .str d)] (.inr s) = some (V.str b) := by simp [valV]
        rw [v] at g
        exact ⟨p, .str b, rfl, g, h3 _ H1 Z1 ι1 e01 hr2 (.str b)⟩
      · rw [if_neg q1] at h3
        by_cases q2 : s = c
        · rw [if_pos q2] at h3
          subst q2
          have na : ¬ (Sum.inr a : Key) = Sum.inr s := fun z => q1 (by injection z with z; exact z.symm)
          have v : valV [((.inr a : Key), V.str b), (.inr s, .str d)] (.inr s) = some (V.str d) := by simp [valV, na]
          rw [v] at g
          exact ⟨p, .str d, rfl, g, h3 _ H1 Z1 ι1 e01 hr2 (.str d)⟩
        · rw [if_neg q2] at h3
          exact h3.elim
    | _ => exact (h : False).elim
@[simp] theorem u_gStrM (a b c d : Str) (ge : GE) (Γ : Env) (M : List MO) : gStrM a b c d ge Γ M = (ge Γ M).bind fun x M1 => match x with
  | .str s => if s = a then .ok (.str b) M1 else if s = c then .ok (.str d) M1 else .bad
  | _ => .bad := Eq.trans rfl rfl
end
end Bk

set_option Elab.async false
set_option linter.all false
set_option maxRecDepth 100000
set_option maxHeartbeats 2000000
namespace Bk
open PySem PySem.Spec PyProof.Rows L2
/-! ### t < u, t > u of tuples of ints; sorted of a list of them -/
theorem canLay_ints : ∀ is : List Int, toPs (is.map D.int) = some (is.map PyData.int)
  | [] => rfl
  | i :: is => by simp [toPs, toP, canLay_ints is]
theorem toP_ints (is : List Int) : toP (.tup (is.map D.int)) = some (.tuple (is.map .int)) := by simp [toP, canLay_ints is]
theorem alike_tups (a b : List Int) : PySem.W.alike (.tuple (a.map .int)) (.tuple (b.map .int)) = true := by
  rw [PySem.W.alike]
  exact PySem.W.alike_ints a b
theorem depth_tups (a : List Int) : (PyData.tuple (a.map .int)).depth = 1 := by
  simp [PyData.depth, PySem.W.depth_ints a]
theorem lt_tups (a b : List Int) : PySem.W.dataLt (.tuple (a.map .int)) (.tuple (b.map .int)) = decide (a < b) := by
  rw [PySem.W.dataLt_tuple]
  exact PySem.W.dataLt_ints a b
theorem intsL_is : ∀ {ds : List D} {is : List Int}, intsL ds = some is → ds = is.map D.int
  | [], _, h => by cases h; rfl
  | d :: ds, is, h => by
    cases d with
    | int i =>
      have h' : (intsL ds).map (fun is => i :: is) = some is := h
      cases e : intsL ds with
      | none => rw [e] at h'; cases h'
      | some js =>
        rw [e] at h'
        cases h'
        rw [List.map_cons, ← intsL_is e]
    | _ => cases h
def dLtA (M : List MO) (x y : D) : Option D := match x, y with
  | .tup xs, .tup ys => match intsL xs, intsL ys with
    | some ns, some ms => some (.bl (decide (ns < ms)))
    | _, _ => none
  | x, y => dLt M x y
def dGtA (M : List MO) (x y : D) : Option D := match x, y with
  | .tup xs, .tup ys => match intsL xs, intsL ys with
    | some ns, some ms => some (.bl (decide (ms < ns)))
    | _, _ => none
  | x, y => dGt M x y
def rLtD (K : PySem.W.Frag) : R2 := fun x y H Q => ∃ ns ms : List Int, Dp K H x (.tuple (ns.map .int)) ∧ Dp K H y (.tuple (ms.map .int)) ∧ Q (.bl (decide (ns < ms))) H
def rGtD (K : PySem.W.Frag) : R2 := fun x y H Q => ∃ ns ms : List Int, Dp K H x (.tuple (ns.map .int)) ∧ Dp K H y (.tuple (ms.map .int)) ∧ Q (.bl (decide (ms < ns))) H
section
variable {X : Cx}
theorem op_ltD (hu : X.A.units + 65 < cLine) : OpR X (compareOp .Lt) (rLtD X.K) := by
  intro pins s σ H x y v u Q I rx ry h
  obtain ⟨ns, ms, h1, h2, q⟩ := h
  obtain ⟨as, r1⟩ := Dp.reads I _ _ _ h1 rx
  obtain ⟨bs, r2⟩ := Dp.reads I _ _ _ h2 ry
  refine PySem.W.lt_data r1 r2 (alike_tups ns ms) (by simp) (by rw [depth_tups, depth_tups]; omega) ?_
  rw [lt_tups]
  exact ⟨.bl _, H, I, rfl, q⟩
theorem op_gtD (hu : X.A.units + 65 < cLine) : OpR X (compareOp .Gt) (rGtD X.K) := by
  intro pins s σ H x y v u Q I rx ry h
  obtain ⟨ns, ms, h1, h2, q⟩ := h
  obtain ⟨as, r1⟩ := Dp.reads I _ _ _ h1 rx
  obtain ⟨bs, r2⟩ := Dp.reads I _ _ _ h2 ry
  refine PySem.W.gt_data r1 r2 (alike_tups ns ms) (by simp) (by rw [depth_tups, depth_tups]; omega) ?_
  rw [lt_tups]
  exact ⟨.bl _, H, I, rfl, q⟩
theorem op_ltA (hu : X.A.units + 65 < cLine) : OpR X (compareOp .Lt) (fun x y H Q => rLtD X.K x y H Q ∨ rI0 (fun i j => .bl (decide (i < j))) x y H Q) := (op_ltD hu).or op_lt
theorem op_gtA (hu : X.A.units + 65 < cLine) : OpR X (compareOp .Gt) (fun x y H Q => rGtD X.K x y H Q ∨ rI0 (fun i j => .bl (decide (j < i))) x y H Q) := (op_gtD hu).or op_gt
theorem ok_ltA : Ok2 X (fun x y H Q => rLtD X.K x y H Q ∨ rI0 (fun i j => .bl (decide (i < j))) x y H Q) dLtA := fun x y H Z ι M dx dy d Q hr rx ry e q => by
  unfold dLtA at e
  split at e
  · rename_i xs ys
    cases e1 : intsL xs with
    | none => rw [e1] at e; cases e
    | some ns =>
      cases e2 : intsL ys with
      | none => rw [e1, e2] at e; cases e
      | some ms =>
        rw [e1, e2] at e
        cases e
        have w1 := intsL_is e1
        have w2 := intsL_is e2
        subst w1 w2
        exact .inl ⟨ns, ms, toP_dp hr.sub _ _ _ rx (toP_ints ns), toP_dp hr.sub _ _ _ ry (toP_ints ms), q.now hr (.bl _)⟩
  · exact .inr (ok_lt x y H Z ι M dx dy d Q hr rx ry e q)
theorem ok_gtA : Ok2 X (fun x y H Q => rGtD X.K x y H Q ∨ rI0 (fun i j => .bl (decide (j < i))) x y H Q) dGtA := fun x y H Z ι M dx dy d Q hr rx ry e q => by
  unfold dGtA at e
  split at e
  · rename_i xs ys
    cases e1 : intsL xs with
    | none => rw [e1] at e; cases e
    | some ns =>
      cases e2 : intsL ys with
      | none => rw [e1, e2] at e; cases e
      | some ms =>
        rw [e1, e2] at e
        cases e
        have w1 := intsL_is e1
        have w2 := intsL_is e2
        subst w1 w2
        exact .inl ⟨ns, ms, toP_dp hr.sub _ _ _ rx (toP_ints ns), toP_dp hr.sub _ _ _ ry (toP_ints ms), q.now hr (.bl _)⟩
  · exact .inr (ok_gt x y H Z ι M dx dy d Q hr rx ry e q)
end
@[simp] theorem e_ltA_i (M : List MO) (i j : Int) : dLtA M (.int i) (.int j) = some (.bl (decide (i < j))) := Eq.trans rfl rfl
@[simp] theorem e_gtA_i (M : List MO) (i j : Int) : dGtA M (.int i) (.int j) = some (.bl (decide (j < i))) := Eq.trans rfl rfl
theorem e_ltA (M : List MO) (a b : List Int) : dLtA M (.tup (a.map D.int)) (.tup (b.map D.int)) = some (.bl (decide (a < b))) := by simp only [dLtA, intsL_map]
theorem e_gtA (M : List MO) (a b : List Int) : dGtA M (.tup (a.map D.int)) (.tup (b.map D.int)) = some (.bl (decide (b < a))) := by simp only [dGtA, intsL_map]
theorem room70 {k : Nat} {A : Around} (hr : Room k A) : A.units + 70 < cLine := by have := hr.un; omega
/-! sorted -/
abbrev tupI (is : List Int) : D := .tup (is.map D.int)
def rowsL : List D → Option (List (List Int))
  | [] => some []
  | .tup xs :: ds => match intsL xs with
    | some is => (rowsL ds).map fun rs => is :: rs
    | none => none
  | _ => none
theorem rowsL_map : ∀ rs : List (List Int), rowsL (rs.map tupI) = some rs
  | [] => rfl
  | r :: rs => by
    show (match intsL (r.map D.int) with
    | some is => (rowsL (rs.map tupI)).map fun rs => is :: rs
    | none => none) = _
    rw [intsL_map, rowsL_map rs]
    rfl
theorem rowsL_is : ∀ {ds : List D} {rs : List (List Int)}, rowsL ds = some rs → ds = rs.map tupI
  | [], _, h => by cases h; rfl
  | d :: ds, rs, h => by
    cases d with
    | tup xs =>
      have h' : (match intsL xs with
        | some is => (rowsL ds).map fun rs => is :: rs
        | none => none) = some rs := h
      cases e : intsL xs with
      | none => rw [e] at h'; cases h'
      | some is =>
        rw [e] at h'
        cases e2 : rowsL ds with
        | none => rw [e2] at h'; cases h'
        | some qs =>
          rw [e2] at h'
          cases h'
          rw [List.map_cons, ← rowsL_is e2]
          show D.tup xs :: ds = D.tup (is.map D.int) :: ds
          rw [← intsL_is e]
    | _ => cases h
def leR (p q : List Int) : Bool := decide (p ≤ q)
def srtR (rs : List (List Int)) : List (List Int) := rs.mergeSort leR
def srtOk (rs : List (List Int)) : Bool := decide (rs.length ≤ 1) || rs.all fun r => decide (r ≠ [])
def dSortT (M : List MO) (d : D) : Option D := ((listD M d).bind rowsL).bind fun rs => if srtOk rs = true then some (.lst ((srtR rs).map tupI)) else none
theorem leR_data : PySem.W.dataLe false (fun b : List Int => .tuple (b.map .int)) = leR := by
  funext p q
  show (!PySem.W.dataLt (.tuple (q.map .int)) (.tuple (p.map .int))) = _
  rw [lt_tups]
  unfold leR
  by_cases h : q < p
  · have h' : ¬ p ≤ q := fun r => List.not_lt.mpr r h
    simp [h, h']
  · have h' : p ≤ q := List.not_lt.mp h
    simp [h, h']
section
variable {X : Cx}
theorem one_sorts {prog : Program} {w : World} {A : Around} {s : Shared} {v : Value} {r : List Int} {as : List Addr} (rd : Reads s.heap v (.tuple (r.map .int)) as) (hu : A.units + 65 < cLine) : PySem.W.SortsAt prog w A s (PySem.W.dataKind s.heap [.tuple (r.map .int)]) [v] := by
  have hal : PySem.W.AllAlike [PyData.tuple (r.map .int)] := fun d hd d' hd' => by
    rw [List.mem_singleton.mp hd, List.mem_singleton.mp hd']
    exact alike_tups r r
  refine ⟨fun u hu => ?_, PyProof.Rows.general', ?_, fun h2 => absurd h2 (by simp)⟩
  · rw [List.mem_singleton.mp hu]
    exact ⟨_, PySem.W.dataKind_some hal (List.mem_singleton.mpr rfl) rd⟩
  · intro E x y a b Q ha hb hq
    obtain ⟨d, as, hd, ra, rfl⟩ := PySem.W.dataKind_inv ha
    obtain ⟨d', as', hd', rb, rfl⟩ := PySem.W.dataKind_inv hb
    rw [List.mem_singleton.mp hd] at ra hq
    rw [List.mem_singleton.mp hd'] at rb hq
    have e : keyLt' general' x y = oneLt' false x y := rfl
    rw [e]
    exact PySem.W.oneLt_alike (fun h => by cases h) ra rb (alike_tups r r) (by simp) (by rw [depth_tups]; omega) hq
theorem sorted_tupI {prog : Program} {w : World} {A : Around} {E : Value → Shared → Prop} {s : Shared} {R : Value → List Int → Prop} {l : Addr} {vs : List Value} {rs : List (List Int)} {Q : Value → Shared → Prop} (hl : s.heap.IsList l vs.toArray) (e : PySem.W.EachIs R vs rs) (er : PySem.W.EachIs (fun v (b : List Int) => ∃ as, Reads s.heap v (.tuple (b.map .int)) as) vs rs)
    (hk : srtOk rs = true) (hL : rs.length ≤ sizeLine) (hu : A.units + 70 < cLine) (h : ∀ out : List Value, out.length = rs.length → PySem.W.EachIs R out (srtR rs) → Q (.ref (s.heap.objs.size + 1)) { s with heap := sortedAll s.heap vs (List.toArray out) }) :
    wpAny (model prog w) A (call (.builtin "sorted") [.ref l]) Q E s := by
  have hal : PySem.W.AllAlike (rs.map fun b => PyData.tuple (b.map .int)) := PySem.W.AllAlike.of fun b b' => alike_tups b b'
  by_cases c : rs.all (fun r => decide (r ≠ [])) = true
  · have sb : PySem.W.Sortable (rs.map fun b => PyData.tuple (b.map .int)) := .inl fun d hd => by
      obtain ⟨b, hb, rfl⟩ := List.mem_map.mp hd
      have := List.all_eq_true.mp c b hb
      cases b with
      | nil => simp at this
      | cons x b => exact ⟨_, _, rfl⟩
    refine PySem.W.sorted_data (enc := fun b : List Int => .tuple (b.map .int)) hl e er hal sb hL (fun b _ => by rw [depth_tups]; omega) fun out ho eo => h out ho ?_
    rw [leR_data] at eo
    exact eo
  · have hz : rs.length ≤ 1 := by
      unfold srtOk at hk
      rw [Bool.or_eq_true] at hk
      rcases hk with hk | hk
      · simpa using hk
      · exact absurd hk c
    rcases rs with _ | ⟨r, _ | ⟨r2, rs⟩⟩
    · exact absurd (by simp) c
    · cases e with
      | @cons v _ vs' _ e1 e2 =>
        cases e2
        cases er with
        | cons r1 r2 =>
          obtain ⟨as, rd⟩ := r1
          have rd' : Reads (PySem.W.sortingHeap (PySem.W.copyHeap s.heap [v]) (s.heap.objs.size + 1) [v]) v (.tuple (r.map .int)) as := PyProof.Rows.Reads.keeps (fun _ _ => PySem.W.sorting_copy_old) rd
          have S := one_sorts (prog := prog) (w := w) (A := A.in1.in1) (s := { s with heap := PySem.W.sortingHeap (PySem.W.copyHeap s.heap [v]) (s.heap.objs.size + 1) [v] }) rd' (by show A.units + 2 + 65 < cLine; omega)
          refine PySem.W.sorted_vals hl S (by simpa using hL) ?_
          have sv := PySem.W.sortVals_data (h' := PySem.W.sortingHeap (PySem.W.copyHeap s.heap [v]) (s.heap.objs.size + 1) [v]) (R := R) (enc := fun b : List Int => PyData.tuple (b.map .int)) (vs := [v]) (bs := [r]) false (.cons e1 .nil) (.cons ⟨as, rd'⟩ .nil) hal
          rw [leR_data] at sv
          exact h _ (by rw [PySem.W.sortVals_length false rfl]; rfl) sv
    · simp at hz
def rSrtT (K : PySem.W.Frag) : List V → Hp → VK → Prop := fun vs H Q => ∃ (a : Addr) (Z : Hp) (ι : Nat → Addr) (n : Nat) (rs : List (List Int)) (xs : List V), vs = [.ref a] ∧ SqL K H a xs ∧ Sub Z H ∧ Rps K Z ι n (rs.map tupI) xs ∧ srtOk rs = true ∧
  ∀ ys p, Rps K Z ι n ((srtR rs).map tupI) ys → H p = none → Q (.ref p) (upd H p (.lst ys))
theorem tups_there {pins : List (Addr × Obj)} {σ : St} {H Z : Hp} {ι : Nat → Addr} {n : Nat} {s : Shared} (I : Inv X pins σ H s) (hz : Sub Z H) : ∀ {rs : List (List Int)} {xs : List V} {us : List Value}, Rps X.K Z ι n (rs.map tupI) xs → Vals xs us →
    PySem.W.EachIs (fun v (b : List Int) => Rp X.K Z ι n (tupI b) (backV v) ∧ ∃ a, v = Value.ref a) us rs ∧ PySem.W.EachIs (fun v (b : List Int) => ∃ as, Reads s.heap v (.tuple (b.map .int)) as) us rs
  | [], _, _, h, r => by
    cases h
    cases r
    exact ⟨.nil, .nil⟩
  | p :: rs, _, _, h, r => by
    cases h with
    | cons h1 h2 =>
      cases r with
      | cons r1 r2 =>
        obtain ⟨a1, a2⟩ := tups_there I hz h2 r2
        obtain ⟨as, rd⟩ := Dp.reads I _ _ _ (toP_dp hz _ _ _ h1 (toP_ints p)) r1
        cases h1 with
        | tup sq rr =>
          rename_i a ys
          cases (show _ = Value.ref a from r1)
          exact ⟨.cons ⟨.tup sq rr, a, rfl⟩ a1, .cons ⟨as, rd⟩ a2⟩
theorem each_rps {K : PySem.W.Frag} {Z : Hp} {ι : Nat → Addr} {n : Nat} : ∀ {us : List Value} {rs : List (List Int)}, PySem.W.EachIs (fun v (b : List Int) => Rp K Z ι n (tupI b) (backV v) ∧ ∃ a, v = Value.ref a) us rs → Rps K Z ι n (rs.map tupI) (us.map backV) ∧ ∀ u ∈ us, ∃ a, u = Value.ref a
  | _, _, .nil => ⟨.nil, fun u h => by cases h⟩
  | _, _, .cons ⟨h1, h2⟩ t => by
    obtain ⟨a, b⟩ := each_rps t
    exact ⟨.cons h1 a, fun u hu => by
      rcases List.mem_cons.mp hu with rfl | hu
      · exact h2
      · exact b u hu⟩
theorem cr_srtT (hu : X.A.units + 70 < cLine) : CallR X (.builtin "sorted") (rSrtT X.K) := by
  intro pins s σ H vs us Q I r h
  obtain ⟨a, Z, ι, n, rs, xs, rfl, hs, hz, hp, hk, q⟩ := h
  obtain ⟨its, rv, hl, hsz⟩ := I.list hs
  obtain ⟨u, rfl, ru⟩ := vals1 r
  obtain rfl : u = Value.ref a := ru
  obtain ⟨e1, e2⟩ := tups_there I hz hp rv
  have lr : its.length = rs.length := e1.length
  have lz : rs.length ≤ sizeLine := by rw [← lr, ← rv.length]; exact hsz
  refine sorted_tupI hl.isList e1 e2 hk lz hu fun out ho eo => ?_
  obtain ⟨ry, h3⟩ := each_rps eo
  have hn := sortedAll_at s.heap its out.toArray
  obtain ⟨m, hn⟩ := hn
  refine ⟨.ref (s.heap.objs.size + 1), upd H (s.heap.objs.size + 1) (.lst (out.map backV)), I.laid (t' := s.toks) (fun b o e => sortedAll_old e) (Nat.le_succ _) ⟨?_, out, m, vals_back h3, hn⟩, rfl, q _ _ ry (I.hok.fresh (Nat.le_succ _))⟩
  rw [List.length_map, ho]
  exact lz
theorem ok_srtT : Ok1 X (fun x H Q => rSrtT X.K [x] H Q) dSortT := fun x H Z ι M dx d Q hr rx e q => by
  unfold dSortT at e
  cases e1 : listD M dx with
  | none => rw [e1] at e; cases e
  | some ds =>
    rw [e1, Option.bind_some] at e
    cases e2 : rowsL ds with
    | none => rw [e2] at e; cases e
    | some rs =>
      rw [e2, Option.bind_some] at e
      by_cases c : srtOk rs = true
      · rw [if_pos c] at e
        cases e
        obtain ⟨a, xs, rfl, s, r⟩ := listD_run hr rx e1
        rw [rowsL_is e2] at r
        exact ⟨a, Z, ι, M.length, rs, xs, rfl, s.sq, hr.sub, r, c, fun ys p ry hp => q.lst hr ry p hp⟩
      · rw [if_neg c] at e
        cases e
def dSortB (M : List MO) (d : D) : Option D := match dSort M d with
  | some r => some r
  | none => dSortT M d
theorem cr_srtB (hc : X.calm = true) (hu : X.A.units + 70 < cLine) : CallR X (.builtin "sorted") (fun xs H Q => rSortedI X.K xs H Q ∨ rSrtT X.K xs H Q) := CallR.or cr_sortedI (cr_srtT hu)
theorem ok_srtB : Ok1 X (fun x H Q => rSortedI X.K [x] H Q ∨ rSrtT X.K [x] H Q) dSortB := fun x H Z ι M dx d Q hr rx e q => by
  unfold dSortB at e
  cases e1 : dSort M dx with
  | some r =>
    rw [e1] at e
    cases e
    exact .inl (ok_sort x H Z ι M dx _ Q hr rx e1 q)
  | none =>
    rw [e1] at e
    exact .inr (ok_srtT x H Z ι M dx d Q hr rx e q)
end
theorem srtR_sorted {rs : List (List Int)} (h : rs.Pairwise (· ≤ ·)) : srtR rs = rs := by
  unfold srtR
  refine List.mergeSort_of_pairwise ?_
  exact h.imp fun {a b} q => by simpa [leR] using q
/-- what is in order already -/
theorem e_srtB {rs : List (List Int)} (M : List MO) (h : rs.Pairwise (· ≤ ·)) (ok : srtOk rs = true) : dSortB M (.lst (rs.map tupI)) = some (.lst (rs.map tupI)) := by
  cases rs with
  | nil => rfl
  | cons r rs =>
    have n1 : dSort M (.lst ((r :: rs).map tupI)) = none := rfl
    unfold dSortB
    rw [n1]
    show ((listD M (.lst ((r :: rs).map tupI))).bind rowsL).bind _ = _
    rw [listD_l, Option.bind_some, rowsL_map, Option.bind_some, if_pos ok, srtR_sorted h]
end Bk

set_option Elab.async false
set_option linter.all false
set_option maxRecDepth 100000
set_option maxHeartbeats 2000000
namespace Bk
open PySem PySem.Spec PyProof.Rows L2
/-! ### sum of a tuple of ints -/
def rSumT (K : PySem.W.Frag) : List V → Hp → VK → Prop := fun vs H Q => ∃ (a : Addr) (ns : List Int), vs = [V.ref a] ∧ SqT K H a (ns.map V.int) ∧ Q (.int ns.sum) H
def dSumT (M : List MO) (d : D) : Option D := match d with
  | .tup xs => (intsL xs).map fun is => .int is.sum
  | d => dSum M d
section
variable {X : Cx}
theorem cr_sumT (hc : X.calm = true) : CallR X (.builtin "sum") (rSumT X.K) := by
  intro pins s σ H vs us Q I r h
  obtain ⟨a, ns, rfl, hs, q⟩ := h
  obtain ⟨its, rv, hl, _⟩ := I.tuple hs
  rw [Vals.ref1 r]
  have hi : IntsAre its ns := rv.ints
  obtain ⟨xs, e⟩ := hi.allInts.items
  have hn : numsOf (intItems xs).toList = ns := by rw [← e]; exact hi.numsOf
  rw [nums_intItems] at hn
  rw [e] at hl
  refine PySem.W.ktm_sumG (I.ok.hd hc) hl fun h' tk t' hk => ?_
  rw [preSum_eq, List.take_of_length_le (by simp), hn]
  exact ⟨.int _, H, I.kept hk, ⟨_, rfl⟩, q⟩
theorem cr_sumA (hc : X.calm = true) : CallR X (.builtin "sum") (fun xs H Q => rSumT X.K xs H Q ∨ rSum X.K xs H Q) := CallR.or (cr_sumT hc) (cr_sum hc)
theorem ok_sumA : Ok1 X (fun x H Q => rSumT X.K [x] H Q ∨ rSum X.K [x] H Q) dSumT := fun x H Z ι M dx d Q hr rx e q => by
  unfold dSumT at e
  split at e
  · rename_i xs
    cases e1 : intsL xs with
    | none => rw [e1] at e; cases e
    | some ns =>
      rw [e1] at e
      cases e
      cases rx with
      | tup s r =>
        have w := intsL_run r e1
        subst w
        exact .inl ⟨_, ns, rfl, subT hr.sub s, q.now hr (.int _)⟩
  · exact .inr (ok_sum x H Z ι M dx d Q hr rx e q)
end
@[simp] theorem e_sumT_l (M : List MO) (l : List D) : dSumT M (.lst l) = dSum M (.lst l) := Eq.trans rfl rfl
@[simp] theorem e_sumT_r (M : List MO) (k : Nat) : dSumT M (.ref k) = dSum M (.ref k) := Eq.trans rfl rfl
theorem e_sumT (M : List MO) (ns : List Int) : dSumT M (.tup (ns.map D.int)) = some (.int ns.sum) := by
  show (intsL (ns.map D.int)).map _ = _
  rw [intsL_map]
  rfl
end Bk

set_option Elab.async false
set_option linter.all false
set_option maxRecDepth 100000
set_option maxHeartbeats 2000000
namespace Bk
open PySem PySem.Spec PyProof.Rows L2
/-! ### a chain of three comparisons, as a test -/
def gChain3 (f f' f'' : List MO → D → D → Option D) (ga gb gc gd : GE) : GE := fun Γ M => (ga Γ M).bind fun x M1 => (gb Γ M1).bind fun y M2 => (opR (f M2 x y) M2).bind fun k M3 => match k with
  | .bl c => if c = true then (gc Γ M3).bind fun z M4 => (opR (f' M4 y z) M4).bind fun k' M5 => match k' with
      | .bl c' => if c' = true then (gd Γ M5).bind fun w M6 => opR (f'' M6 z w) M6 else .ok (.bl false) M5
      | _ => .bad
    else .ok (.bl false) M3
  | _ => .bad
@[simp] theorem u_gChain3 (f f' f'' : List MO → D → D → Option D) (ga gb gc gd : GE) (Γ : Env) (M : List MO) : gChain3 f f' f'' ga gb gc gd Γ M = ((ga Γ M).bind fun x M1 => (gb Γ M1).bind fun y M2 => (opR (f M2 x y) M2).bind fun k M3 => match k with
  | .bl c => if c = true then (gc Γ M3).bind fun z M4 => (opR (f' M4 y z) M4).bind fun k' M5 => match k' with
      | .bl c' => if c' = true then (gd Γ M5).bind fun w M6 => opR (f'' M6 z w) M6 else .ok (.bl false) M5
      | _ => .bad
    else .ok (.bl false) M3
  | _ => .bad) := Eq.trans rfl rfl
section
variable {X : Cx} {C : CT} {W : WX}
variable {a b c d : Expr} {ga gb gc gd : GE} {pos : Pos} {f f' f'' : List MO → D → D → Option D}
def tChain3 (r r' r'' : R2) (ta tb tc td : TE) : TE := fun σ H Q => ta σ H fun x H1 => tb σ H1 fun y H2 => r x y H2 fun z H3 => ∃ k, z = .bl k ∧
  (if k = true then tc σ H3 fun w' H4 => r' y w' H4 fun z' H5 => ∃ k', z' = .bl k' ∧ (if k' = true then td σ H5 fun u' H6 => r'' w' u' H6 Q else Q (.bl false) H5) else Q (.bl false) H3)
theorem pt_chain3 {op op' op'' : CmpOp} {r r' r'' : R2} {ta tb tc td : TE} (ho : OpR X (compareOp op) r) (ho' : OpR X (compareOp op') r') (ho'' : OpR X (compareOp op'') r'') (ha : PE X a ta) (hb : PE X b tb) (hc : PE X c tc) (hd : PE X d td)
    (hm : lastMarks [op, op', op''] [b, c, d] = false := by with_unfolding_all rfl) : PT X (.Compare a [op, op', op''] [b, c, d] pos) (tTest (tChain3 r r' r'' ta tb tc td)) := by
  refine ⟨fun pins s σ H Q I h => ?_⟩
  refine isTrue_chain (thn (ha.run pins s σ H _ I h) fun v s1 ⟨x, H1, I1, r1, q1⟩ => test_link (thn (hb.run pins s1 σ H1 _ I1 q1) fun u s2 ⟨y, H2, I2, r2, q2⟩ =>
    thn (ho pins s2 σ H2 x y v u _ I2 r1 r2 q2) fun d s3 ⟨z, H3, I3, r3, k, e, q3⟩ => ?_)) hm
  subst e
  cases r3
  refine wpAny_truthy_bool ?_
  cases k with
  | false =>
    obtain ⟨k', e', q'⟩ := q3
    cases e'
    exact ite_ff ⟨H3, I3, q'⟩
  | true =>
    refine ite_tt (test_link (thn (hc.run pins s3 σ H3 _ I3 q3) fun w' s4 ⟨z', H4, I4, r4, q4⟩ => thn (ho' pins s4 σ H4 y z' u w' _ I4 r2 r4 q4) fun d' s5 ⟨z2, H5, I5, r5, k2, e2, q5⟩ => ?_))
    subst e2
    cases r5
    refine wpAny_truthy_bool ?_
    cases k2 with
    | false =>
      obtain ⟨k', e', q'⟩ := q5
      cases e'
      exact ite_ff ⟨H5, I5, q'⟩
    | true =>
      refine ite_tt (test_last (thn (hd.run pins s5 σ H5 _ I5 q5) fun w2 s6 ⟨z6, H6, I6, r6, q6⟩ => thn (ho'' pins s6 σ H6 z' z6 w' w2 _ I6 r4 r6 q6) fun d'' s7 ⟨z7, H7, I7, r7, k7, e7, q7⟩ => ?_))
      subst e7
      cases r7
      exact wpAny_truthy_bool ⟨H7, I7, q7⟩
theorem chain3_read {r r' r'' : R2} {ta tb tc td : TE} (hf : Ok2 X r f) (hf' : Ok2 X r' f') (hf'' : Ok2 X r'' f'') (qa : Rd1 X C W ga ta) (qb : Rd1 X C W gb tb) (qc : Rd1 X C W gc tc) (qd : Rd1 X C W gd td) : Rd1 X C W (gChain3 f f' f'' ga gb gc gd) (tChain3 r r' r'' ta tb tc td) := by
  intro σ H Z ι Γ M Q sl hr h
  refine qa σ H Z ι Γ M _ sl hr (Post.bind h fun x M1 v H1 Z1 ι1 e1 hr1 r1 h1 => qb σ H1 Z1 ι1 Γ M1 _ (sl.ext e1) hr1 (h1.bind fun y M2 u H2 Z2 ι2 e2 hr2 r2 h2 => ?_))
  cases hd : f M2 x y with
  | none => rw [hd] at h2; exact h2.elim
  | some d =>
    rw [hd] at h2
    refine hf v u H2 Z2 ι2 M2 x y d _ hr2 (r1.ext e2) r2 hd fun w H3 Z3 e3 hr3 r3 => ?_
    have h3 := Post.shift h2 e3 hr3
    cases r3 with
    | bl k =>
      refine ⟨k, rfl, ?_⟩
      cases k with
      | false => exact h3 _ H3 Z3 ι2 .refl hr3 (.bl false)
      | true =>
        have h4 : Post X C W (rpE X.K) σ H3 Z3 ι2 M2 ((gc Γ M2).bind fun z M4 => (opR (f' M4 y z) M4).bind fun k' M5 => match k' with
          | .bl c' => if c' = true then (gd Γ M5).bind fun w M6 => opR (f'' M6 z w) M6 else .ok (.bl false) M5
          | _ => .bad) Q := h3
        refine qc σ H3 Z3 ι2 Γ M2 _ ((sl.ext e1).ext e2 |>.ext e3) hr3 (h4.bind fun z M4 w' H4 Z4 ι4 e4 hr4 r4 h5 => ?_)
        cases hd' : f' M4 y z with
        | none => rw [hd'] at h5; exact h5.elim
        | some d' =>
          rw [hd'] at h5
          refine hf' u w' H4 Z4 ι4 M4 y z d' _ hr4 ((r2.ext e3).ext e4) r4 hd' fun w5 H5 Z5 e5 hr5 r5 => ?_
          have h6 := Post.shift h5 e5 hr5
          cases r5 with
          | bl k2 =>
            refine ⟨k2, rfl, ?_⟩
            cases k2 with
            | false => exact h6 _ H5 Z5 ι4 .refl hr5 (.bl false)
            | true =>
              have h7 : Post X C W (rpE X.K) σ H5 Z5 ι4 M4 ((gd Γ M4).bind fun w M6 => opR (f'' M6 z w) M6) Q := h6
              refine qd σ H5 Z5 ι4 Γ M4 _ ((((sl.ext e1).ext e2 |>.ext e3).ext e4).ext e5) hr5 (h7.bind fun w6 M6 u6 H6 Z6 ι6 e6 hr6 r6 h8 => ?_)
              obtain ⟨d6, hd6, h9⟩ := Post.of_opR (γ := D) (δ := V) h8
              exact hf'' w' u6 H6 Z6 ι6 M6 z w6 d6 Q hr6 ((r4.ext e5).ext e6) r6 hd6 h9.after
          | _ => exact h6.elim
    | _ => exact h3.elim
theorem qt_chain3 {op op' op'' : CmpOp} {r r' r'' : R2} (ho : OpR X (compareOp op) r) (hf : Ok2 X r f) (ho' : OpR X (compareOp op') r') (hf' : Ok2 X r' f') (ho'' : OpR X (compareOp op'') r'') (hf'' : Ok2 X r'' f'') (ha : QE X C W a ga) (hb : QE X C W b gb) (hc : QE X C W c gc) (hd : QE X C W d gd) (hm : lastMarks [op, op', op''] [b, c, d] = false := by with_unfolding_all rfl) :
    QT X C W (.Compare a [op, op', op''] [b, c, d] pos) (gVal (gChain3 f f' f'' ga gb gc gd)) := by
  obtain ⟨ta, pa, qa⟩ := ha
  obtain ⟨tb, pb, qb⟩ := hb
  obtain ⟨tc, pc, qc⟩ := hc
  obtain ⟨td, pd, qd⟩ := hd
  exact ⟨_, pt_chain3 ho ho' ho'' pa pb pc pd (hm := hm), val_read (chain3_read hf hf' hf'' qa qb qc qd)⟩
end
end Bk

set_option Elab.async false
set_option linter.all false
set_option maxRecDepth 100000
set_option maxHeartbeats 2000000
namespace Bk
open PySem PySem.Spec PyProof.Rows L2 HT
/-! ### t[::-1] of a tuple -/
section
variable {prog : Program} {w : World} {A : Around} {E : Value → Shared → Prop} {s : Shared}
theorem places_rev (n : Nat) : Builtin.Slice.slicePlaces ((n : Int) - 1) (-1) (-1) = n := by
  unfold Builtin.Slice.slicePlaces
  have h1 : ¬ ((-1 : Int) > 0) := by decide
  have h2 : (-(-1) : Int) = 1 := rfl
  rw [if_neg h1, h2, Int.ediv_one]
  split <;> omega
theorem adjust_rev (n : Nat) : Builtin.Slice.sliceAdjust none none (-1) (n : Int) = ((n : Int) - 1, -1) := by
  unfold Builtin.Slice.sliceAdjust
  rfl
theorem applied_rev {sl : Addr} {vs : Value} {n : Nat} {Q : Int × Int × Nat → Shared → Prop} (hs : s.heap.IsSliceOf sl .none .none vs) (ps : IsPart vs (some (-1)))
    (h : Q ((n : Int) - 1, -1, n) s) : wpAny (model prog w) A (Builtin.Slice.sliceApplied (.ref sl) (pure (n : Int))) Q E s := by
  obtain ⟨os, hos, hcs, hds⟩ := id hs
  unfold Builtin.Slice.sliceApplied Builtin.Slice.sliceFields
  refine wpAny_bind (wpAny_bind (wpAny_field hos hds (x := .none) rfl (wpAny_bind (wpAny_field hos hds (x := .none) rfl (wpAny_bind (wpAny_field hos hds (x := vs) rfl (wpAny_pure ?_)))))))
  refine wpAny_bind (slicePart_ ps ?_)
  show wpAny _ _ (if ((-1 : Int) == 0) = true then _ else _) _ _ s
  rw [if_neg (by decide)]
  refine wpAny_bind (slicePart_ .none (wpAny_bind (slicePart_ .none (wpAny_bind (wpAny_pure ?_)))))
  show wpAny _ _ (match Builtin.Slice.sliceAdjust none none (-1) (n : Int) with | (lo, hi) => pure (lo, (-1 : Int), Builtin.Slice.slicePlaces lo hi (-1))) _ _ s
  rw [adjust_rev n]
  show wpAny _ _ (pure ((n : Int) - 1, (-1 : Int), Builtin.Slice.slicePlaces ((n : Int) - 1) (-1) (-1))) _ _ s
  rw [places_rev]
  exact wpAny_pure h
theorem pick_rev (xs : Array Value) : ((List.range xs.size).filterMap fun (m : Nat) => xs[((xs.size : Int) - 1 + (m : Int) * (-1)).toNat]?).toArray = xs.toList.reverse.toArray := by
  have e : ∀ n : Nat, n = xs.size → (List.range n).filterMap (fun (m : Nat) => xs[((n : Int) - 1 + (m : Int) * (-1)).toNat]?) = ((List.range n).map (fun k => n - 1 - k)).filterMap (xs[·]?) := fun n hn => by
    rw [List.filterMap_map]
    congr 1
    funext m
    have : ((n : Int) - 1 + (m : Int) * (-1)).toNat = n - 1 - m := by omega
    rw [this]
    rfl
  rw [e xs.size rfl, PySem.W.krv_range, List.filterMap_reverse, PySem.W.krv_all]
theorem getItem_tuple_rev {t sl : Addr} {items : Array Value} {vs : Value} {Q : Value → Shared → Prop} (ht : IsTup s.heap t items) (hs : s.heap.IsSliceOf sl .none .none vs) (ps : IsPart vs (some (-1)))
    (h : Q (.ref s.heap.objs.size) { s with heap := s.heap.push { cls := .type "tuple", data := .seq items.toList.reverse.toArray } })
    (hsz : items.size ≤ sizeLine) : wpAny (model prog w) A (getItem (.ref t) (.ref sl)) Q E s := by
  have htake : sizeOk (.seq items.toList.reverse.toArray) := by
    show items.toList.reverse.toArray.size ≤ sizeLine
    rw [List.size_toArray, List.length_reverse, Array.length_toList]
    exact hsz
  obtain ⟨os, hos, hcs, hds⟩ := id hs
  have hTs : s.TypeIs (.ref sl) "slice" := ⟨os, hos, hcs⟩
  unfold getItem
  try with_reducible refine wpAny_holding ?_
  first | refine wpAny_bind (wpAny_pure ?_) | skip
  refine wpAny_bind (wpAny_sequenceKey ht.typeIs (by decide) ?_)
  refine wpAny_bind (wpAny_callSpecial?_slot (name := Str.ofString "__getitem__") ht.typeIs PyProof.Rows.slot_tuple_getitem
    (wpAny_call_entry PyProof.Rows.slot_tuple_getitem ht.typeIs entry_tuple_getitem ?_ (args_tuple_getitem _ _)))
  show wpAny _ _ (Builtin.Tuple.tupleItemsOf (.ref t) >>= _) _ _ s
  refine wpAny_bind (tupleItemsOf_ ht ?_)
  refine wpAny_bind (wpAny_typeOf hTs ?_)
  rw [if_pos (by decide)]
  refine wpAny_bind (applied_rev hs ps ?_)
  have hno : ¬ ((((items.size : Int) - 1) == 0 && (-1 : Int) == 1 && items.size == items.size) = true) := by
    intro q
    rw [Bool.and_eq_true, Bool.and_eq_true] at q
    exact absurd q.1.2 (by decide)
  show wpAny _ _ (if (((items.size : Int) - 1) == 0 && (-1 : Int) == 1 && items.size == items.size) = true then _ else _) _ _ s
  rw [if_neg hno, pick_rev]
  first
    | exact wpAny_bind (m := Builtin.Tuple.tupleExact _) (wpAny_newObj_type (wpAny_pure ⟨_, rfl, wpAny_pure h⟩) htake)
    | exact wpAny_bind (m := Builtin.Tuple.tupleExact _) (wpAny_newObj_type (wpAny_bind (wpAny_pure (wpAny_pure ⟨_, rfl, wpAny_pure h⟩))) htake)
    | exact wpAny_bind (wpAny_bind (m := Builtin.Tuple.tupleExact _) (wpAny_newObj_type (wpAny_pure (wpAny_pure ⟨_, rfl, wpAny_pure h⟩)) htake))
    | exact wpAny_bind (wpAny_bind (m := Builtin.Tuple.tupleExact _) (wpAny_newObj_type (wpAny_pure ⟨_, rfl, wpAny_pure h⟩) htake))
end
def dRevA (M : List MO) (x : D) : Option D := match x with
  | .tup ds => some (.tup ds.reverse)
  | x => dRevL M x
def gRevA (ge : GE) : GE := fun Γ M => (ge Γ M).bind fun x M1 => opR (dRevA M1 x) M1
@[simp] theorem u_gRevA (ge : GE) (Γ : Env) (M : List MO) : gRevA ge Γ M = (ge Γ M).bind fun x M1 => opR (dRevA M1 x) M1 := Eq.trans rfl rfl
@[simp] theorem e_revAt (M : List MO) (ds : List D) : dRevA M (.tup ds) = some (.tup ds.reverse) := Eq.trans rfl rfl
@[simp] theorem e_revAl (M : List MO) (ds : List D) : dRevA M (.lst ds) = some (.lst ds.reverse) := Eq.trans rfl rfl
section
variable {X : Cx} {C : CT} {W : WX} {e : Expr} {g : GE}
def tRevA (K : PySem.W.Frag) (te : TE) : TE := fun σ H Q => te σ H fun x H1 => ∃ a xs, x = .ref a ∧
  ((SqL K H1 a xs ∧ ∀ p, H1 p = none → Q (.ref p) (upd H1 p (.lst xs.reverse))) ∨ (SqT K H1 a xs ∧ ∀ p, H1 p = none → Q (.ref p) (upd H1 p (.tup xs.reverse))))
theorem pe_revA2 {te : TE} {k : Nat} {p1 p2 p3 pos : Pos} (he : PE X e te) : PE X (.Subscript e (.Slice none none (some (.UnaryOp .USub (.Constant (.int 1) k p1) p2)) p3) pos) (tRevA X.K te) := by
  refine ⟨fun pins s σ H Q I h => ?_⟩
  refine Subscript_ (thn (he.run pins s σ H _ I h) fun v s1 ⟨x, H1, I1, r1, q1⟩ => ?_)
  obtain ⟨a, xs, ex, hx⟩ := q1
  subst ex
  cases r1
  have hst : PO X (some (.UnaryOp .USub (.Constant (.int 1) k p1) p2)) (tPart (tUn (rU fun i => .int (-i)) (tC (.int 1)))) := po_some (pe_un un_neg pe_int)
  refine wpAny_Slice (thn (po_none.run pins s1 σ H1 (fun o H2 => o = none ∧ H2 = H1) I1 ⟨rfl, rfl⟩) fun vl s2 ⟨l, H2, I2, pl, el, e2⟩ => ?_)
  subst el e2
  refine thn (po_none.run pins s2 σ H2 (fun o H3 => o = none ∧ H3 = H2) I2 ⟨rfl, rfl⟩) fun vu s3 ⟨u, H3, I3, pu, eu, e3⟩ => ?_
  subst eu e3
  refine thn (hst.run pins s3 σ H3 (fun o H4 => o = some (-1) ∧ H4 = H3) I3 ⟨1, rfl, -1, rfl, rfl, rfl⟩) fun vs s4 ⟨o, H4, I4, ps, eo, e4⟩ => ?_
  subst eo e4
  have I5 : Inv X pins σ H4 { s4 with heap := s4.heap.push { cls := .type "slice", data := .fields #[vl, vu, vs] } } := I4.kept (t' := s4.toks) fun b ob q => Heap.get?_push_of_some _ q
  show wpAny (model X.prog X.w) X.A (subscriptTail e (.Slice none none (some (.UnaryOp .USub (.Constant (.int 1) k p1) p2)) p3) (.ref a) (.ref s4.heap.objs.size)) (EP X pins σ Q) X.xe { s4 with heap := s4.heap.push { cls := .type "slice", data := .fields #[vl, vu, vs] } }
  rcases hx with ⟨hx, q⟩ | ⟨hx, q⟩
  · obtain ⟨its, r, ht, hz⟩ := I5.list hx
    have hlen := r.length
    refine tail_any (ops := [.ref a, .ref s4.heap.objs.size]) ht.isList.typeIs (PySem.slot_list_getitem.lookup) ?_ (by with_unfolding_all rfl)
    refine wpAny_getItem_list_slice ht.isList (Heap.IsSliceOf.new _ vl vu vs) pl pu ps (by decide) ?_ (by rw [List.size_toArray]; omega)
    rw [PySem.W.krv_pick]
    refine ⟨.ref _, _, I5.laid (t' := s4.toks) (o := .lst xs.reverse) (fun b ob q => Heap.get?_push_of_some _ q) (Nat.le_refl _) ?_, rfl, q _ (I5.hok.fresh (Nat.le_refl _))⟩
    exact ⟨by rw [List.length_reverse]; exact hz, _, 0, r.reverse, Heap.get?_push_size _ rfl⟩
  · obtain ⟨its, r, ht, hz⟩ := I5.tuple hx
    have hlen := r.length
    cases pl
    cases pu
    refine tail_any (ops := [.ref a, .ref s4.heap.objs.size]) ht.typeIs (PyProof.Rows.slot_tuple_getitem.lookup) ?_ (by with_unfolding_all rfl)
    refine getItem_tuple_rev ht (Heap.IsSliceOf.new _ .none .none vs) ps ?_ (by rw [List.size_toArray]; omega)
    refine ⟨.ref _, _, I5.laid (t' := s4.toks) (o := .tup xs.reverse) (fun b ob q => Heap.get?_push_of_some _ q) (Nat.le_refl _) ?_, rfl, q _ (I5.hok.fresh (Nat.le_refl _))⟩
    exact ⟨by rw [List.length_reverse]; exact hz, _, r.reverse, IsTup.new _ _⟩
theorem qe_revA {k : Nat} {p1 p2 p3 pos : Pos} (he : QE X C W e g) : QE X C W (.Subscript e (.Slice none none (some (.UnaryOp .USub (.Constant (.int 1) k p1) p2)) p3) pos) (gRevA g) := by
  obtain ⟨te, pe, qe⟩ := he
  refine ⟨_, pe_revA2 pe, fun σ H Z ι Γ M Q sl hr h => qe σ H Z ι Γ M _ sl hr (h.bind fun x M1 v H1 Z1 ι1 e1 hr1 r1 h1 => ?_)⟩
  obtain ⟨d, hd, h2⟩ := Post.of_opR (γ := D) (δ := V) h1
  have lst : dRevL M1 x = some d → ∃ a xs, v = .ref a ∧
      ((SqL X.K H1 a xs ∧ ∀ p, H1 p = none → Q (.ref p) (upd H1 p (.lst xs.reverse))) ∨ (SqT X.K H1 a xs ∧ ∀ p, H1 p = none → Q (.ref p) (upd H1 p (.tup xs.reverse)))) := fun hd => by
    unfold dRevL at hd
    cases e3 : listD M1 x with
    | none => rw [e3] at hd; cases hd
    | some ds =>
      rw [e3] at hd
      cases hd
      obtain ⟨a, xs, rfl, s, r3⟩ := listD_run hr1 r1 e3
      exact ⟨a, xs, rfl, .inl ⟨s.sq, After.lst (X := X) (M := M1) (Q := Q) (fun v H' Z' e' hr' r' => h2 v H' Z' ι1 e' hr' r') hr1 r3.rev⟩⟩
  unfold dRevA at hd
  split at hd
  · rename_i ds
    cases hd
    obtain ⟨a, xs, rfl, s, r3⟩ := tupD_run hr1 r1 (ds := ds) rfl
    exact ⟨a, xs, rfl, .inr ⟨s, After.tup (X := X) (M := M1) (Q := Q) (fun v H' Z' e' hr' r' => h2 v H' Z' ι1 e' hr' r') hr1 r3.rev⟩⟩
  · exact lst hd
end
end Bk

set_option Elab.async false
set_option linter.all false
set_option maxRecDepth 100000
set_option maxHeartbeats 2000000
namespace Bk
open PySem PySem.Spec PyProof.Rows L2
/-! ### the lists within a list are left as they are from now on -/
def frz1 : D → List MO → Option (D × List MO)
  | .ref k, M => match M[k]? with
    | some (.lst es) => some (.lst es, M.set k .dead)
    | _ => none
  | d, M => some (d, M)
def frzI : List D → List MO → Option (List D × List MO)
  | [], M => some ([], M)
  | d :: ds, M => (frz1 d M).bind fun p => (frzI ds p.2).map fun q => (p.1 :: q.1, q.2)
def gFzI (i : Nat) : GS := fun Γ M => match Γ[i]? with
  | some (some (.lst ds)) => match frzI ds M with
    | some p => .nx (Γ.set i (some (.lst p.1))) p.2
    | none => .bad
  | _ => .bad
@[simp] theorem u_gFzI (i : Nat) (Γ : Env) (M : List MO) : gFzI i Γ M = (match Γ[i]? with
  | some (some (.lst ds)) => match frzI ds M with
    | some p => .nx (Γ.set i (some (.lst p.1))) p.2
    | none => .bad
  | _ => .bad) := Eq.trans rfl rfl
section
variable {K : PySem.W.Frag} {H Z : Hp} {ι : Nat → Addr} {M M' : List MO}
theorem frz1_run {d d' : D} {v : V} (hr : HR K H Z ι M) (r : Rp K Z ι M.length d v) (e : frz1 d M = some (d', M')) :
    ∃ Z', HR K H Z' ι M' ∧ Ext H Z ι M.length H Z' ι M'.length ∧ Rp K Z' ι M'.length d' v := by
  cases d with
  | ref k =>
    cases r with
    | ref q =>
      simp only [frz1] at e
      cases e2 : M[k]? with
      | none => rw [e2] at e; cases e
      | some u =>
        rw [e2] at e
        cases u with
        | lst es =>
          simp only [Option.some.injEq, Prod.mk.injEq] at e
          obtain ⟨rfl, rfl⟩ := e
          obtain ⟨xs, r2, hr1, x1, rp⟩ := hr.freeze e2
          exact ⟨_, hr1, x1, rp⟩
        | _ => cases e
  | _ =>
    simp only [frz1, Option.some.injEq, Prod.mk.injEq] at e
    obtain ⟨rfl, rfl⟩ := e
    exact ⟨Z, hr, .refl, r⟩
end
theorem frzI_run {K : PySem.W.Frag} {H : Hp} {ι : Nat → Addr} : ∀ (ds : List D) {Z : Hp} {M M' : List MO} {ds' : List D} {vs : List V}, HR K H Z ι M → Rps K Z ι M.length ds vs → frzI ds M = some (ds', M') →
    ∃ Z', HR K H Z' ι M' ∧ Ext H Z ι M.length H Z' ι M'.length ∧ Rps K Z' ι M'.length ds' vs
  | [], Z, M, M', ds', vs, hr, r, e => by
    simp only [frzI, Option.some.injEq, Prod.mk.injEq] at e
    obtain ⟨rfl, rfl⟩ := e
    exact ⟨Z, hr, .refl, r⟩
  | d :: ds, Z, M, M', ds', vs, hr, r, e => by
    simp only [frzI] at e
    cases e1 : frz1 d M with
    | none => rw [e1] at e; cases e
    | some p =>
      obtain ⟨d1, M1⟩ := p
      rw [e1, Option.bind_some] at e
      cases e2 : frzI ds M1 with
      | none => rw [e2] at e; cases e
      | some q =>
        obtain ⟨ds2, M2⟩ := q
        rw [e2] at e
        simp only [Option.map_some, Option.some.injEq, Prod.mk.injEq] at e
        obtain ⟨rfl, rfl⟩ := e
        cases r with
        | cons r1 r2 =>
          obtain ⟨Z1, hr1, x1, p1⟩ := frz1_run hr r1 e1
          obtain ⟨Z2, hr2, x2, p2⟩ := frzI_run ds hr1 (Rps.mono x1.zz x1.ii x1.ln _ _ r2) e2
          exact ⟨Z2, hr2, x1.trans x2 hr1.ali, .cons (Rp.mono x2.zz x2.ii x2.ln _ _ p1) p2⟩
section
variable {X : Cx} {C : CT} {W : WX} {st : Stmt} {g : GS}
theorem qs_fzI (i : Nat) (h1 : QS X C W st g) : QS X C W st (gSeq g (gFzI i)) := qs_ghost h1 fun Dd σ H Z ι Γ M sl hr h => by
  unfold gFzI at h
  cases e : Γ[i]? with
  | none => rw [e] at h; exact h.elim
  | some o =>
    rw [e] at h
    cases o with
    | none => exact h.elim
    | some d =>
      cases d with
      | lst ds =>
        simp only at h
        cases e2 : frzI ds M with
        | none => rw [e2] at h; exact h.elim
        | some p =>
          obtain ⟨ds', M'⟩ := p
          rw [e2] at h
          obtain ⟨v, hv, rv⟩ := sl.2 i _ e
          cases rv with
          | lst ex rps =>
            obtain ⟨Z', hr1, x1, rp⟩ := frzI_run ds hr rps e2
            have q := (sl.ext x1).set i (Rp.lst (subL x1.zz ex) rp)
            have es : ∀ a : Addr, σ[i]? = some (some (V.ref a)) → σ.set i (some (V.ref a)) = σ := fun a hv => by
              have lt : i < σ.length := (List.getElem?_eq_some_iff.mp hv).1
              have ev : σ[i] = some (V.ref a) := (List.getElem?_eq_some_iff.mp hv).2
              rw [← ev, List.set_getElem_self]
            rw [es _ hv] at q
            exact h σ H _ ι x1 hr1 q
      | _ => exact h.elim
end
theorem frzI_cells : ∀ (cs : List (List D)) (pre : List MO), frzI ((List.range' pre.length cs.length).map D.ref) (pre ++ cs.map MO.lst) = some (cs.map D.lst, pre ++ List.replicate cs.length .dead)
  | [], pre => by simp [frzI]
  | c :: cs, pre => by
    have ih := frzI_cells cs (pre ++ [.dead])
    have e1 : (pre ++ MO.lst c :: cs.map MO.lst)[pre.length]? = some (.lst c) := by simp
    have e2 : (pre ++ MO.lst c :: cs.map MO.lst).set pre.length .dead = pre ++ [.dead] ++ cs.map MO.lst := by simp
    have e3 : (pre ++ [MO.dead]).length = pre.length + 1 := by simp
    rw [e3] at ih
    rw [List.length_cons, List.range'_succ, List.map_cons, List.map_cons, frzI, frz1, e1]
    simp only [Option.bind_some]
    rw [e2, ih]
    simp [List.replicate_succ]
end Bk

set_option Elab.async false
set_option linter.all false
set_option maxRecDepth 100000
set_option maxHeartbeats 2000000
namespace Bk
open PySem PySem.Spec PyProof.Rows L2
/-! ### xs * k as a list of ours -/
def repO (ds : Option (List D)) (y : D) (M : List MO) : R D := match ds, y with
  | some ds, .int k => if (decide (k < 2 ^ 63) && decide (-(2 ^ 63) ≤ k) && decide (ds.length * k.toNat ≤ sizeLine)) = true then .ok (.ref M.length) (M ++ [.lst (List.replicate k.toNat ds).flatten]) else .bad
  | _, _ => .bad
def gRepO (ga gb : GE) : GE := fun Γ M => (ga Γ M).bind fun x M1 => (gb Γ M1).bind fun y M2 => repO (listD M2 x) y M2
@[simp] theorem u_gRepO (ga gb : GE) (Γ : Env) (M : List MO) : gRepO ga gb Γ M = ((ga Γ M).bind fun x M1 => (gb Γ M1).bind fun y M2 => repO (listD M2 x) y M2) := Eq.trans rfl rfl
theorem repO_ok {ds : List D} {k : Int} (M : List MO) (h1 : -(2 ^ 63) ≤ k) (h2 : k < 2 ^ 63) (h3 : ds.length * k.toNat ≤ sizeLine) : repO (some ds) (.int k) M = .ok (.ref M.length) (M ++ [.lst (List.replicate k.toNat ds).flatten]) := by
  simp only [repO]
  rw [if_pos]
  simp only [Bool.and_eq_true, decide_eq_true_eq]
  exact ⟨⟨h2, h1⟩, h3⟩
section
variable {X : Cx} {C : CT} {W : WX} {a b : Expr} {ga gb : GE} {pos : Pos}
theorem qe_repO (ha : QE X C W a ga) (hb : QE X C W b gb) : QE X C W (.BinOp a .Mult b pos) (gRepO ga gb) := by
  obtain ⟨ta, pa, qa⟩ := ha
  obtain ⟨tb, pb, qb⟩ := hb
  refine ⟨_, pe_op op_repS pa pb, fun σ H Z ι Γ M Q sl hr h => qa σ H Z ι Γ M _ sl hr (Post.bind h fun x M1 v H1 Z1 ι1 e1 hr1 r1 h1 => qb σ H1 Z1 ι1 Γ M1 _ (sl.ext e1) hr1 (h1.bind fun y M2 u H2 Z2 ι2 e2 hr2 r2 h2 => ?_))⟩
  cases el : listD M2 x with
  | none => rw [el] at h2; exact h2.elim
  | some ds =>
    rw [el] at h2
    cases y with
    | int k =>
      cases r2
      by_cases c : (decide (k < 2 ^ 63) && decide (-(2 ^ 63) ≤ k) && decide (ds.length * k.toNat ≤ sizeLine)) = true
      · have h3 : Post X C W (rpE X.K) σ H2 Z2 ι2 M2 (.ok (.ref M2.length) (M2 ++ [.lst (List.replicate k.toNat ds).flatten])) Q := by
          have e : repO (some ds) (.int k) M2 = .ok (.ref M2.length) (M2 ++ [.lst (List.replicate k.toNat ds).flatten]) := by
            simp only [repO]
            rw [if_pos c]
          rw [e] at h2
          exact h2
        simp only [Bool.and_eq_true, decide_eq_true_eq] at c
        obtain ⟨⟨c1, c2⟩, c3⟩ := c
        obtain ⟨l, xs, rfl, ex, rs⟩ := listD_run hr2 (r1.ext e2) el
        refine ⟨l, k, xs, rfl, rfl, ex, c2, c1, by rw [← rs.length]; exact c3, fun p hp => ?_⟩
        obtain ⟨hr3, e3⟩ := hr2.owned hp (rs.rep k.toNat)
        refine h3 _ _ _ _ e3 hr3 ?_
        have q : Rp X.K Z2 (put ι2 M2.length p) (M2 ++ [MO.lst (List.replicate k.toNat ds).flatten]).length (.ref M2.length) (.ref (put ι2 M2.length p M2.length)) := .ref (by simp)
        rw [put_at] at q
        exact q
      · have e : repO (some ds) (.int k) M2 = .bad := by
          simp only [repO]
          rw [if_neg c]
        rw [e] at h2
        exact h2.elim
    | _ => exact h2.elim
end
end Bk

set_option Elab.async false
set_option linter.all false
set_option maxRecDepth 100000
set_option maxHeartbeats 4000000
namespace Bk
open PySem PySem.Spec PyProof.Rows L2 Srt SrtO SrtR
/-! ### sorted(t, reverse=True) of a tuple of ints -/
section
variable {prog : Program} {w : World} {A : Around} {E : Value → Shared → Prop} {s : Shared}
theorem collect_tup {l : Addr} {vs : List Value} {Q : List Value → Shared → Prop} (hl : IsTup s.heap l vs.toArray)
    (h : Q vs { s with heap := (s.heap.push (seqObj "list" #[] 0)).update s.heap.objs.size (Obj.mapSeq (· ++ vs.toArray)) }) (hsz : vs.length ≤ sizeLine) :
    wpAny (model prog w) A (collect (.ref l)) Q E s := by
  obtain ⟨o, ho, hc, n, hd⟩ := id hl
  unfold collect
  refine wpAny_bind (wpAny_runValue (codeAny_builtin entry_proto_collect' ?_))
  show wpAny _ _ (do again (.builtin "list.__iadd__" ⟨[← newList [], .ref l], []⟩)) _ _ s
  refine wpAny_bind (wpAny_newList (wpAny_pure ⟨Code.quiet_builtin _ (by decide +kernel), codeAny_builtin entry_list_iadd' ?_⟩))
  show wpAny _ _ (Builtin.List.listExtendWith (.ref s.heap.objs.size) (.ref l) (.ref s.heap.objs.size)) _ _ { s with heap := s.heap.push (seqObj "list" #[] 0) }
  unfold Builtin.List.listExtendWith
  have ho' : (s.heap.push (seqObj "list" #[] 0)).get? l = some o := Heap.get?_push_of_some _ ho
  refine wpAny_bind (wpAny_typeOf (T := "tuple") ⟨o, ho', hc⟩ ?_)
  have ht : (Value.type "tuple" == Value.type "tuple") = true := by rfl
  rw [if_pos (by rw [ht]; simp)]
  refine wpAny_bind (listItems_at ho' hd ?_)
  refine wpAny_bind (listItems_at (xs := #[]) (n := 0) (Heap.get?_push_size _ rfl) rfl ?_)
  rw [if_neg (by simp)]
  refine wpAny_bind (listUpdate_at (xs := #[]) (n := 0) (Heap.get?_push_size _ rfl) rfl ?_ (Nat.zero_le _) (by show (#[] ++ vs.toArray).size ≤ sizeLine + 1; simp only [Array.size_append, List.size_toArray, List.length_nil]; omega))
  refine wpAny_pure ?_
  show wpAny (model prog w) A (do
      let o ← load s.heap.objs.size
      match o.data with
      | .seq xs _ => pure xs.toList
      | _ => unsupported "internal:collect") Q E { s with heap := (s.heap.push (seqObj "list" #[] 0)).update s.heap.objs.size (Obj.mapSeq (· ++ vs.toArray)) }
  refine wpAny_bind (wpAny_load (get?_update_seq (Heap.get?_push_size _ rfl) _) ?_)
  show wpAny _ _ (pure ((#[] : Array Value) ++ vs.toArray).toList) Q E _
  rw [show ((#[] : Array Value) ++ vs.toArray).toList = vs by simp]
  exact wpAny_pure h
theorem sorted_ordT {l : Addr} {vs : List Value} {b : Bool} {kw : List (Str × Value)} {ltv : Value → Value → Bool} {Q : Value → Shared → Prop} (hk : ∀ a, Builtin.«list.sort» ⟨[.ref a], kw⟩ = Builtin.«list.sort» ⟨[.ref a], [(Str.ofString "reverse", .bool b)]⟩)
    (ha1 : argsOk "sorted" ⟨[.ref l], kw⟩) (ha2 : ∀ a, argsOk "list.sort" ⟨[a], kw⟩) (O : Swo ltv) (hl : IsTup s.heap l vs.toArray) (hz : vs.length ≤ sizeLine)
    (hS : 2 ≤ vs.length → ∀ (h₁ : Heap) (a : Addr), h₁.get? a = some (seqObj "list" vs.toArray 0) → (∀ b o, s.heap.get? b = some o → b ≠ a ∧ h₁.get? b = some o) → SortableO prog w A.in1.in1 { s with heap := h₁ } a vs ltv)
    (h : ∀ out : List Value, Srtd ltv out → Stb ltv out (if b = true then vs.reverse else vs) → Q (.ref (s.heap.objs.size + 1)) { s with heap := sortedAll s.heap vs (if b = true then out.toArray.reverse else out.toArray) }) :
    wpAny (model prog w) A (call (.builtin "sorted") [.ref l] kw) Q E s := by
  refine call_function_entry_kw kind_sorted plain_sorted entry_sorted ha1 ?_
  unfold Builtin.«sorted»
  refine wpAny_bind (m := checkCount "sorted" 1 1 _) (wpAny_pure ?_)
  refine wpAny_bind (collect_tup hl ?_ hz)
  refine wpAny_bind (wpAny_newList ?_ hz)
  have hsz : ((s.heap.push (seqObj "list" #[] 0)).update s.heap.objs.size (Obj.mapSeq (· ++ vs.toArray))).objs.size = s.heap.objs.size + 1 := by
    rw [Heap.size_update, size_push']
  have hoL : (((s.heap.push (seqObj "list" #[] 0)).update s.heap.objs.size (Obj.mapSeq (· ++ vs.toArray))).push (seqObj "list" vs.toArray 0)).get? (s.heap.objs.size + 1) = some (seqObj "list" vs.toArray 0) := by
    rw [← hsz]; exact Heap.get?_push_size _ rfl
  have keep : ∀ b o, s.heap.get? b = some o → b ≠ s.heap.objs.size + 1 ∧ (((s.heap.push (seqObj "list" #[] 0)).update s.heap.objs.size (Obj.mapSeq (· ++ vs.toArray))).push (seqObj "list" vs.toArray 0)).get? b = some o := fun b o q => by
    have hlt : b < s.heap.objs.size := Heap.lt_size q
    refine ⟨Nat.ne_of_lt (Nat.lt_succ_of_lt hlt), Heap.get?_push_of_some _ ?_⟩
    rw [Heap.get?_update_ne _ _ _ _ (Nat.ne_of_lt hlt)]
    exact Heap.get?_push_of_some _ q
  show wpAny _ _ _ _ _ { s with heap := ((s.heap.push (seqObj "list" #[] 0)).update s.heap.objs.size (Obj.mapSeq (· ++ vs.toArray))).push (seqObj "list" vs.toArray 0) }
  rw [hsz]
  refine wpAny_bind (wpAny_holding (wpAny_call_entry_kw slot_list_sort ⟨_, hoL, rfl⟩ entry_list_sort ?_ (ha2 _)))
  rw [hk]
  refine list_sort_ordR O hoL hz (fun h2 => hS h2 _ _ hoL keep) fun out hs hb => ⟨_, rfl, ?_⟩
  exact wpAny_pure ⟨_, rfl, h out hs hb⟩
end
section
variable {X : Cx}
def rSortedRT (K : PySem.W.Frag) : List V → List V → Hp → VK → Prop := fun vs zs H Q => ∃ (a : Addr) (ns : List Int), vs = [V.ref a] ∧ zs = [.bl true] ∧ (SqL K H a (ns.map V.int) ∨ SqT K H a (ns.map V.int)) ∧
  ∀ (ns' : List Int) (p : Addr), ns'.Perm ns → OrdB true ns' → H p = none → Q (.ref p) (upd H p (.lst (ns'.map V.int)))
theorem cr_sortedRT : CallRK X (.builtin "sorted") [Str.ofString "reverse"] (rSortedRT X.K) := by
  intro pins s σ H vs zs us ws Q I r rz h
  obtain ⟨a, ns, rfl, rfl, hs, q⟩ := h
  rcases hs with hs | hs
  · exact cr_sortedRev pins s σ H [.ref a] [.bl true] us ws Q I r rz ⟨a, ns, rfl, rfl, hs, q⟩
  · obtain rfl := Vals.ref1 r
    obtain ⟨w1, rfl, e1⟩ := vals1 rz
    obtain rfl : w1 = Value.bool true := e1
    obtain ⟨its, rv, hl, hz⟩ := I.tuple hs
    have hi := rv.ints
    refine sorted_ordT (b := true) (fun _ => rfl) (PyProof.Rows.args_sorted_rev _ _) (fun _ => PyProof.Rows.args_list_sort_rev _ _) SrtO.swo_int hl (by rw [← rv.length]; exact hz) (fun h2 h₁ a' _ _ => SrtO.ints_sortable hi h2) fun out h1 h2 => ?_
    obtain ⟨ns', k1, k2, k3⟩ := SrtR.ints_outR (b := true) hi h1 h2
    obtain ⟨ep, he'⟩ := PyProof.Rows.sortedAll_at s.heap its (if true = true then out.toArray.reverse else out.toArray)
    have hlen : (ns'.map V.int).length ≤ sizeLine := by
      rw [List.length_map, k2.length_eq]
      rw [List.length_map] at hz
      exact hz
    have e0 : ((if true = true then out.toArray.reverse else out.toArray).toList).toArray = (if true = true then out.toArray.reverse else out.toArray) := by rw [Array.toArray_toList]
    exact ⟨.ref _, upd H (s.heap.objs.size + 1) (.lst (ns'.map V.int)), I.laid (t' := s.toks) (fun _ _ => PyProof.Rows.sortedAll_old) (Nat.le_succ _) ⟨hlen, _, ep, vals_of_ints k1, by rw [e0]; exact he'⟩, rfl, q _ _ k2 k3 (I.hok.fresh (Nat.le_succ _))⟩
end
def dSortRT (M : List MO) : D → Option D
  | .tup ds => (intsD ds).map fun is => .lst ((srtI is).reverse.map D.int)
  | x => dSortR M x
def gSortRT (ge : GE) : GE := fun Γ M => (ge Γ M).bind fun x M1 => opR (dSortRT M1 x) M1
@[simp] theorem u_gSortRT (ge : GE) (Γ : Env) (M : List MO) : gSortRT ge Γ M = (ge Γ M).bind fun x M1 => opR (dSortRT M1 x) M1 := Eq.trans rfl rfl
theorem e_sortRTl (M : List MO) (is : List Int) : dSortRT M (.lst (is.map D.int)) = some (.lst ((srtI is).reverse.map D.int)) := e_sortR M is
theorem e_sortRTt (M : List MO) (is : List Int) : dSortRT M (.tup (is.map D.int)) = some (.lst ((srtI is).reverse.map D.int)) := by
  simp only [dSortRT, intsD_map, Option.map_some]
section
variable {X : Cx} {C : CT} {W : WX} {e : Expr} {g : GE}
theorem qe_sortRT {p cp pos kp : Pos} (hg : Gl X "sorted") (hm : X.mg "sorted" = none) (hv : bootBuiltins "sorted" = some (.builtin "sorted")) (he : QE X C W e g) (hs : starEach [e] X.env = (false, eval e X.env) :: starEach [] X.env := by rfl)
    (h1 : backTo pos (starEach [e] X.env) = (false, eval e X.env) :: backTo pos (starEach [] X.env) := by rfl) (h2 : (backTo pos (starEach [e] X.env)).any (·.1) = false := by rfl)
    (h3 : (backToKw pos (keywordEach [⟨some "reverse", .Constant (.bool true) 0 cp, kp⟩] X.env)).all (·.1.isSome) = true := by rfl) (h4 : (backToKw pos (keywordEach [⟨some "reverse", .Constant (.bool true) 0 cp, kp⟩] X.env)).any (·.1.isNone) = false := by rfl)
    (h5 : (backToKw pos (keywordEach [⟨some "reverse", .Constant (.bool true) 0 cp, kp⟩] X.env)).filterMap (·.1) = [Str.ofString "reverse"] := by rfl) :
    QE X C W (.Call (.Name "sorted" p) [e] [⟨some "reverse", .Constant (.bool true) 0 cp, kp⟩] pos) (gSortRT g) := by
  obtain ⟨te, pe, qe⟩ := he
  refine ⟨_, pe_callBK cr_sortedRT hg hm hv (pa_cons pe pa_nil hs) (pk_cons pe_bl pk_nil) (by decide) (by decide) h1 h2 h3 h4 h5, fun σ H Z ι Γ M Q sl hr h => qe σ H Z ι Γ M _ sl hr (h.bind fun x M1 v H1 Z1 ι1 e1 hr1 r1 h1 => ?_)⟩
  obtain ⟨d, hd, h2⟩ := Post.of_opR (γ := D) (δ := V) h1
  have fin : ∀ (a : Addr) (is : List Int), v = .ref a → (SqL X.K H1 a (is.map V.int) ∨ SqT X.K H1 a (is.map V.int)) → d = .lst ((srtI is).reverse.map D.int) → rSortedRT X.K [v] [.bl true] H1 Q := fun a is ev s ed => by
    subst ev
    subst ed
    refine ⟨a, is, rfl, rfl, s, fun ns' p h1 h2' hp => ?_⟩
    have o : ns'.Pairwise (· ≥ ·) := h2'
    have e : ns'.reverse = srtI is := ord_one ((List.reverse_perm ns').trans (h1.trans (srtI_perm is).symm)) (List.pairwise_reverse.mpr o) (srtI_ord is)
    have e' : ns' = (srtI is).reverse := by rw [← e, List.reverse_reverse]
    rw [e']
    exact After.lst (X := X) (M := M1) (Q := Q) (fun v H' Z' e' hr' r' => h2 v H' Z' ι1 e' hr' r') hr1 (rps_ints _) p hp
  unfold dSortRT at hd
  split at hd
  · rename_i ds
    cases r1 with
    | tup s r =>
      cases ei : intsD ds with
      | none => rw [ei] at hd; cases hd
      | some is =>
        rw [ei] at hd
        cases hd
        have := intsD_is r ei
        subst this
        exact fin _ is rfl (.inr (subT hr1.sub s)) rfl
  · obtain ⟨a, is, rfl, s, e2⟩ := ofInts_run hr1 r1 hd
    cases e2
    exact fin a is rfl (.inl s) rfl
end
end Bk

set_option Elab.async false
set_option linter.all false
set_option maxRecDepth 100000
set_option maxHeartbeats 2000000
namespace Bk
open PySem PySem.Spec PyProof.Rows L2
/-! ### a list of ours that comes back from a call, and will not be changed -/
def fzD (d : D) (M : List MO) : R D := match d with
  | .ref k => match M[k]? with
    | some (.lst ds) => .ok (.lst ds) (M.set k .dead)
    | _ => .bad
  | d => .ok d M
def gFzE (ge : GE) : GE := fun Γ M => (ge Γ M).bind fzD
@[simp] theorem u_gFzE (ge : GE) (Γ : Env) (M : List MO) : gFzE ge Γ M = (ge Γ M).bind fzD := Eq.trans rfl rfl
theorem fzD_ref {k : Nat} {M : List MO} {ds : List D} (h : M[k]? = some (.lst ds)) : fzD (.ref k) M = .ok (.lst ds) (M.set k .dead) := by simp only [fzD, h]
section
variable {X : Cx} {C : CT} {W : WX} {e : Expr} {ge : GE}
theorem qe_fz (ha : QE X C W e ge) : QE X C W e (gFzE ge) := by
  obtain ⟨ta, pa, qa⟩ := ha
  refine ⟨ta, pa, fun σ H Z ι Γ M Q sl hr h => qa σ H Z ι Γ M Q sl hr (Post.bind h fun x M1 v H1 Z1 ι1 e1 hr1 r1 h1 => ?_)⟩
  cases x with
  | ref k =>
    simp only [fzD] at h1
    cases e2 : M1[k]? with
    | none => rw [e2] at h1; exact h1.elim
    | some u =>
      rw [e2] at h1
      cases u with
      | lst ds =>
        obtain ⟨xs, r, hr2, x1, rp⟩ := hr1.freeze e2
        cases r1
        exact h1 _ H1 _ ι1 x1 hr2 rp
      | _ => exact h1.elim
  | _ => exact h1 v H1 Z1 ι1 .refl hr1 r1
end
end Bk

set_option Elab.async false
set_option linter.all false
set_option maxRecDepth 100000
set_option maxHeartbeats 2000000
namespace Bk
open PySem PySem.Spec PyProof.Rows L2
/-! ### a loop over a list of ours, read anew at each turn -/
def gForN (gg : GG) (body : GS) (k : Nat) : Nat → Nat → GS
  | 0, _ => gBad
  | n + 1, i => fun Γ M => match M[k]? with
    | some (.lst ds) => match ds[i]? with
      | some d => optS (gg d Γ) fun Γ1 => (body Γ1 M).turn (gForN gg body k n (i + 1))
      | none => .nx Γ M
    | _ => .bad
def gForO (ge : GE) (gg : GG) (body : GS) (n : Nat) : GS := fun Γ M => (ge Γ M).thenS Γ fun d M1 => match d with
  | .ref k => gForN gg body k n 0 Γ M1
  | _ => .bad
@[simp] theorem u_gForO (ge : GE) (gg : GG) (body : GS) (n : Nat) (Γ : Env) (M : List MO) : gForO ge gg body n Γ M = ((ge Γ M).thenS Γ fun d M1 => match d with
  | .ref k => gForN gg body k n 0 Γ M1
  | _ => .bad) := Eq.trans rfl rfl
theorem gForN_some {gg : GG} {body : GS} {k n i : Nat} {Γ : Env} {M : List MO} {ds : List D} {d : D} (h : M[k]? = some (.lst ds)) (h2 : ds[i]? = some d) : gForN gg body k (n + 1) i Γ M = optS (gg d Γ) fun Γ1 => (body Γ1 M).turn (gForN gg body k n (i + 1)) := by
  simp only [gForN, h, h2]
theorem gForN_none {gg : GG} {body : GS} {k n i : Nat} {Γ : Env} {M : List MO} {ds : List D} (h : M[k]? = some (.lst ds)) (h2 : ds.length ≤ i) : gForN gg body k (n + 1) i Γ M = .nx Γ M := by
  simp only [gForN, h, List.getElem?_eq_none h2]
section
variable {X : Cx} {C : CT} {W : WX} {tg : Expr} {ge : GE} {gg : GG} {g : GS} {pos : Pos}
theorem qs_forO {iter : Expr} {body : List Stmt} {is : List Nat} (n : Nat) (hp : PassesOwn (model X.prog X.w) X.A X.env X.xe) (hc : X.calm = true) (hi : QE X C W iter ge) (hg : QG X tg gg is) (hb : QSs X C W body g)
    (hs : ∀ x, foldedSetIterable iter X.env x = pure x := by intro _; rfl) : QS X C W (.For tg iter body [] pos) (gForO ge gg g n) := by
  obtain ⟨ti, pi, qi⟩ := hi
  obtain ⟨tg', pg, qg⟩ := hg
  obtain ⟨tb, pb, qb⟩ := hb
  refine ⟨_, ps_for hp hc (pi_seq pi) pg pb hs, fun Dd σ H Z ι Γ M sl hr h => qi σ H Z ι Γ M _ sl hr (PostS.bind h sl fun d M1 v H1 Z1 ι1 e1 hr1 r1 h1 => ?_)⟩
  cases d with
  | ref k =>
    have h2 : PostS X C W H1 Z1 ι1 M1 (gForN gg g k n 0 Γ M1) Dd := h1
    cases n with
    | zero => exact h2.elim
    | succ n =>
    have hk : k < M1.length := by cases r1; assumption
    cases ek : M1[k]? with
    | none => simp only [gForN, ek] at h2; exact h2.elim
    | some u =>
      cases u with
      | lst ds =>
        have el : listD M1 (.ref k) = some ds := by simp only [listD, ek]
        obtain ⟨a, xs, rfl, ex, rs⟩ := listD_run hr1 r1 el
        have ea : ι1 k = a := by cases r1; rfl
        refine ⟨a, rfl, .inl ⟨⟨xs, ex.sq⟩, ?_⟩⟩
        refine ⟨fun i m σ' H' => ∃ (Z' : Hp) (ι' : Nat → Addr) (Γ' : Env) (M' : List MO), (∀ k, k < M1.length → ι' k = ι1 k) ∧ M1.length ≤ M'.length ∧ HR X.K H' Z' ι' M' ∧ Slots X.K Z' ι' M'.length Γ' σ' ∧
          PostS X C W H' Z' ι' M' (gForN gg g k m i Γ' M') Dd, ⟨n + 1, Z1, ι1, Γ, M1, fun _ _ => rfl, Nat.le_refl _, hr1, sl.ext e1, h2⟩, ?_⟩
        rintro i m σ' H' ⟨Z', ι', Γ', M', hii, hn, hr', sl', hp'⟩
        cases m with
        | zero => exact hp'.elim
        | succ m =>
        cases ek' : M'[k]? with
        | none => simp only [gForN, ek'] at hp'; exact hp'.elim
        | some u =>
          cases u with
          | lst es =>
            have el' : listD M' (.ref k) = some es := by simp only [listD, ek']
            have rk : Rp X.K Z' ι' M'.length (.ref k) (.ref (ι' k)) := .ref (Nat.lt_of_lt_of_le hk hn)
            obtain ⟨a', ys, ea', ex', rs'⟩ := listD_run hr' rk el'
            have eaa : a' = a := by
              injection ea' with z
              rw [← z, hii k hk, ea]
            subst eaa
            by_cases hi : i < es.length
            · have eg0 : es[i]? = some es[i] := List.getElem?_eq_getElem hi
              rw [gForN_some ek' eg0] at hp'
              obtain ⟨x, hx, rx⟩ := rs'.get eg0
              refine .inr ⟨⟨ys, x, ex'.sq, hx⟩, fun σ2 H2 => ∃ (Z2 : Hp) (ι2 : Nat → Addr) (Γ2 : Env) (M2 : List MO), (∀ k, k < M1.length → ι2 k = ι1 k) ∧ M1.length ≤ M2.length ∧ HR X.K H2 Z2 ι2 M2 ∧ Slots X.K Z2 ι2 M2.length Γ2 σ2 ∧
                PostS X C W H2 Z2 ι2 M2 (gForN gg g k m (i + 1) Γ2 M2) Dd, fun σ2 H2 hN => ?_, fun x2 H2 hy => ?_⟩
              · obtain ⟨Z2, ι2, Γ2, M2, a2, a3, a4, a5, a6⟩ := hN
                exact ⟨m, Nat.lt_succ_self _, Z2, ι2, Γ2, M2, a2, a3, a4, a5, a6⟩
              · obtain ⟨rfl, hx2⟩ := hy
                have exx : ys[i]? = some x2 := hx2 _ ex'.sq
                rw [hx] at exx
                cases exx
                cases eg : gg es[i] Γ' with
                | none =>
                  rw [eg] at hp'
                  exact hp'.elim
                | some Γ1 =>
                  rw [eg] at hp'
                  exact qg x σ' H2 Z' ι' M'.length es[i] Γ' Γ1 _ hr'.sub sl' rx eg fun σ3 s3 _ => qb _ σ3 H2 Z' ι' Γ1 M' s3 hr' (PostS.turn hp' fun Γ4 M4 σ4 H4 Z4 ι4 e4 hr4 s4 h4 =>
                    ⟨Z4, ι4, Γ4, M4, fun k hk => (e4.ii k (Nat.lt_of_lt_of_le hk hn)).trans (hii k hk), Nat.le_trans hn e4.ln, hr4, s4, h4⟩)
            · refine .inl ⟨⟨ys, ex'.sq, by rw [← rs'.length]; exact Nat.le_of_not_lt hi⟩, ?_⟩
              rw [gForN_none ek' (Nat.le_of_not_lt hi)] at hp'
              exact hp' σ' H' Z' ι' .refl hr' sl'
          | _ => simp only [gForN, ek'] at hp'; exact hp'.elim
      | _ => simp only [gForN, ek] at h2; exact h2.elim
  | _ => exact h1.elim
/-! ### a slice as a list of ours -/
def slO (ds : Option (List D)) (lo hi : Option Int) (M : List MO) : R D := match ds with
  | some ds => .ok (.ref M.length) (M ++ [.lst (cutD ds lo hi)])
  | none => .bad
def gSlO (ge : GE) (lo hi : GO) : GE := fun Γ M => (ge Γ M).bind fun x M1 => (lo Γ M1).bind fun a M2 => (hi Γ M2).bind fun b M3 => slO (listD M3 x) a b M3
@[simp] theorem u_gSlO (ge : GE) (lo hi : GO) (Γ : Env) (M : List MO) : gSlO ge lo hi Γ M = ((ge Γ M).bind fun x M1 => (lo Γ M1).bind fun a M2 => (hi Γ M2).bind fun b M3 => slO (listD M3 x) a b M3) := Eq.trans rfl rfl
@[simp] theorem slO_some (ds : List D) (lo hi : Option Int) (M : List MO) : slO (some ds) lo hi M = .ok (.ref M.length) (M ++ [.lst (cutD ds lo hi)]) := Eq.trans rfl rfl
theorem qe_sliceO {e : Expr} {lo hi : Option Expr} {g : GE} {gl gh : GO} {pos p2 : Pos} (he : QE X C W e g) (hl : QO X C W lo gl) (hh : QO X C W hi gh) : QE X C W (.Subscript e (.Slice lo hi none p2) pos) (gSlO g gl gh) := by
  obtain ⟨t, p, q⟩ := he
  obtain ⟨tl, pl, ql⟩ := hl
  obtain ⟨th, ph, qh⟩ := hh
  refine ⟨_, pe_slice sl_list p pl ph, fun σ H Z ι Γ M Q sl hr h => q σ H Z ι Γ M _ sl hr (h.bind fun x M1 v H1 Z1 ι1 e1 hr1 r1 h1 => ql σ H1 Z1 ι1 Γ M1 _ (sl.ext e1) hr1 (h1.bind fun a M2 a' H2 Z2 ι2 e2 hr2 ra h2 =>
    qh σ H2 Z2 ι2 Γ M2 _ ((sl.ext e1).ext e2) hr2 (h2.bind fun b M3 b' H3 Z3 ι3 e3 hr3 rb h3 => ?_)))⟩
  have ra' : a = a' := ra
  have rb' : b = b' := rb
  subst ra' rb'
  have r3 := (r1.ext e2).ext e3
  cases el : listD M3 x with
  | none => rw [el] at h3; exact h3.elim
  | some ds =>
    rw [el, slO_some] at h3
    obtain ⟨l, xs, rfl, ex, rs⟩ := listD_run hr3 r3 el
    refine ⟨l, xs, rfl, ex.sq, fun p hp => ?_⟩
    obtain ⟨hr4, e4⟩ := hr3.owned hp (cut_rps rs a b)
    refine h3 _ _ _ _ e4 hr4 ?_
    have q : Rp X.K Z3 (put ι3 M3.length p) (M3 ++ [MO.lst (cutD ds a b)]).length (.ref M3.length) (.ref (put ι3 M3.length p M3.length)) := .ref (by simp)
    rw [put_at] at q
    exact q
end
end Bk

set_option Elab.async false
set_option linter.all false
set_option maxRecDepth 100000
namespace My
open PySem PySem.Spec PyProof.Rows L2 Bk
/-! ### the text -/
def topS (i : Nat) : Stmt := PySem.Challenge.pw_breakrows_k64_pieces_waiting_and_mended.main.body.getD i (.Pass ⟨0, 0, 0, 0⟩)
abbrev s_is_integer : Stmt := topS 7
theorem sc_is_integer : FnScope ["value"] ["value"] (defScope s_is_integer) := ⟨rfl, rfl, rfl, by decide +kernel, rfl, by decide +kernel, by decide +kernel⟩
abbrev s_is_at_least : Stmt := topS 8
theorem sc_is_at_least : FnScope ["value", "low"] ["value", "low"] (defScope s_is_at_least) := ⟨rfl, rfl, rfl, by decide +kernel, rfl, by decide +kernel, by decide +kernel⟩
abbrev s_is_between : Stmt := topS 9
theorem sc_is_between : FnScope ["value", "low", "high"] ["value", "low", "high"] (defScope s_is_between) := ⟨rfl, rfl, rfl, by decide +kernel, rfl, by decide +kernel, by decide +kernel⟩
abbrev s_are_numbers : Stmt := topS 10
theorem sc_are_numbers : FnScope ["value", "entry"] ["value"] (defScope s_are_numbers) := ⟨rfl, rfl, rfl, by decide +kernel, rfl, by decide +kernel, by decide +kernel⟩
abbrev s_is_night : Stmt := topS 12
theorem sc_is_night : FnScope ["value"] ["value"] (defScope s_is_night) := ⟨rfl, rfl, rfl, by decide +kernel, rfl, by decide +kernel, by decide +kernel⟩
abbrev s_require_queue : Stmt := topS 13
theorem sc_require_queue : FnScope ["queue", "index", "entry"] ["queue"] (defScope s_require_queue) := ⟨rfl, rfl, rfl, by decide +kernel, rfl, by decide +kernel, by decide +kernel⟩
abbrev s_waiting_mornings : Stmt := topS 14
theorem sc_waiting_mornings : FnScope ["queue", "numbers", "found", "day", "owned", "mended", "broken"] ["queue", "numbers"] (defScope s_waiting_mornings) := ⟨rfl, rfl, rfl, by decide +kernel, rfl, by decide +kernel, by decide +kernel⟩
abbrev s_queue_over : Stmt := topS 15
theorem sc_queue_over : FnScope ["queue", "numbers", "day", "waits", "broken"] ["queue", "numbers"] (defScope s_queue_over) := ⟨rfl, rfl, rfl, by decide +kernel, rfl, by decide +kernel, by decide +kernel⟩
abbrev s_require_queue_past : Stmt := topS 16
theorem sc_require_queue_past : FnScope ["queue", "past", "day"] ["queue", "past"] (defScope s_require_queue_past) := ⟨rfl, rfl, rfl, by decide +kernel, rfl, by decide +kernel, by decide +kernel⟩
abbrev s_waiting : Stmt := topS 17
theorem sc_waiting : FnScope ["queue", "past"] ["queue", "past"] (defScope s_waiting) := ⟨rfl, rfl, rfl, by decide +kernel, rfl, by decide +kernel, by decide +kernel⟩
abbrev s_mended_on : Stmt := topS 18
theorem sc_mended_on : FnScope ["queue", "past", "found", "line", "day", "owned", "mended", "source", "number"] ["queue", "past"] (defScope s_mended_on) := ⟨rfl, rfl, rfl, by decide +kernel, rfl, by decide +kernel, by decide +kernel⟩
abbrev s_law_cell_at : Stmt := topS 20
theorem sc_law_cell_at : FnScope ["_law_script", "_law_k"] ["_law_script", "_law_k"] (defScope s_law_cell_at) := ⟨rfl, rfl, rfl, by decide +kernel, rfl, by decide +kernel, by decide +kernel⟩
abbrev s_law_source : Stmt := topS 21
theorem sc_law_source : FnScope ["_law_cell"] ["_law_cell"] (defScope s_law_source) := ⟨rfl, rfl, rfl, by decide +kernel, rfl, by decide +kernel, by decide +kernel⟩
abbrev s_law_take : Stmt := topS 22
theorem sc_law_take : FnScope ["_law_source_here", "_law_bound", "_law_prime", "_law_mixed", "_law_digit"] ["_law_source_here", "_law_bound"] (defScope s_law_take) := ⟨rfl, rfl, rfl, by decide +kernel, rfl, by decide +kernel, by decide +kernel⟩
abbrev s_law_queue : Stmt := topS 23
theorem sc_law_queue : FnScope ["_law_source_here", "_law_most", "_law_top", "_law_same", "_law_found", "_law_at", "_law_stock"] ["_law_source_here", "_law_most", "_law_top"] (defScope s_law_queue) := ⟨rfl, rfl, rfl, by decide +kernel, rfl, by decide +kernel, by decide +kernel⟩
abbrev s_law_over : Stmt := topS 24
theorem sc_law_over : FnScope ["_law_plan", "_law_numbers", "_law_line_here", "_law_at", "_law_stock", "_law_able", "_law_here"] ["_law_plan", "_law_numbers"] (defScope s_law_over) := ⟨rfl, rfl, rfl, by decide +kernel, rfl, by decide +kernel, by decide +kernel⟩
abbrev s_law_past : Stmt := topS 25
theorem sc_law_past : FnScope ["_law_source_here", "_law_plan", "_law_places", "_law_found", "_law_at", "_law_top"] ["_law_source_here", "_law_plan", "_law_places"] (defScope s_law_past) := ⟨rfl, rfl, rfl, by decide +kernel, rfl, by decide +kernel, by decide +kernel⟩
abbrev s_law_line : Stmt := topS 26
theorem sc_law_line : FnScope ["_law_plan", "_law_numbers", "_law_line_here", "_law_mornings", "_law_ready_on", "_law_at", "_law_stock", "_law_able", "_law_turn", "_law_number"] ["_law_plan", "_law_numbers"] (defScope s_law_line) := ⟨rfl, rfl, rfl, by decide +kernel, rfl, by decide +kernel, by decide +kernel⟩
abbrev s_law_right : Stmt := topS 27
theorem sc_law_right : FnScope ["_law_plan", "_law_numbers", "_law_mornings", "_law_ready_on", "_law_before", "_law_turn", "_law_found", "_law_told", "_law_some"] ["_law_plan", "_law_numbers"] (defScope s_law_right) := ⟨rfl, rfl, rfl, by decide +kernel, rfl, by decide +kernel, by decide +kernel⟩
abbrev s_law : Stmt := topS 28
theorem sc_law : FnScope ["_law_script", "_law_k", "_law_cell", "_law_source_here", "_law_plan", "_law_wide", "_law_some", "_law_at"] ["_law_script"] (defScope s_law) := ⟨rfl, rfl, rfl, by decide +kernel, rfl, by decide +kernel, by decide +kernel⟩
/-! ### what the bodies compute -/
def b_is_integer : GS := gRet (gAndV (gOp1 (dIsi "int") (gV 0)) (gOp1 dNot (gOp1 (dIsi "bool") (gV 0))))
def F_is_integer : List D → List MO → R D := runF 1 b_is_integer
def b_is_at_least : GS := gRet (gAndV (gCallF 1 F_is_integer (gCons (gV 0) (gNil))) (gOp2 dGe (gV 0) (gV 1)))
def F_is_at_least : List D → List MO → R D := runF 2 b_is_at_least
def b_is_between : GS := gRet (gAndV (gCallF 1 F_is_integer (gCons (gV 0) (gNil))) (gChain dLe dLe (gV 1) (gV 0) (gV 2)))
def F_is_between : List D → List MO → R D := runF 3 b_is_between
def le_are_numbers_1 : GE := gCallF 2 F_is_at_least (gCons (gV 1) (gCons (gC (.int 0)) (gNil)))
def b_are_numbers : GS := gRet (gAndV (gOp1 (dIsi "tuple") (gV 0)) (gCall (fn1 dAll) (gCons (gLc (gSeqI (gV 0)) (gTo 1) (gYes) (le_are_numbers_1) [1]) (gNil))))
def F_are_numbers : List D → List MO → R D := runF 2 b_are_numbers
def b_is_night : GS := gSeq (gIf (gOrT (gNotT (gVal (gOp1 (dIsi "tuple") (gV 0)))) (gVal (gOp2 dNeA (gCall (fn1 dLen) (gCons (gV 0) (gNil))) (gC (.int 2))))) (gRet (gC (.bl false))) (gPass)) (gRet (gAndV (gCallF 3 F_is_between (gCons (gOp2 dIx (gV 0) (gC (.int 0))) (gCons (gC (.int 0)) (gCons (gC (.int 12)) (gNil))))) (gCallF 3 F_is_between (gCons (gOp2 dIx (gV 0) (gC (.int 1))) (gCons (gC (.int 0)) (gCons (gC (.int 12)) (gNil)))))))
def F_is_night : List D → List MO → R D := runF 1 b_is_night
def lb_require_queue_1 : GS := gSeq (gIf (gNotT (gVal (gCallF 1 F_is_night (gCons (gV 2) (gNil))))) (gBad) (gPass)) (gForget [1, 2])
def b_require_queue : GS := gSeq (gIf (gOrT (gNotT (gVal (gOp1 (dIsiT ["list", "tuple"]) (gV 0)))) (gVal (gOp2 dGt (gCall (fn1 dLen) (gCons (gV 0) (gNil))) (gC (.int 100))))) (gBad) (gPass)) (gSeq (gSeq (gForget [1, 2]) (gFor (gEnum (gV 0)) (gToT (gToCons (gTo 1) (gToCons (gTo 2) (gToNil)))) (lb_require_queue_1))) (gForget [1, 2]))
def F_require_queue : List D → List MO → R D := runF 3 b_require_queue
def lb_waiting_mornings_1 : GS := gSeq (gAsg (gIfE (gVal (gOp2 dLt (gV 3) (gCall (fn1 dLen) (gCons (gV 1) (gNil))))) (gOp2 dIx (gV 1) (gV 3)) (gC (.int 0))) (gTo 6)) (gSeq (gExpr (gMeth1 mAppend (gV 2) (gCall (fn2 dMax2) (gCons (gC (.int 0)) (gCons (gOp2 dSub (gOp2 dAdd (gOp2 dIx (gV 2) (gOp1 dNeg (gC (.int 1)))) (gV 6)) (gV 5)) (gNil)))))) (gForget [3, 4, 5, 6]))
def b_waiting_mornings : GS := gSeq (gAsg (gLstO (gCons (gC (.int 0)) (gNil))) (gTo 2)) (gSeq (gSeq (gSeq (gSeq (gForget [3, 4, 5, 6]) (gFor (gEnum (gV 0)) (gToT (gToCons (gTo 3) (gToCons (gToT (gToCons (gTo 4) (gToCons (gTo 5) (gToNil)))) (gToNil)))) (lb_waiting_mornings_1))) (gForget [3, 4, 5, 6])) (gFz 2)) (gRet (gV 2)))
def F_waiting_mornings : List D → List MO → R D := runF 7 b_waiting_mornings
def lb_queue_over_1 : GS := gSeq (gAsg (gIfE (gVal (gOp2 dLt (gV 2) (gCall (fn1 dLen) (gCons (gV 1) (gNil))))) (gOp2 dIx (gV 1) (gV 2)) (gC (.int 0))) (gTo 4)) (gSeq (gIf (gVal (gOp2 dGt (gOp2 dAdd (gV 3) (gV 4)) (gOp2 dIx (gOp2 dIx (gV 0) (gV 2)) (gC (.int 0))))) (gRet (gOp2 dAdd (gV 2) (gC (.int 1)))) (gPass)) (gForget [2, 3, 4]))
def b_queue_over : GS := gSeq (gSeq (gSeq (gForget [2, 3, 4]) (gFor (gEnum (gSl (gCallF 2 F_waiting_mornings (gCons (gV 0) (gCons (gV 1) (gNil)))) (gNoO) (gO (gOp1 dNeg (gC (.int 1)))))) (gToT (gToCons (gTo 2) (gToCons (gTo 3) (gToNil)))) (lb_queue_over_1))) (gForget [2, 3, 4])) (gRet (gC .non))
def F_queue_over : List D → List MO → R D := runF 5 b_queue_over
def b_require_queue_past : GS := gSeq (gIf (gOrT (gNotT (gVal (gCallF 1 F_are_numbers (gCons (gV 1) (gNil))))) (gVal (gOp2 dGt (gCall (fn1 dLen) (gCons (gV 1) (gNil))) (gCall (fn1 dLen) (gCons (gV 0) (gNil)))))) (gBad) (gPass)) (gSeq (gAsg (gCallF 2 F_queue_over (gCons (gV 0) (gCons (gV 1) (gNil)))) (gTo 2)) (gIf (gVal (gOp2 dNotN (gV 2) (gC .non))) (gBad) (gPass)))
def F_require_queue_past : List D → List MO → R D := runF 3 b_require_queue_past
def b_waiting : GS := gSeq (gExpr (gCallF 1 F_require_queue (gCons (gV 0) (gNil)))) (gSeq (gExpr (gCallF 2 F_require_queue_past (gCons (gV 0) (gCons (gV 1) (gNil))))) (gRet (gSlO (gCallF 2 F_waiting_mornings (gCons (gV 0) (gCons (gV 1) (gNil)))) (gNoO) (gO (gOp2 dAdd (gCall (fn1 dLen) (gCons (gV 1) (gNil))) (gC (.int 1)))))))
def F_waiting : List D → List MO → R D := runF 2 b_waiting
def le_mended_on_1 : GE := gLstO (gNil)
def lb_mended_on_2 : GS := gSeq (gExpr (gMeth1 mAppend (gOp2 dIx (gV 2) (gV 7)) (gOp2 dAdd (gV 4) (gC (.int 2))))) (gForget [7])
def lb_mended_on_1 : GS := gSeq (gIf (gVal (gOp2 dLt (gV 4) (gCall (fn1 dLen) (gCons (gV 1) (gNil))))) (gExpr (gMeth1 mExtend (gV 3) (gOp2 dMulT (gLst (gCons (gV 4) (gNil))) (gOp2 dIx (gV 1) (gV 4))))) (gPass)) (gSeq (gSeq (gSeq (gForget [7]) (gFor (gSeqI (gSl (gV 3) (gNoO) (gO (gV 6)))) (gTo 7) (lb_mended_on_2))) (gForget [7])) (gSeq (gAsg (gSlO (gV 3) (gO (gV 6)) (gNoO)) (gTo 3)) (gForget [4, 5, 6, 7])))
def b_mended_on : GS := gSeq (gExpr (gCallF 1 F_require_queue (gCons (gV 0) (gNil)))) (gSeq (gExpr (gCallF 2 F_require_queue_past (gCons (gV 0) (gCons (gV 1) (gNil))))) (gSeq (gPar2 2 3 (gCons (gLcO (gSeqI (gV 1)) (gTo 8) (gYes) (le_mended_on_1) [8]) (gCons (gLstO (gNil)) (gNil)))) (gSeq (gSeq (gSeq (gForget [4, 5, 6, 7]) (gFor (gEnum (gV 0)) (gToT (gToCons (gTo 4) (gToCons (gToT (gToCons (gTo 5) (gToCons (gTo 6) (gToNil)))) (gToNil)))) (lb_mended_on_1))) (gForget [3, 4, 5, 6, 7])) (gRet (gV 2)))))
def F_mended_on : List D → List MO → R D := runW 9 b_mended_on
def b_law_cell_at : GS := gRet (gIfE (gVal (gOp2 dLt (gV 1) (gCall (fn1 dLen) (gCons (gV 0) (gNil))))) (gOp2 dIx (gV 0) (gV 1)) (gC (.int 0)))
def F_law_cell_at : List D → List MO → R D := runF 2 b_law_cell_at
def b_law_source : GS := gRet (gLstO (gCons (gOp2 dMulT (gV 0) (gCall (fn1 dInt) (gCons (gOp2 dGe (gV 0) (gOp2 dPow (gC (.int 10)) (gC (.int 18)))) (gNil)))) (gCons (gOp2 dMod (gV 0) (gC (.int 2147483647))) (gCons (gC (.int 0)) (gNil)))))
def F_law_source : List D → List MO → R D := runF 1 b_law_source
def b_law_take : GS := gSeq (gIf (gVal (gOp2 dGt (gOp2 dIx (gV 0) (gC (.int 0))) (gC (.int 0)))) (gSeq (gAsg (gOp2 dMod (gOp2 dIx (gV 0) (gC (.int 0))) (gV 1)) (gTo 4)) (gSeq (gSetI (gOp2 dFdiv (gOp2 dIx (gV 0) (gC (.int 0))) (gV 1)) (gV 0) (gC (.int 0))) (gRet (gV 4)))) (gPass)) (gSeq (gSetI (gOp2 dAdd (gOp2 dIx (gV 0) (gC (.int 2))) (gC (.int 1))) (gV 0) (gC (.int 2))) (gSeq (gAsg (gOp2 dIx (gLst (gCons (gC (.int 2147483629)) (gCons (gC (.int 2147483587)) (gCons (gC (.int 2147483579)) (gCons (gC (.int 2147483563)) (gNil)))))) (gOp2 dMod (gOp2 dIx (gV 0) (gC (.int 2))) (gC (.int 4)))) (gTo 2)) (gSeq (gAsg (gOp2 dMod (gOp2 dPow (gOp2 dAdd (gOp2 dAdd (gOp2 dIx (gV 0) (gC (.int 1))) (gOp2 dMulT (gC (.int 6007)) (gOp2 dIx (gV 0) (gC (.int 2))))) (gC (.int 29))) (gC (.int 3))) (gV 2)) (gTo 3)) (gSeq (gAsg (gOp2 dMod (gOp2 dMulT (gOp2 dAdd (gV 3) (gOp2 dIx (gV 0) (gC (.int 2)))) (gOp2 dAdd (gOp2 dFdiv (gV 3) (gC (.int 1021))) (gC (.int 50021)))) (gV 2)) (gTo 3)) (gSeq (gAsg (gOp2 dMod (gOp2 dMulT (gV 3) (gOp2 dAdd (gOp2 dAdd (gOp2 dFdiv (gV 3) (gC (.int 887))) (gOp2 dMulT (gC (.int 31)) (gOp2 dIx (gV 0) (gC (.int 2))))) (gC (.int 3)))) (gV 2)) (gTo 3)) (gRet (gOp2 dMod (gOp2 dFdiv (gV 3) (gC (.int 13))) (gV 1))))))))
def F_law_take : List D → List MO → R D := runF 5 b_law_take
def lb_law_queue_1 : GS := gSeq (gAsg (gOp2 dIx (gLst (gCons (gV 2) (gCons (gCallF 2 F_law_take (gCons (gV 0) (gCons (gOp2 dAdd (gV 2) (gC (.int 1))) (gNil)))) (gCons (gCallF 2 F_law_take (gCons (gV 0) (gCons (gOp2 dAdd (gV 2) (gC (.int 1))) (gNil)))) (gNil))))) (gV 3)) (gTo 6)) (gSeq (gExpr (gMeth1 mAppend (gV 4) (gTup (gCons (gV 6) (gCons (gOp2 dIx (gLst (gCons (gC (.int 0)) (gCons (gC (.int 1)) (gCons (gCallF 2 F_law_take (gCons (gV 0) (gCons (gOp2 dAdd (gV 2) (gC (.int 1))) (gNil)))) (gNil))))) (gCallF 2 F_law_take (gCons (gV 0) (gCons (gC (.int 3)) (gNil))))) (gNil)))))) (gForget [5, 6]))
def b_law_queue : GS := gSeq (gAsg (gCallF 2 F_law_take (gCons (gV 0) (gCons (gC (.int 3)) (gNil)))) (gTo 3)) (gSeq (gAsg (gLstO (gNil)) (gTo 4)) (gSeq (gSeq (gSeq (gSeq (gForget [5, 6]) (gFor (gRng1 (gCons (gCallF 2 F_law_take (gCons (gV 0) (gCons (gOp2 dAdd (gV 1) (gC (.int 1))) (gNil)))) (gNil))) (gTo 5) (lb_law_queue_1))) (gForget [5, 6])) (gFz 4)) (gRet (gV 4))))
def F_law_queue : List D → List MO → R D := runF 7 b_law_queue
def lb_law_over_1 : GS := gSeq (gAsg (gOp2 dAdd (gV 2) (gIfE (gVal (gOp2 dLt (gV 3) (gCall (fn1 dLen) (gCons (gV 1) (gNil))))) (gOp2 dIx (gV 1) (gV 3)) (gC (.int 0)))) (gTo 6)) (gSeq (gIf (gVal (gOp2 dGt (gV 6) (gV 4))) (gRet (gOp2 dAdd (gV 3) (gC (.int 1)))) (gPass)) (gSeq (gAsg (gCall (fn2 dMax2) (gCons (gC (.int 0)) (gCons (gOp2 dSub (gV 6) (gV 5)) (gNil)))) (gTo 2)) (gForget [3, 4, 5, 6])))
def b_law_over : GS := gSeq (gAsg (gC (.int 0)) (gTo 2)) (gSeq (gSeq (gSeq (gForget [3, 4, 5, 6]) (gFor (gEnum (gV 0)) (gToT (gToCons (gTo 3) (gToCons (gToT (gToCons (gTo 4) (gToCons (gTo 5) (gToNil)))) (gToNil)))) (lb_law_over_1))) (gForget [2, 3, 4, 5, 6])) (gRet (gC .non)))
def F_law_over : List D → List MO → R D := runF 7 b_law_over
def lb_law_past_2 : GS := gSeq (gAsg (gOp2 dAdd (gV 5) (gC (.int 1))) (gTo 5)) (gForget [])
def lw_law_past_2 : GT := gVal (gOp2 dIsN (gCallF 2 F_law_over (gCons (gV 1) (gCons (gOp2 dAdd (gV 3) (gTup (gCons (gOp2 dAdd (gV 5) (gC (.int 1))) (gNil)))) (gNil)))) (gC .non))
def lb_law_past_1 : GS := gSeq (gAsg (gC (.int 0)) (gTo 5)) (gSeq (gSeq (gSeq (gForget []) (gWhile (lw_law_past_2) (lb_law_past_2) 1000000000)) (gForget [])) (gSeq (gAsg (gOp2 dAdd (gV 3) (gTup (gCons (gOp2 dIx (gLst (gCons (gC (.int 0)) (gCons (gV 5) (gCons (gCallF 2 F_law_take (gCons (gV 0) (gCons (gOp2 dAdd (gV 5) (gC (.int 1))) (gNil)))) (gNil))))) (gCallF 2 F_law_take (gCons (gV 0) (gCons (gC (.int 3)) (gNil))))) (gNil)))) (gTo 3)) (gForget [4, 5])))
def b_law_past : GS := gSeq (gAsg (gTup (gNil)) (gTo 3)) (gSeq (gSeq (gSeq (gForget [4, 5]) (gFor (gRng1 (gCons (gV 2) (gNil))) (gTo 4) (lb_law_past_1))) (gForget [4, 5])) (gRet (gV 3)))
def F_law_past : List D → List MO → R D := runF 6 b_law_past
def le_law_line_1 : GE := gLstO (gNil)
def lb_law_line_2 : GS := gSeq (gIf (gVal (gOp2 dNeA (gV 2) (gLst (gNil)))) (gSeq (gExpr (gMeth1 mAppend (gOp2 dIx (gV 4) (gOp2 dIx (gV 2) (gC (.int 0)))) (gOp2 dAdd (gV 5) (gC (.int 2))))) (gAsg (gSl (gV 2) (gO (gC (.int 1))) (gNoO)) (gTo 2))) (gPass)) (gForget [8])
def lb_law_line_1 : GS := gSeq (gExpr (gMeth1 mAppend (gV 3) (gCall (fn1 dLen) (gCons (gV 2) (gNil))))) (gSeq (gIf (gVal (gOp2 dLt (gV 5) (gCall (fn1 dLen) (gCons (gV 1) (gNil))))) (gAsg (gOp2 dAdd (gV 2) (gOp2 dMulT (gLst (gCons (gV 5) (gNil))) (gOp2 dIx (gV 1) (gV 5)))) (gTo 2)) (gPass)) (gSeq (gSeq (gSeq (gForget [8]) (gFor (gRng1 (gCons (gV 7) (gNil))) (gTo 8) (lb_law_line_2))) (gForget [8])) (gForget [5, 6, 7, 8])))
def b_law_line : GS := gSeq (gPar3 2 3 4 (gCons (gLst (gNil)) (gCons (gLstO (gNil)) (gCons (gLc (gSeqI (gV 1)) (gTo 9) (gYes) (le_law_line_1) [9]) (gNil))))) (gSeq (gSeq (gSeq (gSeq (gForget [5, 6, 7, 8]) (gFor (gEnum (gV 0)) (gToT (gToCons (gTo 5) (gToCons (gToT (gToCons (gTo 6) (gToCons (gTo 7) (gToNil)))) (gToNil)))) (lb_law_line_1))) (gForget [5, 6, 7, 8])) (gFzI 4)) (gSeq (gSeq (gExpr (gMeth1 mAppend (gV 3) (gCall (fn1 dLen) (gCons (gV 2) (gNil))))) (gFz 3)) (gRet (gTup (gCons (gSl (gV 3) (gNoO) (gO (gOp2 dAdd (gCall (fn1 dLen) (gCons (gV 1) (gNil))) (gC (.int 1))))) (gCons (gV 4) (gNil)))))))
def F_law_line : List D → List MO → R D := runF 10 b_law_line
def lb_law_right_2 : GS := gSeq (gExpr (gMeth1 mAppend (gV 8) (gC (.int 0)))) (gForget [8])
def lb_law_right_1 : GS := gScope (gSeq (gPar2 6 7 (gCons (gCallF 2 F_waiting (gCons (gV 0) (gCons (gV 1) (gNil)))) (gCons (gCallW 2 F_mended_on (gCons (gV 0) (gCons (gV 1) (gNil)))) (gNil)))) (gSeq (gIf (gOrT (gVal (gOp2 dNeA (gV 6) (gV 2))) (gOrT (gVal (gOp2 dNeA (gV 7) (gV 3))) (gNotT (gVal (gOp1 (dIsi "list") (gV 7)))))) (gRet (gC (.bl false))) (gPass)) (gSeq (gExpr (gMeth1 mAppend (gV 6) (gC (.int 0)))) (gSeq (gSeq (gSeq (gForget [8]) (gForO (gV 7) (gTo 8) (lb_law_right_2) 1000)) (gForget [8])) (gSeq (gExpr (gMeth1 mAppend (gV 7) (gLst (gNil)))) (gForget [5, 6, 7, 8]))))))
def b_law_right : GS := gSeq (gAsg (gCallF 2 F_law_line (gCons (gV 0) (gCons (gV 1) (gNil)))) (gToT (gToCons (gTo 2) (gToCons (gTo 3) (gToNil))))) (gSeq (gAsg (gCall (fn1 dRepr) (gCons (gTup (gCons (gV 0) (gCons (gV 1) (gNil)))) (gNil))) (gTo 4)) (gSeq (gSeq (gSeq (gForget [5, 6, 7, 8]) (gFor (gRng1 (gCons (gC (.int 2)) (gNil))) (gTo 5) (lb_law_right_1))) (gForget [5, 6, 7, 8])) (gSeq (gIf (gOrT (gVal (gOp2 dNeA (gCallK 2 F_waiting [1, 0] gNil (gCons (gV 1) (gCons (gCall (fn1 dTuple) (gCons (gV 0) (gNil))) (gNil)))) (gV 2))) (gVal (gOp2 dNeA (gCall (fn1 dRepr) (gCons (gTup (gCons (gV 0) (gCons (gV 1) (gNil)))) (gNil))) (gV 4)))) (gRet (gC (.bl false))) (gPass)) (gRet (gOp2 dEqA (gCallWK 2 F_mended_on [1, 0] gNil (gCons (gV 1) (gCons (gCall (fn1 dTuple) (gCons (gV 0) (gNil))) (gNil)))) (gV 3))))))
def F_law_right : List D → List MO → R D := runF 9 b_law_right
def le_law_1 : GE := gTup (gCons (gOp2 dSub (gC (.int 12)) (gCallF 2 F_law_take (gCons (gV 3) (gCons (gC (.int 3)) (gNil))))) (gCons (gCallF 2 F_law_take (gCons (gV 3) (gCons (gC (.int 5)) (gNil)))) (gNil)))
def le_law_2 : GE := gCallF 2 F_law_take (gCons (gV 3) (gCons (gC (.int 2)) (gNil)))
def lb_law_1 : GS := gScope (gSeq (gAsg (gCallF 1 F_law_source (gCons (gV 2) (gNil))) (gTo 3)) (gSeq (gAsg (gCallF 3 F_law_queue (gCons (gV 3) (gCons (gC (.int 12)) (gCons (gOp2 dAdd (gC (.int 1)) (gCallF 2 F_law_take (gCons (gV 3) (gCons (gC (.int 4)) (gNil))))) (gNil))))) (gTo 4)) (gSeq (gIf (gNotT (gVal (gCallF 2 F_law_right (gCons (gV 4) (gCons (gCallF 3 F_law_past (gCons (gV 3) (gCons (gV 4) (gCons (gCallF 2 F_law_take (gCons (gV 3) (gCons (gOp2 dAdd (gCall (fn1 dLen) (gCons (gV 4) (gNil))) (gC (.int 1))) (gNil)))) (gNil))))) (gNil)))))) (gRet (gC (.bl false))) (gPass)) (gSeq (gIf (gVal (gOp2 dEqA (gV 1) (gC (.int 0)))) (gSeq (gAsg (gLc (gRng1 (gCons (gC (.int 100)) (gNil))) (gTo 7) (gYes) (le_law_1) [7]) (gTo 5)) (gSeq (gAsg (gCall (fn1 dTuple) (gCons (gLc (gRng1 (gCons (gCallF 2 F_law_take (gCons (gV 3) (gCons (gC (.int 101)) (gNil)))) (gNil))) (gTo 7) (gYes) (le_law_2) [7]) (gNil))) (gTo 6)) (gIf (gAndT (gVal (gOp2 dIsN (gCallF 2 F_law_over (gCons (gV 5) (gCons (gV 6) (gNil)))) (gC .non))) (gNotT (gVal (gCallF 2 F_law_right (gCons (gV 5) (gCons (gV 6) (gNil))))))) (gRet (gC (.bl false))) (gPass)))) (gPass)) (gForget [1, 2, 3, 4, 5, 6])))))
def b_law : GS := gSeq (gSeq (gSeq (gForget [1, 2, 3, 4, 5, 6]) (gFor (gEnum (gOp2 dAdd (gLst (gCons (gCallF 2 F_law_cell_at (gCons (gV 0) (gCons (gC (.int 0)) (gNil)))) (gNil))) (gSl (gV 0) (gO (gC (.int 1))) (gO (gC (.int 6)))))) (gToT (gToCons (gTo 1) (gToCons (gTo 2) (gToNil)))) (lb_law_1))) (gForget [1, 2, 3, 4, 5, 6])) (gRet (gC (.bl true)))
def F_law : List D → List MO → R D := runF 8 b_law
/-! ### where everything stands -/
structure Ad where
  f_is_integer : Addr
  fd_is_integer : FuncData
  f_is_at_least : Addr
  fd_is_at_least : FuncData
  f_is_between : Addr
  fd_is_between : FuncData
  f_are_numbers : Addr
  fd_are_numbers : FuncData
  f_is_night : Addr
  fd_is_night : FuncData
  f_require_queue : Addr
  fd_require_queue : FuncData
  f_waiting_mornings : Addr
  fd_waiting_mornings : FuncData
  f_queue_over : Addr
  fd_queue_over : FuncData
  f_require_queue_past : Addr
  fd_require_queue_past : FuncData
  f_waiting : Addr
  fd_waiting : FuncData
  f_mended_on : Addr
  fd_mended_on : FuncData
  f_law_cell_at : Addr
  fd_law_cell_at : FuncData
  f_law_source : Addr
  fd_law_source : FuncData
  f_law_take : Addr
  fd_law_take : FuncData
  f_law_queue : Addr
  fd_law_queue : FuncData
  f_law_over : Addr
  fd_law_over : FuncData
  f_law_past : Addr
  fd_law_past : FuncData
  f_law_line : Addr
  fd_law_line : FuncData
  f_law_right : Addr
  fd_law_right : FuncData
  f_law : Addr
  fd_law : FuncData
  t_MAX_DAYS : Tok
  t_MAX_OWNED : Tok
structure Tx (K : PySem.W.Frag) (mg : Str → Option Value) (A : Ad) : Prop where
  F_is_integer : Fun K "is_integer" "is_integer" s_is_integer A.f_is_integer A.fd_is_integer
  b_is_integer : Binds K A.fd_is_integer ["value"] []
  g_is_integer : mg "is_integer" = some (.ref A.f_is_integer)
  F_is_at_least : Fun K "is_at_least" "is_at_least" s_is_at_least A.f_is_at_least A.fd_is_at_least
  b_is_at_least : Binds K A.fd_is_at_least ["value", "low"] []
  g_is_at_least : mg "is_at_least" = some (.ref A.f_is_at_least)
  F_is_between : Fun K "is_between" "is_between" s_is_between A.f_is_between A.fd_is_between
  b_is_between : Binds K A.fd_is_between ["value", "low", "high"] []
  g_is_between : mg "is_between" = some (.ref A.f_is_between)
  F_are_numbers : Fun K "are_numbers" "are_numbers" s_are_numbers A.f_are_numbers A.fd_are_numbers
  b_are_numbers : Binds K A.fd_are_numbers ["value"] []
  g_are_numbers : mg "are_numbers" = some (.ref A.f_are_numbers)
  F_is_night : Fun K "is_night" "is_night" s_is_night A.f_is_night A.fd_is_night
  b_is_night : Binds K A.fd_is_night ["value"] []
  g_is_night : mg "is_night" = some (.ref A.f_is_night)
  F_require_queue : Fun K "require_queue" "require_queue" s_require_queue A.f_require_queue A.fd_require_queue
  b_require_queue : Binds K A.fd_require_queue ["queue"] []
  g_require_queue : mg "require_queue" = some (.ref A.f_require_queue)
  F_waiting_mornings : Fun K "waiting_mornings" "waiting_mornings" s_waiting_mornings A.f_waiting_mornings A.fd_waiting_mornings
  b_waiting_mornings : Binds K A.fd_waiting_mornings ["queue", "numbers"] []
  g_waiting_mornings : mg "waiting_mornings" = some (.ref A.f_waiting_mornings)
  F_queue_over : Fun K "queue_over" "queue_over" s_queue_over A.f_queue_over A.fd_queue_over
  b_queue_over : Binds K A.fd_queue_over ["queue", "numbers"] []
  g_queue_over : mg "queue_over" = some (.ref A.f_queue_over)
  F_require_queue_past : Fun K "require_queue_past" "require_queue_past" s_require_queue_past A.f_require_queue_past A.fd_require_queue_past
  b_require_queue_past : Binds K A.fd_require_queue_past ["queue", "past"] []
  g_require_queue_past : mg "require_queue_past" = some (.ref A.f_require_queue_past)
  F_waiting : Fun K "waiting" "waiting" s_waiting A.f_waiting A.fd_waiting
  b_waiting : Binds K A.fd_waiting ["queue", "past"] []
  g_waiting : mg "waiting" = some (.ref A.f_waiting)
  F_mended_on : Fun K "mended_on" "mended_on" s_mended_on A.f_mended_on A.fd_mended_on
  b_mended_on : Binds K A.fd_mended_on ["queue", "past"] []
  g_mended_on : mg "mended_on" = some (.ref A.f_mended_on)
  F_law_cell_at : Fun K "_law_cell_at" "_law_cell_at" s_law_cell_at A.f_law_cell_at A.fd_law_cell_at
  b_law_cell_at : Binds K A.fd_law_cell_at ["_law_script", "_law_k"] []
  g_law_cell_at : mg "_law_cell_at" = some (.ref A.f_law_cell_at)
  F_law_source : Fun K "_law_source" "_law_source" s_law_source A.f_law_source A.fd_law_source
  b_law_source : Binds K A.fd_law_source ["_law_cell"] []
  g_law_source : mg "_law_source" = some (.ref A.f_law_source)
  F_law_take : Fun K "_law_take" "_law_take" s_law_take A.f_law_take A.fd_law_take
  b_law_take : Binds K A.fd_law_take ["_law_source_here", "_law_bound"] []
  g_law_take : mg "_law_take" = some (.ref A.f_law_take)
  F_law_queue : Fun K "_law_queue" "_law_queue" s_law_queue A.f_law_queue A.fd_law_queue
  b_law_queue : Binds K A.fd_law_queue ["_law_source_here", "_law_most", "_law_top"] []
  g_law_queue : mg "_law_queue" = some (.ref A.f_law_queue)
  F_law_over : Fun K "_law_over" "_law_over" s_law_over A.f_law_over A.fd_law_over
  b_law_over : Binds K A.fd_law_over ["_law_plan", "_law_numbers"] []
  g_law_over : mg "_law_over" = some (.ref A.f_law_over)
  F_law_past : Fun K "_law_past" "_law_past" s_law_past A.f_law_past A.fd_law_past
  b_law_past : Binds K A.fd_law_past ["_law_source_here", "_law_plan", "_law_places"] []
  g_law_past : mg "_law_past" = some (.ref A.f_law_past)
  F_law_line : Fun K "_law_line" "_law_line" s_law_line A.f_law_line A.fd_law_line
  b_law_line : Binds K A.fd_law_line ["_law_plan", "_law_numbers"] []
  g_law_line : mg "_law_line" = some (.ref A.f_law_line)
  F_law_right : Fun K "_law_right" "_law_right" s_law_right A.f_law_right A.fd_law_right
  b_law_right : Binds K A.fd_law_right ["_law_plan", "_law_numbers"] []
  g_law_right : mg "_law_right" = some (.ref A.f_law_right)
  F_law : Fun K "law" "law" s_law A.f_law A.fd_law
  b_law : Binds K A.fd_law ["_law_script"] []
  g_law : mg "law" = some (.ref A.f_law)
  k_mended_on_past_queue : KwBinds K A.fd_mended_on ["queue", "past"] ["past", "queue"] 0 [1, 0]
  k_waiting_past_queue : KwBinds K A.fd_waiting ["queue", "past"] ["past", "queue"] 0 [1, 0]
  m_all : mg "all" = none
  m_bool : mg "bool" = none
  m_enumerate : mg "enumerate" = none
  m_int : mg "int" = none
  m_isinstance : mg "isinstance" = none
  m_len : mg "len" = none
  m_list : mg "list" = none
  m_max : mg "max" = none
  m_range : mg "range" = none
  m_repr : mg "repr" = none
  m_tuple : mg "tuple" = none
  c_MAX_DAYS : mg "MAX_DAYS" = some (.int 100 A.t_MAX_DAYS)
  c_MAX_OWNED : mg "MAX_OWNED" = some (.int 12 A.t_MAX_OWNED)
/-! ### each def computes its function -/
section
variable {P : Program} {w : World} {K : PySem.W.Frag} {mg : Str → Option Value} {base : Heap} {C : CT} {A : Ad}
set_option maxHeartbeats 4000000 in
theorem ok_is_integer (T : Tx K mg A) : FnQ P w K mg base C 2 A.f_is_integer A.fd_is_integer ["value"] F_is_integer := by
  refine fq_of T.F_is_integer sc_is_integer fun cdv A' outer s H E hr hgu => ?_
  exact qss_one (qs_ret (qe_and (qe_isi rfl T.m_isinstance rfl T.m_int (by decide +kernel) (qe_v 0)) (qe_one (qe_not (qe_isi rfl T.m_isinstance rfl T.m_bool (by decide +kernel) (qe_v 0))))))
set_option maxHeartbeats 4000000 in
theorem ok_is_at_least (T : Tx K mg A) : FnQ P w K mg base C 3 A.f_is_at_least A.fd_is_at_least ["value", "low"] F_is_at_least := by
  have c_is_integer := ok_is_integer (P := P) (w := w) (base := base) (C := C) T
  refine fq_of T.F_is_at_least sc_is_at_least fun cdv A' outer s H E hr hgu => ?_
  exact qss_one (qs_ret (qe_and (qe_call c_is_integer (hr.mono (by decide)) hgu (takes_of rfl rfl rfl rfl) rfl T.g_is_integer T.F_is_integer.kp T.b_is_integer (qa_cons (qe_v 0) (qa_nil))) (qe_one (qe_cmp op_ge ok_ge (qe_v 0) (qe_v 1) rfl))))
set_option maxHeartbeats 4000000 in
theorem ok_is_between (T : Tx K mg A) : FnQ P w K mg base C 3 A.f_is_between A.fd_is_between ["value", "low", "high"] F_is_between := by
  have c_is_integer := ok_is_integer (P := P) (w := w) (base := base) (C := C) T
  refine fq_of T.F_is_between sc_is_between fun cdv A' outer s H E hr hgu => ?_
  exact qss_one (qs_ret (qe_and (qe_call c_is_integer (hr.mono (by decide)) hgu (takes_of rfl rfl rfl rfl) rfl T.g_is_integer T.F_is_integer.kp T.b_is_integer (qa_cons (qe_v 0) (qa_nil))) (qe_one (qe_chain op_le ok_le op_le ok_le (qe_v 1) (qe_v 0) (qe_v 2)))))
set_option maxHeartbeats 4000000 in
theorem ok_are_numbers (T : Tx K mg A) : FnQ P w K mg base C 4 A.f_are_numbers A.fd_are_numbers ["value"] F_are_numbers := by
  have c_is_at_least := ok_is_at_least (P := P) (w := w) (base := base) (C := C) T
  refine fq_of T.F_are_numbers sc_are_numbers fun cdv A' outer s H E hr hgu => ?_
  exact qss_one (qs_ret (qe_and (qe_isi rfl T.m_isinstance rfl T.m_tuple (by decide +kernel) (qe_v 0)) (qe_one (qe_callB (cr_all rfl) (.of1 ok_all) rfl T.m_all (by decide +kernel) (qa_cons (qe_lc rfl sc_are_numbers.nd (qi_seq (qe_v 0)) (blkOk_by (N := ["value", "entry"]) (sc := defScope s_are_numbers) (own := [("entry", 1)]) (by decide +kernel)) (fun _ _ _ _ _ => qg_name 1 sc_are_numbers.nd) (fun _ _ _ _ _ => qts_nil) (fun _ _ _ _ _ => qe_call c_is_at_least (hr.mono (by decide)) hgu takes_no rfl T.g_is_at_least T.F_is_at_least.kp T.b_is_at_least (qa_cons (qe_v 1) (qa_cons (qe_int) (qa_nil))))) (qa_nil))))))
set_option maxHeartbeats 4000000 in
theorem ok_is_night (T : Tx K mg A) : FnQ P w K mg base C 4 A.f_is_night A.fd_is_night ["value"] F_is_night := by
  have c_is_between := ok_is_between (P := P) (w := w) (base := base) (C := C) T
  refine fq_of T.F_is_night sc_is_night fun cdv A' outer s H E hr hgu => ?_
  exact qss_cons (qs_if (qt_of (qw_or (qt_not (qt_val (qe_isi rfl T.m_isinstance rfl T.m_tuple (by decide +kernel) (qe_v 0)))) (qw_or1 (qt_cmp (op_neA hr.units) ok_neA (qe_callB call_len (.of1 ok_len) rfl T.m_len (by decide +kernel) (qa_cons (qe_v 0) (qa_nil))) (qe_int) rfl)))) (qss_one (qs_ret (qe_bl))) (qss_nil)) (qss_one (qs_ret (qe_and (qe_call c_is_between (hr.mono (by decide)) hgu (takes_of rfl rfl rfl rfl) rfl T.g_is_between T.F_is_between.kp T.b_is_between (qa_cons (qe_ix ix_A ok_ix (qe_v 0) (qe_int)) (qa_cons (qe_int) (qa_cons (qe_gint rfl T.c_MAX_OWNED) (qa_nil))))) (qe_one (qe_call c_is_between (hr.mono (by decide)) hgu (takes_of rfl rfl rfl rfl) rfl T.g_is_between T.F_is_between.kp T.b_is_between (qa_cons (qe_ix ix_A ok_ix (qe_v 0) (qe_int)) (qa_cons (qe_int) (qa_cons (qe_gint rfl T.c_MAX_OWNED) (qa_nil)))))))))
set_option maxHeartbeats 4000000 in
theorem ok_require_queue (T : Tx K mg A) : FnQ P w K mg base C 5 A.f_require_queue A.fd_require_queue ["queue"] F_require_queue := by
  have c_is_night := ok_is_night (P := P) (w := w) (base := base) (C := C) T
  refine fq_of T.F_require_queue sc_require_queue fun cdv A' outer s H E hr hgu => ?_
  exact qss_cons (qs_if (qt_of (qw_or (qt_not (qt_val (qe_isi2 rfl T.m_isinstance rfl T.m_list (by decide +kernel) rfl T.m_tuple (by decide +kernel) (qe_v 0)))) (qw_or1 (qt_cmp op_gt ok_gt (qe_callB call_len (.of1 ok_len) rfl T.m_len (by decide +kernel) (qa_cons (qe_v 0) (qa_nil))) (qe_gint rfl T.c_MAX_DAYS) rfl)))) (qss_never) (qss_nil)) (qss_one (qs_forget [1, 2] (qs_pre [1, 2] (qs_for (passes_of rfl) rfl (qi_enum rfl T.m_enumerate (qe_v 0)) (qg_tup rfl (qgs_cons (qg_name 1 sc_require_queue.nd) (qgs_cons (qg_name 2 sc_require_queue.nd) (qgs_nil))) (hlen := len_cons (len_cons (len_nil)))) (qss_one (qs_forget [1, 2] (qs_if (qt_not (qt_val (qe_call c_is_night (hr.mono (by decide)) hgu (takes_of rfl rfl rfl rfl) rfl T.g_is_night T.F_is_night.kp T.b_is_night (qa_cons (qe_v 2) (qa_nil))))) (qss_never) (qss_nil))))))))
set_option maxHeartbeats 4000000 in
theorem ok_waiting_mornings (T : Tx K mg A) : FnQ P w K mg base C 2 A.f_waiting_mornings A.fd_waiting_mornings ["queue", "numbers"] F_waiting_mornings := by
  refine fq_of T.F_waiting_mornings sc_waiting_mornings fun cdv A' outer s H E hr hgu => ?_
  exact qss_cons (qs_asg (qe_lstO (qa_cons (qe_int) (qa_nil))) (qg_name 2 sc_waiting_mornings.nd)) (qss_cons (qs_fz 2 (qs_forget [3, 4, 5, 6] (qs_pre [3, 4, 5, 6] (qs_for (passes_of rfl) rfl (qi_enum rfl T.m_enumerate (qe_v 0)) (qg_tup rfl (qgs_cons (qg_name 3 sc_waiting_mornings.nd) (qgs_cons (qg_tup rfl (qgs_cons (qg_name 4 sc_waiting_mornings.nd) (qgs_cons (qg_name 5 sc_waiting_mornings.nd) (qgs_nil))) (hlen := len_cons (len_cons (len_nil)))) (qgs_nil))) (hlen := len_cons (len_cons (len_nil)))) (qss_cons (qs_asg (qe_if (qt_cmp op_lt ok_lt (qe_v 3) (qe_callB call_len (.of1 ok_len) rfl T.m_len (by decide +kernel) (qa_cons (qe_v 1) (qa_nil))) rfl) (qe_ix ix_A ok_ix (qe_v 1) (qe_v 3)) (qe_int)) (qg_name 6 sc_waiting_mornings.nd)) (qss_one (qs_forget [3, 4, 5, 6] (qs_expr (qe_meth1 PySem.F.slot_list_append PySem.F.type_list_append mt_append ok_append (qe_v 2) (qe_callB (call_max2 rfl) (.of2 ok_max2) rfl T.m_max (by decide +kernel) (qa_cons (qe_int) (qa_cons (qe_bin op_sub ok_sub (qe_bin op_addA ok_add (qe_ix ix_A ok_ix (qe_v 2) (qe_un un_neg ok_neg (qe_int))) (qe_v 6)) (qe_v 5)) (qa_nil))))))))))))) (qss_one (qs_ret (qe_v 2))))
set_option maxHeartbeats 4000000 in
theorem ok_queue_over (T : Tx K mg A) : FnQ P w K mg base C 3 A.f_queue_over A.fd_queue_over ["queue", "numbers"] F_queue_over := by
  have c_waiting_mornings := ok_waiting_mornings (P := P) (w := w) (base := base) (C := C) T
  refine fq_of T.F_queue_over sc_queue_over fun cdv A' outer s H E hr hgu => ?_
  exact qss_cons (qs_forget [2, 3, 4] (qs_pre [2, 3, 4] (qs_for (passes_of rfl) rfl (qi_enum rfl T.m_enumerate (qe_slice (qe_call c_waiting_mornings (hr.mono (by decide)) hgu (takes_of rfl rfl rfl rfl) rfl T.g_waiting_mornings T.F_waiting_mornings.kp T.b_waiting_mornings (qa_cons (qe_v 0) (qa_cons (qe_v 1) (qa_nil)))) (qo_none) (qo_some (qe_un un_neg ok_neg (qe_int))))) (qg_tup rfl (qgs_cons (qg_name 2 sc_queue_over.nd) (qgs_cons (qg_name 3 sc_queue_over.nd) (qgs_nil))) (hlen := len_cons (len_cons (len_nil)))) (qss_cons (qs_asg (qe_if (qt_cmp op_lt ok_lt (qe_v 2) (qe_callB call_len (.of1 ok_len) rfl T.m_len (by decide +kernel) (qa_cons (qe_v 1) (qa_nil))) rfl) (qe_ix ix_A ok_ix (qe_v 1) (qe_v 2)) (qe_int)) (qg_name 4 sc_queue_over.nd)) (qss_one (qs_forget [2, 3, 4] (qs_if (qt_cmp op_gt ok_gt (qe_bin op_addA ok_add (qe_v 3) (qe_v 4)) (qe_ix ix_A ok_ix (qe_ix ix_A ok_ix (qe_v 0) (qe_v 2)) (qe_int)) rfl) (qss_one (qs_ret (qe_bin op_addA ok_add (qe_v 2) (qe_int)))) (qss_nil)))))))) (qss_one (qs_ret (qe_non)))
set_option maxHeartbeats 4000000 in
theorem ok_require_queue_past (T : Tx K mg A) : FnQ P w K mg base C 5 A.f_require_queue_past A.fd_require_queue_past ["queue", "past"] F_require_queue_past := by
  have c_are_numbers := ok_are_numbers (P := P) (w := w) (base := base) (C := C) T
  have c_queue_over := ok_queue_over (P := P) (w := w) (base := base) (C := C) T
  refine fq_of T.F_require_queue_past sc_require_queue_past fun cdv A' outer s H E hr hgu => ?_
  exact qss_cons (qs_if (qt_of (qw_or (qt_not (qt_val (qe_call c_are_numbers (hr.mono (by decide)) hgu (takes_of rfl rfl rfl rfl) rfl T.g_are_numbers T.F_are_numbers.kp T.b_are_numbers (qa_cons (qe_v 1) (qa_nil))))) (qw_or1 (qt_cmp op_gt ok_gt (qe_callB call_len (.of1 ok_len) rfl T.m_len (by decide +kernel) (qa_cons (qe_v 1) (qa_nil))) (qe_callB call_len (.of1 ok_len) rfl T.m_len (by decide +kernel) (qa_cons (qe_v 0) (qa_nil))) rfl)))) (qss_never) (qss_nil)) (qss_cons (qs_asg (qe_call c_queue_over (hr.mono (by decide)) hgu (takes_of rfl rfl rfl rfl) rfl T.g_queue_over T.F_queue_over.kp T.b_queue_over (qa_cons (qe_v 0) (qa_cons (qe_v 1) (qa_nil)))) (qg_name 2 sc_require_queue_past.nd)) (qss_one (qs_if (qt_cmp op_notN ok_notN (qe_v 2) (qe_non) rfl) (qss_never) (qss_nil))))
set_option maxHeartbeats 4000000 in
theorem ok_waiting (T : Tx K mg A) : FnQ P w K mg base C 6 A.f_waiting A.fd_waiting ["queue", "past"] F_waiting := by
  have c_require_queue := ok_require_queue (P := P) (w := w) (base := base) (C := C) T
  have c_require_queue_past := ok_require_queue_past (P := P) (w := w) (base := base) (C := C) T
  have c_waiting_mornings := ok_waiting_mornings (P := P) (w := w) (base := base) (C := C) T
  refine fq_of T.F_waiting sc_waiting fun cdv A' outer s H E hr hgu => ?_
  exact qss_cons (qs_expr (qe_call c_require_queue (hr.mono (by decide)) hgu (takes_of rfl rfl rfl rfl) rfl T.g_require_queue T.F_require_queue.kp T.b_require_queue (qa_cons (qe_v 0) (qa_nil)))) (qss_cons (qs_expr (qe_call c_require_queue_past (hr.mono (by decide)) hgu (takes_of rfl rfl rfl rfl) rfl T.g_require_queue_past T.F_require_queue_past.kp T.b_require_queue_past (qa_cons (qe_v 0) (qa_cons (qe_v 1) (qa_nil))))) (qss_one (qs_ret (qe_sliceO (qe_call c_waiting_mornings (hr.mono (by decide)) hgu (takes_of rfl rfl rfl rfl) rfl T.g_waiting_mornings T.F_waiting_mornings.kp T.b_waiting_mornings (qa_cons (qe_v 0) (qa_cons (qe_v 1) (qa_nil)))) (qo_none) (qo_some (qe_bin op_addA ok_add (qe_callB call_len (.of1 ok_len) rfl T.m_len (by decide +kernel) (qa_cons (qe_v 1) (qa_nil))) (qe_int)))))))
set_option maxHeartbeats 4000000 in
theorem ok_mended_on (T : Tx K mg A) : FnQ P w K mg base C 6 A.f_mended_on A.fd_mended_on ["queue", "past"] F_mended_on := by
  have c_require_queue := ok_require_queue (P := P) (w := w) (base := base) (C := C) T
  have c_require_queue_past := ok_require_queue_past (P := P) (w := w) (base := base) (C := C) T
  refine fqW_of T.F_mended_on sc_mended_on fun cdv A' outer s H E hr hgu => ?_
  exact qss_cons (qs_expr (qe_call c_require_queue (hr.mono (by decide)) hgu (takes_of rfl rfl rfl rfl) rfl T.g_require_queue T.F_require_queue.kp T.b_require_queue (qa_cons (qe_v 0) (qa_nil)))) (qss_cons (qs_expr (qe_call c_require_queue_past (hr.mono (by decide)) hgu (takes_of rfl rfl rfl rfl) rfl T.g_require_queue_past T.F_require_queue_past.kp T.b_require_queue_past (qa_cons (qe_v 0) (qa_cons (qe_v 1) (qa_nil))))) (qss_cons (qs_par2 2 3 rfl sc_mended_on.nd (qa_cons (qe_lcO rfl sc_mended_on.nd (qi_seq (qe_v 1)) (blkOk_by (N := ["queue", "past", "found", "line", "day", "owned", "mended", "source", "number"]) (sc := defScope s_mended_on) (own := [("number", 8)]) (by decide +kernel)) (fun _ _ _ _ _ => qg_name 8 sc_mended_on.nd) (fun _ _ _ _ _ => qts_nil) (fun _ _ _ _ _ => qe_lstO (qa_nil))) (qa_cons (qe_lstO (qa_nil)) (qa_nil)))) (qss_cons (qs_forget [3, 4, 5, 6, 7] (qs_pre [4, 5, 6, 7] (qs_for (passes_of rfl) rfl (qi_enum rfl T.m_enumerate (qe_v 0)) (qg_tup rfl (qgs_cons (qg_name 4 sc_mended_on.nd) (qgs_cons (qg_tup rfl (qgs_cons (qg_name 5 sc_mended_on.nd) (qgs_cons (qg_name 6 sc_mended_on.nd) (qgs_nil))) (hlen := len_cons (len_cons (len_nil)))) (qgs_nil))) (hlen := len_cons (len_cons (len_nil)))) (qss_cons (qs_if (qt_cmp op_lt ok_lt (qe_v 4) (qe_callB call_len (.of1 ok_len) rfl T.m_len (by decide +kernel) (qa_cons (qe_v 1) (qa_nil))) rfl) (qss_one (qs_expr (qe_meth1 PySem.F.slot_list_extend PySem.F.type_list_extend mt_extendS ok_extend (qe_v 3) (qe_bin op_mulT ok_mulT (qe_lst (qa_cons (qe_v 4) (qa_nil))) (qe_ix ix_A ok_ix (qe_v 1) (qe_v 4)))))) (qss_nil)) (qss_cons (qs_forget [7] (qs_pre [7] (qs_for (passes_of rfl) rfl (qi_seq (qe_slice (qe_v 3) (qo_none) (qo_some (qe_v 6)))) (qg_name 7 sc_mended_on.nd) (qss_one (qs_forget [7] (qs_expr (qe_meth1 PySem.F.slot_list_append PySem.F.type_list_append mt_append ok_append (qe_ix ix_A ok_ix (qe_v 2) (qe_v 7)) (qe_bin op_addA ok_add (qe_v 4) (qe_int))))))))) (qss_one (qs_forget [4, 5, 6, 7] (qs_asg (qe_sliceO (qe_v 3) (qo_some (qe_v 6)) (qo_none)) (qg_name 3 sc_mended_on.nd))))))))) (qss_one (qs_ret (qe_v 2))))))
set_option maxHeartbeats 4000000 in
theorem ok_law_cell_at (T : Tx K mg A) : FnQ P w K mg base C 2 A.f_law_cell_at A.fd_law_cell_at ["_law_script", "_law_k"] F_law_cell_at := by
  refine fq_of T.F_law_cell_at sc_law_cell_at fun cdv A' outer s H E hr hgu => ?_
  exact qss_one (qs_ret (qe_if (qt_cmp op_lt ok_lt (qe_v 1) (qe_callB call_len (.of1 ok_len) rfl T.m_len (by decide +kernel) (qa_cons (qe_v 0) (qa_nil))) rfl) (qe_ix ix_A ok_ix (qe_v 0) (qe_v 1)) (qe_int)))
set_option maxHeartbeats 4000000 in
theorem ok_law_source (T : Tx K mg A) : FnQ P w K mg base C 2 A.f_law_source A.fd_law_source ["_law_cell"] F_law_source := by
  refine fq_of T.F_law_source sc_law_source fun cdv A' outer s H E hr hgu => ?_
  exact qss_one (qs_ret (qe_lstO (qa_cons (qe_bin op_mulT ok_mulT (qe_v 0) (qe_callTy (T := "") call_int1 (.of1 ok_int) rfl T.m_int (by decide +kernel) (qa_cons (qe_cmp op_ge ok_ge (qe_v 0) (qe_bin op_pow ok_pow (qe_int) (qe_int)) rfl) (qa_nil)))) (qa_cons (qe_bin op_modP ok_mod (qe_v 0) (qe_int)) (qa_cons (qe_int) (qa_nil))))))
set_option maxHeartbeats 4000000 in
theorem ok_law_take (T : Tx K mg A) : FnQ P w K mg base C 2 A.f_law_take A.fd_law_take ["_law_source_here", "_law_bound"] F_law_take := by
  refine fq_of T.F_law_take sc_law_take fun cdv A' outer s H E hr hgu => ?_
  exact qss_cons (qs_if (qt_cmp op_gt ok_gt (qe_ix ix_A ok_ix (qe_v 0) (qe_int)) (qe_int) rfl) (qss_cons (qs_asg (qe_bin op_modP ok_mod (qe_ix ix_A ok_ix (qe_v 0) (qe_int)) (qe_v 1)) (qg_name 4 sc_law_take.nd)) (qss_cons (qs_setI (qe_bin op_fdivW ok_fdiv (qe_ix ix_A ok_ix (qe_v 0) (qe_int)) (qe_v 1)) (qe_v 0) (qe_int)) (qss_one (qs_ret (qe_v 4))))) (qss_nil)) (qss_cons (qs_setI (qe_bin op_addA ok_add (qe_ix ix_A ok_ix (qe_v 0) (qe_int)) (qe_int)) (qe_v 0) (qe_int)) (qss_cons (qs_asg (qe_ix ix_A ok_ix (qe_lst (qa_cons (qe_int) (qa_cons (qe_int) (qa_cons (qe_int) (qa_cons (qe_int) (qa_nil)))))) (qe_bin op_modP ok_mod (qe_ix ix_A ok_ix (qe_v 0) (qe_int)) (qe_int))) (qg_name 2 sc_law_take.nd)) (qss_cons (qs_asg (qe_bin op_modP ok_mod (qe_bin op_pow ok_pow (qe_bin op_addA ok_add (qe_bin op_addA ok_add (qe_ix ix_A ok_ix (qe_v 0) (qe_int)) (qe_bin op_mulT ok_mulT (qe_int) (qe_ix ix_A ok_ix (qe_v 0) (qe_int)))) (qe_int)) (qe_int)) (qe_v 2)) (qg_name 3 sc_law_take.nd)) (qss_cons (qs_asg (qe_bin op_modP ok_mod (qe_bin op_mulT ok_mulT (qe_bin op_addA ok_add (qe_v 3) (qe_ix ix_A ok_ix (qe_v 0) (qe_int))) (qe_bin op_addA ok_add (qe_bin op_fdivW ok_fdiv (qe_v 3) (qe_int)) (qe_int))) (qe_v 2)) (qg_name 3 sc_law_take.nd)) (qss_cons (qs_asg (qe_bin op_modP ok_mod (qe_bin op_mulT ok_mulT (qe_v 3) (qe_bin op_addA ok_add (qe_bin op_addA ok_add (qe_bin op_fdivW ok_fdiv (qe_v 3) (qe_int)) (qe_bin op_mulT ok_mulT (qe_int) (qe_ix ix_A ok_ix (qe_v 0) (qe_int)))) (qe_int))) (qe_v 2)) (qg_name 3 sc_law_take.nd)) (qss_one (qs_ret (qe_bin op_modP ok_mod (qe_bin op_fdivW ok_fdiv (qe_v 3) (qe_int)) (qe_v 1)))))))))
set_option maxHeartbeats 4000000 in
theorem ok_law_queue (T : Tx K mg A) : FnQ P w K mg base C 3 A.f_law_queue A.fd_law_queue ["_law_source_here", "_law_most", "_law_top"] F_law_queue := by
  have c_law_take := ok_law_take (P := P) (w := w) (base := base) (C := C) T
  refine fq_of T.F_law_queue sc_law_queue fun cdv A' outer s H E hr hgu => ?_
  exact qss_cons (qs_asg (qe_call c_law_take (hr.mono (by decide)) hgu (takes_of rfl rfl rfl rfl) rfl T.g_law_take T.F_law_take.kp T.b_law_take (qa_cons (qe_v 0) (qa_cons (qe_int) (qa_nil)))) (qg_name 3 sc_law_queue.nd)) (qss_cons (qs_asg (qe_lstO (qa_nil)) (qg_name 4 sc_law_queue.nd)) (qss_cons (qs_fz 4 (qs_forget [5, 6] (qs_pre [5, 6] (qs_for (passes_of rfl) rfl (qi_rng1 rfl T.m_range (qa_cons (qe_call c_law_take (hr.mono (by decide)) hgu (takes_of rfl rfl rfl rfl) rfl T.g_law_take T.F_law_take.kp T.b_law_take (qa_cons (qe_v 0) (qa_cons (qe_bin op_addA ok_add (qe_v 1) (qe_int)) (qa_nil)))) (qa_nil))) (qg_name 5 sc_law_queue.nd) (qss_cons (qs_asg (qe_ix ix_A ok_ix (qe_lst (qa_cons (qe_v 2) (qa_cons (qe_call c_law_take (hr.mono (by decide)) hgu (takes_of rfl rfl rfl rfl) rfl T.g_law_take T.F_law_take.kp T.b_law_take (qa_cons (qe_v 0) (qa_cons (qe_bin op_addA ok_add (qe_v 2) (qe_int)) (qa_nil)))) (qa_cons (qe_call c_law_take (hr.mono (by decide)) hgu (takes_of rfl rfl rfl rfl) rfl T.g_law_take T.F_law_take.kp T.b_law_take (qa_cons (qe_v 0) (qa_cons (qe_bin op_addA ok_add (qe_v 2) (qe_int)) (qa_nil)))) (qa_nil))))) (qe_v 3)) (qg_name 6 sc_law_queue.nd)) (qss_one (qs_forget [5, 6] (qs_expr (qe_meth1 PySem.F.slot_list_append PySem.F.type_list_append mt_append ok_append (qe_v 4) (qe_tup (qa_cons (qe_v 6) (qa_cons (qe_ix ix_A ok_ix (qe_lst (qa_cons (qe_int) (qa_cons (qe_int) (qa_cons (qe_call c_law_take (hr.mono (by decide)) hgu (takes_of rfl rfl rfl rfl) rfl T.g_law_take T.F_law_take.kp T.b_law_take (qa_cons (qe_v 0) (qa_cons (qe_bin op_addA ok_add (qe_v 2) (qe_int)) (qa_nil)))) (qa_nil))))) (qe_call c_law_take (hr.mono (by decide)) hgu (takes_of rfl rfl rfl rfl) rfl T.g_law_take T.F_law_take.kp T.b_law_take (qa_cons (qe_v 0) (qa_cons (qe_int) (qa_nil))))) (qa_nil))))))))))))) (qss_one (qs_ret (qe_v 4)))))
set_option maxHeartbeats 4000000 in
theorem ok_law_over (T : Tx K mg A) : FnQ P w K mg base C 2 A.f_law_over A.fd_law_over ["_law_plan", "_law_numbers"] F_law_over := by
  refine fq_of T.F_law_over sc_law_over fun cdv A' outer s H E hr hgu => ?_
  exact qss_cons (qs_asg (qe_int) (qg_name 2 sc_law_over.nd)) (qss_cons (qs_forget [2, 3, 4, 5, 6] (qs_pre [3, 4, 5, 6] (qs_for (passes_of rfl) rfl (qi_enum rfl T.m_enumerate (qe_v 0)) (qg_tup rfl (qgs_cons (qg_name 3 sc_law_over.nd) (qgs_cons (qg_tup rfl (qgs_cons (qg_name 4 sc_law_over.nd) (qgs_cons (qg_name 5 sc_law_over.nd) (qgs_nil))) (hlen := len_cons (len_cons (len_nil)))) (qgs_nil))) (hlen := len_cons (len_cons (len_nil)))) (qss_cons (qs_asg (qe_bin op_addA ok_add (qe_v 2) (qe_if (qt_cmp op_lt ok_lt (qe_v 3) (qe_callB call_len (.of1 ok_len) rfl T.m_len (by decide +kernel) (qa_cons (qe_v 1) (qa_nil))) rfl) (qe_ix ix_A ok_ix (qe_v 1) (qe_v 3)) (qe_int))) (qg_name 6 sc_law_over.nd)) (qss_cons (qs_if (qt_cmp op_gt ok_gt (qe_v 6) (qe_v 4) rfl) (qss_one (qs_ret (qe_bin op_addA ok_add (qe_v 3) (qe_int)))) (qss_nil)) (qss_one (qs_forget [3, 4, 5, 6] (qs_asg (qe_callB (call_max2 rfl) (.of2 ok_max2) rfl T.m_max (by decide +kernel) (qa_cons (qe_int) (qa_cons (qe_bin op_sub ok_sub (qe_v 6) (qe_v 5)) (qa_nil)))) (qg_name 2 sc_law_over.nd))))))))) (qss_one (qs_ret (qe_non))))
set_option maxHeartbeats 4000000 in
theorem ok_law_past (T : Tx K mg A) : FnQ P w K mg base C 3 A.f_law_past A.fd_law_past ["_law_source_here", "_law_plan", "_law_places"] F_law_past := by
  have c_law_over := ok_law_over (P := P) (w := w) (base := base) (C := C) T
  have c_law_take := ok_law_take (P := P) (w := w) (base := base) (C := C) T
  refine fq_of T.F_law_past sc_law_past fun cdv A' outer s H E hr hgu => ?_
  exact qss_cons (qs_asg (qe_tup (qa_nil)) (qg_name 3 sc_law_past.nd)) (qss_cons (qs_forget [4, 5] (qs_pre [4, 5] (qs_for (passes_of rfl) rfl (qi_rng1 rfl T.m_range (qa_cons (qe_v 2) (qa_nil))) (qg_name 4 sc_law_past.nd) (qss_cons (qs_asg (qe_int) (qg_name 5 sc_law_past.nd)) (qss_cons (qs_forget [] (qs_pre [] (qs_while 1000000000 (passes_of rfl) (qt_cmp op_isN ok_isN (qe_call c_law_over (hr.mono (by decide)) hgu (takes_of rfl rfl rfl rfl) rfl T.g_law_over T.F_law_over.kp T.b_law_over (qa_cons (qe_v 1) (qa_cons (qe_bin op_addA ok_add (qe_v 3) (qe_tup (qa_cons (qe_bin op_addA ok_add (qe_v 5) (qe_int)) (qa_nil)))) (qa_nil)))) (qe_non) rfl) (qss_one (qs_forget [] (qs_asg (qe_bin op_addA ok_add (qe_v 5) (qe_int)) (qg_name 5 sc_law_past.nd))))))) (qss_one (qs_forget [4, 5] (qs_asg (qe_bin op_addA ok_add (qe_v 3) (qe_tup (qa_cons (qe_ix ix_A ok_ix (qe_lst (qa_cons (qe_int) (qa_cons (qe_v 5) (qa_cons (qe_call c_law_take (hr.mono (by decide)) hgu (takes_of rfl rfl rfl rfl) rfl T.g_law_take T.F_law_take.kp T.b_law_take (qa_cons (qe_v 0) (qa_cons (qe_bin op_addA ok_add (qe_v 5) (qe_int)) (qa_nil)))) (qa_nil))))) (qe_call c_law_take (hr.mono (by decide)) hgu (takes_of rfl rfl rfl rfl) rfl T.g_law_take T.F_law_take.kp T.b_law_take (qa_cons (qe_v 0) (qa_cons (qe_int) (qa_nil))))) (qa_nil)))) (qg_name 3 sc_law_past.nd))))))))) (qss_one (qs_ret (qe_v 3))))
set_option maxHeartbeats 4000000 in
theorem ok_law_line (T : Tx K mg A) : FnQ P w K mg base C 2 A.f_law_line A.fd_law_line ["_law_plan", "_law_numbers"] F_law_line := by
  refine fq_of T.F_law_line sc_law_line fun cdv A' outer s H E hr hgu => ?_
  exact qss_cons (qs_par3 2 3 4 rfl sc_law_line.nd (qa_cons (qe_lst (qa_nil)) (qa_cons (qe_lstO (qa_nil)) (qa_cons (qe_lc rfl sc_law_line.nd (qi_seq (qe_v 1)) (blkOk_by (N := ["_law_plan", "_law_numbers", "_law_line_here", "_law_mornings", "_law_ready_on", "_law_at", "_law_stock", "_law_able", "_law_turn", "_law_number"]) (sc := defScope s_law_line) (own := [("_law_number", 9)]) (by decide +kernel)) (fun _ _ _ _ _ => qg_name 9 sc_law_line.nd) (fun _ _ _ _ _ => qts_nil) (fun _ _ _ _ _ => qe_lstO (qa_nil))) (qa_nil))))) (qss_cons (qs_fzI 4 (qs_forget [5, 6, 7, 8] (qs_pre [5, 6, 7, 8] (qs_for (passes_of rfl) rfl (qi_enum rfl T.m_enumerate (qe_v 0)) (qg_tup rfl (qgs_cons (qg_name 5 sc_law_line.nd) (qgs_cons (qg_tup rfl (qgs_cons (qg_name 6 sc_law_line.nd) (qgs_cons (qg_name 7 sc_law_line.nd) (qgs_nil))) (hlen := len_cons (len_cons (len_nil)))) (qgs_nil))) (hlen := len_cons (len_cons (len_nil)))) (qss_cons (qs_expr (qe_meth1 PySem.F.slot_list_append PySem.F.type_list_append mt_append ok_append (qe_v 3) (qe_callB call_len (.of1 ok_len) rfl T.m_len (by decide +kernel) (qa_cons (qe_v 2) (qa_nil))))) (qss_cons (qs_if (qt_cmp op_lt ok_lt (qe_v 5) (qe_callB call_len (.of1 ok_len) rfl T.m_len (by decide +kernel) (qa_cons (qe_v 1) (qa_nil))) rfl) (qss_one (qs_asg (qe_bin op_addA ok_add (qe_v 2) (qe_bin op_mulT ok_mulT (qe_lst (qa_cons (qe_v 5) (qa_nil))) (qe_ix ix_A ok_ix (qe_v 1) (qe_v 5)))) (qg_name 2 sc_law_line.nd))) (qss_nil)) (qss_one (qs_forget [5, 6, 7, 8] (qs_forget [8] (qs_pre [8] (qs_for (passes_of rfl) rfl (qi_rng1 rfl T.m_range (qa_cons (qe_v 7) (qa_nil))) (qg_name 8 sc_law_line.nd) (qss_one (qs_forget [8] (qs_if (qt_cmp (op_neA hr.units) ok_neA (qe_v 2) (qe_lst (qa_nil)) rfl) (qss_cons (qs_expr (qe_meth1 PySem.F.slot_list_append PySem.F.type_list_append mt_append ok_append (qe_ix ix_A ok_ix (qe_v 4) (qe_ix ix_A ok_ix (qe_v 2) (qe_int))) (qe_bin op_addA ok_add (qe_v 5) (qe_int)))) (qss_one (qs_asg (qe_slice (qe_v 2) (qo_some (qe_int)) (qo_none)) (qg_name 2 sc_law_line.nd)))) (qss_nil))))))))))))))) (qss_cons (qs_fz 3 (qs_expr (qe_meth1 PySem.F.slot_list_append PySem.F.type_list_append mt_append ok_append (qe_v 3) (qe_callB call_len (.of1 ok_len) rfl T.m_len (by decide +kernel) (qa_cons (qe_v 2) (qa_nil)))))) (qss_one (qs_ret (qe_tup (qa_cons (qe_slice (qe_v 3) (qo_none) (qo_some (qe_bin op_addA ok_add (qe_callB call_len (.of1 ok_len) rfl T.m_len (by decide +kernel) (qa_cons (qe_v 1) (qa_nil))) (qe_int)))) (qa_cons (qe_v 4) (qa_nil))))))))
set_option maxHeartbeats 4000000 in
theorem ok_law_right (T : Tx K mg A) : FnQ P w K mg base C 7 A.f_law_right A.fd_law_right ["_law_plan", "_law_numbers"] F_law_right := by
  have c_law_line := ok_law_line (P := P) (w := w) (base := base) (C := C) T
  have c_mended_on := ok_mended_on (P := P) (w := w) (base := base) (C := C) T
  have c_waiting := ok_waiting (P := P) (w := w) (base := base) (C := C) T
  refine fq_of T.F_law_right sc_law_right fun cdv A' outer s H E hr hgu => ?_
  exact qss_cons (qs_asg (qe_call c_law_line (hr.mono (by decide)) hgu (takes_of rfl rfl rfl rfl) rfl T.g_law_line T.F_law_line.kp T.b_law_line (qa_cons (qe_v 0) (qa_cons (qe_v 1) (qa_nil)))) (qg_tup rfl (qgs_cons (qg_name 2 sc_law_right.nd) (qgs_cons (qg_name 3 sc_law_right.nd) (qgs_nil))) (hlen := len_cons (len_cons (len_nil))))) (qss_cons (qs_asg (qe_callB (call_reprD hgu hr.units) (.of1 ok_repr) rfl T.m_repr (by decide +kernel) (qa_cons (qe_tup (qa_cons (qe_v 0) (qa_cons (qe_v 1) (qa_nil)))) (qa_nil))) (qg_name 4 sc_law_right.nd)) (qss_cons (qs_forget [5, 6, 7, 8] (qs_pre [5, 6, 7, 8] (qs_for (passes_of rfl) rfl (qi_rng1 rfl T.m_range (qa_cons (qe_int) (qa_nil))) (qg_name 5 sc_law_right.nd) (qss_scope (qss_cons (qs_par2 6 7 rfl sc_law_right.nd (qa_cons (qe_call c_waiting (hr.mono (by decide)) hgu (takes_of rfl rfl rfl rfl) rfl T.g_waiting T.F_waiting.kp T.b_waiting (qa_cons (qe_v 0) (qa_cons (qe_v 1) (qa_nil)))) (qa_cons (qe_callW c_mended_on (hr.mono (by decide)) hgu (takes_of rfl rfl rfl rfl) rfl T.g_mended_on T.F_mended_on.kp T.b_mended_on (qa_cons (qe_v 0) (qa_cons (qe_v 1) (qa_nil)))) (qa_nil)))) (qss_cons (qs_if (qt_of (qw_or (qt_cmp (op_neA hr.units) ok_neA (qe_v 6) (qe_v 2) rfl) (qw_or (qt_cmp (op_neA hr.units) ok_neA (qe_v 7) (qe_v 3) rfl) (qw_or1 (qt_not (qt_val (qe_isi rfl T.m_isinstance rfl T.m_list (by decide +kernel) (qe_v 7)))))))) (qss_one (qs_ret (qe_bl))) (qss_nil)) (qss_cons (qs_expr (qe_meth1 PySem.F.slot_list_append PySem.F.type_list_append mt_append ok_append (qe_v 6) (qe_int))) (qss_cons (qs_forget [8] (qs_pre [8] (qs_forO 1000 (passes_of rfl) rfl (qe_v 7) (qg_name 8 sc_law_right.nd) (qss_one (qs_forget [8] (qs_expr (qe_meth1 PySem.F.slot_list_append PySem.F.type_list_append mt_append ok_append (qe_v 8) (qe_int)))))))) (qss_one (qs_forget [5, 6, 7, 8] (qs_expr (qe_meth1 PySem.F.slot_list_append PySem.F.type_list_append mt_append ok_append (qe_v 7) (qe_lst (qa_nil)))))))))))))) (qss_cons (qs_if (qt_of (qw_or (qt_cmp (op_neA hr.units) ok_neA (qe_callK0 c_waiting (hr.mono (by decide)) hgu (takes_of rfl rfl rfl rfl) rfl T.g_waiting T.F_waiting.kp T.k_waiting_past_queue (qk_cons (qe_v 1) (qk_cons (qe_callTy (T := "") call_tuple_of (.of1 ok_tuple) rfl T.m_tuple (by decide +kernel) (qa_cons (qe_v 0) (qa_nil))) (qk_nil))) (gCons_len (gCons_len (fun _ _ _ _ h => gNil_len h)))) (qe_v 2) rfl) (qw_or1 (qt_cmp (op_neA hr.units) ok_neA (qe_callB (call_reprD hgu hr.units) (.of1 ok_repr) rfl T.m_repr (by decide +kernel) (qa_cons (qe_tup (qa_cons (qe_v 0) (qa_cons (qe_v 1) (qa_nil)))) (qa_nil))) (qe_v 4) rfl)))) (qss_one (qs_ret (qe_bl))) (qss_nil)) (qss_one (qs_ret (qe_cmp (op_eqA hr.units) ok_eqA (qe_callWK0 c_mended_on (hr.mono (by decide)) hgu (takes_of rfl rfl rfl rfl) rfl T.g_mended_on T.F_mended_on.kp T.k_mended_on_past_queue (qk_cons (qe_v 1) (qk_cons (qe_callTy (T := "") call_tuple_of (.of1 ok_tuple) rfl T.m_tuple (by decide +kernel) (qa_cons (qe_v 0) (qa_nil))) (qk_nil))) (gCons_len (gCons_len (fun _ _ _ _ h => gNil_len h)))) (qe_v 3) rfl))))))
set_option maxHeartbeats 4000000 in
theorem ok_law (T : Tx K mg A) : FnQ P w K mg base C 8 A.f_law A.fd_law ["_law_script"] F_law := by
  have c_law_cell_at := ok_law_cell_at (P := P) (w := w) (base := base) (C := C) T
  have c_law_over := ok_law_over (P := P) (w := w) (base := base) (C := C) T
  have c_law_past := ok_law_past (P := P) (w := w) (base := base) (C := C) T
  have c_law_queue := ok_law_queue (P := P) (w := w) (base := base) (C := C) T
  have c_law_right := ok_law_right (P := P) (w := w) (base := base) (C := C) T
  have c_law_source := ok_law_source (P := P) (w := w) (base := base) (C := C) T
  have c_law_take := ok_law_take (P := P) (w := w) (base := base) (C := C) T
  refine fq_of T.F_law sc_law fun cdv A' outer s H E hr hgu => ?_
  exact qss_cons (qs_forget [1, 2, 3, 4, 5, 6] (qs_pre [1, 2, 3, 4, 5, 6] (qs_for (passes_of rfl) rfl (qi_enum rfl T.m_enumerate (qe_bin op_addA ok_add (qe_lst (qa_cons (qe_call c_law_cell_at (hr.mono (by decide)) hgu (takes_of rfl rfl rfl rfl) rfl T.g_law_cell_at T.F_law_cell_at.kp T.b_law_cell_at (qa_cons (qe_v 0) (qa_cons (qe_int) (qa_nil)))) (qa_nil))) (qe_slice (qe_v 0) (qo_some (qe_int)) (qo_some (qe_int))))) (qg_tup rfl (qgs_cons (qg_name 1 sc_law.nd) (qgs_cons (qg_name 2 sc_law.nd) (qgs_nil))) (hlen := len_cons (len_cons (len_nil)))) (qss_scope (qss_cons (qs_asg (qe_call c_law_source (hr.mono (by decide)) hgu (takes_of rfl rfl rfl rfl) rfl T.g_law_source T.F_law_source.kp T.b_law_source (qa_cons (qe_v 2) (qa_nil))) (qg_name 3 sc_law.nd)) (qss_cons (qs_asg (qe_call c_law_queue (hr.mono (by decide)) hgu (takes_of rfl rfl rfl rfl) rfl T.g_law_queue T.F_law_queue.kp T.b_law_queue (qa_cons (qe_v 3) (qa_cons (qe_int) (qa_cons (qe_bin op_addA ok_add (qe_int) (qe_call c_law_take (hr.mono (by decide)) hgu (takes_of rfl rfl rfl rfl) rfl T.g_law_take T.F_law_take.kp T.b_law_take (qa_cons (qe_v 3) (qa_cons (qe_int) (qa_nil))))) (qa_nil))))) (qg_name 4 sc_law.nd)) (qss_cons (qs_if (qt_not (qt_val (qe_call c_law_right (hr.mono (by decide)) hgu (takes_of rfl rfl rfl rfl) rfl T.g_law_right T.F_law_right.kp T.b_law_right (qa_cons (qe_v 4) (qa_cons (qe_call c_law_past (hr.mono (by decide)) hgu (takes_of rfl rfl rfl rfl) rfl T.g_law_past T.F_law_past.kp T.b_law_past (qa_cons (qe_v 3) (qa_cons (qe_v 4) (qa_cons (qe_call c_law_take (hr.mono (by decide)) hgu (takes_of rfl rfl rfl rfl) rfl T.g_law_take T.F_law_take.kp T.b_law_take (qa_cons (qe_v 3) (qa_cons (qe_bin op_addA ok_add (qe_callB call_len (.of1 ok_len) rfl T.m_len (by decide +kernel) (qa_cons (qe_v 4) (qa_nil))) (qe_int)) (qa_nil)))) (qa_nil))))) (qa_nil)))))) (qss_one (qs_ret (qe_bl))) (qss_nil)) (qss_one (qs_forget [1, 2, 3, 4, 5, 6] (qs_if (qt_cmp (op_eqA hr.units) ok_eqA (qe_v 1) (qe_int) rfl) (qss_cons (qs_lc (i := 5) rfl sc_law.nd rfl rfl (sw_true rfl rfl rfl (by decide +kernel)) (qi_rng1 rfl T.m_range (qa_cons (qe_int) (qa_nil))) (blkOk_by (N := ["_law_script", "_law_k", "_law_cell", "_law_source_here", "_law_plan", "_law_wide", "_law_some", "_law_at"]) (sc := defScope s_law) (own := [("_law_at", 7)]) (by decide +kernel)) (fun _ _ _ _ _ => qg_name 7 sc_law.nd) (fun _ _ _ _ _ => qts_nil) (fun _ _ _ _ _ => qe_tup (qa_cons (qe_bin op_sub ok_sub (qe_int) (qe_call c_law_take (hr.mono (by decide)) hgu takes_no rfl T.g_law_take T.F_law_take.kp T.b_law_take (qa_cons (qe_v 3) (qa_cons (qe_int) (qa_nil))))) (qa_cons (qe_call c_law_take (hr.mono (by decide)) hgu takes_no rfl T.g_law_take T.F_law_take.kp T.b_law_take (qa_cons (qe_v 3) (qa_cons (qe_int) (qa_nil)))) (qa_nil))))) (qss_cons (qs_asg (qe_callTy (T := "") call_tuple_of (.of1 ok_tuple) rfl T.m_tuple (by decide +kernel) (qa_cons (qe_lc rfl sc_law.nd (qi_rng1 rfl T.m_range (qa_cons (qe_call c_law_take (hr.mono (by decide)) hgu (takes_of rfl rfl rfl rfl) rfl T.g_law_take T.F_law_take.kp T.b_law_take (qa_cons (qe_v 3) (qa_cons (qe_int) (qa_nil)))) (qa_nil))) (blkOk_by (N := ["_law_script", "_law_k", "_law_cell", "_law_source_here", "_law_plan", "_law_wide", "_law_some", "_law_at"]) (sc := defScope s_law) (own := [("_law_at", 7)]) (by decide +kernel)) (fun _ _ _ _ _ => qg_name 7 sc_law.nd) (fun _ _ _ _ _ => qts_nil) (fun _ _ _ _ _ => qe_call c_law_take (hr.mono (by decide)) hgu takes_no rfl T.g_law_take T.F_law_take.kp T.b_law_take (qa_cons (qe_v 3) (qa_cons (qe_int) (qa_nil))))) (qa_nil))) (qg_name 6 sc_law.nd)) (qss_one (qs_if (qt_of (qw_and (qt_cmp op_isN ok_isN (qe_call c_law_over (hr.mono (by decide)) hgu (takes_of rfl rfl rfl rfl) rfl T.g_law_over T.F_law_over.kp T.b_law_over (qa_cons (qe_v 5) (qa_cons (qe_v 6) (qa_nil)))) (qe_non) rfl) (qw_and1 (qt_not (qt_val (qe_call c_law_right (hr.mono (by decide)) hgu (takes_of rfl rfl rfl rfl) rfl T.g_law_right T.F_law_right.kp T.b_law_right (qa_cons (qe_v 5) (qa_cons (qe_v 6) (qa_nil))))))))) (qss_one (qs_ret (qe_bl))) (qss_nil))))) (qss_nil))))))))))) (qss_one (qs_ret (qe_bl)))
end
end My

set_option Elab.async false
set_option linter.all false
set_option maxRecDepth 100000
set_option maxHeartbeats 4000000
namespace My
open PySem PySem.Spec PyProof.Rows L2 Bk
/-! ### the law's draws, second kind -/
theorem fd_small {i j : Int} (h0 : 0 < j) (h : j < 2 ^ 62) : fdivOk i j = true := by
  have a : j.natAbs < 2 ^ 62 := by omega
  have b : j.natAbs.log2 < 62 := by
    by_cases z : j.natAbs = 0
    · omega
    · exact (Nat.log2_lt z).mpr a
  simp [fdivOk, h0]
  omega
def primeQ (n : Int) : Int := if n % 4 = 0 then 2147483629 else if n % 4 = 1 then 2147483587 else if n % 4 = 2 then 2147483579 else 2147483563
theorem primeQ_pos (n : Int) : 0 < primeQ n ∧ primeQ n ≤ 2147483629 := by
  unfold primeQ
  split
  · decide
  · split
    · decide
    · split <;> decide
theorem prime_ix (n : Int) : atI [D.int 2147483629, .int 2147483587, .int 2147483579, .int 2147483563] (n % 4) = some (.int (primeQ n)) := by
  have a := Int.emod_nonneg n (by decide : (4 : Int) ≠ 0)
  have b := Int.emod_lt_of_pos n (by decide : (0 : Int) < 4)
  unfold primeQ
  obtain h | h | h | h : n % 4 = 0 ∨ n % 4 = 1 ∨ n % 4 = 2 ∨ n % 4 = 3 := by omega
  · rw [h]; simp
  · rw [h]; simp
  · rw [h]; simp
  · rw [h]; simp
def mixQ (b c : Int) : Int :=
  let p := primeQ c
  let f := (b + 6007 * c + 29) ^ 3 % p
  let f := (f + c) * (f / 1021 + 50021) % p
  f * (f / 887 + 31 * c + 3) % p
/-- a source: what is left of the number, what is mixed, how often -/
abbrev Src3 := Int × Int × Int
def srcO (s : Src3) : MO := .lst [.int s.1, .int s.2.1, .int s.2.2]
@[simp] theorem srcO_bl (m : Nat) (s : Src3) : belowO m (srcO s) = true := rfl
def tk (s : Src3) (n : Int) : Int := if 0 < s.1 then s.1 % n else mixQ s.2.1 (s.2.2 + 1) / 13 % n
def tn (s : Src3) (n : Int) : Src3 := if 0 < s.1 then (s.1 / n, s.2.1, s.2.2) else (s.1, s.2.1, s.2.2 + 1)
/-- a source from which so many draws at most have been made -/
structure Sk (m : Nat) (s : Src3) : Prop where
  a : 0 ≤ s.2.1
  b : s.2.1 < 2147483647
  c : 0 ≤ s.2.2
  d : s.2.2 ≤ m
theorem Sk.step {m : Nat} {s : Src3} (h : Sk m s) (n : Int) : Sk (m + 1) (tn s n) := by
  obtain ⟨a, b, c, d⟩ := h
  unfold tn
  split
  · exact ⟨a, b, c, by simp only; omega⟩
  · exact ⟨a, b, by simp only; omega, by simp only; omega⟩
theorem Sk.mono {m k : Nat} {s : Src3} (h : Sk m s) (e : m ≤ k) : Sk k s := ⟨h.a, h.b, h.c, by have := h.d; omega⟩
theorem m_take {m : Nat} {s : Src3} (hs : Sk m s) (hm : m ≤ 1000000) {n : Int} (h0 : 0 < n) (dn : ∀ i, fdivOk i n = true) : F_law_take [.ref 0, .int n] [srcO s] = .ok (.int (tk s n)) [srcO (tn s n)] := by
  obtain ⟨p0, p1⟩ := primeQ_pos (s.2.2 + 1)
  obtain ⟨a, b, c, d⟩ := hs
  have d1 : ∀ x : Int, fdivOk x 1021 = true := fun x => fd_small (by decide) (by decide)
  have d2 : ∀ x : Int, fdivOk x 887 = true := fun x => fd_small (by decide) (by decide)
  have d3 : ∀ x : Int, fdivOk x 13 = true := fun x => fd_small (by decide) (by decide)
  have r1 : ∀ x : Int, mulOk 6007 x = true := fun x => mulOk_l x (by decide) (by decide)
  have r2 : ∀ x : Int, mulOk 31 x = true := fun x => mulOk_l x (by decide) (by decide)
  have r3 : ∀ x y : Int, mulOk (x % primeQ (s.2.2 + 1)) y = true := fun x y => mulOk_m x y p0 (by omega)
  have r4 : ∀ x : Int, mulOk (x % primeQ (s.2.2 + 1) + (s.2.2 + 1)) (x % primeQ (s.2.2 + 1) / 1021 + 50021) = true := fun x => by
    have q1 := Int.emod_nonneg x (by omega : primeQ (s.2.2 + 1) ≠ 0)
    have q2 := Int.emod_lt_of_pos x p0
    exact mulOk_l _ (by omega) (by omega)
  have pw : powOk (s.2.1 + 6007 * (s.2.2 + 1) + 29) 3 = true := by
    simp only [powOk, Bool.and_eq_true, decide_eq_true_eq]
    omega
  have ix := prime_ix (s.2.2 + 1)
  have t3 : (3 : Int).toNat = 3 := rfl
  simp only [tk, tn, mixQ]
  by_cases q : 0 < s.1
  · simp [F_law_take, b_law_take, runF, srcO, listD, setR, ixN, dn, h0, q]
  · simp [F_law_take, b_law_take, runF, srcO, listD, setR, ixN, dn, h0, q, e_mul, d1, d2, d3, r1, r2, r3, r4, pw, ix, p0, t3]
theorem tk_lo (s : Src3) {n : Int} (h : 0 < n) : 0 ≤ tk s n := by
  unfold tk
  split <;> exact Int.emod_nonneg _ (by omega)
theorem tk_hi (s : Src3) {n : Int} (h : 0 < n) : tk s n < n := by
  unfold tk
  split <;> exact Int.emod_lt_of_pos _ h
theorem t_0 {m : Nat} {s : Src3} (hs : Sk m s) (hm : m ≤ 1000000) (n : Int) (R : List MO) (h0 : 0 < n) (h : n < 4611686018427387904) : callF F_law_take [.ref 0, .int n] (srcO s :: R) = .ok (.int (tk s n)) (srcO (tn s n) :: R) := by
  have e : lentOk [srcO s] = true := rfl
  have e2 : ∀ t : Src3, belowO 0 (srcO t) = true := fun t => rfl
  have d : ∀ i, fdivOk i n = true := fun i => fd_small h0 (by omega)
  simp [callF, lendK, getAll, flatArgs, below, e, e2, lendA, m_take hs hm h0 d, backD, setAll]
def src0 (v : Int) : Src3 := (v * (if 1000000000000000000 ≤ v then 1 else 0), v % 2147483647, 0)
theorem src0_ok (v : Int) : Sk 0 (src0 v) := ⟨Int.emod_nonneg _ (by decide), Int.emod_lt_of_pos _ (by decide), Int.le_refl _, Int.le_refl _⟩
theorem m_source (v : Int) : F_law_source [.int v] [] = .ok (.ref 0) [srcO (src0 v)] := by
  have p : powOk 10 18 = true := by decide
  have e : (10 : Int) ^ (18 : Int).toNat = 1000000000000000000 := rfl
  have m0 : mulOk v 0 = true := mulOk_r v (by decide) (by decide)
  have m1 : mulOk v 1 = true := mulOk_r v (by decide) (by decide)
  unfold src0
  by_cases q : (1000000000000000000 : Int) ≤ v
  · simp [F_law_source, b_law_source, runF, p, e, q, e_mul, m1, srcO]
  · simp [F_law_source, b_law_source, runF, p, e, q, e_mul, m0, srcO]
theorem c_source (v : Int) (M : List MO) : callF F_law_source [.int v] M = .ok (.ref M.length) (M ++ [srcO (src0 v)]) := by
  simp [callF, lendK, getAll, flatArgs, below, lentOk, lendA, m_source, backD, setAll, srcO, belowO, belows]
end My

set_option Elab.async false
set_option linter.all false
set_option maxRecDepth 100000
set_option maxHeartbeats 4000000
namespace My
open PySem PySem.Spec PyProof.Rows L2 Bk
/-! ### numbers -/
theorem m_isint (i : Int) : F_is_integer [.int i] [] = .ok (.bl true) [] := by
  simp [F_is_integer, b_is_integer, runF]
theorem m_atleast (i lo : Int) : F_is_at_least [.int i, .int lo] [] = .ok (.bl (decide (lo ≤ i))) [] := by
  have c := fun M => c_flat (m_isint i) M (by simp) (by simp)
  simp [F_is_at_least, b_is_at_least, runF, c]
theorem m_between (i lo hi : Int) : F_is_between [.int i, .int lo, .int hi] [] = .ok (.bl (decide (lo ≤ i ∧ i ≤ hi))) [] := by
  have c := fun M => c_flat (m_isint i) M (by simp) (by simp)
  by_cases h : lo ≤ i
  · by_cases h' : i ≤ hi <;> simp [F_is_between, b_is_between, runF, c, h, h']
  · simp [F_is_between, b_is_between, runF, c, h]
theorem c_between (i lo hi : Int) (M : List MO) : callF F_is_between [.int i, .int lo, .int hi] M = .ok (.bl (decide (lo ≤ i ∧ i ≤ hi))) M := c_flat (m_between i lo hi) M (by simp) (by simp)
theorem c_atleast (i lo : Int) (M : List MO) : callF F_is_at_least [.int i, .int lo] M = .ok (.bl (decide (lo ≤ i))) M := c_flat (m_atleast i lo) M (by simp) (by simp)
end My

set_option Elab.async false
set_option linter.all false
set_option maxRecDepth 100000
set_option maxHeartbeats 4000000
namespace My
open PySem PySem.Spec PyProof.Rows L2 Bk
theorem backD_any {ks : List Nat} {n : Nat} {d : D} (h : below 0 d = true) : backD ks n d = some d := by
  cases d with
  | ref k => simp [below] at h
  | _ => simp [backD, h]
theorem c_lend1 {F : List D → List MO → Bk.R D} {ds : List D} {d : D} {o o' : MO} {k : Nat} {M : List MO} (h : F (.ref 0 :: ds) [o] = .ok d [o']) (hk : M[k]? = some o) (ho : isDead o = false) (hb : belowO 0 o = true) (hb' : belowO 0 o' = true) (ha : belows 0 ds = true) (hd : below 0 d = true) : callF F (.ref k :: ds) M = .ok d (M.set k o') := by
  have l1 := lendK_nil ha
  have l2 : lendA 1 ds = ds := lendA_nil ha
  have l3 := flatArgs_of ha
  simp [callF, lendK, l1, l2, l3, getAll, hk, flatArgs, lentOk, ho, hb, lendA, h, hb', backD_any hd, setAll]
theorem inR_i {i : Int} (h0 : 0 ≤ i) (h : i ≤ 100000) : Bk.inR i = true := inR_of (by omega) (by omega)
theorem big_i {i : Int} (h0 : 0 ≤ i) (h : i ≤ 100000) : -9223372036854775808 ≤ i ∧ i < 9223372036854775808 := ⟨by omega, by omega⟩
theorem cutD_from {ds : List D} {n : Nat} : Bk.cutD ds (some (n : Int)) none = ds.drop n := by
  unfold Bk.cutD
  rw [HT.sIx_none, HT.sIx_nat]
  by_cases h : n ≤ ds.length
  · rw [Nat.min_eq_left h, List.take_of_length_le (by simp)]
  · rw [Nat.min_eq_right (by omega), List.drop_eq_nil_of_le (by omega), List.drop_eq_nil_of_le (by omega)]
    simp
theorem intR_up : ∀ (n : Nat) (lo : Int), intR (lo + 1) n = (intR lo n).map (· + 1)
  | 0, _ => rfl
  | n + 1, lo => by simp [intR, intR_up n]
theorem intR_sorted : ∀ (n : Nat) (lo : Int), (intR lo n).Pairwise (· < ·)
  | 0, _ => .nil
  | n + 1, lo => List.pairwise_cons.mpr ⟨fun y hy => by have := mem_intR.mp hy; omega, intR_sorted n _⟩
theorem zip_take_long {α β : Type} : ∀ (a : List α) (b : List β) (k : Nat), b.length ≤ k → (a.take k).zip b = a.zip b
  | [], _, _, _ => by simp
  | _ :: _, [], _, _ => by simp
  | x :: a, y :: b, 0, h => by simp at h
  | x :: a, y :: b, k + 1, h => by simp [zip_take_long a b k (by simpa using h)]
theorem zip_take_in {α β : Type} : ∀ (a : List α) (b e : List β) (k : Nat), k ≤ b.length → (a.take k).zip (b ++ e) = (a.take k).zip b
  | _, _, _, 0, _ => by simp
  | [], _, _, _ + 1, _ => by simp
  | _ :: _, [], _, k + 1, h => by simp at h
  | x :: a, y :: b, e, k + 1, h => by simp [zip_take_in a b e k (by simpa using h)]
/-! ### one number more -/
theorem zip_snoc {α β : Type} : ∀ (a : List α) (b : List β) (k : β) (p : α), a[b.length]? = some p → a.zip (b ++ [k]) = a.zip b ++ [(p, k)]
  | [], b, k, p, h => by simp at h
  | x :: a, [], k, p, h => by
    have : x = p := by simpa using h
    subst this
    simp
  | x :: a, y :: b, k, p, h => by
    have := zip_snoc a b k p (by simpa using h)
    simp [this]
theorem take_zip1 {α β : Type} : ∀ (a : List α) (b : List β) (k : Nat), (a.zip b).take k = (a.take k).zip b
  | [], _, _ => by simp
  | _ :: _, [], _ => by simp
  | _ :: _, _ :: _, 0 => by simp
  | x :: a, y :: b, k + 1 => by simp [take_zip1 a b k]
theorem minI_le : ∀ {is : List Int}, is ≠ [] → minI is ∈ is ∧ ∀ y ∈ is, minI is ≤ y
  | [], h => absurd rfl h
  | [i], _ => ⟨by simp [minI], fun y hy => by
      have e : y = i := by simpa using hy
      rw [e]
      exact Int.le_refl i⟩
  | i :: j :: r, _ => by
    obtain ⟨h1, h2⟩ := minI_le (is := j :: r) (by simp)
    have e : minI (i :: j :: r) = if i ≤ minI (j :: r) then i else minI (j :: r) := rfl
    rw [e]
    split
    · rename_i q
      refine ⟨by simp, fun y hy => ?_⟩
      rcases List.mem_cons.mp hy with z | z
      · omega
      · have := h2 y z
        omega
    · rename_i q
      refine ⟨List.mem_cons_of_mem _ h1, fun y hy => ?_⟩
      rcases List.mem_cons.mp hy with z | z
      · omega
      · exact h2 y z
theorem ints_bl (f : Int → Int) (l : List Int) : belows 0 (l.map fun d => D.int (f d)) = true := by
  have := belows_ints 0 (l.map f)
  rw [List.map_map] at this
  exact this
end My

set_option Elab.async false
set_option linter.all false
set_option maxRecDepth 100000
set_option maxHeartbeats 4000000
namespace My
open PySem PySem.Spec PyProof.Rows L2 Bk
/-! ### queues: what waits -/
abbrev Que := List (Int × Int)
/-- an entry: owned, mended -/
structure OkN (p : Int × Int) : Prop where
  a : 0 ≤ p.1
  b : p.1 ≤ 12
  c : 0 ≤ p.2
  d : p.2 ≤ 12
structure OkQ (c : Que) : Prop where
  l : c.length ≤ 100
  v : ∀ p ∈ c, OkN p
def nth (ns : List Int) (i : Nat) : Int := ns.getD i 0
def max0 (x : Int) : Int := if 0 < x then x else 0
theorem max0_pos (x : Int) : 0 ≤ max0 x := by unfold max0; split <;> omega
/-- what waits in the mornings behind each day -/
def wl (ns : List Int) : Nat → Int → Que → List Int
  | _, _, [] => []
  | i, w, p :: r => max0 (w + nth ns i - p.2) :: wl ns (i + 1) (max0 (w + nth ns i - p.2)) r
def wend (ns : List Int) : Nat → Int → Que → Int
  | _, w, [] => w
  | i, w, p :: r => wend ns (i + 1) (max0 (w + nth ns i - p.2)) r
/-- the first day with too many -/
def qo (ns : List Int) : Nat → Int → Que → Option Int
  | _, _, [] => none
  | i, w, p :: r => if p.1 < w + nth ns i then some ((i : Int) + 1) else qo ns (i + 1) (max0 (w + nth ns i - p.2)) r
theorem wl_length (ns : List Int) : ∀ (r : Que) (i : Nat) (w : Int), (wl ns i w r).length = r.length
  | [], _, _ => rfl
  | p :: r, i, w => by simp [wl, wl_length ns r]
/-- what waits in the morning of each day -/
theorem wl_get (ns : List Int) : ∀ (r : Que) (i k : Nat) (w : Int), k ≤ r.length → (w :: wl ns i w r)[k]? = some (wend ns i w (r.take k))
  | r, i, 0, w, _ => by simp [wend]
  | [], i, k + 1, w, h => by simp at h
  | p :: r, i, k + 1, w, h => by
    have := wl_get ns r (i + 1) k (max0 (w + nth ns i - p.2)) (by simpa using h)
    simp only [List.getElem?_cons_succ, List.take_succ_cons, wend, wl]
    exact this
theorem qo_app (ns : List Int) : ∀ (a b : Que) (i : Nat) (w : Int), qo ns i w (a ++ b) = none ↔ qo ns i w a = none ∧ qo ns (i + a.length) (wend ns i w a) b = none
  | [], b, i, w => by simp [qo, wend]
  | p :: a, b, i, w => by
    rw [List.cons_append, qo, qo, wend]
    by_cases h : p.1 < w + nth ns i
    · rw [if_pos h, if_pos h]
      simp
    · rw [if_neg h, if_neg h, qo_app ns a b (i + 1)]
      have e : i + 1 + a.length = i + (p :: a).length := by simp; omega
      rw [e]
theorem qo_congr {ns ms : List Int} : ∀ (r : Que) (i : Nat) (w : Int), (∀ j, i ≤ j → j < i + r.length → nth ns j = nth ms j) → qo ns i w r = qo ms i w r ∧ wend ns i w r = wend ms i w r
  | [], _, _, _ => ⟨rfl, rfl⟩
  | p :: r, i, w, h => by
    have h0 := h i (Nat.le_refl _) (by simp)
    obtain ⟨a, b⟩ := qo_congr (ns := ns) (ms := ms) r (i + 1) (max0 (w + nth ns i - p.2)) fun j h1 h2 => h j (by omega) (by simp only [List.length_cons]; omega)
    simp only [qo, wend, h0]
    rw [h0] at a b
    exact ⟨by rw [a], b⟩
theorem nth_in {ns es : List Int} {j : Nat} (h : j < ns.length) : nth (ns ++ es) j = nth ns j := by
  unfold nth
  rw [List.getD_eq_getElem?_getD, List.getD_eq_getElem?_getD, List.getElem?_append_left h]
theorem nth_end {ns : List Int} {k : Int} : nth (ns ++ [k]) ns.length = k := by
  unfold nth
  rw [List.getD_eq_getElem?_getD]
  simp
theorem nth_off {ns : List Int} {j : Nat} (h : ns.length ≤ j) : nth ns j = 0 := by
  unfold nth
  rw [List.getD_eq_getElem?_getD, List.getElem?_eq_none h]
  rfl
theorem nth_pos {ns : List Int} (h : ∀ n ∈ ns, 0 ≤ n) (j : Nat) : 0 ≤ nth ns j := by
  unfold nth
  rw [List.getD_eq_getElem?_getD]
  cases hx : ns[j]? with
  | none => exact Int.le_refl _
  | some y => exact h y (List.mem_of_getElem? hx)
/-- the most that may wait or break on the first of these days -/
def top : Que → Int
  | [] => 12
  | p :: r => if top r + p.2 < p.1 then top r + p.2 else p.1
theorem top_in : ∀ {r : Que}, (∀ p ∈ r, OkN p) → 0 ≤ top r ∧ top r ≤ 12
  | [], _ => by simp [top]
  | p :: r, h => by
    have a := top_in (r := r) fun x hx => h x (by simp [hx])
    have b := h p (by simp)
    have b1 := b.a
    have b2 := b.b
    have b3 := b.c
    unfold top
    split <;> omega
/-- with nothing more, all goes well if at most top wait -/
theorem qo_zero {ns : List Int} : ∀ {r : Que} {i : Nat} {w : Int}, (∀ p ∈ r, OkN p) → ns.length ≤ i → 0 ≤ w → (qo ns i w r = none ↔ r = [] ∨ w ≤ top r)
  | [], i, w, _, _, _ => by simp [qo]
  | p :: r, i, w, h, hi, hw => by
    have b := h p (by simp)
    have b1 := b.a
    have b2 := b.b
    have b3 := b.c
    have hr : ∀ x ∈ r, OkN x := fun x hx => h x (by simp [hx])
    have t := top_in hr
    have z := nth_off hi
    have ih := qo_zero (ns := ns) (r := r) (i := i + 1) (w := max0 (w + nth ns i - p.2)) hr (by omega) (max0_pos _)
    rw [qo]
    have e : top (p :: r) = if top r + p.2 < p.1 then top r + p.2 else p.1 := rfl
    rw [e]
    by_cases g : p.1 < w + nth ns i
    · rw [if_pos g]
      constructor
      · intro q; cases q
      · intro q
        rcases q with q | q
        · cases q
        · split at q <;> omega
    · rw [if_neg g, ih]
      have m : max0 (w + nth ns i - p.2) ≤ top r ↔ w - p.2 ≤ top r := by
        unfold max0
        split <;> omega
      rw [m]
      constructor
      · intro q
        right
        rcases q with q | q
        · subst q
          have e0 : top ([] : Que) = 12 := rfl
          split <;> omega
        · split <;> omega
      · intro q
        rcases q with q | q
        · cases q
        · right
          split at q <;> omega
/-- numbers that may have been -/
structure OkR (c : Que) (ns : List Int) : Prop where
  l : ns.length ≤ c.length
  p : ∀ n ∈ ns, 0 ≤ n
  f : qo ns 0 0 c = none
/-- what waits behind a past -/
def wt (c : Que) (ns : List Int) : Int := wend ns 0 0 (c.take ns.length)
theorem wend_pos (ns : List Int) : ∀ (r : Que) (i : Nat) (w : Int), 0 ≤ w → 0 ≤ wend ns i w r
  | [], _, _, h => h
  | p :: r, i, w, h => wend_pos ns r _ _ (max0_pos _)
theorem wt_pos (c : Que) (ns : List Int) : 0 ≤ wt c ns := wend_pos _ _ _ _ (Int.le_refl _)
/-- how many may follow -/
def gnq (c : Que) (ns : List Int) : Int := top (c.drop ns.length) - wt c ns
theorem qo_snoc {c : Que} {ns : List Int} (hc : OkQ c) (h : OkR c ns) (hl : ns.length < c.length) {k : Int} (h0 : 0 ≤ k) : qo (ns ++ [k]) 0 0 c = none ↔ k ≤ gnq c ns := by
  have hn := h.f
  have q1 : ∀ m : List Int, qo m 0 0 c = qo m 0 0 (c.take ns.length ++ c.drop ns.length) := fun m => by rw [List.take_append_drop]
  rw [q1] at hn ⊢
  rw [qo_app] at hn ⊢
  have tl : (c.take ns.length).length = ns.length := by rw [List.length_take]; omega
  obtain ⟨e1, e2⟩ := qo_congr (ns := ns ++ [k]) (ms := ns) (c.take ns.length) 0 0 fun j _ hj => nth_in (by omega)
  rw [e1, e2, tl, Nat.zero_add]
  obtain ⟨p, r, hd⟩ : ∃ p r, c.drop ns.length = p :: r := ⟨c[ns.length], c.drop (ns.length + 1), List.drop_eq_getElem_cons hl⟩
  have vp : OkN p := hc.v p (List.mem_of_mem_drop (by rw [hd]; simp))
  have vr : ∀ x ∈ r, OkN x := fun x hx => hc.v x (List.mem_of_mem_drop (i := ns.length) (by rw [hd]; simp [hx]))
  have w0 := wt_pos c ns
  have wd : wend ns 0 0 (c.take ns.length) = wt c ns := rfl
  have gd : gnq c ns = top (p :: r) - wt c ns := by unfold gnq; rw [hd]
  have t := top_in vr
  rw [wd, hd, gd, qo, nth_end]
  have et : top (p :: r) = if top r + p.2 < p.1 then top r + p.2 else p.1 := rfl
  rw [et]
  have b1 := vp.a
  have b2 := vp.b
  have b3 := vp.c
  by_cases g : p.1 < wt c ns + k
  · rw [if_pos g]
    constructor
    · intro q; cases q.2
    · intro q; split at q <;> omega
  · rw [if_neg g, qo_zero (r := r) vr (by simp) (max0_pos _)]
    have m : max0 (wt c ns + k - p.2) ≤ top r ↔ wt c ns + k - p.2 ≤ top r := by
      unfold max0
      split <;> omega
    rw [m]
    constructor
    · rintro ⟨_, q⟩
      rcases q with q | q
      · subst q
        have e0 : top ([] : Que) = 12 := rfl
        split <;> omega
      · split <;> omega
    · intro q
      refine ⟨hn.1, .inr ?_⟩
      split at q <;> omega
theorem gnq_pos {c : Que} {ns : List Int} (hc : OkQ c) (h : OkR c ns) (hl : ns.length < c.length) : 0 ≤ gnq c ns := by
  refine (qo_snoc hc h hl (Int.le_refl 0)).mp ?_
  have : ∀ j, nth (ns ++ [0]) j = nth ns j := fun j => by
    by_cases q : j < ns.length
    · exact nth_in q
    · by_cases e : j = ns.length
      · rw [e, nth_end, nth_off (Nat.le_refl _)]
      · rw [nth_off (by simp; omega), nth_off (by omega)]
  rw [(qo_congr (ns := ns ++ [0]) (ms := ns) c 0 0 fun j _ _ => this j).1]
  exact h.f
theorem gnq_le {c : Que} {ns : List Int} (hc : OkQ c) : gnq c ns ≤ 12 := by
  have a := wt_pos c ns
  have b := top_in (r := c.drop ns.length) fun x hx => hc.v x (List.mem_of_mem_drop hx)
  unfold gnq
  omega
theorem OkR.snoc {c : Que} {ns : List Int} (hc : OkQ c) (h : OkR c ns) (hl : ns.length < c.length) {k : Int} (h0 : 0 ≤ k) (hk : k ≤ gnq c ns) : OkR c (ns ++ [k]) :=
  ⟨by simp; omega, fun n hn => by
    rcases List.mem_append.mp hn with w | w
    · exact h.p n w
    · have e : n = k := by simpa using w
      rw [e]
      exact h0, (qo_snoc hc h hl h0).mpr hk⟩
end My

set_option Elab.async false
set_option linter.all false
set_option maxRecDepth 100000
set_option maxHeartbeats 4000000
namespace My
open PySem PySem.Spec PyProof.Rows L2 Bk
def optD : Option Int → D
  | none => .non
  | some r => .int r
@[simp] theorem optD_below (m : Nat) (o : Option Int) : below m (optD o) = true := by cases o <;> rfl
def optP : Option Int → PyData
  | none => .none
  | some r => .int r
theorem optD_dt (n : Nat) (o : Option Int) : Dt n (optD o) (optP o) := by
  cases o
  · exact .non n
  · exact .int n _
theorem optD_eqP (M : List MO) (a b : Option Int) : eqP M (optD a) (optD b) = some (decide (a = b)) := by
  rw [eqP_of (optD_dt 0 a) (optD_dt 0 b) (optD_dt 0 a).deref (optD_dt 0 b).deref (by decide) (by decide)]
  congr 1
  cases a with
  | none => cases b <;> simp [optP, PyData.eqv]
  | some a => cases b <;> simp [optP, PyData.eqv, Bool.beq_eq_decide_eq]
theorem optD_eq (M : List MO) (a b : Option Int) : dEqA M (optD a) (optD b) = some (.bl (decide (a = b))) := dEqA_p (optD_eqP M a b) (fun _ h => by cases a <;> cases h)
theorem optD_ne (M : List MO) (a b : Option Int) : dNeA M (optD a) (optD b) = some (.bl !(decide (a = b))) := dNeA_p (optD_eqP M a b) (fun _ h => by cases a <;> cases h)
theorem isN_opt (M : List MO) (o : Option Int) : dIsN M (optD o) .non = some (.bl (decide (o = none))) := by
  cases o with
  | none => simp [optD]
  | some i => simp [optD]
theorem notN_opt (M : List MO) (o : Option Int) : dNotN M (optD o) .non = some (.bl !(decide (o = none))) := by
  cases o with
  | none => simp [optD]
  | some i => simp [optD]
/-! ### queues -/
def entQ (p : Int × Int) : D := .tup [.int p.1, .int p.2]
def queD (t : Bool) (c : Que) : D := if t = true then .tup (c.map entQ) else .lst (c.map entQ)
def entQP (p : Int × Int) : PyData := .tuple [.int p.1, .int p.2]
theorem entQ_dt (n : Nat) (p : Int × Int) : Dt (n + 1) (entQ p) (entQP p) := Dts.tup (.cons (.int n p.1) (.cons (.int n _) (.nil n)))
theorem entsQ_dt (n : Nat) (c : Que) : Dts (n + 1) (c.map entQ) (c.map entQP) := .map _ fun p _ => entQ_dt n p
@[simp] theorem entsQ_below (m : Nat) (c : Que) : belows m (c.map entQ) = true := (entsQ_dt 0 c).belows
@[simp] theorem queD_below (m : Nat) (t : Bool) (c : Que) : below m (queD t c) = true := by cases t <;> simp [queD]
@[simp] theorem queD_items (M : List MO) (t : Bool) (c : Que) : itemsD M (queD t c) = some (c.map entQ) := by cases t <;> rfl
@[simp] theorem queD_seq (t : Bool) (c : Que) : seqD (queD t c) = some (c.map entQ) := by cases t <;> rfl
@[simp] theorem queD_len (M : List MO) (t : Bool) (c : Que) : dLen M (queD t c) = some (.int c.length) := by cases t <;> simp [queD]
@[simp] theorem queD_isi (M : List MO) (t : Bool) (c : Que) : dIsiT ["list", "tuple"] M (queD t c) = some (.bl true) := by cases t <;> rfl
theorem m_nums (ns : List Int) (hl : ns.length ≤ 1000) (h : ∀ n ∈ ns, 0 ≤ n) : F_are_numbers [.tup (ns.map D.int)] [] = .ok (.bl true) [] := by
  have key := lcL_map (gg := gTo 1) (ge := le_are_numbers_1) (Γ := [some (.tup (ns.map D.int)), none]) (M := []) (f := fun _ => .bl true) (ns.map D.int) [] (by rw [List.length_map]; exact Nat.le_trans (by simpa using hl) (by decide)) fun d hd => by
    obtain ⟨i, hi, rfl⟩ := List.mem_map.mp hd
    exact ⟨_, rfl, by simp [le_are_numbers_1, c_atleast, h i hi]⟩
  have e : (ns.map D.int).map (fun _ => D.bl true) = (ns.map fun _ => true).map D.bl := by simp
  have q : ((ns.map fun _ => true).all id) = true := by simp
  rw [e, List.nil_append] at key
  simp [F_are_numbers, b_are_numbers, runF, key, dAll, ofBls, blsD_map, -List.map_map]
theorem m_night {p : Int × Int} (h : OkN p) : F_is_night [entQ p] [] = .ok (.bl true) [] := by
  simp [F_is_night, b_is_night, runF, entQ, c_between, h.a, h.b, h.c, h.d]
theorem m_reqq (t : Bool) {c : Que} (h : OkQ c) : F_require_queue [queD t c] [] = .ok .non [] := by
  have key : ∀ (post : Que) (n : Int), (∀ p ∈ post, OkN p) →
      gForL (gToT (gToCons (gTo 1) (gToCons (gTo 2) (gToNil)))) lb_require_queue_1 (enumL n (post.map entQ)) [some (queD t c), none, none] [] = .nx [some (queD t c), none, none] [] := by
    intro post
    induction post with
    | nil => intro n _; simp [enumL]
    | cons p post ih =>
      intro n hp
      have cd := c_flat (m_night (hp p (by simp))) [] (by simp [(entQ_dt 0 p).below]) (by simp)
      rw [List.map_cons, enumL]
      refine (forL_cons (Γ1 := [some (queD t c), some (.int n), some (entQ p)]) (by simp) ?_).trans (ih (n + 1) fun x hx => hp x (by simp [hx]))
      simp [lb_require_queue_1, cd]
  have k := key c 0 h.v
  have z : ¬ (100 : Int) < c.length := by have := h.l; omega
  simp [F_require_queue, b_require_queue, runF, z, k]
theorem c_reqq (t : Bool) {c : Que} (h : OkQ c) (M : List MO) : callF F_require_queue [queD t c] M = .ok .non M := c_flat (m_reqq t h) M (by simp) (by simp)
theorem atI_last (ds : List D) (d : D) : atI (ds ++ [d]) (-1) = some d := by
  have e : ixN (ds ++ [d]).length (-1) = some ds.length := by
    simp [ixN]
    omega
  unfold atI
  rw [e]
  simp
theorem nth_ix (M : List MO) (ns : List Int) (i : Nat) (h : i < ns.length) : dIx M (.tup (ns.map D.int)) (.int i) = some (.int (nth ns i)) := by
  have e : ns.getD i 0 = ns[i] := by simp [h]
  simp [Bk.atI_nat, h, nth]
theorem m_wm (t : Bool) {c : Que} (ns : List Int) (hl : c.length ≤ 100) : F_waiting_mornings [queD t c, .tup (ns.map D.int)] [] = .ok (.lst ((0 :: wl ns 0 0 c).map D.int)) [] := by
  have sz : 2000 ≤ sizeLine := by rw [sizeLine_eq]; omega
  have key : ∀ (post : Que) (i : Nat) (acc : List Int) (w : Int), acc.length + post.length ≤ 200 →
      gForL (gToT (gToCons (gTo 3) (gToCons (gToT (gToCons (gTo 4) (gToCons (gTo 5) (gToNil)))) (gToNil)))) lb_waiting_mornings_1 (enumL (i : Int) (post.map entQ)) [some (queD t c), some (.tup (ns.map D.int)), some (.ref 0), none, none, none, none] [.lst ((acc ++ [w]).map D.int)]
      = .nx [some (queD t c), some (.tup (ns.map D.int)), some (.ref 0), none, none, none, none] [.lst ((acc ++ w :: wl ns i w post).map D.int)] := by
    intro post
    induction post with
    | nil => intro i acc w _; simp [enumL, wl]
    | cons p post ih =>
      intro i acc w hq
      obtain ⟨o, m⟩ := p
      simp only [List.length_cons] at hq
      have e2 := ih (i + 1) (acc ++ [w]) (max0 (w + nth ns i - m)) (by simp; omega)
      have e3 : ((i + 1 : Nat) : Int) = (i : Int) + 1 := by omega
      rw [e3] at e2
      have q : acc.length + 1 < sizeLine := by omega
      rw [List.map_cons, enumL]
      refine (forL_cons (Γ1 := [some (queD t c), some (.tup (ns.map D.int)), some (.ref 0), some (.int i), some (.int o), some (.int m), none]) (by simp [entQ]) ?_).trans (e2.trans (by simp [wl]))
      have la := atI_last (acc.map D.int) (.int w)
      have lx : ∀ R, dIx (.lst (acc.map D.int ++ [.int w]) :: R) (.ref 0) (.int (-1)) = some (.int w) := fun R => by
        rw [e_ix]
        simp [listD, la]
      by_cases h : i < ns.length
      · have h' : (i : Int) < ns.length := by omega
        have ix := nth_ix [.lst (acc.map D.int ++ [.int w])] ns i h
        simp [-e_ix, lb_waiting_mornings_1, h', ix, lx, listD, mutR, q, max0]
      · have h' : ¬ (i : Int) < ns.length := by omega
        have z : nth ns i = 0 := nth_off (by omega)
        simp [-e_ix, lb_waiting_mornings_1, h', lx, listD, mutR, q, max0, z]
  have k := key c 0 [] 0 (by simp; omega)
  have k0 : gForL _ _ (enumL 0 (c.map entQ)) _ [.lst [.int 0]] = _ := k
  have b := belows_ints 0 (0 :: wl ns 0 0 c)
  simp only [List.nil_append, List.map_cons] at k0 b
  simp [F_waiting_mornings, b_waiting_mornings, runF, k0]
theorem c_wm (t : Bool) {c : Que} (ns : List Int) (hl : c.length ≤ 100) (M : List MO) : callF F_waiting_mornings [queD t c, .tup (ns.map D.int)] M = .ok (.lst ((0 :: wl ns 0 0 c).map D.int)) M := c_flat (m_wm t ns hl) M (by simp) (by simpa using belows_ints 0 (wl ns 0 0 c))
/-- what waits in the mornings of the days -/
def ws (ns : List Int) : Nat → Int → Que → List Int
  | _, _, [] => []
  | i, w, p :: r => w :: ws ns (i + 1) (max0 (w + nth ns i - p.2)) r
theorem ws_end (ns : List Int) : ∀ (r : Que) (i : Nat) (w : Int), w :: wl ns i w r = ws ns i w r ++ [wend ns i w r]
  | [], _, _ => rfl
  | p :: r, i, w => by
    have := ws_end ns r (i + 1) (max0 (w + nth ns i - p.2))
    simp only [wl, ws, wend, List.cons_append]
    rw [this]
theorem cutD_most (ds : List D) (α : D) : Bk.cutD (ds ++ [α]) none (some (-1)) = ds := by
  have e : Bk.cutD (ds ++ [α]) none (some (-1)) = Bk.cutD (ds ++ [α]) none (some (ds.length : Int)) := by
    unfold Bk.cutD
    congr 2
    simp [HT.sIx]
    rw [if_neg (by omega)]
    omega
  rw [e, cutD_upto]
  simp
theorem que_ix (M : List MO) (t : Bool) (c : Que) (i : Nat) (p : Int × Int) (h : c[i]? = some p) : dIx M (queD t c) (.int i) = some (entQ p) := by
  simp [Bk.atI_nat, h]
theorem m_qover (t : Bool) {c : Que} (ns : List Int) (hl : c.length ≤ 100) : F_queue_over [queD t c, .tup (ns.map D.int)] [] = .ok (optD (qo ns 0 0 c)) [] := by
  have key : ∀ (r : Que) (i : Nat) (w : Int), c.drop i = r →
      gForL (gToT (gToCons (gTo 2) (gToCons (gTo 3) (gToNil)))) lb_queue_over_1 (enumL (i : Int) ((ws ns i w r).map D.int)) [some (queD t c), some (.tup (ns.map D.int)), none, none, none] []
      = match qo ns i w r with
        | none => .nx [some (queD t c), some (.tup (ns.map D.int)), none, none, none] []
        | some d => .rt (.int d) [] := by
    intro r
    induction r with
    | nil => intro i w _; simp [enumL, ws, qo]
    | cons p r ih =>
      intro i w h
      have li : i < c.length := by
        rcases Nat.lt_or_ge i c.length with z | z
        · exact z
        · rw [List.drop_eq_nil_of_le z] at h; cases h
      have h' := h
      rw [List.drop_eq_getElem_cons li] at h'
      simp only [List.cons.injEq] at h'
      have e2 := ih (i + 1) (max0 (w + nth ns i - p.2)) h'.2
      have e3 : ((i + 1 : Nat) : Int) = (i : Int) + 1 := by omega
      rw [e3] at e2
      have ix := que_ix [] t c i p (by rw [List.getElem?_eq_getElem li, h'.1])
      have ix0 : ∀ (a b : D), dIx [] (.tup [a, b]) (.int 0) = some a := fun _ _ => rfl
      obtain ⟨o, m⟩ := p
      rw [ws, List.map_cons, enumL, qo]
      by_cases g : i < ns.length
      · have g' : (i : Int) < ns.length := by omega
        have nx := nth_ix [] ns i g
        by_cases z : o < w + nth ns i
        · simp [-e_ix, lb_queue_over_1, g', nx, ix, ix0, entQ, z]
        · simp [-e_ix, lb_queue_over_1, g', nx, ix, ix0, entQ, z]
          simpa [lb_queue_over_1] using e2
      · have g' : ¬ (i : Int) < ns.length := by omega
        have nz : nth ns i = 0 := nth_off (by omega)
        by_cases z : o < w + nth ns i
        · simp only [nz, Int.add_zero] at z
          simp [-e_ix, lb_queue_over_1, g', ix, ix0, entQ, z, nz]
        · have z' := z
          simp only [nz, Int.add_zero] at z'
          simp [-e_ix, lb_queue_over_1, g', ix, ix0, entQ, z', nz]
          rw [nz] at e2
          simpa [lb_queue_over_1] using e2
  have k := key c 0 0 rfl
  have cw := c_wm t ns hl []
  have wsE := ws_end ns c 0 0
  have cut : ∀ M, dCut M none (some (-1)) (.lst ((0 :: wl ns 0 0 c).map D.int)) = some (.lst ((ws ns 0 0 c).map D.int)) := fun M => by
    rw [wsE, List.map_append, List.map_cons, List.map_nil]
    simp only [dCut, listD, Option.map_some, cutD_most]
  have k0 : gForL (gToT (gToCons (gTo 2) (gToCons (gTo 3) (gToNil)))) lb_queue_over_1 (enumL 0 ((ws ns 0 0 c).map D.int)) [some (queD t c), some (.tup (ns.map D.int)), none, none, none] [] = _ := k
  simp only [List.map_cons] at cw cut
  cases e : qo ns 0 0 c with
  | none =>
    rw [e] at k0
    simp [F_queue_over, b_queue_over, runF, cw, cut, k0, optD]
  | some d =>
    rw [e] at k0
    simp [F_queue_over, b_queue_over, runF, cw, cut, k0, optD]
theorem c_qover (t : Bool) {c : Que} (ns : List Int) (hl : c.length ≤ 100) (M : List MO) : callF F_queue_over [queD t c, .tup (ns.map D.int)] M = .ok (optD (qo ns 0 0 c)) M := c_flat (m_qover t ns hl) M (by simp) (by simp)
theorem m_reqp (t : Bool) {c : Que} {ns : List Int} (hc : OkQ c) (h : OkR c ns) : F_require_queue_past [queD t c, .tup (ns.map D.int)] [] = .ok .non [] := by
  have c1 := c_flat (m_nums ns (by have := h.l; have := hc.l; omega) h.p) [] (by simp) (by simp)
  have z : ¬ (c.length : Int) < ns.length := by have := h.l; omega
  simp [F_require_queue_past, b_require_queue_past, runF, c1, z, c_qover t ns hc.l, h.f, optD]
theorem c_reqp (t : Bool) {c : Que} {ns : List Int} (hc : OkQ c) (h : OkR c ns) (M : List MO) : callF F_require_queue_past [queD t c, .tup (ns.map D.int)] M = .ok .non M := c_flat (m_reqp t hc h) M (by simp) (by simp)
end My

set_option Elab.async false
set_option linter.all false
set_option maxRecDepth 100000
set_option maxHeartbeats 4000000
namespace My
open PySem PySem.Spec PyProof.Rows L2 Bk
/-! ### the law's own look -/
theorem m_lover (c : Que) (ns : List Int) : F_law_over [queD false c, .tup (ns.map D.int)] [] = .ok (optD (qo ns 0 0 c)) [] := by
  have key : ∀ (r : Que) (i : Nat) (w : Int),
      (∃ x, gForL (gToT (gToCons (gTo 3) (gToCons (gToT (gToCons (gTo 4) (gToCons (gTo 5) (gToNil)))) (gToNil)))) lb_law_over_1 (enumL (i : Int) (r.map entQ)) [some (queD false c), some (.tup (ns.map D.int)), some (.int w), none, none, none, none] []
      = .nx [some (queD false c), some (.tup (ns.map D.int)), some (.int x), none, none, none, none] [] ∧ qo ns i w r = none) ∨
      ∃ d, gForL (gToT (gToCons (gTo 3) (gToCons (gToT (gToCons (gTo 4) (gToCons (gTo 5) (gToNil)))) (gToNil)))) lb_law_over_1 (enumL (i : Int) (r.map entQ)) [some (queD false c), some (.tup (ns.map D.int)), some (.int w), none, none, none, none] [] = .rt (.int d) [] ∧ qo ns i w r = some d := by
    intro r
    induction r with
    | nil => intro i w; exact .inl ⟨w, by simp [enumL], rfl⟩
    | cons p r ih =>
      intro i w
      obtain ⟨o, m⟩ := p
      have e2 := ih (i + 1) (max0 (w + nth ns i - m))
      have e3 : ((i + 1 : Nat) : Int) = (i : Int) + 1 := by omega
      rw [e3] at e2
      rw [List.map_cons, enumL, qo]
      have st : ∀ (z : ¬ o < w + nth ns i), lb_law_over_1 [some (queD false c), some (.tup (ns.map D.int)), some (.int w), some (.int i), some (.int o), some (.int m), none] [] = .nx [some (queD false c), some (.tup (ns.map D.int)), some (.int (max0 (w + nth ns i - m))), none, none, none, none] [] := fun z => by
        by_cases g : i < ns.length
        · have g' : (i : Int) < ns.length := by omega
          have nx := nth_ix [] ns i g
          simp [-e_ix, lb_law_over_1, g', nx, z, max0]
        · have g' : ¬ (i : Int) < ns.length := by omega
          have nz : nth ns i = 0 := nth_off (by omega)
          rw [nz] at z ⊢
          simp only [Int.add_zero] at z
          simp [-e_ix, lb_law_over_1, g', z, max0]
      have sb : ∀ (z : o < w + nth ns i), lb_law_over_1 [some (queD false c), some (.tup (ns.map D.int)), some (.int w), some (.int i), some (.int o), some (.int m), none] [] = .rt (.int ((i : Int) + 1)) [] := fun z => by
        by_cases g : i < ns.length
        · have g' : (i : Int) < ns.length := by omega
          have nx := nth_ix [] ns i g
          simp [-e_ix, lb_law_over_1, g', nx, z]
        · have g' : ¬ (i : Int) < ns.length := by omega
          have nz : nth ns i = 0 := nth_off (by omega)
          rw [nz] at z
          simp only [Int.add_zero] at z
          simp [-e_ix, lb_law_over_1, g', z]
      by_cases z : o < w + nth ns i
      · right
        refine ⟨(i : Int) + 1, ?_, by rw [if_pos z]⟩
        rw [u_gForLc]
        simp [entQ, sb z]
      · simp only [if_neg z]
        have s := forL_cons (gg := gToT (gToCons (gTo 3) (gToCons (gToT (gToCons (gTo 4) (gToCons (gTo 5) (gToNil)))) (gToNil)))) (b := lb_law_over_1) (d := .tup [.int i, entQ (o, m)]) (ds := enumL ((i : Int) + 1) (r.map entQ)) (Γ := [some (queD false c), some (.tup (ns.map D.int)), some (.int w), none, none, none, none]) (Γ1 := [some (queD false c), some (.tup (ns.map D.int)), some (.int w), some (.int i), some (.int o), some (.int m), none]) (by simp [entQ]) (st z)
        rw [s]
        exact e2
  have i0 : ((0 : Nat) : Int) = 0 := rfl
  rcases key c 0 0 with ⟨x, e, q⟩ | ⟨d, e, q⟩
  · rw [i0] at e
    rw [q]
    simp [F_law_over, b_law_over, runF, e, optD]
  · rw [i0] at e
    rw [q]
    simp [F_law_over, b_law_over, runF, e, optD]
theorem c_lover (c : Que) (ns : List Int) (M : List MO) : callF F_law_over [queD false c, .tup (ns.map D.int)] M = .ok (optD (qo ns 0 0 c)) M := c_flat (m_lover c ns) M (by simp) (by simp)
theorem tri_ix {a b c i : Int} (h0 : 0 ≤ i) (h3 : i < 3) : ∃ v : Int, atI [D.int a, .int b, .int c] i = some (.int v) ∧ (v = a ∨ v = b ∨ v = c) := by
  obtain rfl | rfl | rfl : i = 0 ∨ i = 1 ∨ i = 2 := by omega
  · exact ⟨a, by simp, by simp⟩
  · exact ⟨b, by simp, by simp⟩
  · exact ⟨c, by simp, by simp⟩
end My

set_option Elab.async false
set_option linter.all false
set_option maxRecDepth 100000
set_option maxHeartbeats 4000000
namespace My
open PySem PySem.Spec PyProof.Rows L2 Bk
theorem past_while {c : Que} (hc : OkQ c) {ns : List Int} (h : OkR c ns) (hl : ns.length < c.length) (a b d : D) (M : List MO) :
    gWhile lw_law_past_2 lb_law_past_2 1000000000 [some a, some (queD false c), some b, some (.tup (ns.map D.int)), some d, some (.int 0)] M = .nx [some a, some (queD false c), some b, some (.tup (ns.map D.int)), some d, some (.int (gnq c ns))] M := by
  have hcl := hc.l
  have g0 := gnq_pos hc h hl
  have g12 := gnq_le (ns := ns) hc
  have sz : 2000 ≤ sizeLine := by rw [sizeLine_eq]; omega
  have ad : ∀ k : Int, dAdd M (.tup (ns.map D.int)) (.tup [.int k]) = some (.tup ((ns ++ [k]).map D.int)) := fun k => by
    rw [e_addT, if_pos (by simp; omega)]
    simp
  have tst : ∀ k : Int, 0 ≤ k → lw_law_past_2 [some a, some (queD false c), some b, some (.tup (ns.map D.int)), some d, some (.int k)] M = .ok (decide (k + 1 ≤ gnq c ns)) M := fun k hk => by
    have e1 := ad (k + 1)
    have e2 := c_lover c (ns ++ [k + 1]) M
    have f := qo_snoc hc h hl (k := k + 1) (by omega)
    have iN := isN_opt M (qo (ns ++ [k + 1]) 0 0 c)
    have ed : decide (qo (ns ++ [k + 1]) 0 0 c = none) = decide (k + 1 ≤ gnq c ns) := by rw [decide_eq_decide]; exact f
    rw [ed] at iN
    simp only [List.map_append, List.map_cons, List.map_nil] at e1 e2
    simp [lw_law_past_2, -e_addT, e1, e2, iN]
  have key : ∀ (n : Nat) (k : Int), 0 ≤ k → k ≤ gnq c ns → gnq c ns - k < n →
      gWhile lw_law_past_2 lb_law_past_2 n [some a, some (queD false c), some b, some (.tup (ns.map D.int)), some d, some (.int k)] M = .nx [some a, some (queD false c), some b, some (.tup (ns.map D.int)), some d, some (.int (gnq c ns))] M := by
    intro n
    induction n with
    | zero => intro k _ _ _; omega
    | succ n ih =>
      intro k h0 h1 h2
      by_cases q : k + 1 ≤ gnq c ns
      · exact (while_go (M1 := M) (Γ2 := [some a, some (queD false c), some b, some (.tup (ns.map D.int)), some d, some (.int (k + 1))]) (M2 := M) (by rw [tst k h0]; simp [q]) (by simp [lb_law_past_2])).trans (ih (k + 1) (by omega) q (by omega))
      · refine (while_end (M1 := M) (by rw [tst k h0]; simp [q])).trans ?_
        have : k = gnq c ns := by omega
        rw [this]
  exact key 1000000000 0 (Int.le_refl _) g0 (by omega)
theorem past_loop {c : Que} (hc : OkQ c) (b : D) : ∀ (n i : Nat) (m : Nat) (ns : List Int) (s : Src3), Sk m s → m + 2 * n ≤ 1000000 → OkR c ns → ns.length + n ≤ c.length →
    ∃ (ns' : List Int) (s' : Src3), gForL (gTo 4) lb_law_past_1 (rngL (i : Int) n) [some (.ref 0), some (queD false c), some b, some (.tup (ns.map D.int)), none, none] [srcO s] = .nx [some (.ref 0), some (queD false c), some b, some (.tup (ns'.map D.int)), none, none] [srcO s'] ∧ OkR c ns' ∧ ns'.length = ns.length + n ∧ Sk (m + 2 * n) s' := by
  have hcl := hc.l
  have sz : 2000 ≤ sizeLine := by rw [sizeLine_eq]; omega
  intro n
  induction n with
  | zero => intro i m ns s hs _ h _; exact ⟨ns, s, by simp [rngL], h, rfl, hs⟩
  | succ n ih =>
    intro i m ns s hs hm h hl
    have hlt : ns.length < c.length := by omega
    have g0 := gnq_pos hc h hlt
    have g12 := gnq_le (ns := ns) hc
    have wh := fun a d M => past_while hc h hlt a b d M
    have t1 := fun R => t_0 hs (by omega) (gnq c ns + 1) R (by omega) (by omega)
    have hs1 := hs.step (gnq c ns + 1)
    have t2 := fun R => t_0 hs1 (by omega) 3 R (by decide) (by decide)
    have hs2 := hs1.step 3
    obtain ⟨v, ev, hv⟩ := tri_ix (a := 0) (b := gnq c ns) (c := tk s (gnq c ns + 1)) (i := tk (tn s (gnq c ns + 1)) 3) (tk_lo _ (by decide)) (tk_hi _ (by decide))
    have a1 := tk_lo s (n := gnq c ns + 1) (by omega)
    have a2 := tk_hi s (n := gnq c ns + 1) (by omega)
    have hsn : OkR c (ns ++ [v]) := OkR.snoc hc h hlt (by rcases hv with w | w | w <;> omega) (by rcases hv with w | w | w <;> omega)
    obtain ⟨ns', s', e', h', l', k'⟩ := ih (i + 1) (m + 1 + 1) (ns ++ [v]) (tn (tn s (gnq c ns + 1)) 3) hs2 (by omega) hsn (by simp; omega)
    have e3 : ((i + 1 : Nat) : Int) = (i : Int) + 1 := by omega
    rw [e3] at e'
    refine ⟨ns', s', ?_, h', by rw [l']; simp; omega, k'.mono (by omega)⟩
    have ad : ns.length + 1 ≤ sizeLine := by omega
    rw [rngL]
    refine (forL_cons (Γ1 := [some (.ref 0), some (queD false c), some b, some (.tup (ns.map D.int)), some (.int i), none]) (by simp) ?_).trans e'
    simp [lb_law_past_1, wh, t1, t2, ev, ad]
theorem m_lpast {c : Que} (hc : OkQ c) {n : Nat} (hn : n ≤ c.length) {m : Nat} {s : Src3} (hs : Sk m s) (hm : m ≤ 999000) : ∃ (ns : List Int) (s' : Src3), F_law_past [.ref 0, queD false c, .int n] [srcO s] = .ok (.tup (ns.map D.int)) [srcO s'] ∧ OkR c ns ∧ ns.length = n ∧ Sk (m + 200) s' := by
  have hcl := hc.l
  have z : OkR c [] := ⟨by simp, by simp, by
    have := qo_zero (ns := []) (r := c) (i := 0) (w := 0) hc.v (by simp) (Int.le_refl _)
    exact this.mpr (.inr (top_in hc.v).1)⟩
  obtain ⟨ns, s', e, h, l, k⟩ := past_loop hc (.int n) n 0 m [] s hs (by omega) z (by simp; omega)
  have e' : gForL (gTo 4) lb_law_past_1 (rngL 0 n) [some (.ref 0), some (queD false c), some (.int n), some (.tup []), none, none] [srcO s] = _ := e
  have i1 : Bk.inR (n : Int) = true := inR_i (by omega) (by omega)
  refine ⟨ns, s', ?_, h, by simpa using l, k.mono (by omega)⟩
  simp [F_law_past, b_law_past, runF, i1, e']
theorem c_lpast {c : Que} (hc : OkQ c) {n : Nat} (hn : n ≤ c.length) {m : Nat} {s : Src3} (hs : Sk m s) (hm : m ≤ 999000) (R : List MO) : ∃ (ns : List Int) (s' : Src3), callF F_law_past [.ref 0, queD false c, .int n] (srcO s :: R) = .ok (.tup (ns.map D.int)) (srcO s' :: R) ∧ OkR c ns ∧ ns.length = n ∧ Sk (m + 200) s' := by
  obtain ⟨ns, s', e, h⟩ := m_lpast hc hn hs hm
  exact ⟨ns, s', c_lend1 (k := 0) (M := srcO s :: R) e rfl rfl rfl rfl (by simp) (by simp), h⟩
end My

set_option Elab.async false
set_option linter.all false
set_option maxRecDepth 100000
set_option maxHeartbeats 4000000
namespace My
open PySem PySem.Spec PyProof.Rows L2 Bk
/-! ### the drawn queue -/
theorem queue_loop {most tp same : Int} (h0 : 0 ≤ tp) (h12 : tp ≤ 12) (hs0 : 0 ≤ same) (hs3 : same < 3) : ∀ (n i : Nat) (m : Nat) (acc : Que) (s : Src3), Sk m s → m + 4 * n ≤ 1000000 → acc.length + n ≤ 100 → (∀ p ∈ acc, OkN p) →
    ∃ (acc' : Que) (s' : Src3), gForL (gTo 5) lb_law_queue_1 (rngL (i : Int) n) [some (.ref 0), some (.int most), some (.int tp), some (.int same), some (.ref 1), none, none] [srcO s, .lst (acc.map entQ)]
      = .nx [some (.ref 0), some (.int most), some (.int tp), some (.int same), some (.ref 1), none, none] [srcO s', .lst (acc'.map entQ)] ∧ acc'.length = acc.length + n ∧ (∀ p ∈ acc', OkN p) ∧ Sk (m + 4 * n) s' := by
  have sz : 2000 ≤ sizeLine := by rw [sizeLine_eq]; omega
  intro n
  induction n with
  | zero => intro i m acc s hs _ _ h; exact ⟨acc, s, by simp [rngL], rfl, h, hs⟩
  | succ n ih =>
    intro i m acc s hs hm hq h
    have z1 : 0 < tp + 1 := by omega
    have z2 : tp + 1 < 4611686018427387904 := by omega
    have s1 := hs.step (tp + 1)
    have s2 := s1.step (tp + 1)
    have s3 := s2.step (tp + 1)
    have s4 := s3.step 3
    have t1 := fun R => t_0 hs (by omega) (tp + 1) R z1 z2
    have t2 := fun R => t_0 s1 (by omega) (tp + 1) R z1 z2
    have t3 := fun R => t_0 s2 (by omega) (tp + 1) R z1 z2
    have t4 := fun R => t_0 s3 (by omega) 3 R (by decide) (by decide)
    obtain ⟨v, ev, hv⟩ := tri_ix (a := tp) (b := tk s (tp + 1)) (c := tk (tn s (tp + 1)) (tp + 1)) hs0 hs3
    obtain ⟨u, eu, hu⟩ := tri_ix (a := 0) (b := 1) (c := tk (tn (tn s (tp + 1)) (tp + 1)) (tp + 1)) (i := tk (tn (tn (tn s (tp + 1)) (tp + 1)) (tp + 1)) 3) (tk_lo _ (by decide)) (tk_hi _ (by decide))
    have a1 := tk_lo s z1
    have a2 := tk_hi s z1
    have b1 := tk_lo (tn s (tp + 1)) z1
    have b2 := tk_hi (tn s (tp + 1)) z1
    have c1 := tk_lo (tn (tn s (tp + 1)) (tp + 1)) z1
    have c2 := tk_hi (tn (tn s (tp + 1)) (tp + 1)) z1
    have on : OkN (v, u) := ⟨by simp only; rcases hv with w | w | w <;> omega, by simp only; rcases hv with w | w | w <;> omega, by simp only; rcases hu with w | w | w <;> omega, by simp only; rcases hu with w | w | w <;> omega⟩
    obtain ⟨acc', s', e', l', f', k'⟩ := ih (i + 1) (m + 1 + 1 + 1 + 1) (acc ++ [(v, u)]) _ s4 (by omega) (by simp; omega) fun p hp => by
      rcases List.mem_append.mp hp with w | w
      · exact h p w
      · have : p = (v, u) := by simpa using w
        rw [this]
        exact on
    have e3 : ((i + 1 : Nat) : Int) = (i : Int) + 1 := by omega
    rw [e3] at e'
    have q : acc.length < sizeLine := by omega
    refine ⟨acc', s', ?_, by rw [l']; simp; omega, f', k'.mono (by omega)⟩
    rw [rngL]
    refine (forL_cons (Γ1 := [some (.ref 0), some (.int most), some (.int tp), some (.int same), some (.ref 1), some (.int i), none]) (by simp) ?_).trans e'
    simp [lb_law_queue_1, t1, t2, t3, t4, ev, eu, listD, mutR, q, entQ]
theorem m_lqueue {most tp : Int} (h0 : 0 ≤ tp) (h12 : tp ≤ 12) (m0 : 0 ≤ most) (m99 : most ≤ 99) {m : Nat} {s : Src3} (hs : Sk m s) (hm : m ≤ 999000) : ∃ (c : Que) (s' : Src3), F_law_queue [.ref 0, .int most, .int tp] [srcO s] = .ok (queD false c) [srcO s'] ∧ OkQ c ∧ (c.length : Int) ≤ most ∧ Sk (m + 402) s' := by
  have t1 := fun R => t_0 hs (by omega) 3 R (by decide) (by decide)
  have s1 := hs.step 3
  have z1 : 0 < most + 1 := by omega
  have t2 := fun R => t_0 s1 (by omega) (most + 1) R z1 (by omega)
  have s2 := s1.step (most + 1)
  have a1 := tk_lo (tn s 3) z1
  have a2 := tk_hi (tn s 3) z1
  obtain ⟨acc, s', e, l, f, k⟩ := queue_loop (most := most) h0 h12 (tk_lo s (by decide)) (tk_hi s (by decide)) (tk (tn s 3) (most + 1)).toNat 0 (m + 1 + 1) [] _ s2 (by omega) (by simp; omega) (by simp)
  have e' : gForL (gTo 5) lb_law_queue_1 (rngL 0 (tk (tn s 3) (most + 1)).toNat) _ [_, .lst []] = _ := e
  have i1 : Bk.inR (tk (tn s 3) (most + 1)) = true := inR_i (by omega) (by omega)
  simp only [List.length_nil, Nat.zero_add] at l
  refine ⟨acc, s', ?_, ⟨by omega, f⟩, by omega, k.mono (by omega)⟩
  simp [F_law_queue, b_law_queue, runF, t1, t2, i1, e', queD]
end My

set_option Elab.async false
set_option linter.all false
set_option maxRecDepth 100000
set_option maxHeartbeats 4000000
namespace My
open PySem PySem.Spec PyProof.Rows L2 Bk
/-! ### the line of pieces -/
/-- each of these sources gets a number more -/
def addR (v : Int) : List Nat → List (List Int) → List (List Int)
  | [], R => R
  | s :: ss, R => addR v ss (R.set s (R.getD s [] ++ [v]))
theorem addR_len (v : Int) : ∀ (ss : List Nat) (R : List (List Int)), (addR v ss R).length = R.length
  | [], R => rfl
  | s :: ss, R => by rw [addR, addR_len v ss]; simp
theorem getD_set {α : Type} (R : List α) (s t : Nat) (x z : α) : (R.set s x).getD t z = if s = t ∧ s < R.length then x else R.getD t z := by
  rw [List.getD_eq_getElem?_getD, List.getD_eq_getElem?_getD, List.getElem?_set]
  by_cases h : s = t
  · subst h
    by_cases h2 : s < R.length
    · simp [h2]
    · simp [h2]
  · simp [h]
theorem addR_bound (v : Int) {B : Nat} : ∀ (ss : List Nat) (R : List (List Int)), (∀ s, (R.getD s []).length ≤ B) → ∀ s, ((addR v ss R).getD s []).length ≤ B + ss.length
  | [], R, h, s => h s
  | t :: ss, R, h, s => by
    have := addR_bound v (B := B + 1) ss (R.set t (R.getD t [] ++ [v])) (fun s => by
      rw [getD_set]
      split
      · have := h t
        simp only [List.length_append, List.length_singleton]
        omega
      · have := h s
        omega) s
    rw [addR, List.length_cons]
    omega
/-- the line, and what is mended when, behind some days -/
def toL (ns : List Int) (i : Nat) (L : List Nat) : List Nat := L ++ List.replicate (nth ns i).toNat i
def lineR (ns : List Int) : Nat → List Nat → List (List Int) → Que → List Nat × List (List Int)
  | _, L, R, [] => (L, R)
  | i, L, R, p :: r => lineR ns (i + 1) ((toL ns i L).drop p.2.toNat) (addR ((i : Int) + 2) ((toL ns i L).take p.2.toNat) R) r
theorem lineR_len (ns : List Int) : ∀ (r : Que) (i : Nat) (L : List Nat) (R : List (List Int)), (lineR ns i L R r).2.length = R.length
  | [], _, _, _ => rfl
  | p :: r, i, L, R => by rw [lineR, lineR_len ns r, addR_len]
/-- the mornings -/
theorem line_step {ns : List Int} (h0 : ∀ n ∈ ns, 0 ≤ n) {p : Int × Int} (hp : OkN p) (i : Nat) (L : List Nat) : ((((toL ns i L).drop p.2.toNat).length : Nat) : Int) = max0 ((L.length : Int) + nth ns i - p.2) := by
  have a := nth_pos h0 i
  have b := hp.c
  unfold toL max0
  rw [List.length_drop, List.length_append, List.length_replicate]
  split <;> omega
theorem toL_in {ns : List Int} {i : Nat} {L : List Nat} (h : ∀ s ∈ L, s < ns.length) : ∀ s ∈ toL ns i L, s < ns.length := by
  intro s hs
  unfold toL at hs
  rcases List.mem_append.mp hs with z | z
  · exact h s z
  · obtain ⟨e, e2⟩ := List.mem_replicate.mp z
    subst e2
    by_cases c : s < ns.length
    · exact c
    · rw [nth_off (by omega)] at e
      exact absurd rfl e
/-- what a queue's day without fault says -/
theorem qo_day {ns : List Int} {i : Nat} {w : Int} {p : Int × Int} {r : Que} (h : qo ns i w (p :: r) = none) : w + nth ns i ≤ p.1 ∧ qo ns (i + 1) (max0 (w + nth ns i - p.2)) r = none := by
  rw [qo] at h
  split at h
  · cases h
  · exact ⟨by omega, h⟩
/-! ### lists within the store -/
abbrev cellR (l : List Int) : MO := .lst (l.map D.int)
def stR (pre : List MO) (R : List (List Int)) (T : List MO) : List MO := pre ++ (R.map cellR ++ T)
abbrev lnD (L : List Nat) : List D := L.map fun (s : Nat) => D.int (s : Int)
abbrev refs (k n : Nat) : List D := (List.range' k n).map D.ref
theorem stR_get (pre : List MO) (R : List (List Int)) (T : List MO) {s : Nat} (h : s < R.length) : (stR pre R T)[pre.length + s]? = some (.lst ((R.getD s []).map D.int)) := by
  unfold stR
  rw [List.getElem?_append_right (by omega), List.getElem?_append_left (by simp; omega)]
  simp [h]
theorem stR_set (pre : List MO) (R : List (List Int)) (T : List MO) {s : Nat} (h : s < R.length) (v : Int) : (stR pre R T).set (pre.length + s) (.lst ((R.getD s []).map D.int ++ [D.int v])) = stR pre (R.set s (R.getD s [] ++ [v])) T := by
  unfold stR
  rw [List.set_append_right _ _ (by omega), List.set_append_left _ _ (by simp; omega), Nat.add_sub_cancel_left, List.map_set]
  simp [cellR]
theorem refs_ix (M : List MO) {k n s : Nat} (h : s < n) : atI (refs k n) (s : Int) = some (.ref (k + s)) := by
  refine (Bk.atI_nat _ _).trans ?_
  rw [List.getElem?_map, List.getElem?_range' (by omega)]
  simp
theorem stR_len (pre : List MO) (R : List (List Int)) (T : List MO) : (stR pre R T).length = pre.length + R.length + T.length := by
  simp [stR]
  omega
theorem stR_tail (pre : List MO) (R : List (List Int)) (T : List MO) (j : Nat) : (stR pre R T)[pre.length + R.length + j]? = T[j]? := by
  unfold stR
  rw [List.getElem?_append_right (by omega), List.getElem?_append_right (by simp; omega)]
  congr 1
  simp
  omega
theorem stR_tailset (pre : List MO) (R : List (List Int)) (T : List MO) (j : Nat) (o : MO) : (stR pre R T).set (pre.length + R.length + j) o = stR pre R (T.set j o) := by
  unfold stR
  rw [List.set_append_right _ _ (by omega), List.set_append_right _ _ (by simp; omega)]
  congr 3
  simp
  omega
/-- the lists within a list of ours, read -/
theorem deref_refs (pre : List MO) (R : List (List Int)) (T : List MO) : (refs pre.length R.length).map (deref1 (stR pre R T)) = R.map fun l => D.lst (l.map D.int) := by
  apply List.ext_getElem?
  intro i
  by_cases h : i < R.length
  · rw [List.getElem?_map, List.getElem?_map, List.getElem?_range' h, List.getElem?_map, List.getElem?_eq_getElem h]
    have := stR_get pre R T h
    simp only [Option.map_some, Nat.one_mul, deref1, this]
    simp [h]
  · rw [List.getElem?_eq_none (by simp; omega), List.getElem?_eq_none (by simp; omega)]
end My

set_option Elab.async false
set_option linter.all false
set_option maxRecDepth 100000
set_option maxHeartbeats 8000000
namespace My
open PySem PySem.Spec PyProof.Rows L2 Bk
/-! ### the law's line -/
abbrev EL (q ns : D) (L : List Nat) (m rf : D) (v5 v6 v7 : Option D) : Bk.Env := [some q, some ns, some (.lst (lnD L)), some m, some rf, v5, v6, v7, none, none]
theorem ll_inner {q ns m : D} {n at_ : Nat} {v6 v7 : Option D} {T : List MO} {pre : List MO} : ∀ (k : Nat) (lo : Int) (B : Nat) (L : List Nat) (R : List (List Int)), (∀ s ∈ L, s < R.length) → (∀ s, (R.getD s []).length ≤ B) → B + k ≤ 1500 → R.length = n →
    gForL (gTo 8) lb_law_line_2 (rngL lo k) (EL q ns L m (.lst (refs pre.length n)) (some (.int (at_ : Nat))) v6 v7) (stR pre R T) = .nx (EL q ns (L.drop k) m (.lst (refs pre.length n)) (some (.int (at_ : Nat))) v6 v7) (stR pre (addR ((at_ : Int) + 2) (L.take k) R) T) := by
  have sz : 2000 ≤ sizeLine := by rw [sizeLine_eq]; omega
  intro k
  induction k with
  | zero => intro lo B L R _ _ _ _; simp [rngL, addR]
  | succ k ih =>
    intro lo B L R hL hB hk hn
    cases L with
    | nil =>
      have e := ih (lo + 1) B [] R (by simp) hB (by omega) hn
      rw [rngL]
      refine (forL_cons (Γ1 := [some q, some ns, some (.lst []), some m, some (.lst (refs pre.length n)), some (.int (at_ : Nat)), v6, v7, some (.int lo), none]) (by simp) ?_).trans (e.trans (by simp [addR]))
      have ne : ∀ M, dNeA M (.lst []) (.lst []) = some (.bl false) := fun M => by
        refine dNeA_p (x := .lst []) (b := true) ?_ (fun _ h => by cases h)
        exact eqP_same (Dts.nil 0).lst (Dt.deref (Dts.nil 0).lst) (Dt.deref (Dts.nil 0).lst) (by decide)
      simp [lb_law_line_2, ne]
    | cons s L =>
      have hs : s < R.length := hL s (by simp)
      have e := ih (lo + 1) (B + 1) L (R.set s (R.getD s [] ++ [(at_ : Int) + 2])) (fun t ht => by rw [List.length_set]; exact hL t (by simp [ht])) (fun t => by
        rw [getD_set]
        split
        · have := hB s
          simp only [List.length_append, List.length_singleton]
          omega
        · have := hB t
          omega) (by omega) (by rw [List.length_set]; exact hn)
      rw [rngL]
      refine (forL_cons (Γ1 := [some q, some ns, some (.lst (lnD (s :: L))), some m, some (.lst (refs pre.length n)), some (.int (at_ : Nat)), v6, v7, some (.int lo), none]) (by simp) ?_).trans (e.trans (by simp [addR]))
      have ne : ∀ M, dNeA M (.lst (lnD (s :: L))) (.lst []) = some (.bl true) := fun M => by
        refine dNeA_p (x := .lst (lnD (s :: L))) (b := false) ?_ (fun _ h => by cases h)
        have d1 : Dts 0 (lnD (s :: L)) ((s :: L).map fun (t : Nat) => PyData.int (t : Int)) := .map _ fun t _ => .int 0 _
        rw [eqP_of d1.lst (Dts.nil 0).lst (Dt.deref d1.lst) (Dt.deref (Dts.nil 0).lst) (by decide) (by decide)]
        rfl
      have i0 : ∀ M, dIx M (.lst (lnD (s :: L))) (.int 0) = some (.int (s : Nat)) := fun M => by
        rw [e_ix, itemsD_l, Option.bind_some]
        exact (Bk.atI_nat _ 0).trans rfl
      have i1 : ∀ M, dIx M (.lst (refs pre.length n)) (.int (s : Nat)) = some (.ref (pre.length + s)) := fun M => by
        rw [e_ix, itemsD_l, Option.bind_some]
        exact refs_ix M (by omega)
      have g1 := stR_get pre R T hs
      have g2 := stR_set pre R T hs ((at_ : Int) + 2)
      have ln : ((R.getD s []).map D.int).length < sizeLine := by
        have := hB s
        rw [List.length_map]
        omega
      have ct : ∀ M, dCut M (some 1) none (.lst (lnD (s :: L))) = some (.lst (lnD L)) := fun M => by
        have := cutD_from (ds := lnD (s :: L)) (n := 1)
        simp only [dCut, listD, Option.map_some]
        exact congrArg some (congrArg D.lst this)
      rw [← g2]
      generalize stR pre R T = MM at *
      generalize (R.getD s []).map D.int = OL at *
      generalize refs pre.length n = RF at *
      have e1 : EL q ns L m (.lst RF) (some (.int (at_ : Nat))) v6 v7 = [some q, some ns, some (.lst (lnD L)), some m, some (.lst RF), some (.int (at_ : Nat)), v6, v7, none, none] := rfl
      rw [e1]
      generalize lnD (s :: L) = AL at *
      generalize lnD L = BL at *
      simp [-e_ix, -e_lenL, lb_law_line_2, ne, i0, i1, listD, mutR, g1, ln, isListD, ct]
theorem ll_loop {q : D} {ns : List Int} (h0 : ∀ n ∈ ns, 0 ≤ n) (hn : ns.length ≤ 100) : ∀ (r : Que) (i : Nat) (L : List Nat) (R : List (List Int)) (acc : List Int), (∀ p ∈ r, OkN p) → (∀ s ∈ L, s < ns.length) → (∀ s, (R.getD s []).length ≤ 12 * i) → i + r.length ≤ 100 → R.length = ns.length → acc.length = i → qo ns i L.length r = none →
    gForL (gToT (gToCons (gTo 5) (gToCons (gToT (gToCons (gTo 6) (gToCons (gTo 7) (gToNil)))) (gToNil)))) lb_law_line_1 (enumL (i : Int) (r.map entQ)) (EL q (.tup (ns.map D.int)) L (.ref 0) (.lst (refs 1 ns.length)) none none none) (stR [.lst (acc.map D.int)] R [])
      = .nx (EL q (.tup (ns.map D.int)) (lineR ns i L R r).1 (.ref 0) (.lst (refs 1 ns.length)) none none none) (stR [.lst ((acc ++ My.ws ns i L.length r).map D.int)] (lineR ns i L R r).2 []) ∧ (((lineR ns i L R r).1.length : Nat) : Int) = wend ns i L.length r := by
  have sz : 2000 ≤ sizeLine := by rw [sizeLine_eq]; omega
  intro r
  induction r with
  | nil => intro i L R acc _ _ _ _ _ _ _; exact ⟨by simp [enumL, lineR, My.ws], rfl⟩
  | cons p r ih =>
    intro i L R acc hv hL hB hi hR ha hq
    obtain ⟨o, m⟩ := p
    have hp : OkN (o, m) := hv _ (by simp)
    have hpd := hp.d
    have hpb := hp.b
    have hpc := hp.c
    have hst := line_step h0 hp i L
    obtain ⟨q1, q2⟩ := qo_day hq
    simp only at q1 q2 hpd hpb hpc hst
    simp only [List.length_cons] at hi
    have hnn := nth_pos h0 i
    have tin := toL_in (i := i) hL
    have tl : (toL ns i L).length ≤ 12 := by
      unfold toL
      simp only [List.length_append, List.length_replicate]
      omega
    rw [← hst] at q2
    have lt : ((toL ns i L).take m.toNat).length ≤ 12 := by simp; omega
    obtain ⟨e, el⟩ := ih (i + 1) ((toL ns i L).drop m.toNat) (addR ((i : Int) + 2) ((toL ns i L).take m.toNat) R) (acc ++ [(L.length : Int)]) (fun p hp => hv p (by simp [hp])) (fun s hs => tin s (List.mem_of_mem_drop hs)) (fun s => by
      have := addR_bound ((i : Int) + 2) ((toL ns i L).take m.toNat) R hB s
      omega) (by omega) (by rw [addR_len]; exact hR) (by simp [ha]) q2
    have e3 : ((i + 1 : Nat) : Int) = (i : Int) + 1 := by omega
    rw [e3, hst] at e
    rw [hst] at el
    refine ⟨?_, by rw [lineR, wend]; exact el⟩
    rw [List.map_cons, enumL]
    refine (forL_cons (Γ1 := [some q, some (.tup (ns.map D.int)), some (.lst (lnD L)), some (.ref 0), some (.lst (refs 1 ns.length)), some (.int i), some (.int o), some (.int m), none, none]) (by simp [entQ]) ?_).trans (e.trans (by simp [My.ws, lineR]))
    have hin := ll_inner (q := q) (ns := .tup (ns.map D.int)) (m := .ref 0) (n := ns.length) (at_ := i) (v6 := some (.int o)) (v7 := some (.int m)) (T := []) (pre := [.lst ((acc ++ [(L.length : Int)]).map D.int)]) m.toNat 0 (12 * i) (toL ns i L) R (fun s hs => by rw [hR]; exact tin s hs) hB (by omega) hR
    rw [show ([MO.lst ((acc ++ [(L.length : Int)]).map D.int)] : List MO).length = 1 from rfl] at hin
    have st0 : (stR [.lst (acc.map D.int)] R [])[0]? = some (.lst (acc.map D.int)) := rfl
    have st1 : (stR [.lst (acc.map D.int)] R []).set 0 (.lst (acc.map D.int ++ [.int (L.length : Nat)])) = stR [.lst ((acc ++ [(L.length : Int)]).map D.int)] R [] := by
      simp [stR]
    have qa : (acc.map D.int).length < sizeLine := by rw [List.length_map]; omega
    have lL : ∀ M, dLen M (.lst (lnD L)) = some (.int (L.length : Nat)) := fun M => by simp
    have fl : (List.replicate (nth ns i).toNat [D.int (i : Nat)]).flatten = lnD (List.replicate (nth ns i).toNat i) := by simp
    have ad : ∀ M, dAdd M (.lst (lnD L)) (.lst (lnD (List.replicate (nth ns i).toNat i))) = some (.lst (lnD (toL ns i L))) := fun M => by
      rw [e_addL, if_pos (by simp; omega)]
      simp [toL]
    have mu : ∀ M, dMulT M (.lst [D.int (i : Nat)]) (.int (nth ns i)) = some (.lst (lnD (List.replicate (nth ns i).toNat i))) := fun M => by
      rw [e_mulTl, e_mulL _ _ _ (by omega) (by omega) (by simp; omega), fl]
    have rg : rng1 [.int m] = some (rngL 0 m.toNat) := by rw [u_rng1, if_pos (inR_i (by omega) (by omega))]
    unfold EL at hin ⊢
    by_cases h : i < ns.length
    · have h' : (i : Int) < ns.length := by omega
      have ix := fun M => nth_ix M ns i h
      have lN : ∀ M, dLen M (.tup (ns.map D.int)) = some (.int ns.length) := fun M => by simp
      generalize stR [.lst (acc.map D.int)] R [] = M0 at *
      generalize stR [.lst ((acc ++ [(L.length : Int)]).map D.int)] R [] = M1 at *
      generalize (stR [MO.lst ((acc ++ [(L.length : Int)]).map D.int)] (addR ((i : Int) + 2) ((toL ns i L).take m.toNat) R) []) = M2 at *
      generalize refs 1 ns.length = RF at *
      generalize lnD (List.replicate (nth ns i).toNat i) = EE at *
      generalize lnD L = AL at *
      generalize lnD (toL ns i L) = BL at *
      generalize lnD ((toL ns i L).drop m.toNat) = CL at *
      generalize acc.map D.int = AC at *
      generalize ns.map D.int = NS at *
      generalize L.length = ll at *
      simp [-e_ix, -e_lenL, -e_lenT, -e_mulTl, -e_addL, -u_rng1, lb_law_line_1, lL, lN, listD, mutR, isListD, st0, st1, qa, h', ix, mu, ad, rg, hin]
    · have h' : ¬ (i : Int) < ns.length := by omega
      have z : nth ns i = 0 := nth_off (by omega)
      have tz : toL ns i L = L := by unfold toL; rw [z]; simp
      have lN : ∀ M, dLen M (.tup (ns.map D.int)) = some (.int ns.length) := fun M => by simp
      rw [tz] at hin ⊢
      generalize stR [.lst (acc.map D.int)] R [] = M0 at *
      generalize stR [.lst ((acc ++ [(L.length : Int)]).map D.int)] R [] = M1 at *
      generalize (stR [MO.lst ((acc ++ [(L.length : Int)]).map D.int)] (addR ((i : Int) + 2) (L.take m.toNat) R) []) = M2 at *
      generalize refs 1 ns.length = RF at *
      generalize lnD L = AL at *
      generalize lnD (L.drop m.toNat) = CL at *
      generalize acc.map D.int = AC at *
      generalize ns.map D.int = NS at *
      generalize L.length = ll at *
      simp [-e_ix, -e_lenL, -e_lenT, -e_mulTl, -u_rng1, lb_law_line_1, lL, lN, listD, mutR, isListD, st0, st1, qa, h', rg, hin]
theorem ll_new {Γ : Bk.Env} {ge : GE} {v : Nat} (hge : ∀ (Γ1 : Bk.Env) (M : List MO), ge Γ1 M = .ok (.ref M.length) (M ++ [.lst []])) (hl : v < Γ.length) : ∀ (ns : List Int) (acc : List D) (M : List MO), acc.length + ns.length ≤ 1000 →
    gLcL (gTo v) gYes ge Γ (ns.map D.int) acc M = .ok (acc ++ refs M.length ns.length) (M ++ List.replicate ns.length (.lst []))
  | [], acc, M, _ => by simp [gLcL]
  | x :: ns, acc, M, h => by
    have sz : 2000 ≤ sizeLine := by rw [sizeLine_eq]; omega
    simp only [List.length_cons] at h
    have ih := ll_new hge hl ns (acc ++ [.ref M.length]) (M ++ [.lst []]) (by simp; omega)
    rw [List.map_cons]
    refine (lcL_cons (Γ1 := Γ.set v (some (.int x))) (y := .ref M.length) (M2 := M ++ [.lst []]) (by simp [gTo, hl]) (hge _ _) (by omega)).trans (ih.trans ?_)
    unfold refs
    rw [List.length_cons, List.range'_succ, List.replicate_succ]
    simp
theorem R0_len (n : Nat) (s : Nat) : ((List.replicate n ([] : List Int)).getD s []).length ≤ 0 := by
  rw [List.getD_eq_getElem?_getD, List.getElem?_replicate]
  split <;> simp
theorem R0_cells (n : Nat) : List.replicate n (MO.lst []) = (List.replicate n ([] : List Int)).map cellR := by simp
/-- what the law's line comes to -/
def morn (c : Que) (ns : List Int) : List Int := (0 :: wl ns 0 0 c).take (ns.length + 1)
def mend (c : Que) (ns : List Int) : List (List Int) := (lineR ns 0 [] (List.replicate ns.length []) c).2
def mendD (c : Que) (ns : List Int) : D := .lst ((mend c ns).map fun l => .lst (l.map D.int))
theorem mend_len (c : Que) (ns : List Int) : (mend c ns).length = ns.length := by rw [mend, lineR_len]; simp
theorem m_lline {c : Que} {ns : List Int} (hc : OkQ c) (h : OkR c ns) : F_law_line [queD false c, .tup (ns.map D.int)] [] = .ok (.tup [.lst ((morn c ns).map D.int), mendD c ns]) [] := by
  have sz : 2000 ≤ sizeLine := by rw [sizeLine_eq]; omega
  have hl := hc.l
  have hn := h.l
  have nw := ll_new (Γ := [some (queD false c), some (.tup (ns.map D.int)), none, none, none, none, none, none, none, none]) (ge := le_law_line_1) (v := 9) (fun Γ1 M => by simp [le_law_line_1]) (by simp) ns [] [.lst []] (by simp; omega)
  obtain ⟨lp, le⟩ := ll_loop (q := queD false c) h.p (by omega) c 0 [] (List.replicate ns.length []) [] hc.v (by simp) (fun s => R0_len _ _) (by omega) (by simp) rfl h.f
  have w0 := ws_end ns c 0 0
  rw [show ((([] : List Nat).length : Nat) : Int) = 0 from rfl] at lp
  have fz := frzI_cells ((mend c ns).map fun l => l.map D.int) [.lst ((My.ws ns 0 0 c).map D.int)]
  have ml := mend_len c ns
  rw [List.map_map, List.map_map, List.length_map, ml] at fz
  have le0 : (((lineR ns 0 [] (List.replicate ns.length []) c).1.length : Nat) : Int) = wend ns 0 0 c := le
  have mo : cutD ((My.ws ns 0 0 c).map D.int ++ [.int (wend ns 0 0 c)]) none (some ((ns.length : Int) + 1)) = (morn c ns).map D.int := by
    have e : (ns.length : Int) + 1 = ((ns.length + 1 : Nat) : Int) := by omega
    rw [e, cutD_upto, morn, w0, List.map_take]
    simp
  have qa : ((My.ws ns 0 0 c).map D.int).length < sizeLine := by
    have := congrArg List.length w0
    simp only [List.length_cons, wl_length, List.length_append, List.length_nil] at this
    rw [List.length_map]
    omega
  have s1 : [MO.lst []] ++ List.replicate ns.length (.lst []) = stR [.lst (([] : List Int).map D.int)] (List.replicate ns.length []) [] := by
    simp [stR, cellR]
  have s2 : stR [.lst (([] ++ My.ws ns 0 0 c).map D.int)] (lineR ns 0 [] (List.replicate ns.length []) c).2 [] = [MO.lst ((My.ws ns 0 0 c).map D.int)] ++ (mend c ns).map (MO.lst ∘ fun l => l.map D.int) := by
    simp only [stR, List.nil_append, List.append_nil, mend]
    rfl
  have lL : ∀ M, dLen M (.lst (lnD (lineR ns 0 [] (List.replicate ns.length []) c).1)) = some (.int (wend ns 0 0 c)) := fun M => by
    rw [e_lenL, List.length_map, le0]
  have lN : ∀ M, dLen M (.tup (ns.map D.int)) = some (.int ns.length) := fun M => by simp
  have en : seqD (queD false c) = some (c.map entQ) := rfl
  rw [s1, List.nil_append] at nw
  rw [s2] at lp
  have lp' : gForL (gToT (gToCons (gTo 5) (gToCons (gToT (gToCons (gTo 6) (gToCons (gTo 7) (gToNil)))) (gToNil)))) lb_law_line_1 (enumL 0 (c.map entQ)) [some (queD false c), some (.tup (ns.map D.int)), some (.lst []), some (.ref 0), some (.lst (refs 1 ns.length)), none, none, none, none, none] _ = .nx [some (queD false c), some (.tup (ns.map D.int)), some (.lst (lnD (lineR ns 0 [] (List.replicate ns.length []) c).1)), some (.ref 0), some (.lst (refs 1 ns.length)), none, none, none, none, none] _ := lp
  have md : mendD c ns = .lst ((mend c ns).map (D.lst ∘ fun l => l.map D.int)) := rfl
  have bl1 : belows 0 ((mend c ns).map (D.lst ∘ fun l => l.map D.int)) = true := by
    rw [belows_all, List.all_map, List.all_eq_true]
    intro x _
    simp
  have bl2 : belows 0 ((morn c ns).map D.int) = true := by simp
  rw [md]
  have fz1 : frzI (refs 1 ns.length) ([MO.lst ((My.ws ns 0 0 c).map D.int)] ++ (mend c ns).map (MO.lst ∘ fun l => l.map D.int)) = some ((mend c ns).map (D.lst ∘ fun l => l.map D.int), [MO.lst ((My.ws ns 0 0 c).map D.int)] ++ List.replicate ns.length .dead) := fz
  generalize [MO.lst ((My.ws ns 0 0 c).map D.int)] ++ (mend c ns).map (MO.lst ∘ fun l => l.map D.int) = M2 at *
  generalize stR [.lst (([] : List Int).map D.int)] (List.replicate ns.length []) [] = M1 at *
  generalize (mend c ns).map (D.lst ∘ fun l => l.map D.int) = RL at *
  generalize lnD (lineR ns 0 [] (List.replicate ns.length []) c).1 = AL at *
  generalize (My.ws ns 0 0 c).map D.int = WL at *
  generalize (morn c ns).map D.int = ML at *
  have nw' : gLcL (gTo 9) gYes le_law_line_1 _ (ns.map D.int) [] [MO.lst []] = .ok (refs 1 ns.length) M1 := nw
  generalize refs 1 ns.length = RF at *
  generalize queD false c = QD at *
  generalize wend ns 0 0 c = we at *
  simp [-e_lenL, -e_lenT, F_law_line, b_law_line, runF, nw', en, lp', fz1, lL, lN, listD, mutR, isListD, qa, dCut, mo, bl1, bl2]
theorem c_lline {c : Que} {ns : List Int} (hc : OkQ c) (h : OkR c ns) (M : List MO) : callF F_law_line [queD false c, .tup (ns.map D.int)] M = .ok (.tup [.lst ((morn c ns).map D.int), mendD c ns]) M := c_flat (m_lline hc h) M (by simp) (by
  simp only [below, belows, mendD, Bool.and_true]
  rw [belows_ints, Bool.true_and, belows_all, List.all_map, List.all_eq_true]
  intro x _
  simp)
end My

set_option Elab.async false
set_option linter.all false
set_option maxRecDepth 100000
set_option maxHeartbeats 8000000
namespace My
open PySem PySem.Spec PyProof.Rows L2 Bk
/-! ### mended_on -/
theorem me_inner {q ns : D} {j n at_ : Nat} {v5 v6 : Option D} {T : List MO} {pre : List MO} : ∀ (ss : List Nat) (B : Nat) (R : List (List Int)), (∀ s ∈ ss, s < R.length) → (∀ s, (R.getD s []).length ≤ B) → B + ss.length ≤ 1500 → R.length = n →
    gForL (gTo 7) lb_mended_on_2 (lnD ss) [some q, some ns, some (.ref (pre.length + n)), some (.ref j), some (.int (at_ : Nat)), v5, v6, none, none] (stR pre R (.lst (refs pre.length n) :: T)) = .nx [some q, some ns, some (.ref (pre.length + n)), some (.ref j), some (.int (at_ : Nat)), v5, v6, none, none] (stR pre (addR ((at_ : Int) + 2) ss R) (.lst (refs pre.length n) :: T)) := by
  have sz : 2000 ≤ sizeLine := by rw [sizeLine_eq]; omega
  intro ss
  induction ss with
  | nil => intro B R _ _ _ _; simp [addR]
  | cons s ss ih =>
    intro B R hL hB hk hn
    simp only [List.length_cons] at hk
    have hs : s < R.length := hL s (by simp)
    have e := ih (B + 1) (R.set s (R.getD s [] ++ [(at_ : Int) + 2])) (fun t ht => by rw [List.length_set]; exact hL t (by simp [ht])) (fun t => by
      rw [getD_set]
      split
      · have := hB s
        simp only [List.length_append, List.length_singleton]
        omega
      · have := hB t
        omega) (by omega) (by rw [List.length_set]; exact hn)
    rw [show lnD (s :: ss) = D.int (s : Nat) :: lnD ss from rfl]
    refine (forL_cons (Γ1 := [some q, some ns, some (.ref (pre.length + n)), some (.ref j), some (.int (at_ : Nat)), v5, v6, some (.int (s : Nat)), none]) (by simp) ?_).trans (e.trans (by rw [addR]))
    have g0 := stR_tail pre R (.lst (refs pre.length n) :: T) 0
    rw [hn] at g0
    have g0' : (stR pre R (.lst (refs pre.length n) :: T))[pre.length + n]? = some (.lst (refs pre.length n)) := g0
    have i1 : dIx (stR pre R (.lst (refs pre.length n) :: T)) (.ref (pre.length + n)) (.int (s : Nat)) = some (.ref (pre.length + s)) := by
      have ei : itemsD (stR pre R (.lst (refs pre.length n) :: T)) (.ref (pre.length + n)) = some (refs pre.length n) := by
        simp [itemsD, listD, g0']
      rw [e_ix, ei, Option.bind_some]
      exact refs_ix [] (by omega)
    have g1 := stR_get pre R (.lst (refs pre.length n) :: T) hs
    have g2 := stR_set pre R (.lst (refs pre.length n) :: T) hs ((at_ : Int) + 2)
    have ln : ((R.getD s []).map D.int).length < sizeLine := by
      have := hB s
      rw [List.length_map]
      omega
    rw [← g2]
    generalize stR pre R (.lst (refs pre.length n) :: T) = MM at *
    generalize (R.getD s []).map D.int = OL at *
    simp [-e_ix, -e_lenL, lb_mended_on_2, i1, listD, mutR, g1, ln, isListD]
theorem me_loop {q : D} {ns : List Int} (h0 : ∀ n ∈ ns, 0 ≤ n) (hn : ns.length ≤ 100) {pre : List MO} : ∀ (r : Que) (i : Nat) (L : List Nat) (R : List (List Int)) (J : List MO), (∀ p ∈ r, OkN p) → (∀ s ∈ L, s < ns.length) → (∀ s, (R.getD s []).length ≤ 12 * i) → i + r.length ≤ 100 → R.length = ns.length → qo ns i L.length r = none →
    ∃ J', gForL (gToT (gToCons (gTo 4) (gToCons (gToT (gToCons (gTo 5) (gToCons (gTo 6) (gToNil)))) (gToNil)))) lb_mended_on_1 (enumL (i : Int) (r.map entQ)) [some q, some (.tup (ns.map D.int)), some (.ref (pre.length + ns.length)), some (.ref (pre.length + ns.length + 1 + J.length)), none, none, none, none, none] (stR pre R (.lst (refs pre.length ns.length) :: (J ++ [.lst (lnD L)])))
      = .nx [some q, some (.tup (ns.map D.int)), some (.ref (pre.length + ns.length)), some (.ref (pre.length + ns.length + 1 + J'.length)), none, none, none, none, none] (stR pre (lineR ns i L R r).2 (.lst (refs pre.length ns.length) :: (J' ++ [.lst (lnD (lineR ns i L R r).1)]))) := by
  have sz : 2000 ≤ sizeLine := by rw [sizeLine_eq]; omega
  intro r
  induction r with
  | nil => intro i L R J _ _ _ _ _ _; exact ⟨J, by simp [enumL, lineR]⟩
  | cons p r ih =>
    intro i L R J hv hL hB hi hR hq
    obtain ⟨o, m⟩ := p
    have hp : OkN (o, m) := hv _ (by simp)
    have hpd := hp.d
    have hpb := hp.b
    have hpc := hp.c
    have hst := line_step h0 hp i L
    obtain ⟨q1, q2⟩ := qo_day hq
    simp only at q1 q2 hpd hpb hpc hst
    simp only [List.length_cons] at hi
    have hnn := nth_pos h0 i
    have tin := toL_in (i := i) hL
    have tl : (toL ns i L).length ≤ 12 := by
      unfold toL
      simp only [List.length_append, List.length_replicate]
      omega
    rw [← hst] at q2
    have lt : ((toL ns i L).take m.toNat).length ≤ 12 := by simp; omega
    obtain ⟨J', e⟩ := ih (i + 1) ((toL ns i L).drop m.toNat) (addR ((i : Int) + 2) ((toL ns i L).take m.toNat) R) (J ++ [.lst (lnD (toL ns i L))]) (fun p hp => hv p (by simp [hp])) (fun s hs => tin s (List.mem_of_mem_drop hs)) (fun s => by
      have := addR_bound ((i : Int) + 2) ((toL ns i L).take m.toNat) R hB s
      omega) (by omega) (by rw [addR_len]; exact hR) q2
    have e3 : ((i + 1 : Nat) : Int) = (i : Int) + 1 := by omega
    rw [e3] at e
    refine ⟨J', ?_⟩
    rw [List.map_cons, enumL]
    refine (forL_cons (Γ1 := [some q, some (.tup (ns.map D.int)), some (.ref (pre.length + ns.length)), some (.ref (pre.length + ns.length + 1 + J.length)), some (.int i), some (.int o), some (.int m), none, none]) (by simp [entQ]) ?_).trans (e.trans (by simp [lineR]))
    have hin := me_inner (q := q) (ns := .tup (ns.map D.int)) (j := pre.length + ns.length + 1 + J.length) (n := ns.length) (at_ := i) (v5 := some (.int o)) (v6 := some (.int m)) (T := J ++ [.lst (lnD (toL ns i L))]) (pre := pre) ((toL ns i L).take m.toNat) (12 * i) R (fun s hs => by rw [hR]; exact tin s (List.mem_of_mem_take hs)) hB (by omega) hR
    have gt : ∀ (X : List Nat), (stR pre R (.lst (refs pre.length ns.length) :: (J ++ [.lst (lnD X)])))[pre.length + ns.length + 1 + J.length]? = some (.lst (lnD X)) := fun X => by
      have := stR_tail pre R (.lst (refs pre.length ns.length) :: (J ++ [.lst (lnD X)])) (1 + J.length)
      rw [hR] at this
      rw [Nat.add_assoc (pre.length + ns.length), this, Nat.add_comm 1, List.getElem?_cons_succ, List.getElem?_append_right (Nat.le_refl _)]
      simp
    have gs : (stR pre R (.lst (refs pre.length ns.length) :: (J ++ [.lst (lnD L)]))).set (pre.length + ns.length + 1 + J.length) (.lst (lnD (toL ns i L))) = stR pre R (.lst (refs pre.length ns.length) :: (J ++ [.lst (lnD (toL ns i L))])) := by
      have := stR_tailset pre R (.lst (refs pre.length ns.length) :: (J ++ [.lst (lnD L)])) (1 + J.length) (.lst (lnD (toL ns i L)))
      rw [hR] at this
      rw [Nat.add_assoc (pre.length + ns.length), this, Nat.add_comm 1, List.set_cons_succ, List.set_append_right _ _ (Nat.le_refl _)]
      simp
    have fl : (List.replicate (nth ns i).toNat [D.int (i : Nat)]).flatten = lnD (List.replicate (nth ns i).toNat i) := by simp
    have ex : (lnD L ++ lnD (List.replicate (nth ns i).toNat i)) = lnD (toL ns i L) := by simp [toL]
    have exl : (lnD L).length + (lnD (List.replicate (nth ns i).toNat i)).length ≤ sizeLine := by simp; omega
    have mu : ∀ M, dMulT M (.lst [D.int (i : Nat)]) (.int (nth ns i)) = some (.lst (lnD (List.replicate (nth ns i).toNat i))) := fun M => by
      rw [e_mulTl, e_mulL _ _ _ (by omega) (by omega) (by simp; omega), fl]
    have cu : cutD (lnD (toL ns i L)) none (some m) = lnD ((toL ns i L).take m.toNat) := by
      have e : m = ((m.toNat : Nat) : Int) := by omega
      have := cutD_upto (ds := lnD (toL ns i L)) (n := m.toNat)
      rw [← e] at this
      rw [this]
      exact List.map_take.symm
    have cf : cutD (lnD (toL ns i L)) (some m) none = lnD ((toL ns i L).drop m.toNat) := by
      have e : m = ((m.toNat : Nat) : Int) := by omega
      have := cutD_from (ds := lnD (toL ns i L)) (n := m.toNat)
      rw [← e] at this
      rw [this]
      exact List.map_drop.symm
    have gt1 := gt (toL ns i L)
    have gt0 := gt L
    have gt2 : (stR pre (addR ((i : Int) + 2) ((toL ns i L).take m.toNat) R) (.lst (refs pre.length ns.length) :: (J ++ [.lst (lnD (toL ns i L))])))[pre.length + ns.length + 1 + J.length]? = some (.lst (lnD (toL ns i L))) := by
      have := stR_tail pre (addR ((i : Int) + 2) ((toL ns i L).take m.toNat) R) (.lst (refs pre.length ns.length) :: (J ++ [.lst (lnD (toL ns i L))])) (1 + J.length)
      rw [addR_len, hR] at this
      rw [Nat.add_assoc (pre.length + ns.length), this, Nat.add_comm 1, List.getElem?_cons_succ, List.getElem?_append_right (Nat.le_refl _)]
      simp
    have l2 : (stR pre (addR ((i : Int) + 2) ((toL ns i L).take m.toNat) R) (.lst (refs pre.length ns.length) :: (J ++ [.lst (lnD (toL ns i L))]))).length = pre.length + ns.length + 1 + (J ++ [MO.lst (lnD (toL ns i L))]).length := by
      rw [stR_len, addR_len, hR]
      simp
      omega
    have s2 : stR pre (addR ((i : Int) + 2) ((toL ns i L).take m.toNat) R) (.lst (refs pre.length ns.length) :: (J ++ [.lst (lnD (toL ns i L))])) ++ [.lst (lnD ((toL ns i L).drop m.toNat))] = stR pre (addR ((i : Int) + 2) ((toL ns i L).take m.toNat) R) (.lst (refs pre.length ns.length) :: (J ++ [.lst (lnD (toL ns i L))] ++ [.lst (lnD ((toL ns i L).drop m.toNat))])) := by
      simp [stR]
    rw [← s2, ← l2]
    have lN : ∀ M, dLen M (.tup (ns.map D.int)) = some (.int ns.length) := fun M => by simp
    by_cases h : i < ns.length
    · have h' : (i : Int) < ns.length := by omega
      have ix := fun M => nth_ix M ns i h
      generalize stR pre R (.lst (refs pre.length ns.length) :: (J ++ [.lst (lnD L)])) = M0 at *
      generalize stR pre R (.lst (refs pre.length ns.length) :: (J ++ [.lst (lnD (toL ns i L))])) = M1 at *
      generalize stR pre (addR ((i : Int) + 2) ((toL ns i L).take m.toNat) R) (.lst (refs pre.length ns.length) :: (J ++ [.lst (lnD (toL ns i L))])) = M2 at *
      generalize pre.length + ns.length + 1 + J.length = jj at *
      generalize lnD (List.replicate (nth ns i).toNat i) = EL at *
      generalize lnD L = AL at *
      generalize lnD (toL ns i L) = BL at *
      generalize lnD ((toL ns i L).drop m.toNat) = CL at *
      generalize lnD ((toL ns i L).take m.toNat) = DL at *
      generalize ns.map D.int = NS at *
      have exl' : AL.length + EL.length ≤ sizeLine := exl
      simp [-e_ix, -e_lenL, -e_lenT, -e_mulTl, lb_mended_on_1, lN, h', ix, mu, listD, mutR, isListD, gt0, gt1, gt2, gs, exl', ex, mExtend, dCut, cu, cf, hin]
    · have h' : ¬ (i : Int) < ns.length := by omega
      have z : nth ns i = 0 := nth_off (by omega)
      have tz : toL ns i L = L := by unfold toL; rw [z]; simp
      rw [tz] at hin cu cf gt1 gt2 ⊢
      generalize stR pre R (.lst (refs pre.length ns.length) :: (J ++ [.lst (lnD L)])) = M0 at *
      generalize stR pre (addR ((i : Int) + 2) (L.take m.toNat) R) (.lst (refs pre.length ns.length) :: (J ++ [.lst (lnD L)])) = M2 at *
      generalize pre.length + ns.length + 1 + J.length = jj at *
      generalize lnD L = AL at *
      generalize lnD (L.drop m.toNat) = CL at *
      generalize lnD (L.take m.toNat) = DL at *
      generalize ns.map D.int = NS at *
      simp [-e_ix, -e_lenL, -e_lenT, -e_mulTl, lb_mended_on_1, lN, h', listD, mutR, isListD, gt0, gt2, dCut, cu, cf, hin]
theorem c_mended (t : Bool) {c : Que} {ns : List Int} (hc : OkQ c) (h : OkR c ns) (pre : List MO) : ∃ J, callW F_mended_on [queD t c, .tup (ns.map D.int)] pre = .ok (.ref (pre.length + ns.length)) (stR pre (mend c ns) (.lst (refs pre.length ns.length) :: J)) := by
  have sz : 2000 ≤ sizeLine := by rw [sizeLine_eq]; omega
  have hl := hc.l
  have hn := h.l
  have nw := ll_new (Γ := [some (queD t c), some (.tup (ns.map D.int)), none, none, none, none, none, none, none]) (ge := le_mended_on_1) (v := 8) (fun Γ1 M => by simp [le_mended_on_1]) (by simp) ns [] pre (by simp; omega)
  obtain ⟨J', lp⟩ := me_loop (q := queD t c) h.p (by omega) (pre := pre) c 0 [] (List.replicate ns.length []) [] hc.v (by simp) (fun s => R0_len _ _) (by omega) (by simp) h.f
  refine ⟨J' ++ [.lst (lnD (lineR ns 0 [] (List.replicate ns.length []) c).1)], ?_⟩
  have sq : seqD (queD t c) = some (c.map entQ) := by cases t <;> rfl
  have rq := fun M => c_reqq t hc M
  have rp := fun M => c_reqp t hc h M
  have s1 : pre ++ List.replicate ns.length (.lst []) ++ [MO.lst (refs pre.length ns.length), MO.lst []] = stR pre (List.replicate ns.length []) (.lst (refs pre.length ns.length) :: ([] ++ [.lst (lnD [])])) := by
    simp [stR, cellR]
  have l1 : (pre ++ List.replicate ns.length (MO.lst [])).length = pre.length + ns.length := by simp
  have l2 : (pre ++ List.replicate ns.length (MO.lst [])).length + 1 = pre.length + ns.length + 1 + ([] : List MO).length := by simp
  rw [← s1, ← l2, ← l1] at lp
  rw [List.nil_append] at nw
  have lp' : gForL (gToT (gToCons (gTo 4) (gToCons (gToT (gToCons (gTo 5) (gToCons (gTo 6) (gToNil)))) (gToNil)))) lb_mended_on_1 (enumL 0 (c.map entQ)) _ _ = _ := lp
  rw [← l1]
  unfold mend
  generalize (stR pre (lineR ns 0 [] (List.replicate ns.length []) c).2 (.lst (refs pre.length ns.length) :: (J' ++ [.lst (lnD (lineR ns 0 [] (List.replicate ns.length []) c).1)]))) = MF at *
  generalize refs pre.length ns.length = RF at *
  generalize pre ++ List.replicate ns.length (MO.lst []) = M1 at *
  generalize queD t c = QD at *
  generalize ns.map D.int = NS at *
  simp [callW, F_mended_on, b_mended_on, runW, rq, rp, nw, sq, lp']
end My

set_option Elab.async false
set_option linter.all false
set_option maxRecDepth 100000
set_option maxHeartbeats 8000000
namespace My
open PySem PySem.Spec PyProof.Rows L2 Bk
/-! ### whether both are right -/
theorem morn_len (c : Que) (ns : List Int) : (morn c ns).length ≤ c.length + 1 := by
  unfold morn
  rw [List.length_take]
  simp [wl_length]
  omega
theorem m_waiting (t : Bool) {c : Que} {ns : List Int} (hc : OkQ c) (h : OkR c ns) : F_waiting [queD t c, .tup (ns.map D.int)] [] = .ok (.ref 0) [.lst ((morn c ns).map D.int)] := by
  have rq := c_reqq t hc []
  have rp := c_reqp t hc h []
  have wm := c_wm t ns hc.l []
  have cu : cutD ((0 :: wl ns 0 0 c).map D.int) none (some ((ns.length : Int) + 1)) = (morn c ns).map D.int := by
    have e : (ns.length : Int) + 1 = ((ns.length + 1 : Nat) : Int) := by omega
    rw [e, cutD_upto, morn, List.map_take]
  have bm : belows 0 ((morn c ns).map D.int) = true := by simp
  generalize (0 :: wl ns 0 0 c).map D.int = WL at *
  generalize (morn c ns).map D.int = ML at *
  generalize queD t c = QD at *
  have lN : ∀ M, dLen M (.tup (ns.map D.int)) = some (.int ns.length) := fun M => by simp
  generalize ns.map D.int = NS at *
  simp [-e_lenT, F_waiting, b_waiting, runF, rq, rp, wm, lN, listD, cu, bm]
theorem c_waiting (t : Bool) {c : Que} {ns : List Int} (hc : OkQ c) (h : OkR c ns) (M : List MO) : callF F_waiting [queD t c, .tup (ns.map D.int)] M = .ok (.ref M.length) (M ++ [.lst ((morn c ns).map D.int)]) :=
  c_flatO (m_waiting t hc h) M (by cases t <;> simp [queD]) (by simp)
theorem forN_app {x0 x1 x2 x3 x4 x5 x6 x7 : Option D} {k : Nat} {rf : List D} : ∀ (n i : Nat) (M : List MO), i ≤ rf.length → rf.length < n + i → M[k]? = some (.lst rf) → (∀ d ∈ rf, ∃ j es, d = .ref j ∧ j ≠ k ∧ M[j]? = some (.lst es) ∧ es.length + (rf.length - i) ≤ 1900) →
    ∃ M', gForN (gTo 8) lb_law_right_2 k n i [x0, x1, x2, x3, x4, x5, x6, x7, none] M = .nx [x0, x1, x2, x3, x4, x5, x6, x7, none] M' ∧ M'[k]? = some (.lst rf) := by
  have sz : 2000 ≤ sizeLine := by rw [sizeLine_eq]; omega
  intro n
  induction n with
  | zero => intro i M h0 hi hk hd; omega
  | succ n ih =>
    intro i M _ hi hk hd
    by_cases h : i < rf.length
    · have e0 : rf[i]? = some rf[i] := List.getElem?_eq_getElem h
      obtain ⟨j, es, ej, hj, hes, hle⟩ := hd rf[i] (List.getElem_mem h)
      have jl : j < M.length := (List.getElem?_eq_some_iff.mp hes).1
      obtain ⟨M', e, e'⟩ := ih (i + 1) (M.set j (.lst (es ++ [.int 0]))) (by omega) (by omega) (by rw [List.getElem?_set, if_neg hj]; exact hk) (fun d hd' => by
        obtain ⟨j2, es2, a1, a2, a3, a4⟩ := hd d hd'
        by_cases q : j = j2
        · subst q
          refine ⟨j, es ++ [.int 0], a1, a2, by rw [List.getElem?_set, if_pos rfl, if_pos jl], ?_⟩
          simp only [List.length_append, List.length_singleton]
          omega
        · exact ⟨j2, es2, a1, a2, by rw [List.getElem?_set, if_neg q]; exact a3, by omega⟩)
      refine ⟨M', ?_, e'⟩
      have ln : es.length < sizeLine := by omega
      rw [gForN_some hk e0, ej]
      refine Eq.trans ?_ e
      simp [lb_law_right_2, listD, hes, isListD, mutR, ln]
    · exact ⟨M, gForN_none hk (by omega), hk⟩
theorem lineR_bound {ns : List Int} : ∀ (r : Que) (i : Nat) (L : List Nat) (R : List (List Int)), (∀ p ∈ r, OkN p) → (∀ s, (R.getD s []).length ≤ 12 * i) → ∀ s, ((lineR ns i L R r).2.getD s []).length ≤ 12 * (i + r.length)
  | [], i, L, R, _, h, s => h s
  | p :: r, i, L, R, hv, h, s => by
    have pd := (hv p (by simp)).d
    have := lineR_bound (ns := ns) r (i + 1) ((toL ns i L).drop p.2.toNat) (addR ((i : Int) + 2) ((toL ns i L).take p.2.toNat) R) (fun q hq => hv q (by simp [hq])) (fun t => by
      have := addR_bound ((i : Int) + 2) ((toL ns i L).take p.2.toNat) R h t
      have l : ((toL ns i L).take p.2.toNat).length ≤ 12 := by rw [List.length_take]; omega
      omega) s
    rw [lineR, List.length_cons]
    omega
theorem mend_bound {c : Que} (hc : OkQ c) (ns : List Int) (s : Nat) : ((mend c ns).getD s []).length ≤ 1200 := by
  have := lineR_bound (ns := ns) c 0 [] (List.replicate ns.length []) hc.v (fun s => R0_len _ _) s
  have := hc.l
  unfold mend
  omega
theorem mendD_dt (c : Que) (ns : List Int) : ∃ p, Dt 2 (mendD c ns) p := by
  have : Dts 1 ((mend c ns).map fun l => D.lst (l.map D.int)) ((mend c ns).map fun l => PyData.list (l.map PyData.int)) := .map _ fun l _ => (Dts.ints 0 l).lst
  exact ⟨_, this.lst⟩
abbrev ER6 (c : Que) (ns : List Int) (b : D) (v5 : Option D) : Bk.Env := [some (queD false c), some (.tup (ns.map D.int)), some (.lst ((morn c ns).map D.int)), some (mendD c ns), some b, v5, none, none, none]
theorem right_turn {c : Que} {ns : List Int} (hc : OkQ c) (h : OkR c ns) (b : D) (hb : below 0 b = true) (v : Int) : lb_law_right_1 (ER6 c ns b (some (.int v))) [] = .nx (ER6 c ns b none) [] := by
  have sz : 2000 ≤ sizeLine := by rw [sizeLine_eq]; omega
  have hl := hc.l
  have hm := mend_bound hc ns
  have hn := h.l
  have cw := c_waiting false hc h []
  obtain ⟨J, cm⟩ := c_mended false hc h [.lst ((morn c ns).map D.int)]
  have ml := mend_len c ns
  obtain ⟨pd, dt⟩ := mendD_dt c ns
  have n1 : dNeA (stR [.lst ((morn c ns).map D.int)] (mend c ns) (.lst (refs 1 ns.length) :: J)) (.ref 0) (.lst ((morn c ns).map D.int)) = some (.bl false) := by
    refine dNeA_p (x := .ref 0) (b := true) ?_ (fun _ h => by cases h)
    have d0 := Dts.ints 0 (morn c ns)
    refine eqP_same d0.lst ?_ (Dt.deref d0.lst) (by decide)
    have : deref1 (stR [.lst ((morn c ns).map D.int)] (mend c ns) (.lst (refs 1 ns.length) :: J)) (.ref 0) = .lst ((morn c ns).map D.int) := rfl
    have e := Dt.deref (M := stR [.lst ((morn c ns).map D.int)] (mend c ns) (.lst (refs 1 ns.length) :: J)) d0.lst
    unfold deref at e ⊢
    rw [this]
    exact e
  have k1 : (stR [.lst ((morn c ns).map D.int)] (mend c ns) (.lst (refs 1 ns.length) :: J))[1 + ns.length]? = some (.lst (refs 1 ns.length)) := by
    have := stR_tail [.lst ((morn c ns).map D.int)] (mend c ns) (.lst (refs 1 ns.length) :: J) 0
    rw [ml] at this
    exact this
  have dr := deref_refs [.lst ((morn c ns).map D.int)] (mend c ns) (.lst (refs 1 ns.length) :: J)
  rw [ml] at dr
  have n2 : dNeA (stR [.lst ((morn c ns).map D.int)] (mend c ns) (.lst (refs 1 ns.length) :: J)) (.ref (1 + ns.length)) (mendD c ns) = some (.bl false) := by
    refine dNeA_p (x := .ref (1 + ns.length)) (b := true) ?_ (fun _ h => by cases h)
    refine eqP_same dt ?_ (Dt.deref dt) (by decide)
    unfold deref
    have : deref1 (stR [.lst ((morn c ns).map D.int)] (mend c ns) (.lst (refs 1 ns.length) :: J)) (.ref (1 + ns.length)) = .lst (refs 1 ns.length) := by simp only [deref1, k1]
    rw [this]
    exact congrArg D.lst dr
  have i1 : dIsi "list" (stR [.lst ((morn c ns).map D.int)] (mend c ns) (.lst (refs 1 ns.length) :: J)) (.ref (1 + ns.length)) = some (.bl true) := e_isi_lr k1
  have g0 : (stR [.lst ((morn c ns).map D.int)] (mend c ns) (.lst (refs 1 ns.length) :: J))[0]? = some (.lst ((morn c ns).map D.int)) := rfl
  have mnl := morn_len c ns
  have qa : ((morn c ns).map D.int).length < sizeLine := by rw [List.length_map]; omega
  obtain ⟨M', f1, f2⟩ := forN_app (x0 := some (queD false c)) (x1 := some (.tup (ns.map D.int))) (x2 := some (.lst ((morn c ns).map D.int))) (x3 := some (mendD c ns)) (x4 := some b) (x5 := some (.int v)) (x6 := some (.ref 0)) (x7 := some (.ref (1 + ns.length))) (k := 1 + ns.length) (rf := refs 1 ns.length) 1000 0 ((stR [.lst ((morn c ns).map D.int)] (mend c ns) (.lst (refs 1 ns.length) :: J)).set 0 (.lst ((morn c ns).map D.int ++ [.int 0])))
    (Nat.zero_le _) (by simp; omega) (by rw [List.getElem?_set, if_neg (by omega)]; exact k1) (fun d hd => by
      obtain ⟨j, hj, rfl⟩ := List.mem_map.mp hd
      have hj' := List.mem_range'_1.mp hj
      have := stR_get [.lst ((morn c ns).map D.int)] (mend c ns) (.lst (refs 1 ns.length) :: J) (s := j - 1) (by omega)
      rw [show ([MO.lst ((morn c ns).map D.int)] : List MO).length + (j - 1) = j from by simp; omega] at this
      refine ⟨j, _, rfl, by omega, by rw [List.getElem?_set, if_neg (by omega)]; exact this, ?_⟩
      have := hm (j - 1)
      simp only [List.length_map, List.length_range']
      omega)
  have ql : (refs 1 ns.length).length < sizeLine := by simp; omega
  have bm : below 0 (mendD c ns) = true := by
    simp only [below, mendD]
    rw [belows_all, List.all_map, List.all_eq_true]
    intro x _
    simp
  have bq : below 0 (queD false c) = true := by simp [queD]
  have bw : below 0 (.lst ((morn c ns).map D.int)) = true := by simp
  have bn : below 0 (.tup (ns.map D.int)) = true := by simp
  unfold ER6
  rw [List.length_nil, List.nil_append] at cw
  have cm' : F_mended_on [queD false c, .tup (ns.map D.int)] [.lst ((morn c ns).map D.int)] = .ok (.ref (1 + ns.length)) (stR [.lst ((morn c ns).map D.int)] (mend c ns) (.lst (refs 1 ns.length) :: J)) := cm
  generalize stR [.lst ((morn c ns).map D.int)] (mend c ns) (.lst (refs 1 ns.length) :: J) = MM at *
  generalize refs 1 ns.length = RF at *
  generalize mendD c ns = MD at *
  generalize (morn c ns).map D.int = ML at *
  generalize queD false c = QD at *
  generalize 1 + ns.length = kk at *
  generalize ns.map D.int = NS at *
  simp [lb_law_right_1, cw, cm', n1, n2, i1, listD, g0, isListD, mutR, qa, f1, f2, ql, clean, cutOk, bm, bq, bw, bn, hb]
theorem que_repr2 {c : Que} {ns : List Int} (hc : OkQ c) (hn : ns.length ≤ 100) (hs : ∀ n ∈ ns, 0 ≤ n ∧ n ≤ 1000) : ∃ k : Str, ∀ M, dRepr M (.tup [queD false c, .tup (ns.map D.int)]) = some (.str k) := by
  have sh : Shs (c.length * (2 + 1)) (c.map entQP) := Shs.map (b := 2) c fun p hp => by
    have v := hc.v p hp
    have v1 := v.a
    have v2 := v.b
    have v3 := v.c
    have v4 := v.d
    exact (Shs.cons (b := 0) (c := 1) (Sh.int (by omega)) (Shs.cons (b := 0) (c := 0) (Sh.int (by omega)) .nil)).tup
  have dt : Dt 3 (.tup [queD false c, .tup (ns.map D.int)]) (.tuple [.list (c.map entQP), .tuple (ns.map PyData.int)]) := Dts.tup (.cons (entsQ_dt 0 c).lst (.cons (Dts.ints 1 ns).tup (.nil 2)))
  have s2 := (Shs.cons sh.lst (Shs.cons (Shs.ints (is := ns) fun i hi => by have := hs i hi; omega).tup .nil)).tup
  have hl := hc.l
  exact ⟨_, fun M => repr_of dt s2 dt.deref (by decide) (by omega) (.inr (.inr ⟨_, rfl⟩))⟩
theorem OkR.le {c : Que} {ns : List Int} (hc : OkQ c) (h : OkR c ns) : ∀ n ∈ ns, 0 ≤ n ∧ n ≤ 12 := by
  have key : ∀ (r : Que) (i : Nat) (w : Int), (∀ p ∈ r, OkN p) → 0 ≤ w → qo ns i w r = none → ∀ j, i ≤ j → j < i + r.length → nth ns j ≤ 12 := by
    intro r
    induction r with
    | nil => intro i w _ _ _ j h1 h2; simp at h2; omega
    | cons p r ih =>
      intro i w hv hw hq j h1 h2
      obtain ⟨q1, q2⟩ := qo_day hq
      have pb := (hv p (by simp)).b
      simp only [List.length_cons] at h2
      by_cases e : j = i
      · subst e; omega
      · exact ih (i + 1) _ (fun q hq => hv q (by simp [hq])) (max0_pos _) q2 j (by omega) (by omega)
  intro n hn
  obtain ⟨j, hj, rfl⟩ := List.mem_iff_getElem.mp hn
  have := key c 0 0 hc.v (Int.le_refl _) h.f j (Nat.zero_le _) (by have := h.l; omega)
  have e : nth ns j = ns[j] := by simp [nth, hj]
  exact ⟨h.p _ hn, by omega⟩
theorem m_right {c : Que} {ns : List Int} (hc : OkQ c) (h : OkR c ns) : F_law_right [queD false c, .tup (ns.map D.int)] [] = .ok (.bl true) [] := by
  have hl := hc.l
  have hn := h.l
  have cl := c_lline hc h []
  obtain ⟨k, hk⟩ := que_repr2 (ns := ns) hc (by omega) fun n hn => by have := OkR.le hc h n hn; omega
  have lp : gForL (gTo 5) lb_law_right_1 (rngL 0 2) (ER6 c ns (.str k) none) [] = .nx (ER6 c ns (.str k) none) [] := by
    have e : rngL 0 2 = [.int 0, .int 1] := rfl
    rw [e]
    refine (forL_cons (Γ1 := ER6 c ns (.str k) (some (.int 0))) (by simp [ER6]) (right_turn hc h (.str k) (by simp) 0)).trans ?_
    refine (forL_cons (Γ1 := ER6 c ns (.str k) (some (.int 1))) (by simp [ER6]) (right_turn hc h (.str k) (by simp) 1)).trans ?_
    simp
  have cw := c_waiting true hc h []
  obtain ⟨J, cm⟩ := c_mended true hc h [.lst ((morn c ns).map D.int)]
  have cm' : F_mended_on [queD true c, .tup (ns.map D.int)] [.lst ((morn c ns).map D.int)] = .ok (.ref (1 + ns.length)) (stR [.lst ((morn c ns).map D.int)] (mend c ns) (.lst (refs 1 ns.length) :: J)) := cm
  have n1 : dNeA [.lst ((morn c ns).map D.int)] (.ref 0) (.lst ((morn c ns).map D.int)) = some (.bl false) := by
    refine dNeA_p (x := .ref 0) (b := true) ?_ (fun _ h => by cases h)
    have d0 := Dts.ints 0 (morn c ns)
    refine eqP_same d0.lst ?_ (Dt.deref d0.lst) (by decide)
    have e := Dt.deref (M := [.lst ((morn c ns).map D.int)]) d0.lst
    unfold deref at e ⊢
    exact e
  have ml := mend_len c ns
  obtain ⟨pd, dt⟩ := mendD_dt c ns
  have k1 : (stR [.lst ((morn c ns).map D.int)] (mend c ns) (.lst (refs 1 ns.length) :: J))[1 + ns.length]? = some (.lst (refs 1 ns.length)) := by
    have := stR_tail [.lst ((morn c ns).map D.int)] (mend c ns) (.lst (refs 1 ns.length) :: J) 0
    rw [ml] at this
    exact this
  have dr := deref_refs [.lst ((morn c ns).map D.int)] (mend c ns) (.lst (refs 1 ns.length) :: J)
  rw [ml] at dr
  have n2 : dEqA (stR [.lst ((morn c ns).map D.int)] (mend c ns) (.lst (refs 1 ns.length) :: J)) (.ref (1 + ns.length)) (mendD c ns) = some (.bl true) := by
    refine dEqA_p (x := .ref (1 + ns.length)) (b := true) ?_ (fun _ h => by cases h)
    refine eqP_same dt ?_ (Dt.deref dt) (by decide)
    unfold deref
    have : deref1 (stR [.lst ((morn c ns).map D.int)] (mend c ns) (.lst (refs 1 ns.length) :: J)) (.ref (1 + ns.length)) = .lst (refs 1 ns.length) := by simp only [deref1, k1]
    rw [this]
    exact congrArg D.lst dr
  have tq : ∀ M, dTuple M (queD false c) = some (queD true c) := fun M => rfl
  have i2 : Bk.inR 2 = true := rfl
  have sk : ∀ M, dNeA M (.str k) (.str k) = some (.bl false) := fun M => by simp
  unfold ER6 at lp
  rw [List.length_nil, List.nil_append] at cw
  generalize stR [.lst ((morn c ns).map D.int)] (mend c ns) (.lst (refs 1 ns.length) :: J) = MM at *
  generalize mendD c ns = MD at *
  generalize (morn c ns).map D.int = ML at *
  generalize queD false c = QD at *
  generalize queD true c = QT at *
  generalize 1 + ns.length = kk at *
  generalize ns.map D.int = NS at *
  simp [F_law_right, b_law_right, runF, cl, hk, i2, lp, tq, cw, n1, sk, cm', n2, pick]
end My

set_option Elab.async false
set_option linter.all false
set_option maxRecDepth 100000
set_option maxHeartbeats 8000000
namespace My
open PySem PySem.Spec PyProof.Rows L2 Bk
/-! ### the law -/
theorem lc_drawsZ {gg : GG} {ge : GE} {Γ : Bk.Env} {R : List MO} {P : D → D → Prop} {B g : Nat} : ∀ (ds acc : List D) (m : Nat) (s : Src3), Sk m s → m + g * ds.length ≤ B → acc.length + ds.length ≤ sizeLine → (∀ d ∈ ds, ∀ (m : Nat) (s : Src3), Sk m s → m ≤ B → ∃ Γ1 e s2, gg d Γ = some Γ1 ∧ ge Γ1 (srcO s :: R) = .ok e (srcO s2 :: R) ∧ P d e ∧ Sk (m + g) s2) →
    ∃ (es : List D) (s' : Src3), gLcL gg gYes ge Γ ds acc (srcO s :: R) = .ok (acc ++ es) (srcO s' :: R) ∧ es.length = ds.length ∧ (∀ (i : Nat) d e, ds[i]? = some d → es[i]? = some e → P d e) ∧ Sk (m + g * ds.length) s'
  | [], acc, m, s, hs, _, _, _ => ⟨[], s, by simp [gLcL], rfl, by simp, hs⟩
  | d :: ds, acc, m, s, hs, hB, h, hf => by
    simp only [List.length_cons] at h hB
    obtain ⟨Γ1, e, s2, h1, h2, h3, h4⟩ := hf d (by simp) m s hs (by rw [Nat.mul_add] at hB; omega)
    obtain ⟨es, s', e', l', p', k'⟩ := lc_drawsZ (gg := gg) (ge := ge) (Γ := Γ) (R := R) (P := P) (B := B) (g := g) ds (acc ++ [e]) (m + g) s2 h4 (by rw [Nat.mul_add] at hB; omega) (by simp; omega) fun x hx => hf x (by simp [hx])
    have q : acc.length < sizeLine := by omega
    refine ⟨e :: es, s', ?_, by simp [l'], fun i x y hx hy => ?_, k'.mono (by rw [List.length_cons, Nat.mul_add]; omega)⟩
    · simp [gLcL, h1, h2, q, e']
    · cases i with
      | zero =>
        have a : d = x := by simpa using hx
        have b : e = y := by simpa using hy
        rw [← a, ← b]
        exact h3
      | succ i => exact p' i x y (by simpa using hx) (by simpa using hy)
theorem ents_ofZ : ∀ (es : List D), (∀ (i : Nat) e, es[i]? = some e → ∃ p : Int × Int, e = entQ p ∧ OkN p) → ∃ c : Que, es = c.map entQ ∧ ∀ p ∈ c, OkN p
  | [], _ => ⟨[], rfl, by simp⟩
  | e :: es, h => by
    obtain ⟨v, hv, h0⟩ := h 0 e rfl
    obtain ⟨vs, hvs, hp⟩ := ents_ofZ es fun i x hx => h (i + 1) x (by simpa using hx)
    refine ⟨v :: vs, by rw [hv, hvs]; rfl, fun x hx => ?_⟩
    rcases List.mem_cons.mp hx with w | w
    · rw [w]; exact h0
    · exact hp x w
theorem ints_ofZ : ∀ (es : List D), (∀ (i : Nat) e, es[i]? = some e → ∃ p : Int, e = .int p ∧ 0 ≤ p) → ∃ ns : List Int, es = ns.map D.int ∧ ∀ p ∈ ns, 0 ≤ p
  | [], _ => ⟨[], rfl, by simp⟩
  | e :: es, h => by
    obtain ⟨v, hv, h0⟩ := h 0 e rfl
    obtain ⟨vs, hvs, hp⟩ := ints_ofZ es fun i x hx => h (i + 1) x (by simpa using hx)
    refine ⟨v :: vs, by rw [hv, hvs]; rfl, fun x hx => ?_⟩
    rcases List.mem_cons.mp hx with w | w
    · rw [w]; exact h0
    · exact hp x w
/-- the first of it -/
theorem turn_head (d : D) (k i : Int) {v5 v6 v7 : Option D} : ∃ (c : Que) (ns : List Int) (s s2 s3 s4 : Src3) (tp : Int), OkQ c ∧ OkR c ns ∧ Sk 2000 s4 ∧
    callF F_law_source [.int i] [] = .ok (.ref 0) [srcO s] ∧ callF F_law_take [.ref 0, .int 4] [srcO s] = .ok (.int tp) [srcO s2] ∧ callF F_law_queue [.ref 0, .int 12, .int (1 + tp)] [srcO s2] = .ok (queD false c) [srcO s3] ∧
    ∃ (n : Int) (s5 : Src3), callF F_law_take [.ref 0, .int ((c.length : Int) + 1)] [srcO s3] = .ok (.int n) [srcO s5] ∧ callF F_law_past [.ref 0, queD false c, .int n] [srcO s5] = .ok (.tup (ns.map D.int)) [srcO s4] := by
  have c0 := c_source i []
  have s0 := src0_ok i
  have t1 := t_0 s0 (by omega) 4 [] (by decide) (by decide)
  have s1 := s0.step 4
  have x0 := tk_lo (src0 i) (n := 4) (by decide)
  have x1 := tk_hi (src0 i) (n := 4) (by decide)
  obtain ⟨c, s2, e2, h2, l2, k2⟩ := m_lqueue (most := 12) (tp := 1 + tk (src0 i) 4) (by omega) (by omega) (by decide) (by decide) s1 (by omega)
  have e2' := c_lend1 (k := 0) (M := [srcO (tn (src0 i) 4)]) e2 rfl rfl rfl rfl (by simp) (by simp)
  have hl := h2.l
  have zc : 0 < (c.length : Int) + 1 := by omega
  have t3 := t_0 k2 (by omega) ((c.length : Int) + 1) [] zc (by omega)
  have k3 := k2.step ((c.length : Int) + 1)
  have y0 := tk_lo s2 zc
  have y1 := tk_hi s2 zc
  obtain ⟨n, hn⟩ := Int.eq_ofNat_of_zero_le y0
  obtain ⟨ns, s4, e4, h4, l4, k4⟩ := m_lpast h2 (n := n) (by omega) k3 (by omega)
  have e4' := c_lend1 (k := 0) (M := [srcO (tn s2 ((c.length : Int) + 1))]) e4 rfl rfl rfl rfl (by simp) (by simp)
  rw [hn] at t3
  exact ⟨c, ns, src0 i, _, s2, s4, _, h2, h4, k4.mono (by omega), c0, t1, e2', n, _, t3, e4'⟩
theorem law_turn (d : D) (k i : Int) (hb : below 0 d = true) : lb_law_1 [some d, some (.int k), some (.int i), none, none, none, none, none] [] = .nx [some d, none, none, none, none, none, none, none] [] := by
  have sz : 2000 ≤ sizeLine := by rw [sizeLine_eq]; omega
  obtain ⟨c, ns, s, s2, s3, s4, tp, hc, h, k4, c0, t1, e2, n, s5, t3, e4⟩ := turn_head (v5 := none) (v6 := none) (v7 := none) d k i
  have rt := fun M => c_flat (m_right hc h) M (by simp) (by simp)
  have lq : ∀ M, dLen M (queD false c) = some (.int c.length) := fun M => by simp [queD]
  have sc : ∀ (s : Src3), cutOk 0 [srcO s] = true := fun s => by simp [cutOk]
  by_cases hk : k = 0
  · subst hk
    obtain ⟨es, s6, w1, l1, p1, k6⟩ := lc_drawsZ (gg := gTo 7) (ge := le_law_1) (Γ := [some d, some (.int 0), some (.int i), some (.ref 0), some (queD false c), none, none, none]) (R := []) (P := fun _ e => ∃ p : Int × Int, e = entQ p ∧ OkN p) (B := 999000) (g := 2) (rngL 0 100) [] _ s4 k4 (by rw [rngL_length]; omega) (by rw [rngL_length]; simp; omega) fun d hd m s hs hm => by
      have t4 := t_0 hs (by omega) 3 [] (by decide) (by decide)
      have s4 := hs.step 3
      have t5 := t_0 s4 (by omega) 5 [] (by decide) (by decide)
      have b0 := tk_lo s (n := 3) (by decide)
      have b1 := tk_hi s (n := 3) (by decide)
      have c0 := tk_lo (tn s 3) (n := 5) (by decide)
      have c1 := tk_hi (tn s 3) (n := 5) (by decide)
      exact ⟨_, .tup [.int (12 - tk s 3), .int (tk (tn s 3) 5)], tn (tn s 3) 5, rfl, by simp [le_law_1, t4, t5], ⟨(12 - tk s 3, tk (tn s 3) 5), rfl, by simp only; omega, by simp only; omega, by simp only; omega, by simp only; omega⟩, s4.step 5⟩
    rw [rngL_length] at l1 k6
    obtain ⟨e, rfl, hv⟩ := ents_ofZ es fun j e he => by
      have l : j < (rngL 0 100).length := by rw [rngL_length, ← l1]; exact (List.getElem?_eq_some_iff.mp he).1
      exact p1 j _ e (List.getElem?_eq_getElem l) he
    simp only [List.length_map, List.nil_append] at l1 w1
    have hq : OkQ e := ⟨by omega, hv⟩
    have t7 := t_0 k6 (by omega) 101 [] (by decide) (by decide)
    have k7 := k6.step 101
    have u0 := tk_lo s6 (n := 101) (by decide)
    have u1 := tk_hi s6 (n := 101) (by decide)
    obtain ⟨es, s8, w2, l2, p2, k8⟩ := lc_drawsZ (gg := gTo 7) (ge := le_law_2) (Γ := [some d, some (.int 0), some (.int i), some (.ref 0), some (queD false c), some (queD false e), none, none]) (R := []) (P := fun _ e => ∃ p : Int, e = .int p ∧ 0 ≤ p) (B := 999000) (g := 1) (rngL 0 (tk s6 101).toNat) [] _ _ k7 (by rw [rngL_length]; omega) (by rw [rngL_length]; simp; omega) fun d hd m s hs hm => by
      have t4 := t_0 hs (by omega) 2 [] (by decide) (by decide)
      exact ⟨_, .int (tk s 2), tn s 2, rfl, by simp [le_law_2, t4], ⟨tk s 2, rfl, tk_lo s (by decide)⟩, hs.step 2⟩
    rw [rngL_length] at l2 k8
    obtain ⟨ms, rfl, hm⟩ := ints_ofZ es fun j e he => by
      have l : j < (rngL 0 (tk s6 101).toNat).length := by rw [rngL_length, ← l2]; exact (List.getElem?_eq_some_iff.mp he).1
      exact p2 j _ e (List.getElem?_eq_getElem l) he
    simp only [List.length_map, List.nil_append] at l2 w2
    have ov := fun M => c_lover e ms M
    have r1 : rng1 [.int 100] = some (rngL 0 100) := rfl
    have r2 : rng1 [.int (tk s6 101)] = some (rngL 0 (tk s6 101).toNat) := by rw [u_rng1, if_pos (inR_i (by omega) (by omega))]
    have qd : D.lst (e.map entQ) = queD false e := rfl
    have tm : ∀ M, dTuple M (.lst (ms.map D.int)) = some (.tup (ms.map D.int)) := fun M => rfl
    have iN := fun M => isN_opt M (qo ms 0 0 e)
    by_cases hn : qo ms 0 0 e = none
    · have h2 : OkR e ms := ⟨by omega, hm, hn⟩
      have rt2 := fun M => c_flat (m_right hq h2) M (by simp) (by simp)
      have sc0 := sc s8
      rw [hn] at iN ov
      generalize queD false e = QE at *
      generalize queD false c = QC at *
      generalize ns.map D.int = NS at *
      generalize ms.map D.int = MS at *
      simp [-e_lenL, -e_lenT, -u_rng1, lb_law_1, c0, t1, e2, t3, e4, rt, lq, r1, w1, qd, t7, r2, w2, tm, ov, iN, rt2, clean, hb, sc0]
    · have sc0 := sc s8
      have hn' : decide (qo ms 0 0 e = none) = false := decide_eq_false hn
      generalize queD false e = QE at *
      generalize queD false c = QC at *
      generalize ns.map D.int = NS at *
      generalize ms.map D.int = MS at *
      simp [-e_lenL, -e_lenT, -u_rng1, lb_law_1, c0, t1, e2, t3, e4, rt, lq, r1, w1, qd, t7, r2, w2, tm, ov, iN, hn, clean, hb, sc0]
  · have sc0 := sc s4
    generalize queD false c = QC at *
    generalize ns.map D.int = NS at *
    simp [-e_lenL, -e_lenT, lb_law_1, c0, t1, e2, t3, e4, rt, lq, hk, clean, hb, sc0]
theorem lawLoop (d : D) (hb : below 0 d = true) : ∀ (is : List Int) (k : Int), gForL (gToT (gToCons (gTo 1) (gToCons (gTo 2) (gToNil)))) lb_law_1 (enumL k (is.map D.int)) [some d, none, none, none, none, none, none, none] [] = .nx [some d, none, none, none, none, none, none, none] []
  | [], k => by simp [enumL]
  | i :: is, k => by
    rw [List.map_cons, enumL]
    exact (forL_cons (Γ1 := [some d, some (.int k), some (.int i), none, none, none, none, none]) (by simp) (law_turn d k i hb)).trans (lawLoop d hb is (k + 1))
theorem m_cell (ns : List Int) : ∃ j : Int, F_law_cell_at [.lst (ns.map D.int), .int 0] [] = .ok (.int j) [] := by
  cases ns with
  | nil => exact ⟨0, by simp [F_law_cell_at, b_law_cell_at, runF]⟩
  | cons n ns =>
    have : (0 : Int) < (ns.length : Int) + 1 := by omega
    exact ⟨n, by simp [F_law_cell_at, b_law_cell_at, runF, this]⟩
theorem law_true (ns : List Int) (h : ns.length ≤ 63) : F_law [.lst (ns.map D.int)] [] = .ok (.bl true) [] := by
  obtain ⟨j, hj⟩ := m_cell ns
  have cj := c_flat hj [] (by simp) (by simp)
  have sz : 1000 ≤ sizeLine := by rw [sizeLine_eq]; omega
  have e4 : below 0 (D.lst (ns.map D.int)) = true := by simp
  obtain ⟨ms, hms, lm⟩ : ∃ ms : List Int, dCut [] (some 1) (some 6) (.lst (ns.map D.int)) = some (.lst (ms.map D.int)) ∧ ms.length ≤ 63 := by
    refine ⟨(ns.drop (HT.sIx ns.length 0 (some 1))).take (HT.sIx ns.length ns.length (some 6) - HT.sIx ns.length 0 (some 1)), ?_, by simp; omega⟩
    simp [dCut, listD, Bk.cutD, List.map_take, List.map_drop]
  have ad : dAdd [] (.lst [.int j]) (.lst (ms.map D.int)) = some (.lst ((j :: ms).map D.int)) := by
    rw [e_addL, if_pos (by simp; omega)]
    simp
  have k := lawLoop (.lst (ns.map D.int)) e4 (j :: ms) 0
  simp only [List.map_cons] at ad k
  simp [-e_addL, F_law, b_law, runF, cj, hms, ad, k]
  done
end My

set_option Elab.async false
set_option linter.all false
set_option maxRecDepth 100000
set_option maxHeartbeats 8000000
namespace My
open PySem PySem.Spec PyProof.Rows L2 Bk
theorem all_mk {l : PySem.W.OpenLaw} {w : World} {K : PySem.W.Frag} {h : Heap} {mg : Str → Option Value} {fa : Addr} (X : K.In h) (G : h.Ns mainGlobals mg) (hfa : mg "law" = some (.ref fa))
    {f_is_integer : Addr} {od_is_integer an_is_integer : Option Addr} {sl_is_integer : Array (Option Value)} {oc_is_integer kV_is_integer dc_is_integer pm_is_integer cd_is_integer ct_is_integer : Value}
    (a_is_integer : PySem.W.nsIn K mainGlobals "is_integer" = some (some (.ref f_is_integer))) (l_is_integer : K.lookup f_is_integer = some ⟨oc_is_integer, od_is_integer, .func (PySem.W.fnOf "is_integer" "is_integer" (defArgs s_is_integer) (defBody s_is_integer) (defScope s_is_integer) .none kV_is_integer dc_is_integer pm_is_integer an_is_integer cd_is_integer ct_is_integer), sl_is_integer⟩) (c_is_integer : PySem.W.codeIn K cd_is_integer "is_integer" = true) (k_is_integer : PySem.W.keepIn K (.ref f_is_integer) = true)
    {f_is_at_least : Addr} {od_is_at_least an_is_at_least : Option Addr} {sl_is_at_least : Array (Option Value)} {oc_is_at_least kV_is_at_least dc_is_at_least pm_is_at_least cd_is_at_least ct_is_at_least : Value}
    (a_is_at_least : PySem.W.nsIn K mainGlobals "is_at_least" = some (some (.ref f_is_at_least))) (l_is_at_least : K.lookup f_is_at_least = some ⟨oc_is_at_least, od_is_at_least, .func (PySem.W.fnOf "is_at_least" "is_at_least" (defArgs s_is_at_least) (defBody s_is_at_least) (defScope s_is_at_least) .none kV_is_at_least dc_is_at_least pm_is_at_least an_is_at_least cd_is_at_least ct_is_at_least), sl_is_at_least⟩) (c_is_at_least : PySem.W.codeIn K cd_is_at_least "is_at_least" = true) (k_is_at_least : PySem.W.keepIn K (.ref f_is_at_least) = true)
    {f_is_between : Addr} {od_is_between an_is_between : Option Addr} {sl_is_between : Array (Option Value)} {oc_is_between kV_is_between dc_is_between pm_is_between cd_is_between ct_is_between : Value}
    (a_is_between : PySem.W.nsIn K mainGlobals "is_between" = some (some (.ref f_is_between))) (l_is_between : K.lookup f_is_between = some ⟨oc_is_between, od_is_between, .func (PySem.W.fnOf "is_between" "is_between" (defArgs s_is_between) (defBody s_is_between) (defScope s_is_between) .none kV_is_between dc_is_between pm_is_between an_is_between cd_is_between ct_is_between), sl_is_between⟩) (c_is_between : PySem.W.codeIn K cd_is_between "is_between" = true) (k_is_between : PySem.W.keepIn K (.ref f_is_between) = true)
    {f_are_numbers : Addr} {od_are_numbers an_are_numbers : Option Addr} {sl_are_numbers : Array (Option Value)} {oc_are_numbers kV_are_numbers dc_are_numbers pm_are_numbers cd_are_numbers ct_are_numbers : Value}
    (a_are_numbers : PySem.W.nsIn K mainGlobals "are_numbers" = some (some (.ref f_are_numbers))) (l_are_numbers : K.lookup f_are_numbers = some ⟨oc_are_numbers, od_are_numbers, .func (PySem.W.fnOf "are_numbers" "are_numbers" (defArgs s_are_numbers) (defBody s_are_numbers) (defScope s_are_numbers) .none kV_are_numbers dc_are_numbers pm_are_numbers an_are_numbers cd_are_numbers ct_are_numbers), sl_are_numbers⟩) (c_are_numbers : PySem.W.codeIn K cd_are_numbers "are_numbers" = true) (k_are_numbers : PySem.W.keepIn K (.ref f_are_numbers) = true)
    {f_is_night : Addr} {od_is_night an_is_night : Option Addr} {sl_is_night : Array (Option Value)} {oc_is_night kV_is_night dc_is_night pm_is_night cd_is_night ct_is_night : Value}
    (a_is_night : PySem.W.nsIn K mainGlobals "is_night" = some (some (.ref f_is_night))) (l_is_night : K.lookup f_is_night = some ⟨oc_is_night, od_is_night, .func (PySem.W.fnOf "is_night" "is_night" (defArgs s_is_night) (defBody s_is_night) (defScope s_is_night) .none kV_is_night dc_is_night pm_is_night an_is_night cd_is_night ct_is_night), sl_is_night⟩) (c_is_night : PySem.W.codeIn K cd_is_night "is_night" = true) (k_is_night : PySem.W.keepIn K (.ref f_is_night) = true)
    {f_require_queue : Addr} {od_require_queue an_require_queue : Option Addr} {sl_require_queue : Array (Option Value)} {oc_require_queue kV_require_queue dc_require_queue pm_require_queue cd_require_queue ct_require_queue : Value}
    (a_require_queue : PySem.W.nsIn K mainGlobals "require_queue" = some (some (.ref f_require_queue))) (l_require_queue : K.lookup f_require_queue = some ⟨oc_require_queue, od_require_queue, .func (PySem.W.fnOf "require_queue" "require_queue" (defArgs s_require_queue) (defBody s_require_queue) (defScope s_require_queue) .none kV_require_queue dc_require_queue pm_require_queue an_require_queue cd_require_queue ct_require_queue), sl_require_queue⟩) (c_require_queue : PySem.W.codeIn K cd_require_queue "require_queue" = true) (k_require_queue : PySem.W.keepIn K (.ref f_require_queue) = true)
    {f_waiting_mornings : Addr} {od_waiting_mornings an_waiting_mornings : Option Addr} {sl_waiting_mornings : Array (Option Value)} {oc_waiting_mornings kV_waiting_mornings dc_waiting_mornings pm_waiting_mornings cd_waiting_mornings ct_waiting_mornings : Value}
    (a_waiting_mornings : PySem.W.nsIn K mainGlobals "waiting_mornings" = some (some (.ref f_waiting_mornings))) (l_waiting_mornings : K.lookup f_waiting_mornings = some ⟨oc_waiting_mornings, od_waiting_mornings, .func (PySem.W.fnOf "waiting_mornings" "waiting_mornings" (defArgs s_waiting_mornings) (defBody s_waiting_mornings) (defScope s_waiting_mornings) .none kV_waiting_mornings dc_waiting_mornings pm_waiting_mornings an_waiting_mornings cd_waiting_mornings ct_waiting_mornings), sl_waiting_mornings⟩) (c_waiting_mornings : PySem.W.codeIn K cd_waiting_mornings "waiting_mornings" = true) (k_waiting_mornings : PySem.W.keepIn K (.ref f_waiting_mornings) = true)
    {f_queue_over : Addr} {od_queue_over an_queue_over : Option Addr} {sl_queue_over : Array (Option Value)} {oc_queue_over kV_queue_over dc_queue_over pm_queue_over cd_queue_over ct_queue_over : Value}
    (a_queue_over : PySem.W.nsIn K mainGlobals "queue_over" = some (some (.ref f_queue_over))) (l_queue_over : K.lookup f_queue_over = some ⟨oc_queue_over, od_queue_over, .func (PySem.W.fnOf "queue_over" "queue_over" (defArgs s_queue_over) (defBody s_queue_over) (defScope s_queue_over) .none kV_queue_over dc_queue_over pm_queue_over an_queue_over cd_queue_over ct_queue_over), sl_queue_over⟩) (c_queue_over : PySem.W.codeIn K cd_queue_over "queue_over" = true) (k_queue_over : PySem.W.keepIn K (.ref f_queue_over) = true)
    {f_require_queue_past : Addr} {od_require_queue_past an_require_queue_past : Option Addr} {sl_require_queue_past : Array (Option Value)} {oc_require_queue_past kV_require_queue_past dc_require_queue_past pm_require_queue_past cd_require_queue_past ct_require_queue_past : Value}
    (a_require_queue_past : PySem.W.nsIn K mainGlobals "require_queue_past" = some (some (.ref f_require_queue_past))) (l_require_queue_past : K.lookup f_require_queue_past = some ⟨oc_require_queue_past, od_require_queue_past, .func (PySem.W.fnOf "require_queue_past" "require_queue_past" (defArgs s_require_queue_past) (defBody s_require_queue_past) (defScope s_require_queue_past) .none kV_require_queue_past dc_require_queue_past pm_require_queue_past an_require_queue_past cd_require_queue_past ct_require_queue_past), sl_require_queue_past⟩) (c_require_queue_past : PySem.W.codeIn K cd_require_queue_past "require_queue_past" = true) (k_require_queue_past : PySem.W.keepIn K (.ref f_require_queue_past) = true)
    {f_waiting : Addr} {od_waiting an_waiting : Option Addr} {sl_waiting : Array (Option Value)} {oc_waiting kV_waiting dc_waiting pm_waiting cd_waiting ct_waiting : Value}
    (a_waiting : PySem.W.nsIn K mainGlobals "waiting" = some (some (.ref f_waiting))) (l_waiting : K.lookup f_waiting = some ⟨oc_waiting, od_waiting, .func (PySem.W.fnOf "waiting" "waiting" (defArgs s_waiting) (defBody s_waiting) (defScope s_waiting) .none kV_waiting dc_waiting pm_waiting an_waiting cd_waiting ct_waiting), sl_waiting⟩) (c_waiting : PySem.W.codeIn K cd_waiting "waiting" = true) (k_waiting : PySem.W.keepIn K (.ref f_waiting) = true)
    {f_mended_on : Addr} {od_mended_on an_mended_on : Option Addr} {sl_mended_on : Array (Option Value)} {oc_mended_on kV_mended_on dc_mended_on pm_mended_on cd_mended_on ct_mended_on : Value}
    (a_mended_on : PySem.W.nsIn K mainGlobals "mended_on" = some (some (.ref f_mended_on))) (l_mended_on : K.lookup f_mended_on = some ⟨oc_mended_on, od_mended_on, .func (PySem.W.fnOf "mended_on" "mended_on" (defArgs s_mended_on) (defBody s_mended_on) (defScope s_mended_on) .none kV_mended_on dc_mended_on pm_mended_on an_mended_on cd_mended_on ct_mended_on), sl_mended_on⟩) (c_mended_on : PySem.W.codeIn K cd_mended_on "mended_on" = true) (k_mended_on : PySem.W.keepIn K (.ref f_mended_on) = true)
    {f_law_cell_at : Addr} {od_law_cell_at an_law_cell_at : Option Addr} {sl_law_cell_at : Array (Option Value)} {oc_law_cell_at kV_law_cell_at dc_law_cell_at pm_law_cell_at cd_law_cell_at ct_law_cell_at : Value}
    (a_law_cell_at : PySem.W.nsIn K mainGlobals "_law_cell_at" = some (some (.ref f_law_cell_at))) (l_law_cell_at : K.lookup f_law_cell_at = some ⟨oc_law_cell_at, od_law_cell_at, .func (PySem.W.fnOf "_law_cell_at" "_law_cell_at" (defArgs s_law_cell_at) (defBody s_law_cell_at) (defScope s_law_cell_at) .none kV_law_cell_at dc_law_cell_at pm_law_cell_at an_law_cell_at cd_law_cell_at ct_law_cell_at), sl_law_cell_at⟩) (c_law_cell_at : PySem.W.codeIn K cd_law_cell_at "_law_cell_at" = true) (k_law_cell_at : PySem.W.keepIn K (.ref f_law_cell_at) = true)
    {f_law_source : Addr} {od_law_source an_law_source : Option Addr} {sl_law_source : Array (Option Value)} {oc_law_source kV_law_source dc_law_source pm_law_source cd_law_source ct_law_source : Value}
    (a_law_source : PySem.W.nsIn K mainGlobals "_law_source" = some (some (.ref f_law_source))) (l_law_source : K.lookup f_law_source = some ⟨oc_law_source, od_law_source, .func (PySem.W.fnOf "_law_source" "_law_source" (defArgs s_law_source) (defBody s_law_source) (defScope s_law_source) .none kV_law_source dc_law_source pm_law_source an_law_source cd_law_source ct_law_source), sl_law_source⟩) (c_law_source : PySem.W.codeIn K cd_law_source "_law_source" = true) (k_law_source : PySem.W.keepIn K (.ref f_law_source) = true)
    {f_law_take : Addr} {od_law_take an_law_take : Option Addr} {sl_law_take : Array (Option Value)} {oc_law_take kV_law_take dc_law_take pm_law_take cd_law_take ct_law_take : Value}
    (a_law_take : PySem.W.nsIn K mainGlobals "_law_take" = some (some (.ref f_law_take))) (l_law_take : K.lookup f_law_take = some ⟨oc_law_take, od_law_take, .func (PySem.W.fnOf "_law_take" "_law_take" (defArgs s_law_take) (defBody s_law_take) (defScope s_law_take) .none kV_law_take dc_law_take pm_law_take an_law_take cd_law_take ct_law_take), sl_law_take⟩) (c_law_take : PySem.W.codeIn K cd_law_take "_law_take" = true) (k_law_take : PySem.W.keepIn K (.ref f_law_take) = true)
    {f_law_queue : Addr} {od_law_queue an_law_queue : Option Addr} {sl_law_queue : Array (Option Value)} {oc_law_queue kV_law_queue dc_law_queue pm_law_queue cd_law_queue ct_law_queue : Value}
    (a_law_queue : PySem.W.nsIn K mainGlobals "_law_queue" = some (some (.ref f_law_queue))) (l_law_queue : K.lookup f_law_queue = some ⟨oc_law_queue, od_law_queue, .func (PySem.W.fnOf "_law_queue" "_law_queue" (defArgs s_law_queue) (defBody s_law_queue) (defScope s_law_queue) .none kV_law_queue dc_law_queue pm_law_queue an_law_queue cd_law_queue ct_law_queue), sl_law_queue⟩) (c_law_queue : PySem.W.codeIn K cd_law_queue "_law_queue" = true) (k_law_queue : PySem.W.keepIn K (.ref f_law_queue) = true)
    {f_law_over : Addr} {od_law_over an_law_over : Option Addr} {sl_law_over : Array (Option Value)} {oc_law_over kV_law_over dc_law_over pm_law_over cd_law_over ct_law_over : Value}
    (a_law_over : PySem.W.nsIn K mainGlobals "_law_over" = some (some (.ref f_law_over))) (l_law_over : K.lookup f_law_over = some ⟨oc_law_over, od_law_over, .func (PySem.W.fnOf "_law_over" "_law_over" (defArgs s_law_over) (defBody s_law_over) (defScope s_law_over) .none kV_law_over dc_law_over pm_law_over an_law_over cd_law_over ct_law_over), sl_law_over⟩) (c_law_over : PySem.W.codeIn K cd_law_over "_law_over" = true) (k_law_over : PySem.W.keepIn K (.ref f_law_over) = true)
    {f_law_past : Addr} {od_law_past an_law_past : Option Addr} {sl_law_past : Array (Option Value)} {oc_law_past kV_law_past dc_law_past pm_law_past cd_law_past ct_law_past : Value}
    (a_law_past : PySem.W.nsIn K mainGlobals "_law_past" = some (some (.ref f_law_past))) (l_law_past : K.lookup f_law_past = some ⟨oc_law_past, od_law_past, .func (PySem.W.fnOf "_law_past" "_law_past" (defArgs s_law_past) (defBody s_law_past) (defScope s_law_past) .none kV_law_past dc_law_past pm_law_past an_law_past cd_law_past ct_law_past), sl_law_past⟩) (c_law_past : PySem.W.codeIn K cd_law_past "_law_past" = true) (k_law_past : PySem.W.keepIn K (.ref f_law_past) = true)
    {f_law_line : Addr} {od_law_line an_law_line : Option Addr} {sl_law_line : Array (Option Value)} {oc_law_line kV_law_line dc_law_line pm_law_line cd_law_line ct_law_line : Value}
    (a_law_line : PySem.W.nsIn K mainGlobals "_law_line" = some (some (.ref f_law_line))) (l_law_line : K.lookup f_law_line = some ⟨oc_law_line, od_law_line, .func (PySem.W.fnOf "_law_line" "_law_line" (defArgs s_law_line) (defBody s_law_line) (defScope s_law_line) .none kV_law_line dc_law_line pm_law_line an_law_line cd_law_line ct_law_line), sl_law_line⟩) (c_law_line : PySem.W.codeIn K cd_law_line "_law_line" = true) (k_law_line : PySem.W.keepIn K (.ref f_law_line) = true)
    {f_law_right : Addr} {od_law_right an_law_right : Option Addr} {sl_law_right : Array (Option Value)} {oc_law_right kV_law_right dc_law_right pm_law_right cd_law_right ct_law_right : Value}
    (a_law_right : PySem.W.nsIn K mainGlobals "_law_right" = some (some (.ref f_law_right))) (l_law_right : K.lookup f_law_right = some ⟨oc_law_right, od_law_right, .func (PySem.W.fnOf "_law_right" "_law_right" (defArgs s_law_right) (defBody s_law_right) (defScope s_law_right) .none kV_law_right dc_law_right pm_law_right an_law_right cd_law_right ct_law_right), sl_law_right⟩) (c_law_right : PySem.W.codeIn K cd_law_right "_law_right" = true) (k_law_right : PySem.W.keepIn K (.ref f_law_right) = true)
    {f_law : Addr} {od_law an_law : Option Addr} {sl_law : Array (Option Value)} {oc_law kV_law dc_law pm_law cd_law ct_law : Value}
    (a_law : PySem.W.nsIn K mainGlobals "law" = some (some (.ref f_law))) (l_law : K.lookup f_law = some ⟨oc_law, od_law, .func (PySem.W.fnOf "law" "law" (defArgs s_law) (defBody s_law) (defScope s_law) .none kV_law dc_law pm_law an_law cd_law ct_law), sl_law⟩) (c_law : PySem.W.codeIn K cd_law "law" = true) (k_law : PySem.W.keepIn K (.ref f_law) = true)
    {t_MAX_DAYS : Tok} (v_MAX_DAYS : PySem.W.nsIn K mainGlobals "MAX_DAYS" = some (some (.int 100 t_MAX_DAYS)))
    {t_MAX_OWNED : Tok} (v_MAX_OWNED : PySem.W.nsIn K mainGlobals "MAX_OWNED" = some (some (.int 12 t_MAX_OWNED)))
    (z_all : PySem.W.nsIn K mainGlobals "all" = some none)
    (z_bool : PySem.W.nsIn K mainGlobals "bool" = some none)
    (z_enumerate : PySem.W.nsIn K mainGlobals "enumerate" = some none)
    (z_int : PySem.W.nsIn K mainGlobals "int" = some none)
    (z_isinstance : PySem.W.nsIn K mainGlobals "isinstance" = some none)
    (z_len : PySem.W.nsIn K mainGlobals "len" = some none)
    (z_list : PySem.W.nsIn K mainGlobals "list" = some none)
    (z_max : PySem.W.nsIn K mainGlobals "max" = some none)
    (z_range : PySem.W.nsIn K mainGlobals "range" = some none)
    (z_repr : PySem.W.nsIn K mainGlobals "repr" = some none)
    (z_tuple : PySem.W.nsIn K mainGlobals "tuple" = some none)
    : ∃ (fd : FuncData) (C : CT), (∀ (s : Shared) (v : Value), BindsTo s fd ⟨[v], []⟩ [("_law_script", v)]) ∧ ∀ base : Heap, K.In base → base.Ns mainGlobals mg → FnQ l.prog w K mg base C 8 fa fd ["_law_script"] F_law := by
  have e2 : fa = f_law := by
    have e := hfa.symm.trans (PySem.W.mg_of X G a_law)
    cases e
    rfl
  rw [e2]
  have F_is_integer := fun_mk (st := s_is_integer) l_is_integer c_is_integer k_is_integer
  have F_is_at_least := fun_mk (st := s_is_at_least) l_is_at_least c_is_at_least k_is_at_least
  have F_is_between := fun_mk (st := s_is_between) l_is_between c_is_between k_is_between
  have F_are_numbers := fun_mk (st := s_are_numbers) l_are_numbers c_are_numbers k_are_numbers
  have F_is_night := fun_mk (st := s_is_night) l_is_night c_is_night k_is_night
  have F_require_queue := fun_mk (st := s_require_queue) l_require_queue c_require_queue k_require_queue
  have F_waiting_mornings := fun_mk (st := s_waiting_mornings) l_waiting_mornings c_waiting_mornings k_waiting_mornings
  have F_queue_over := fun_mk (st := s_queue_over) l_queue_over c_queue_over k_queue_over
  have F_require_queue_past := fun_mk (st := s_require_queue_past) l_require_queue_past c_require_queue_past k_require_queue_past
  have F_waiting := fun_mk (st := s_waiting) l_waiting c_waiting k_waiting
  have F_mended_on := fun_mk (st := s_mended_on) l_mended_on c_mended_on k_mended_on
  have F_law_cell_at := fun_mk (st := s_law_cell_at) l_law_cell_at c_law_cell_at k_law_cell_at
  have F_law_source := fun_mk (st := s_law_source) l_law_source c_law_source k_law_source
  have F_law_take := fun_mk (st := s_law_take) l_law_take c_law_take k_law_take
  have F_law_queue := fun_mk (st := s_law_queue) l_law_queue c_law_queue k_law_queue
  have F_law_over := fun_mk (st := s_law_over) l_law_over c_law_over k_law_over
  have F_law_past := fun_mk (st := s_law_past) l_law_past c_law_past k_law_past
  have F_law_line := fun_mk (st := s_law_line) l_law_line c_law_line k_law_line
  have F_law_right := fun_mk (st := s_law_right) l_law_right c_law_right k_law_right
  have F_law := fun_mk (st := s_law) l_law c_law k_law
  have T : Tx K mg ⟨f_is_integer, _, f_is_at_least, _, f_is_between, _, f_are_numbers, _, f_is_night, _, f_require_queue, _, f_waiting_mornings, _, f_queue_over, _, f_require_queue_past, _, f_waiting, _, f_mended_on, _, f_law_cell_at, _, f_law_source, _, f_law_take, _, f_law_queue, _, f_law_over, _, f_law_past, _, f_law_line, _, f_law_right, _, f_law, _, t_MAX_DAYS, t_MAX_OWNED⟩ :=
    { g_is_integer := PySem.W.mg_of X G a_is_integer,
      F_is_integer := F_is_integer, b_is_integer := F_is_integer.binds fun _ _ _ _ _ _ us hl => match us, hl with | [_], _ => rfl,
      g_is_at_least := PySem.W.mg_of X G a_is_at_least,
      F_is_at_least := F_is_at_least, b_is_at_least := F_is_at_least.binds fun _ _ _ _ _ _ us hl => match us, hl with | [_, _], _ => rfl,
      g_is_between := PySem.W.mg_of X G a_is_between,
      F_is_between := F_is_between, b_is_between := F_is_between.binds fun _ _ _ _ _ _ us hl => match us, hl with | [_, _, _], _ => rfl,
      g_are_numbers := PySem.W.mg_of X G a_are_numbers,
      F_are_numbers := F_are_numbers, b_are_numbers := F_are_numbers.binds fun _ _ _ _ _ _ us hl => match us, hl with | [_], _ => rfl,
      g_is_night := PySem.W.mg_of X G a_is_night,
      F_is_night := F_is_night, b_is_night := F_is_night.binds fun _ _ _ _ _ _ us hl => match us, hl with | [_], _ => rfl,
      g_require_queue := PySem.W.mg_of X G a_require_queue,
      F_require_queue := F_require_queue, b_require_queue := F_require_queue.binds fun _ _ _ _ _ _ us hl => match us, hl with | [_], _ => rfl,
      g_waiting_mornings := PySem.W.mg_of X G a_waiting_mornings,
      F_waiting_mornings := F_waiting_mornings, b_waiting_mornings := F_waiting_mornings.binds fun _ _ _ _ _ _ us hl => match us, hl with | [_, _], _ => rfl,
      g_queue_over := PySem.W.mg_of X G a_queue_over,
      F_queue_over := F_queue_over, b_queue_over := F_queue_over.binds fun _ _ _ _ _ _ us hl => match us, hl with | [_, _], _ => rfl,
      g_require_queue_past := PySem.W.mg_of X G a_require_queue_past,
      F_require_queue_past := F_require_queue_past, b_require_queue_past := F_require_queue_past.binds fun _ _ _ _ _ _ us hl => match us, hl with | [_, _], _ => rfl,
      g_waiting := PySem.W.mg_of X G a_waiting,
      F_waiting := F_waiting, b_waiting := F_waiting.binds fun _ _ _ _ _ _ us hl => match us, hl with | [_, _], _ => rfl,
      g_mended_on := PySem.W.mg_of X G a_mended_on,
      F_mended_on := F_mended_on, b_mended_on := F_mended_on.binds fun _ _ _ _ _ _ us hl => match us, hl with | [_, _], _ => rfl,
      g_law_cell_at := PySem.W.mg_of X G a_law_cell_at,
      F_law_cell_at := F_law_cell_at, b_law_cell_at := F_law_cell_at.binds fun _ _ _ _ _ _ us hl => match us, hl with | [_, _], _ => rfl,
      g_law_source := PySem.W.mg_of X G a_law_source,
      F_law_source := F_law_source, b_law_source := F_law_source.binds fun _ _ _ _ _ _ us hl => match us, hl with | [_], _ => rfl,
      g_law_take := PySem.W.mg_of X G a_law_take,
      F_law_take := F_law_take, b_law_take := F_law_take.binds fun _ _ _ _ _ _ us hl => match us, hl with | [_, _], _ => rfl,
      g_law_queue := PySem.W.mg_of X G a_law_queue,
      F_law_queue := F_law_queue, b_law_queue := F_law_queue.binds fun _ _ _ _ _ _ us hl => match us, hl with | [_, _, _], _ => rfl,
      g_law_over := PySem.W.mg_of X G a_law_over,
      F_law_over := F_law_over, b_law_over := F_law_over.binds fun _ _ _ _ _ _ us hl => match us, hl with | [_, _], _ => rfl,
      g_law_past := PySem.W.mg_of X G a_law_past,
      F_law_past := F_law_past, b_law_past := F_law_past.binds fun _ _ _ _ _ _ us hl => match us, hl with | [_, _, _], _ => rfl,
      g_law_line := PySem.W.mg_of X G a_law_line,
      F_law_line := F_law_line, b_law_line := F_law_line.binds fun _ _ _ _ _ _ us hl => match us, hl with | [_, _], _ => rfl,
      g_law_right := PySem.W.mg_of X G a_law_right,
      F_law_right := F_law_right, b_law_right := F_law_right.binds fun _ _ _ _ _ _ us hl => match us, hl with | [_, _], _ => rfl,
      g_law := PySem.W.mg_of X G a_law,
      F_law := F_law, b_law := F_law.binds fun _ _ _ _ _ _ us hl => match us, hl with | [_], _ => rfl,
      k_mended_on_past_queue := fun s us ws _ h1 h2 => match us, ws, h1, h2 with | [], [_, _], _, _ => .of_eq rfl,
      k_waiting_past_queue := fun s us ws _ h1 h2 => match us, ws, h1, h2 with | [], [_, _], _, _ => .of_eq rfl,
      m_all := PySem.W.mg_none_of X G z_all,
      m_bool := PySem.W.mg_none_of X G z_bool,
      m_enumerate := PySem.W.mg_none_of X G z_enumerate,
      m_int := PySem.W.mg_none_of X G z_int,
      m_isinstance := PySem.W.mg_none_of X G z_isinstance,
      m_len := PySem.W.mg_none_of X G z_len,
      m_list := PySem.W.mg_none_of X G z_list,
      m_max := PySem.W.mg_none_of X G z_max,
      m_range := PySem.W.mg_none_of X G z_range,
      m_repr := PySem.W.mg_none_of X G z_repr,
      m_tuple := PySem.W.mg_none_of X G z_tuple,
      c_MAX_DAYS := PySem.W.mg_of X G v_MAX_DAYS,
      c_MAX_OWNED := PySem.W.mg_of X G v_MAX_OWNED }
  exact ⟨_, ⟨fun _ => 0, fun _ => Str.empty⟩, fun s v => .of_eq rfl, fun base _ _ => ok_law T⟩
end My
open PySem PySem.W PyProof.Rows
set_option maxRecDepth 100000 in
set_option maxHeartbeats 0 in
theorem PySem.Challenge.cw_breakrows_k64_pieces_waiting_and_mended_holds : PySem.Challenge.rw_breakrows_k64_pieces_waiting_and_mended.Holds := by
  w_on; o_law; k_head; (case hw => w_witness2)
  k_fill
  refine Bk.walk_q (l := PySem.Challenge.rw_breakrows_k64_pieces_waiting_and_mended) (n := 63) (k := 8) (x := "_law_script") (F := My.F_law) rfl (by decide) rfl ⟨rfl, by decide, by decide⟩ (fun w h Y => PySem.W.kIn_of Y) ?F My.law_true
  case F =>
    intro w mg fa h KX G hmg
    refine' My.all_mk KX G hmg ?a_is_integer ?l_is_integer ?c_is_integer ?k_is_integer ?a_is_at_least ?l_is_at_least ?c_is_at_least ?k_is_at_least ?a_is_between ?l_is_between ?c_is_between ?k_is_between ?a_are_numbers ?l_are_numbers ?c_are_numbers ?k_are_numbers ?a_is_night ?l_is_night ?c_is_night ?k_is_night ?a_require_queue ?l_require_queue ?c_require_queue ?k_require_queue ?a_waiting_mornings ?l_waiting_mornings ?c_waiting_mornings ?k_waiting_mornings ?a_queue_over ?l_queue_over ?c_queue_over ?k_queue_over ?a_require_queue_past ?l_require_queue_past ?c_require_queue_past ?k_require_queue_past ?a_waiting ?l_waiting ?c_waiting ?k_waiting ?a_mended_on ?l_mended_on ?c_mended_on ?k_mended_on ?a_law_cell_at ?l_law_cell_at ?c_law_cell_at ?k_law_cell_at ?a_law_source ?l_law_source ?c_law_source ?k_law_source ?a_law_take ?l_law_take ?c_law_take ?k_law_take ?a_law_queue ?l_law_queue ?c_law_queue ?k_law_queue ?a_law_over ?l_law_over ?c_law_over ?k_law_over ?a_law_past ?l_law_past ?c_law_past ?k_law_past ?a_law_line ?l_law_line ?c_law_line ?k_law_line ?a_law_right ?l_law_right ?c_law_right ?k_law_right ?a_law ?l_law ?c_law ?k_law ?v_MAX_DAYS ?v_MAX_OWNED ?z_all ?z_bool ?z_enumerate ?z_int ?z_isinstance ?z_len ?z_list ?z_max ?z_range ?z_repr ?z_tuple
    (case a_is_integer => k_is); (case l_is_integer => k_is); (case c_is_integer => k_is); (case k_is_integer => k_is); (case a_is_at_least => k_is); (case l_is_at_least => k_is); (case c_is_at_least => k_is); (case k_is_at_least => k_is); (case a_is_between => k_is); (case l_is_between => k_is); (case c_is_between => k_is); (case k_is_between => k_is); (case a_are_numbers => k_is); (case l_are_numbers => k_is); (case c_are_numbers => k_is); (case k_are_numbers => k_is); (case a_is_night => k_is); (case l_is_night => k_is); (case c_is_night => k_is); (case k_is_night => k_is); (case a_require_queue => k_is); (case l_require_queue => k_is); (case c_require_queue => k_is); (case k_require_queue => k_is); (case a_waiting_mornings => k_is); (case l_waiting_mornings => k_is); (case c_waiting_mornings => k_is); (case k_waiting_mornings => k_is); (case a_queue_over => k_is); (case l_queue_over => k_is); (case c_queue_over => k_is); (case k_queue_over => k_is); (case a_require_queue_past => k_is); (case l_require_queue_past => k_is); (case c_require_queue_past => k_is); (case k_require_queue_past => k_is); (case a_waiting => k_is); (case l_waiting => k_is); (case c_waiting => k_is); (case k_waiting => k_is); (case a_mended_on => k_is); (case l_mended_on => k_is); (case c_mended_on => k_is); (case k_mended_on => k_is); (case a_law_cell_at => k_is); (case l_law_cell_at => k_is); (case c_law_cell_at => k_is); (case k_law_cell_at => k_is); (case a_law_source => k_is); (case l_law_source => k_is); (case c_law_source => k_is); (case k_law_source => k_is); (case a_law_take => k_is); (case l_law_take => k_is); (case c_law_take => k_is); (case k_law_take => k_is); (case a_law_queue => k_is); (case l_law_queue => k_is); (case c_law_queue => k_is); (case k_law_queue => k_is); (case a_law_over => k_is); (case l_law_over => k_is); (case c_law_over => k_is); (case k_law_over => k_is); (case a_law_past => k_is); (case l_law_past => k_is); (case c_law_past => k_is); (case k_law_past => k_is); (case a_law_line => k_is); (case l_law_line => k_is); (case c_law_line => k_is); (case k_law_line => k_is); (case a_law_right => k_is); (case l_law_right => k_is); (case c_law_right => k_is); (case k_law_right => k_is); (case a_law => k_is); (case l_law => k_is); (case c_law => k_is); (case k_law => k_is); (case v_MAX_DAYS => k_is); (case v_MAX_OWNED => k_is); (case z_all => k_is); (case z_bool => k_is); (case z_enumerate => k_is); (case z_int => k_is); (case z_isinstance => k_is); (case z_len => k_is); (case z_list => k_is); (case z_max => k_is); (case z_range => k_is); (case z_repr => k_is); (case z_tuple => k_is)

