import PyProof.Rows.All
import HandS.Codes
import HandS.Conv
import HandS.Deep
import HandS.DictComp
import HandS.EndTab
import HandS.ExcField
import HandS.ExcInit
import HandS.ExcIs
import HandS.ExcOwn
import HandS.ForExc
import HandS.ForMost
import HandS.IsInst
import HandS.Iter
import HandS.Lambda
import HandS.Rev
import HandS.SetBool
import HandS.SetFor
import HandS.SortInts
import HandS.SortKw
import HandS.SortRule
import HandS.Strs
import HandS.Style
import HandS.TupAny
import HandS.TupLe
import HandS.TupLen
import HandS.TupMul
import HandS.TupSets
import HandS.Wide
import KE.DataCmp
import KE.DataMinMax
import KE.GoesEnum
import KE.GoesEnumKw
import KE.GoesMore
import KE.GoesZip
import KE.KDictCopyH
import KE.KDictDisplayH
import KE.KDictKeyed
import KE.KDictPairs
import KE.KDictSum
import KE.KDictWalk
import KE.KDictZip
import KE.KNestM
import KE.KTryMore
import KE.KTupSum
import KE.KeyNested
import KE.SortCalls
import KE.SortData
import OpenK.AllK
import PyProof.DictRoadsH
import PyProof.Rows.SetFrom
import PyProof.SetRoads
import PySem.Challenge.RW_breakrows_k05_invalid_arguments_of_calen
import Wide.All
import Wide.FinOn
set_option Elab.async false
set_option linter.all false
set_option maxRecDepth 100000
set_option maxHeartbeats 1000000
/-! A layer of trees over the hand layer: values are trees D, what may be changed lies in a small store M of our own; each construct has a function that computes its result, and a theorem that the hand layer's reading follows from it. -/
namespace Bk
open PySem PySem.Spec PyProof.Rows L2

/-! ### data, the store, results -/
/-- the words of a lambda: its maker's name, parameters, body, names -/
structure LSy where
  ix : Nat
  qual : Str
  params : Arguments
  body : Expr
  scope : Scope
inductive D where
  | non | bl (b : Bool) | int (i : Int) | str (x : Str)
  | tup (xs : List D) | lst (xs : List D) | ref (k : Nat) | dct (ks vs : List D) | ptu (xs : List D)
  | lam (l : LSy) (cl : List (Str × Addr)) | exn (nm f : Str) (d : D) | exv (a dx : Addr) (f : Str) (d : D) | dcx (k : Key) (d : D)
inductive MO where
  | dead | lst (xs : List D) | obj (nm : Str) (fs : List (Str × D)) | dct (ks vs : List D) | dki (kvs : List (Int × D)) | tab (nm : Str)
inductive R (α : Type) where
  | ok (a : α) (M : List MO) | exc (c : Nat) (d : D) (M : List MO) | bad
def R.bind {α β : Type} (r : R α) (f : α → List MO → R β) : R β := match r with
  | .ok a M => f a M
  | .exc c d M => .exc c d M
  | .bad => .bad
abbrev Env := List (Option D)
abbrev GE := Env → List MO → R D
abbrev GT := Env → List MO → R Bool
abbrev GA := Env → List MO → R (List D)
inductive RS where
  | nx (Γ : Env) (M : List MO) | rt (d : D) (M : List MO) | bk (Γ : Env) (M : List MO) | ct (Γ : Env) (M : List MO)
  | exc (c : Nat) (d : D) (Γ : Env) (M : List MO) | bad
abbrev GS := Env → List MO → RS

/-- a list, tracked or written, and no more than that -/
def ExL (K : PySem.W.Frag) (H : Hp) (a : Addr) (xs : List V) : Prop :=
  Rd H a (.lst xs) ∨ ∃ (its : Array Value) (m : Nat), K.lookup a = some { cls := .type "list", data := .seq its m } ∧ its.size ≤ sizeLine ∧ Vals xs its.toList
theorem ExL.sq {K : PySem.W.Frag} {H : Hp} {a : Addr} {xs : List V} : ExL K H a xs → SqL K H a xs
  | .inl h => .inl h
  | .inr ⟨its, m, h1, h2, h3⟩ => .inr ⟨_, its, m, h1, rfl, rfl, rfl, h2, h3⟩
theorem ExL.at_ {X : Cx} {pins : List (Addr × Obj)} {σ : L2.St} {H : Hp} {s : Shared} {a : Addr} {xs : List V} (I : Inv X pins σ H s) (h : ExL X.K H a xs) : ∃ (its : List Value) (m : Nat), Vals xs its ∧ s.heap.get? a = some { cls := .type "list", data := .seq its.toArray m } ∧ xs.length ≤ sizeLine := by
  rcases h with h | ⟨its, m, h1, h2, h3⟩
  · obtain ⟨z, its, m, r, e⟩ := h.ok I.hok
    exact ⟨its, m, r, e, z⟩
  · refine ⟨its.toList, m, h3, by simpa using I.kIn a _ h1, ?_⟩
    have e := h3.length
    rw [Array.length_toList] at e
    exact Nat.le_trans (Nat.le_of_eq e) h2
/-! dicts: their keys nested tuples of whole numbers and None -/
section
variable (K : PySem.W.Frag) (Z : Hp)
mutual
inductive KeyV : NestedKey → V → Prop
  | non : KeyV .none .non
  | int (i : Int) : KeyV (.num i) (.int i)
  | tup {ks : List NestedKey} {a : Addr} {xs : List V} : SqT K Z a xs → KeyVs ks xs → KeyV (.tup ks) (.ref a)
inductive KeyVs : List NestedKey → List V → Prop
  | nil : KeyVs [] []
  | cons {k : NestedKey} {v : V} {ks : List NestedKey} {vs : List V} : KeyV k v → KeyVs ks vs → KeyVs (k :: ks) (v :: vs)
end
/-- the entries of a dict: keys, where they stand, values -/
inductive Ents : List NestedKey → List V → List V → List DictEntry → Prop
  | nil : Ents [] [] [] []
  | cons {k : NestedKey} {y : V} {ku : Value} {v : V} {u : Value} {hs : Int} {ks : List NestedKey} {kv vs : List V} {es : List DictEntry} : KeyV K Z k y → RelV y ku → k.depth ≤ 8 → (∀ w : World, hs = k.hash w) → RelV v u → Ents ks kv vs es → Ents (k :: ks) (y :: kv) (v :: vs) (⟨hs, ku, u⟩ :: es)
end
/-- a tuple that is known to have no dict of its own -/
def PlT (Z : Hp) (a : Addr) (xs : List V) : Prop := ∃ o : Obj, Z a = some (.frz o (.tup xs)) ∧ o.dict = none
theorem PlT.sq {K : PySem.W.Frag} {Z : Hp} {a : Addr} {xs : List V} : PlT Z a xs → SqT K Z a xs
  | ⟨o, h, _⟩ => .inl (.inr ⟨o, h⟩)
def dnO (a : Addr) (es : Array DictEntry) (ep : Nat) : HO := .ext fun h => ∃ o, h.get? a = some o ∧ o.ExactDict ∧ o.data = .dict es ep
/-- all keys are objects -/
def AllRef (ks : List V) : Prop := ∀ x ∈ ks, ∃ b, x = V.ref b
/-- a dict that stands at a and may change: its keys lean on what is frozen -/
def DR (K : PySem.W.Frag) (H Z : Hp) (a : Addr) (nks : List NestedKey) (ks vs : List V) : Prop := ∃ (es : Array DictEntry) (ep : Nat), H a = some (dnO a es ep) ∧ (a == sysModules) = false ∧ ks.length ≤ sizeLine ∧ nks.Nodup ∧ Ents K Z nks ks vs es.toList
/-- a dict that stands at a -/
def ExD (K : PySem.W.Frag) (Z : Hp) (a : Addr) (nks : List NestedKey) (ks vs : List V) : Prop := ∃ (es : Array DictEntry) (ep : Nat), Z a = some (dnO a es ep) ∧ (a == sysModules) = false ∧ ks.length ≤ sizeLine ∧ nks.Nodup ∧ Ents K Z nks ks vs es.toList
/-- the object at a is a function made of the lambda l, its captured names in cl, its code object at c -/
def LamO (a : Addr) (l : LSy) (cl : List (Str × Addr)) (c : Addr) : HO := .ext fun h => ∃ pm ct : Value, h.get? a = some (PySem.W.kla_obj "<lambda>" (l.qual ++ "<lambda>") l.params l.body l.scope (cloFrom cl l.scope.names []) pm c ct)
section
variable (K : PySem.W.Frag) (Z : Hp) (ι : Nat → Addr) (n : Nat)
mutual
inductive Rp : D → V → Prop
  | non : Rp .non .non
  | bl (b : Bool) : Rp (.bl b) (.bl b)
  | int (i : Int) : Rp (.int i) (.int i)
  | str (x : Str) : Rp (.str x) (.str x)
  | tup {ds : List D} {a : Addr} {xs : List V} : SqT K Z a xs → Rps ds xs → Rp (.tup ds) (.ref a)
  | lst {ds : List D} {a : Addr} {xs : List V} : ExL K Z a xs → Rps ds xs → Rp (.lst ds) (.ref a)
  | ref {k : Nat} : k < n → Rp (.ref k) (.ref (ι k))
  | dct {ks vs : List D} {a : Addr} {nks : List NestedKey} {kx xs : List V} : ExD K Z a nks kx xs → Rps ks kx → Rps vs xs → Rp (.dct ks vs) (.ref a)
  | ptu {ds : List D} {a : Addr} {xs : List V} : PlT Z a xs → Rps ds xs → Rp (.ptu ds) (.ref a)
  | lam {l : LSy} {cl : List (Str × Addr)} {a c : Addr} : Z a = some (LamO a l cl c) → Z c = some (LamX.CodeO c (l.qual ++ "<lambda>")) → Rp (.lam l cl) (.ref a)
  | exn {nm f : Str} {d : D} {a dx B : Addr} {v : V} : PySem.W.nsIn K mainGlobals nm = some (some (.ref B)) → Z a = some (exo a B (some dx)) → Z dx = some (.xd [(f, v)]) → Rp d v → Rp (.exn nm f d) (.ref a)
  | exv {a dx : Addr} {f : Str} {d : D} {v : V} : Z dx = some (.xd [(f, v)]) → Rp d v → Rp (.exv a dx f d) (.ref a)
  | dcx {k : Key} {d : D} {a : Addr} {v : V} : Z a = some (.dK [(k, v)]) → Rp d v → Rp (.dcx k d) (.ref a)
inductive Rps : List D → List V → Prop
  | nil : Rps [] []
  | cons {d : D} {v : V} {ds : List D} {vs : List V} : Rp d v → Rps ds vs → Rps (d :: ds) (v :: vs)
end
end

abbrev Sub (Z Z' : Hp) : Prop := ∀ a o, Z a = some o → Z' a = some o
theorem subL {K : PySem.W.Frag} {Z Z' : Hp} (h : Sub Z Z') {a : Addr} {xs : List V} : ExL K Z a xs → ExL K Z' a xs
  | .inl (.inl e) => .inl (.inl (h _ _ e))
  | .inl (.inr ⟨o, e⟩) => .inl (.inr ⟨o, h _ _ e⟩)
  | .inr q => .inr q
theorem subT {K : PySem.W.Frag} {Z Z' : Hp} (h : Sub Z Z') {a : Addr} {xs : List V} : SqT K Z a xs → SqT K Z' a xs
  | .inl (.inl e) => .inl (.inl (h _ _ e))
  | .inl (.inr ⟨o, e⟩) => .inl (.inr ⟨o, h _ _ e⟩)
  | .inr q => .inr q

section
variable {K : PySem.W.Frag} {Z Z' : Hp}
mutual
theorem KeyV.sub (hz : Sub Z Z') : ∀ (k : NestedKey) (v : V), KeyV K Z k v → KeyV K Z' k v
  | .none, _, h => by cases h; exact .non
  | .num i, _, h => by cases h; exact .int i
  | .text x, _, h => by cases h
  | .tup ks, _, h => by
    cases h with
    | tup s r => exact .tup (subT hz s) (KeyVs.sub hz ks _ r)
theorem KeyVs.sub (hz : Sub Z Z') : ∀ (ks : List NestedKey) (vs : List V), KeyVs K Z ks vs → KeyVs K Z' ks vs
  | [], _, h => by cases h; exact .nil
  | k :: ks, _, h => by
    cases h with
    | cons r s => exact .cons (KeyV.sub hz k _ r) (KeyVs.sub hz ks _ s)
end
theorem Ents.sub (hz : Sub Z Z') : ∀ {ks : List NestedKey} {kv vs : List V} {es : List DictEntry}, Ents K Z ks kv vs es → Ents K Z' ks kv vs es
  | _, _, _, _, .nil => .nil
  | _, _, _, _, .cons a y b c d e => .cons (KeyV.sub hz _ _ a) y b c d (Ents.sub hz e)
theorem subD (hz : Sub Z Z') {a : Addr} {nks : List NestedKey} {ks vs : List V} : ExD K Z a nks ks vs → ExD K Z' a nks ks vs
  | ⟨es, ep, h1, h2, h3, h4, h5⟩ => ⟨es, ep, hz _ _ h1, h2, h3, h4, h5.sub hz⟩
end

section
variable {K : PySem.W.Frag} {Z Z' : Hp} {ι ι' : Nat → Addr} {n n' : Nat}
mutual
theorem Rp.mono (hz : Sub Z Z') (hi : ∀ k, k < n → ι' k = ι k) (hn : n ≤ n') : ∀ (d : D) (v : V), Rp K Z ι n d v → Rp K Z' ι' n' d v
  | .non, _, h => by cases h; exact .non
  | .bl b, _, h => by cases h; exact .bl b
  | .int i, _, h => by cases h; exact .int i
  | .str x, _, h => by cases h; exact .str x
  | .tup ds, _, h => by
    cases h with
    | tup s r => exact .tup (subT hz s) (Rps.mono hz hi hn ds _ r)
  | .lst ds, _, h => by
    cases h with
    | lst s r => exact .lst (subL hz s) (Rps.mono hz hi hn ds _ r)
  | .ref k, _, h => by
    cases h with
    | ref q => rw [← hi k q]; exact .ref (Nat.lt_of_lt_of_le q hn)
  | .dct ks vs, _, h => by
    cases h with
    | dct s r t => exact .dct (subD hz s) (Rps.mono hz hi hn ks _ r) (Rps.mono hz hi hn vs _ t)
  | .ptu ds, _, h => by
    cases h with
    | ptu s r => exact .ptu (let ⟨o, a, b⟩ := s; ⟨o, hz _ _ a, b⟩) (Rps.mono hz hi hn ds _ r)
  | .lam _ _, _, h => by
    cases h with
    | lam s r => exact .lam (hz _ _ s) (hz _ _ r)
  | .exn _ _ d, _, h => by
    cases h with
    | exn s r q w => exact .exn s (hz _ _ r) (hz _ _ q) (Rp.mono hz hi hn d _ w)
  | .exv _ _ _ d, _, h => by
    cases h with
    | exv q w => exact .exv (hz _ _ q) (Rp.mono hz hi hn d _ w)
  | .dcx _ d, _, h => by
    cases h with
    | dcx q w => exact .dcx (hz _ _ q) (Rp.mono hz hi hn d _ w)
theorem Rps.mono (hz : Sub Z Z') (hi : ∀ k, k < n → ι' k = ι k) (hn : n ≤ n') : ∀ (ds : List D) (vs : List V), Rps K Z ι n ds vs → Rps K Z' ι' n' ds vs
  | [], _, h => by cases h; exact .nil
  | d :: ds, _, h => by
    cases h with
    | cons r s => exact .cons (Rp.mono hz hi hn d _ r) (Rps.mono hz hi hn ds _ s)
end
theorem Rps.length : ∀ {ds : List D} {vs : List V}, Rps K Z ι n ds vs → ds.length = vs.length
  | [], _, h => by cases h; rfl
  | _ :: _, _, h => by
    cases h with
    | cons _ s => rw [List.length_cons, List.length_cons, Rps.length s]
theorem Rps.get : ∀ {ds : List D} {vs : List V} {i : Nat} {d : D}, Rps K Z ι n ds vs → ds[i]? = some d → ∃ v, vs[i]? = some v ∧ Rp K Z ι n d v
  | [], _, _, _, _, e => by simp at e
  | _ :: _, _, 0, _, h, e => by
    cases h with
    | cons r _ =>
      simp at e
      subst e
      exact ⟨_, rfl, r⟩
  | _ :: _, _, i + 1, _, h, e => by
    cases h with
    | cons _ s =>
      obtain ⟨v, h1, h2⟩ := Rps.get s (i := i) (by simpa using e)
      exact ⟨v, by simpa using h1, h2⟩
theorem Rps.append : ∀ {ds es : List D} {vs us : List V}, Rps K Z ι n ds vs → Rps K Z ι n es us → Rps K Z ι n (ds ++ es) (vs ++ us)
  | [], _, _, _, h, q => by cases h; exact q
  | _ :: _, _, _, _, h, q => by
    cases h with
    | cons r s => exact .cons r (Rps.append s q)
theorem Rps.set : ∀ {ds : List D} {vs : List V} {d : D} {v : V} (i : Nat), Rps K Z ι n ds vs → Rp K Z ι n d v → Rps K Z ι n (ds.set i d) (vs.set i v)
  | [], _, _, _, _, h, _ => by cases h; exact .nil
  | _ :: _, _, _, _, 0, h, q => by
    cases h with
    | cons _ s => exact .cons q s
  | _ :: _, _, _, _, i + 1, h, q => by
    cases h with
    | cons r s => exact .cons r (Rps.set i s q)
theorem Rps.take : ∀ {ds : List D} {vs : List V} (i : Nat), Rps K Z ι n ds vs → Rps K Z ι n (ds.take i) (vs.take i)
  | _, _, 0, _ => by rw [List.take_zero, List.take_zero]; exact .nil
  | [], _, _ + 1, h => by cases h; exact .nil
  | _ :: _, _, i + 1, h => by
    cases h with
    | cons r s => exact .cons r (Rps.take i s)
theorem Rps.drop : ∀ {ds : List D} {vs : List V} (i : Nat), Rps K Z ι n ds vs → Rps K Z ι n (ds.drop i) (vs.drop i)
  | _, _, 0, h => h
  | [], _, _ + 1, h => by cases h; exact .nil
  | _ :: _, _, i + 1, h => by
    cases h with
    | cons r s => exact Rps.drop i s
theorem Rps.rep {ds : List D} {vs : List V} (h : Rps K Z ι n ds vs) : ∀ k : Nat, Rps K Z ι n (List.replicate k ds).flatten (List.replicate k vs).flatten
  | 0 => .nil
  | k + 1 => by
    rw [List.replicate_succ, List.replicate_succ, List.flatten_cons, List.flatten_cons]
    exact h.append (Rps.rep h k)
theorem Rps.ints : ∀ {is : List Int} {vs : List V}, Rps K Z ι n (is.map D.int) vs → vs = is.map V.int
  | [], _, h => by cases h; rfl
  | _ :: _, _, h => by
    cases h with
    | cons r s =>
      cases r
      rw [List.map_cons, Rps.ints s]
theorem Rps.of_ints : ∀ (is : List Int), Rps K Z ι n (is.map D.int) (is.map V.int)
  | [] => .nil
  | i :: is => .cons (.int i) (Rps.of_ints is)
end

/-! refs below a bound -/
mutual
def below (m : Nat) : D → Bool
  | .tup ds => belows m ds
  | .lst ds => belows m ds
  | .ref k => decide (k < m)
  | .dct ks vs => belows m ks && belows m vs
  | .ptu ds => belows m ds
  | .exn _ _ d => below m d
  | .exv _ _ _ d => below m d
  | .dcx _ d => below m d
  | _ => true
def belows (m : Nat) : List D → Bool
  | [] => true
  | d :: ds => below m d && belows m ds
end
section
variable {K : PySem.W.Frag} {Z : Hp} {ι : Nat → Addr} {n m : Nat}
mutual
theorem Rp.shrink : ∀ (d : D) (v : V), Rp K Z ι n d v → below m d = true → Rp K Z ι m d v
  | .non, _, h, _ => by cases h; exact .non
  | .bl b, _, h, _ => by cases h; exact .bl b
  | .int i, _, h, _ => by cases h; exact .int i
  | .str x, _, h, _ => by cases h; exact .str x
  | .tup ds, _, h, b => by
    cases h with
    | tup s r => exact .tup s (Rps.shrink ds _ r (by simpa [below] using b))
  | .lst ds, _, h, b => by
    cases h with
    | lst s r => exact .lst s (Rps.shrink ds _ r (by simpa [below] using b))
  | .ref k, _, h, b => by
    cases h with
    | ref q => exact .ref (by simpa [below] using b)
  | .dct ks vs, _, h, b => by
    cases h with
    | dct s r t =>
      have b' : (belows m ks && belows m vs) = true := b
      rw [Bool.and_eq_true] at b'
      exact .dct s (Rps.shrink ks _ r b'.1) (Rps.shrink vs _ t b'.2)
  | .ptu ds, _, h, b => by
    cases h with
    | ptu s r => exact .ptu s (Rps.shrink ds _ r (by simpa [below] using b))
  | .lam _ _, _, h, b => by
    cases h with
    | lam s r => exact .lam s r
  | .exn _ _ d, _, h, b => by
    cases h with
    | exn s r q w => exact .exn s r q (Rp.shrink d _ w (by simpa [below] using b))
  | .exv _ _ _ d, _, h, b => by
    cases h with
    | exv q w => exact .exv q (Rp.shrink d _ w (by simpa [below] using b))
  | .dcx _ d, _, h, b => by
    cases h with
    | dcx q w => exact .dcx q (Rp.shrink d _ w (by simpa [below] using b))
theorem Rps.shrink : ∀ (ds : List D) (vs : List V), Rps K Z ι n ds vs → belows m ds = true → Rps K Z ι m ds vs
  | [], _, h, _ => by cases h; exact .nil
  | d :: ds, _, h, b => by
    cases h with
    | cons r s =>
      simp only [belows, Bool.and_eq_true] at b
      exact .cons (Rp.shrink d _ r b.1) (Rps.shrink ds _ s b.2)
end
end

/-! ### the heap holds the store -/
def belowO (m : Nat) : MO → Bool
  | .dead => true
  | .lst ds => belows m ds
  | .obj _ fs => belows m (fs.map (·.2))
  | .dct ks vs => belows m ks && belows m vs
  | .dki kvs => belows m (kvs.map (·.2))
  | .tab _ => true
/-- at a stands the table of the code objects that the def nm makes -/
def TabZ (K : PySem.W.Frag) (H Z : Hp) (nm : Str) (a : Addr) : Prop := (∃ c, PySem.W.tabIn K nm = some (c, a)) ∧ ∃ ps : Array Value, H a = some (.tbl ps) ∧ TriplesOk ps.toList ∧ ∀ (pos : Pos) (cv : Value), codeAmong pos ps.toList = some cv → ∃ c, cv = .ref c ∧ Z c = some (LamX.CodeO c (nm ++ ".<locals>." ++ "<lambda>"))
def OR (K : PySem.W.Frag) (H Z : Hp) (ι : Nat → Addr) (n : Nat) : MO → Addr → Prop
  | .dead, _ => True
  | .lst ds, a => ∃ xs, H a = some (.lst xs) ∧ Rps K Z ι n ds xs
  | .obj nm fs, a => ∃ C dx gs, PySem.W.nsIn K mainGlobals nm = some (some (.ref C)) ∧ H a = some (.ins C dx gs) ∧ gs.map (·.1) = fs.map (·.1) ∧ Rps K Z ι n (fs.map (·.2)) (gs.map (·.2))
  | .dct ks vs, a => ∃ nks kx xs, DR K H Z a nks kx xs ∧ Rps K Z ι n ks kx ∧ Rps K Z ι n vs xs
  | .dki kvs, a => ∃ gs : List (L2.Key × V), H a = some (.dK gs) ∧ gs.map (·.1) = kvs.map (fun p => Sum.inl p.1) ∧ Rps K Z ι n (kvs.map (·.2)) (gs.map (·.2))
  | .tab nm, a => TabZ K H Z nm a
section
variable {K : PySem.W.Frag} {H Z : Hp} {ι : Nat → Addr} {n : Nat}
theorem OR.mono {Z' : Hp} {ι' : Nat → Addr} {n' : Nat} {H' : Hp} {u : MO} {a : Addr} (hz : Sub Z Z') (hi : ∀ k, k < n → ι' k = ι k) (hn : n ≤ n') (hh : ∀ o, H a = some o → H' a = some o) (h : OR K H Z ι n u a) : OR K H' Z' ι' n' u a := by
  cases u with
  | dead => trivial
  | lst ds =>
    obtain ⟨xs, e1, r⟩ := h
    exact ⟨xs, hh _ e1, Rps.mono hz hi hn _ _ r⟩
  | obj nm fs =>
    obtain ⟨C, dx, gs, e0, e1, e2, r⟩ := h
    exact ⟨C, dx, gs, e0, hh _ e1, e2, Rps.mono hz hi hn _ _ r⟩
  | dct ks vs =>
    obtain ⟨nks, kx, xs, ⟨es, ep, h1, h2, h3, h4, h5⟩, r, q⟩ := h
    exact ⟨nks, kx, xs, ⟨es, ep, hh _ h1, h2, h3, h4, h5.sub hz⟩, Rps.mono hz hi hn _ _ r, Rps.mono hz hi hn _ _ q⟩
  | dki kvs =>
    obtain ⟨gs, e1, e2, r⟩ := h
    exact ⟨gs, hh _ e1, e2, Rps.mono hz hi hn _ _ r⟩
  | tab nm =>
    obtain ⟨c, ps, e1, e2, e3⟩ := h
    exact ⟨c, ps, hh _ e1, e2, fun pos cv q => let ⟨b, q1, q2⟩ := e3 pos cv q; ⟨b, q1, hz _ _ q2⟩⟩
theorem OR.shrink {u : MO} {a : Addr} {m : Nat} (h : OR K H Z ι n u a) (b : belowO m u = true) : OR K H Z ι m u a := by
  cases u with
  | dead => trivial
  | lst ds =>
    obtain ⟨xs, e1, r⟩ := h
    exact ⟨xs, e1, Rps.shrink _ _ r b⟩
  | obj nm fs =>
    obtain ⟨C, dx, gs, e0, e1, e2, r⟩ := h
    exact ⟨C, dx, gs, e0, e1, e2, Rps.shrink _ _ r b⟩
  | dct ks vs =>
    obtain ⟨nks, kx, xs, d, r, q⟩ := h
    have b' : (belows m ks && belows m vs) = true := b
    rw [Bool.and_eq_true] at b'
    exact ⟨nks, kx, xs, d, Rps.shrink _ _ r b'.1, Rps.shrink _ _ q b'.2⟩
  | dki kvs =>
    obtain ⟨gs, e1, e2, r⟩ := h
    exact ⟨gs, e1, e2, Rps.shrink _ _ r b⟩
  | tab nm => exact h
/-- what leans on nothing of ours -/
theorem OR.low {ι' : Nat → Addr} {n' : Nat} {u : MO} {a : Addr} (h : OR K H Z ι n u a) (b : belowO 0 u = true) : OR K H Z ι' n' u a :=
  OR.mono (fun _ _ z => z) (fun _ z => absurd z (Nat.not_lt_zero _)) (Nat.zero_le _) (fun _ z => z) (h.shrink b)
end
structure HR (K : PySem.W.Frag) (H Z : Hp) (ι : Nat → Addr) (M : List MO) : Prop where
  sub : Sub Z H
  ali : ∀ k, k < M.length → ∃ o, H (ι k) = some o
  sep : ∀ (k : Nat) (o : MO), M[k]? = some o → o ≠ .dead → Z (ι k) = none
  inj : ∀ (j k : Nat) (o u : MO), M[j]? = some o → M[k]? = some u → o ≠ .dead → u ≠ .dead → ι j = ι k → j = k
  obj : ∀ (k : Nat) (o : MO), M[k]? = some o → OR K H Z ι M.length o (ι k)
  ded : ∀ (k : Nat), M[k]? = some .dead → ∃ o, Z (ι k) = some o
theorem HR.apart {K : PySem.W.Frag} {H Z : Hp} {ι : Nat → Addr} {M : List MO} (h : HR K H Z ι M) {j k : Nat} {o : MO} (hj : j < M.length) (hk : M[k]? = some o) (d : o ≠ .dead) (ne : j ≠ k) : ι j ≠ ι k := fun e => by
  have ej : M[j]? = some M[j] := List.getElem?_eq_getElem hj
  by_cases dj : M[j] = .dead
  · rw [dj] at ej
    obtain ⟨u, hu⟩ := h.ded j ej
    rw [e, h.sep k o hk d] at hu
    cases hu
  · exact ne (h.inj j k _ o ej hk dj d e)
structure Ext (H Z : Hp) (ι : Nat → Addr) (n : Nat) (H' Z' : Hp) (ι' : Nat → Addr) (n' : Nat) : Prop where
  zz : Sub Z Z'
  ii : ∀ k, k < n → ι' k = ι k
  fr : ∀ a o, H a = some o → (∀ k, k < n → a ≠ ι k) → H' a = some o
  nw : ∀ k, n ≤ k → k < n' → H (ι' k) = none
  ln : n ≤ n'
  zn : ∀ a o, Z' a = some o → Z a = some o ∨ H a = none ∨ ∃ k, k < n ∧ a = ι k
theorem Ext.refl {H Z : Hp} {ι : Nat → Addr} {n : Nat} : Ext H Z ι n H Z ι n :=
  ⟨fun _ _ h => h, fun _ _ => rfl, fun _ _ h _ => h, fun k h1 h2 => absurd h2 (Nat.not_lt.mpr h1), Nat.le_refl _, fun _ _ h => .inl h⟩
theorem Ext.trans {H Z H1 Z1 H2 Z2 : Hp} {ι ι1 ι2 : Nat → Addr} {n n1 n2 : Nat} (a : Ext H Z ι n H1 Z1 ι1 n1) (b : Ext H1 Z1 ι1 n1 H2 Z2 ι2 n2) (al : ∀ k, k < n1 → ∃ o, H1 (ι1 k) = some o) : Ext H Z ι n H2 Z2 ι2 n2 where
  zz := fun x o h => b.zz x o (a.zz x o h)
  ii := fun k h => (b.ii k (Nat.lt_of_lt_of_le h a.ln)).trans (a.ii k h)
  fr := fun x o h hk => by
    refine b.fr x o (a.fr x o h hk) fun k hk1 e => ?_
    by_cases hn : k < n
    · exact hk k hn (e.trans (a.ii k hn))
    · have q := a.nw k (Nat.le_of_not_lt hn) hk1
      rw [← e, h] at q
      cases q
  nw := fun k h1 h2 => by
    by_cases hn : k < n1
    · rw [b.ii k hn]
      exact a.nw k h1 hn
    · have q := b.nw k (Nat.le_of_not_lt hn) h2
      cases e : H (ι2 k) with
      | none => rfl
      | some o =>
        by_cases z : ∀ j, j < n → ι2 k ≠ ι j
        · rw [a.fr _ _ e z] at q
          cases q
        · exfalso
          apply z
          intro j hj ej
          obtain ⟨u, hu⟩ := al j (Nat.lt_of_lt_of_le hj a.ln)
          rw [a.ii j hj, ← ej, q] at hu
          cases hu
  ln := Nat.le_trans a.ln b.ln
  zn := fun x o h => by
    have low : ∀ u, H1 x = none → H x = some u → ∃ k, k < n ∧ x = ι k := fun u h1 hu => by
      refine Classical.byContradiction fun z => ?_
      rw [a.fr x u hu fun k hk e => z ⟨k, hk, e⟩] at h1
      cases h1
    have fin : H1 x = none → Z x = some o ∨ H x = none ∨ ∃ k, k < n ∧ x = ι k := fun h1 => by
      cases e : H x with
      | none => exact .inr (.inl rfl)
      | some u => exact .inr (.inr (low u h1 e))
    rcases b.zn x o h with h | h | ⟨k, hk, e⟩
    · exact a.zn x o h
    · exact fin h
    · by_cases hn : k < n
      · exact .inr (.inr ⟨k, hn, e.trans (a.ii k hn)⟩)
      · exact .inr (.inl (by rw [e]; exact a.nw k (Nat.le_of_not_lt hn) hk))
/-- the store is cut -/
theorem Ext.cut {H Z H1 Z1 : Hp} {ι ι1 : Nat → Addr} {n n1 m : Nat} (a : Ext H Z ι n H1 Z1 ι1 n1) (h1 : n ≤ m) (h2 : m ≤ n1) : Ext H Z ι n H1 Z1 ι1 m :=
  ⟨a.zz, a.ii, a.fr, fun k q1 q2 => a.nw k q1 (Nat.lt_of_lt_of_le q2 h2), h1, a.zn⟩
section
variable {K : PySem.W.Frag} {H Z H' Z' : Hp} {ι ι' : Nat → Addr} {M : List MO} {n' : Nat}
theorem Rp.ext {d : D} {v : V} {n : Nat} (r : Rp K Z ι n d v) (e : Ext H Z ι n H' Z' ι' n') : Rp K Z' ι' n' d v := Rp.mono e.zz e.ii e.ln d v r
theorem Rps.ext {ds : List D} {vs : List V} {n : Nat} (r : Rps K Z ι n ds vs) (e : Ext H Z ι n H' Z' ι' n') : Rps K Z' ι' n' ds vs := Rps.mono e.zz e.ii e.ln ds vs r
/-- a new thing that will not be changed -/
theorem HR.frozen (h : HR K H Z ι M) {p : Addr} {o : HO} (hp : H p = none) : HR K (upd H p o) (upd Z p o) ι M ∧ Ext H Z ι M.length (upd H p o) (upd Z p o) ι M.length := by
  have zp : Z p = none := by
    cases e : Z p with
    | none => rfl
    | some u =>
      rw [h.sub _ _ e] at hp
      cases hp
  have ne : ∀ k, k < M.length → ι k ≠ p := fun k hk e => by
    obtain ⟨u, hu⟩ := h.ali k hk
    rw [e, hp] at hu
    cases hu
  have lt : ∀ {k : Nat} {u : MO}, M[k]? = some u → k < M.length := fun e => (List.getElem?_eq_some_iff.mp e).1
  have s1 : Sub Z (upd Z p o) := fun a u e => by rw [upd_ne (ne_of_none e zp)]; exact e
  refine ⟨⟨fun a u e => ?_, fun k hk => ?_, fun k u e d => ?_, h.inj, fun k u e => ?_, fun k e => ?_⟩, s1, fun _ _ => rfl, fun a u e _ => ?_, fun k h1 h2 => absurd h2 (Nat.not_lt.mpr h1), Nat.le_refl _, fun a u e => ?_⟩
  · by_cases ha : a = p
    · subst ha
      rw [upd_same] at e ⊢
      exact e
    · rw [upd_ne ha] at e ⊢
      exact h.sub _ _ e
  · rw [upd_ne (ne k hk)]
    exact h.ali k hk
  · rw [upd_ne (ne k (lt e))]
    exact h.sep k u e d
  · exact OR.mono s1 (fun _ _ => rfl) (Nat.le_refl _) (fun o z => by rw [upd_ne (ne k (lt e))]; exact z) (h.obj k u e)
  · obtain ⟨u, hu⟩ := h.ded k e
    exact ⟨u, s1 _ _ hu⟩
  · rw [upd_ne (ne_of_none e hp)]
    exact e
  · by_cases ha : a = p
    · subst ha
      exact .inr (.inl hp)
    · rw [upd_ne ha] at e
      exact .inl e
def put (ι : Nat → Addr) (m : Nat) (p : Addr) : Nat → Addr := fun k => if k = m then p else ι k
theorem put_at {ι : Nat → Addr} {m : Nat} {p : Addr} : put ι m p m = p := if_pos rfl
theorem put_lt {ι : Nat → Addr} {m k : Nat} {p : Addr} (h : k < m) : put ι m p k = ι k := if_neg (Nat.ne_of_lt h)
/-- a new thing of ours -/
theorem HR.owned (h : HR K H Z ι M) {p : Addr} {ds : List D} {xs : List V} (hp : H p = none) (r : Rps K Z ι M.length ds xs) :
    HR K (upd H p (.lst xs)) Z (put ι M.length p) (M ++ [.lst ds]) ∧ Ext H Z ι M.length (upd H p (.lst xs)) Z (put ι M.length p) (M ++ [MO.lst ds]).length := by
  have zp : Z p = none := by
    cases e : Z p with
    | none => rfl
    | some u =>
      rw [h.sub _ _ e] at hp
      cases hp
  have ne : ∀ k, k < M.length → ι k ≠ p := fun k hk e => by
    obtain ⟨u, hu⟩ := h.ali k hk
    rw [e, hp] at hu
    cases hu
  have ii : ∀ k, k < M.length → (put ι M.length p) k = ι k := fun k hk => put_lt hk
  have il : (put ι M.length p) M.length = p := put_at
  have cs : ∀ {k : Nat} {u : MO}, (M ++ [MO.lst ds])[k]? = some u → (k < M.length ∧ M[k]? = some u) ∨ (k = M.length ∧ u = .lst ds) := fun {k u} e => by
    by_cases hk : k < M.length
    · rw [List.getElem?_append_left hk] at e
      exact .inl ⟨hk, e⟩
    · rw [List.getElem?_append_right (Nat.le_of_not_lt hk)] at e
      by_cases hz : k - M.length = 0
      · rw [hz] at e
        exact .inr ⟨by omega, (Option.some.inj e).symm⟩
      · rw [List.getElem?_eq_none (by simp; omega)] at e
        cases e
  have ln : (M ++ [MO.lst ds]).length = M.length + 1 := by simp
  refine ⟨⟨fun a u e => ?_, fun k hk => ?_, fun k u e d => ?_, fun j k o u e1 e2 d1 d2 e => ?_, fun k u e => ?_, fun k e => ?_⟩, fun _ _ e => e, ii, fun a u e _ => ?_, fun k h1 h2 => ?_, by rw [ln]; omega, fun _ _ e => .inl e⟩
  · rw [upd_ne (ne_of_none e zp)]
    exact h.sub _ _ e
  · rw [ln] at hk
    by_cases hk' : k < M.length
    · rw [ii k hk', upd_ne (ne k hk')]
      exact h.ali k hk'
    · have : k = M.length := by omega
      subst this
      exact ⟨_, by rw [il, upd_same]⟩
  · rcases cs e with ⟨hk, e⟩ | ⟨rfl, rfl⟩
    · rw [ii k hk]
      exact h.sep k u e d
    · rw [il]
      exact zp
  · rcases cs e1 with ⟨hj, e1⟩ | ⟨rfl, rfl⟩ <;> rcases cs e2 with ⟨hk, e2⟩ | ⟨rfl, rfl⟩
    · rw [ii j hj, ii k hk] at e
      exact h.inj j k o u e1 e2 d1 d2 e
    · rw [ii j hj, il] at e
      exact absurd e (ne j hj)
    · rw [ii k hk, il] at e
      exact absurd e.symm (ne k hk)
    · rfl
  · rcases cs e with ⟨hk, e⟩ | ⟨rfl, rfl⟩
    · rw [ii k hk]
      exact OR.mono (fun _ _ z => z) ii (by rw [ln]; omega) (fun o z => by rw [upd_ne (ne k hk)]; exact z) (h.obj k u e)
    · rw [il]
      exact ⟨xs, upd_same, Rps.mono (fun _ _ z => z) ii (by rw [ln]; omega) _ _ r⟩
  · rcases cs e with ⟨hk, e⟩ | ⟨_, e⟩
    · rw [ii k hk]
      exact h.ded k e
    · cases e
  · rw [upd_ne (ne_of_none e hp)]
    exact e
  · rw [ln] at h2
    have : k = M.length := by omega
    subst this
    rw [il]
    exact hp
/-- one of ours is changed -/
theorem HR.change (h : HR K H Z ι M) {j : Nat} {es ds : List D} {xs : List V} (hj : M[j]? = some (.lst es)) (r : Rps K Z ι M.length ds xs) :
    HR K (upd H (ι j) (.lst xs)) Z ι (M.set j (.lst ds)) ∧ Ext H Z ι M.length (upd H (ι j) (.lst xs)) Z ι (M.set j (.lst ds)).length := by
  have lt : j < M.length := (List.getElem?_eq_some_iff.mp hj).1
  have ln : (M.set j (MO.lst ds)).length = M.length := List.length_set
  have zj : Z (ι j) = none := h.sep j _ hj (by simp)
  have cs : ∀ {k : Nat} {u : MO}, (M.set j (.lst ds))[k]? = some u → (k ≠ j ∧ M[k]? = some u) ∨ (k = j ∧ u = .lst ds) := fun {k u} e => by
    by_cases hk : k = j
    · subst hk
      rw [List.getElem?_set_self lt] at e
      exact .inr ⟨rfl, (Option.some.inj e).symm⟩
    · rw [List.getElem?_set_ne (Ne.symm hk)] at e
      exact .inl ⟨hk, e⟩
  have apart : ∀ {k : Nat} {u : MO}, k ≠ j → M[k]? = some u → u ≠ .dead → ι k ≠ ι j := fun {k u} hk e d z => hk (h.inj k j u _ e hj d (by simp) z)
  refine ⟨⟨fun a u e => ?_, fun k hk => ?_, fun k u e d => ?_, fun a b o u e1 e2 d1 d2 e => ?_, fun k u e => ?_, fun k e => ?_⟩, fun _ _ e => e, fun _ _ => rfl, fun a u e z => ?_, fun k h1 h2 => absurd h2 (by rw [ln]; exact Nat.not_lt.mpr h1), by rw [ln]; exact Nat.le_refl _, fun _ _ e => .inl e⟩
  · rw [upd_ne (ne_of_none e zj)]
    exact h.sub _ _ e
  · rw [ln] at hk
    by_cases e : ι k = ι j
    · exact ⟨_, by rw [e, upd_same]⟩
    · rw [upd_ne e]
      exact h.ali k hk
  · rcases cs e with ⟨hk, e⟩ | ⟨rfl, rfl⟩
    · exact h.sep k u e d
    · exact zj
  · have live : ∀ {k : Nat} {u : MO}, (M.set j (.lst ds))[k]? = some u → u ≠ .dead → ∃ u', M[k]? = some u' ∧ u' ≠ .dead := fun {k u} e d => by
      rcases cs e with ⟨_, e⟩ | ⟨rfl, rfl⟩
      · exact ⟨u, e, d⟩
      · exact ⟨_, hj, by simp⟩
    obtain ⟨o', e1', d1'⟩ := live e1 d1
    obtain ⟨u', e2', d2'⟩ := live e2 d2
    exact h.inj a b o' u' e1' e2' d1' d2' e
  · rw [ln]
    rcases cs e with ⟨hk, e⟩ | ⟨rfl, rfl⟩
    · by_cases du : u = .dead
      · subst du
        trivial
      · exact OR.mono (fun _ _ z => z) (fun _ _ => rfl) (Nat.le_refl _) (fun o z => by rw [upd_ne (apart hk e du)]; exact z) (h.obj k u e)
    · exact ⟨xs, upd_same, r⟩
  · rcases cs e with ⟨_, e⟩ | ⟨_, e⟩
    · exact h.ded k e
    · cases e
  · rw [upd_ne (z j lt)]
    exact e
/-- one of ours will not be changed any more -/
theorem HR.freezeG (h : HR K H Z ι M) {j : Nat} {o : MO} {ho : HO} (hj : M[j]? = some o) (hd : o ≠ .dead) (e1 : H (ι j) = some ho) :
    HR K H (upd Z (ι j) ho) ι (M.set j .dead) ∧ Ext H Z ι M.length H (upd Z (ι j) ho) ι (M.set j MO.dead).length ∧ Sub Z (upd Z (ι j) ho) := by
  have lt : j < M.length := (List.getElem?_eq_some_iff.mp hj).1
  have ln : (M.set j MO.dead).length = M.length := List.length_set
  have zj : Z (ι j) = none := h.sep j _ hj hd
  have s1 : Sub Z (upd Z (ι j) ho) := fun a u e => by rw [upd_ne (ne_of_none e zj)]; exact e
  have cs : ∀ {k : Nat} {u : MO}, (M.set j .dead)[k]? = some u → u ≠ .dead → k ≠ j ∧ M[k]? = some u := fun {k u} e d => by
    by_cases hk : k = j
    · subst hk
      rw [List.getElem?_set_self lt] at e
      exact absurd (Option.some.inj e).symm d
    · rw [List.getElem?_set_ne (Ne.symm hk)] at e
      exact ⟨hk, e⟩
  refine ⟨⟨fun a u e => ?_, fun k hk => h.ali k (by rw [ln] at hk; exact hk), fun k u e d => ?_, fun a b o u q1 q2 d1 d2 e => ?_, fun k u e => ?_, fun k e => ?_⟩, ⟨s1, fun _ _ => rfl, fun a u e _ => e, fun k h1 h2 => absurd h2 (by rw [ln]; exact Nat.not_lt.mpr h1), by rw [ln]; exact Nat.le_refl _, fun a u e => ?_⟩, s1⟩
  · by_cases ha : a = ι j
    · subst ha
      rw [upd_same] at e
      cases e
      exact e1
    · rw [upd_ne ha] at e
      exact h.sub _ _ e
  · obtain ⟨hk, e⟩ := cs e d
    rw [upd_ne fun z => hk (h.inj k j u _ e hj d hd z)]
    exact h.sep k u e d
  · exact h.inj a b o u (cs q1 d1).2 (cs q2 d2).2 d1 d2 e
  · rw [ln]
    by_cases du : u = .dead
    · subst du
      trivial
    · exact OR.mono s1 (fun _ _ => rfl) (Nat.le_refl _) (fun _ z => z) (h.obj k u (cs e du).2)
  · by_cases hk : k = j
    · subst hk
      exact ⟨_, upd_same⟩
    · rw [List.getElem?_set_ne (Ne.symm hk)] at e
      obtain ⟨u, hu⟩ := h.ded k e
      exact ⟨u, s1 _ _ hu⟩
  · by_cases ha : a = ι j
    · exact .inr (.inr ⟨j, lt, ha⟩)
    · rw [upd_ne ha] at e
      exact .inl e
/-- a list of ours will not be changed any more -/
theorem HR.freeze (h : HR K H Z ι M) {j : Nat} {ds : List D} (hj : M[j]? = some (.lst ds)) :
    ∃ xs, Rps K Z ι M.length ds xs ∧ HR K H (upd Z (ι j) (.lst xs)) ι (M.set j .dead) ∧ Ext H Z ι M.length H (upd Z (ι j) (.lst xs)) ι (M.set j MO.dead).length ∧ Rp K (upd Z (ι j) (.lst xs)) ι (M.set j MO.dead).length (.lst ds) (.ref (ι j)) := by
  have ln : (M.set j MO.dead).length = M.length := List.length_set
  obtain ⟨xs, e1, r⟩ := h.obj j _ hj
  obtain ⟨a, b, s1⟩ := h.freezeG hj (by simp) e1
  refine ⟨xs, r, a, b, ?_⟩
  rw [ln]
  exact .lst (.inl (.inl upd_same)) (Rps.mono s1 (fun _ _ => rfl) (Nat.le_refl _) _ _ r)
/-- a dict of ours will not be changed any more -/
theorem HR.freezeD (h : HR K H Z ι M) {j : Nat} {ks vs : List D} (hj : M[j]? = some (.dct ks vs)) :
    ∃ ho, H (ι j) = some ho ∧ HR K H (upd Z (ι j) ho) ι (M.set j .dead) ∧ Ext H Z ι M.length H (upd Z (ι j) ho) ι (M.set j MO.dead).length ∧ Rp K (upd Z (ι j) ho) ι (M.set j MO.dead).length (.dct ks vs) (.ref (ι j)) := by
  have ln : (M.set j MO.dead).length = M.length := List.length_set
  obtain ⟨nks, kx, xs, ⟨es, ep, h1, h2, h3, h4, h5⟩, r, q⟩ := h.obj j _ hj
  obtain ⟨a, b, s1⟩ := h.freezeG hj (by simp) h1
  refine ⟨_, h1, a, b, ?_⟩
  rw [ln]
  exact .dct ⟨es, ep, upd_same, h2, h3, h4, h5.sub s1⟩ (Rps.mono s1 (fun _ _ => rfl) (Nat.le_refl _) _ _ r) (Rps.mono s1 (fun _ _ => rfl) (Nat.le_refl _) _ _ q)
end
/-- a cut: what is left leans on nothing that was cut off -/
def cutOk (m : Nat) (M : List MO) : Bool := (M.take m).all (belowO m)
theorem HR.cut {K : PySem.W.Frag} {H Z : Hp} {ι : Nat → Addr} {M : List MO} (h : HR K H Z ι M) {m : Nat} (hm : m ≤ M.length) (c : cutOk m M = true) : HR K H Z ι (M.take m) := by
  have ln : (M.take m).length = m := by rw [List.length_take]; omega
  have cs : ∀ {k : Nat} {u : MO}, (M.take m)[k]? = some u → M[k]? = some u ∧ belowO m u = true := fun {k u} e => by
    have lk : k < m := by
      have := (List.getElem?_eq_some_iff.mp e).1
      rw [ln] at this
      exact this
    have e' := e
    rw [List.getElem?_take_of_lt lk] at e'
    exact ⟨e', List.all_eq_true.mp c u (List.mem_of_getElem? e)⟩
  refine ⟨h.sub, fun k hk => h.ali k (by rw [ln] at hk; omega), fun k u e d => h.sep k u (cs e).1 d, fun a b o u e1 e2 d1 d2 e => h.inj a b o u (cs e1).1 (cs e2).1 d1 d2 e, fun k u e => ?_, fun k e => h.ded k (cs e).1⟩
  rw [ln]
  obtain ⟨e1, b⟩ := cs e
  exact (h.obj k u e1).shrink b
end Bk

set_option Elab.async false
set_option linter.all false
set_option maxRecDepth 100000
set_option maxHeartbeats 1000000
namespace Bk
open PySem PySem.Spec PyProof.Rows L2

/-! ### what is shown of a piece of syntax -/
abbrev St := L2.St
/-- the classes of errors: where each stands, and its one attribute -/
structure CT where
  at_ : Nat → Addr
  nm : Nat → Str
def ExcR (K : PySem.W.Frag) (C : CT) (H Z : Hp) (ι : Nat → Addr) (n c : Nat) (d : D) (cls : Value) (dd : Option Addr) : Prop :=
  cls = .ref (C.at_ c) ∧ ∃ a v, dd = some a ∧ Z a = some (.xd [(C.nm c, v)]) ∧ Rp K Z ι n d v
def Slots (K : PySem.W.Frag) (Z : Hp) (ι : Nat → Addr) (n : Nat) (Γ : Env) (σ : St) : Prop :=
  Γ.length = σ.length ∧ ∀ (i : Nat) (d : D), Γ[i]? = some (some d) → ∃ v, σ[i]? = some (some v) ∧ Rp K Z ι n d v
theorem Slots.ext {K : PySem.W.Frag} {H Z H' Z' : Hp} {ι ι' : Nat → Addr} {n n' : Nat} {Γ : Env} {σ : St} (s : Slots K Z ι n Γ σ) (e : Ext H Z ι n H' Z' ι' n') : Slots K Z' ι' n' Γ σ :=
  ⟨s.1, fun i d h => let ⟨v, h1, h2⟩ := s.2 i d h; ⟨v, h1, h2.ext e⟩⟩
theorem Slots.set {K : PySem.W.Frag} {Z : Hp} {ι : Nat → Addr} {n : Nat} {Γ : Env} {σ : St} (s : Slots K Z ι n Γ σ) (i : Nat) {d : D} {v : V} (r : Rp K Z ι n d v) : Slots K Z ι n (Γ.set i (some d)) (σ.set i (some v)) := by
  refine ⟨by rw [List.length_set, List.length_set]; exact s.1, fun j e h => ?_⟩
  by_cases hj : i = j
  · subst hj
    have lt : i < Γ.length := by
      have := (List.getElem?_eq_some_iff.mp h).1
      rw [List.length_set] at this
      exact this
    rw [List.getElem?_set_self lt] at h
    have q := Option.some.inj (Option.some.inj h)
    subst q
    exact ⟨v, List.getElem?_set_self (by rw [← s.1]; exact lt), r⟩
  · rw [List.getElem?_set_ne hj] at h
    rw [List.getElem?_set_ne hj]
    exact s.2 j e h
/-- slots are forgotten -/
def forget (Γ : Env) : List Nat → Env
  | [] => Γ
  | i :: is => forget (Γ.set i none) is
theorem Slots.forget {K : PySem.W.Frag} {Z : Hp} {ι : Nat → Addr} {n : Nat} {σ : St} : ∀ (is : List Nat) {Γ : Env}, Slots K Z ι n Γ σ → Slots K Z ι n (forget Γ is) σ
  | [], _, s => s
  | i :: is, Γ, s => Slots.forget is ⟨by rw [List.length_set]; exact s.1, fun j e h => by
      by_cases hj : i = j
      · subst hj
        have lt : i < Γ.length := by
          have := (List.getElem?_eq_some_iff.mp h).1
          rw [List.length_set] at this
          exact this
        rw [List.getElem?_set_self lt] at h
        cases h
      · rw [List.getElem?_set_ne hj] at h
        exact s.2 j e h⟩
/-- what leans on nothing that is cut off stays -/
def clean (m : Nat) (Γ : Env) : Env := Γ.map fun o => match o with
  | some d => if below m d = true then some d else none
  | none => none
theorem Slots.cut {K : PySem.W.Frag} {Z : Hp} {ι : Nat → Addr} {n m : Nat} {Γ : Env} {σ : St} (s : Slots K Z ι n Γ σ) : Slots K Z ι m (clean m Γ) σ := by
  refine ⟨by unfold clean; rw [List.length_map]; exact s.1, fun i d h => ?_⟩
  unfold clean at h
  rw [List.getElem?_map] at h
  cases e : Γ[i]? with
  | none => rw [e] at h; cases h
  | some o =>
    cases o with
    | none => rw [e] at h; cases h
    | some d' =>
      rw [e] at h
      have h' : (if below m d' = true then some d' else none) = some d := Option.some.inj h
      by_cases hb : below m d' = true
      · rw [if_pos hb] at h'
        have q := Option.some.inj h'
        subst q
        obtain ⟨v, h1, h2⟩ := s.2 i d' e
        exact ⟨v, h1, h2.shrink _ _ hb⟩
      · rw [if_neg hb] at h'
        cases h'

abbrev RpK (α β : Type) := Hp → (Nat → Addr) → Nat → α → β → Prop
abbrev rpE (K : PySem.W.Frag) : RpK D V := fun Z ι n d v => Rp K Z ι n d v
abbrev rpA (K : PySem.W.Frag) : RpK (List D) (List V) := fun Z ι n d v => Rps K Z ι n d v
abbrev rpT : RpK Bool Bool := fun _ _ _ a b => a = b
def Post {α β : Type} (X : Cx) (C : CT) (W : WX) (rp : RpK α β) (σ : St) (H Z : Hp) (ι : Nat → Addr) (M : List MO) (r : R α) (Q : β → Hp → Prop) : Prop := match r with
  | .ok a M' => ∀ (b : β) (H' Z' : Hp) (ι' : Nat → Addr), Ext H Z ι M.length H' Z' ι' M'.length → HR X.K H' Z' ι' M' → rp Z' ι' M'.length a b → Q b H'
  | .exc c d M' => ∀ (cls : Value) (dd : Option Addr) (H' Z' : Hp) (ι' : Nat → Addr), Ext H Z ι M.length H' Z' ι' M'.length → HR X.K H' Z' ι' M' → ExcR X.K C H' Z' ι' M'.length c d cls dd → W cls dd σ H'
  | .bad => False
section
variable {X : Cx} {C : CT} {W : WX} {σ : St} {H Z H1 Z1 : Hp} {ι ι1 : Nat → Addr} {M M1 : List MO}
theorem Post.shift {α β : Type} {rp : RpK α β} {r : R α} {Q : β → Hp → Prop} (h : Post X C W rp σ H Z ι M r Q) (e : Ext H Z ι M.length H1 Z1 ι1 M1.length) (hr : HR X.K H1 Z1 ι1 M1) : Post X C W rp σ H1 Z1 ι1 M1 r Q := by
  cases r with
  | ok a M' => exact fun b H' Z' ι' e' hr' rb => h b H' Z' ι' (e.trans e' hr.ali) hr' rb
  | exc c d M' => exact fun cls dd H' Z' ι' e' hr' rb => h cls dd H' Z' ι' (e.trans e' hr.ali) hr' rb
  | bad => exact h
theorem Post.bind {α β γ δ : Type} {rp1 : RpK α β} {rp2 : RpK γ δ} {r : R α} {f : α → List MO → R γ} {Q : δ → Hp → Prop} {Q1 : β → Hp → Prop} (h : Post X C W rp2 σ H Z ι M (r.bind f) Q)
    (k : ∀ (a : α) (M1 : List MO) (b : β) (H1 Z1 : Hp) (ι1 : Nat → Addr), Ext H Z ι M.length H1 Z1 ι1 M1.length → HR X.K H1 Z1 ι1 M1 → rp1 Z1 ι1 M1.length a b → Post X C W rp2 σ H1 Z1 ι1 M1 (f a M1) Q → Q1 b H1) :
    Post X C W rp1 σ H Z ι M r Q1 := by
  cases r with
  | ok a M' => exact fun b H' Z' ι' e' hr' rb => k a M' b H' Z' ι' e' hr' rb (Post.shift (r := f a M') h e' hr')
  | exc c d M' => exact h
  | bad => exact h
end

/-- an expression is computed by g -/
def QE (X : Cx) (C : CT) (W : WX) (e : Expr) (g : GE) : Prop := ∃ te, PE X e te ∧ ∀ (σ : St) (H Z : Hp) (ι : Nat → Addr) (Γ : Env) (M : List MO) (Q : VK), Slots X.K Z ι M.length Γ σ → HR X.K H Z ι M → Post X C W (rpE X.K) σ H Z ι M (g Γ M) Q → te σ H Q
def QT (X : Cx) (C : CT) (W : WX) (e : Expr) (g : GT) : Prop := ∃ te, PT X e te ∧ ∀ (σ : St) (H Z : Hp) (ι : Nat → Addr) (Γ : Env) (M : List MO) (Q : Bool → Hp → Prop), Slots X.K Z ι M.length Γ σ → HR X.K H Z ι M → Post X C W rpT σ H Z ι M (g Γ M) Q → te σ H Q
def QW (X : Cx) (C : CT) (W : WX) (e : Expr) (g : GT) : Prop := ∃ te, PW X e te ∧ ∀ (σ : St) (H Z : Hp) (ι : Nat → Addr) (Γ : Env) (M : List MO) (Q : Bool → Hp → Prop), Slots X.K Z ι M.length Γ σ → HR X.K H Z ι M → Post X C W rpT σ H Z ι M (g Γ M) Q → te σ H Q
def QA (X : Cx) (C : CT) (W : WX) (es : List Expr) (g : GA) : Prop := ∃ te, PA X es te ∧ ∀ (σ : St) (H Z : Hp) (ι : Nat → Addr) (Γ : Env) (M : List MO) (Q : List V → Hp → Prop), Slots X.K Z ι M.length Γ σ → HR X.K H Z ι M → Post X C W (rpA X.K) σ H Z ι M (g Γ M) Q → te σ H Q

/-! ### the functions that compute -/
def opR {α : Type} (o : Option α) (M : List MO) : R α := match o with
  | some a => .ok a M
  | none => .bad
def gV (i : Nat) : GE := fun Γ M => match Γ[i]? with
  | some (some d) => .ok d M
  | _ => .bad
def gC (d : D) : GE := fun _ M => .ok d M
def gOp2 (f : List MO → D → D → Option D) (ga gb : GE) : GE := fun Γ M => (ga Γ M).bind fun x M1 => (gb Γ M1).bind fun y M2 => opR (f M2 x y) M2
def gOp1 (f : List MO → D → Option D) (ga : GE) : GE := fun Γ M => (ga Γ M).bind fun x M1 => opR (f M1 x) M1
def gNil : GA := fun _ M => .ok [] M
def gCons (ga : GE) (gr : GA) : GA := fun Γ M => (ga Γ M).bind fun x M1 => (gr Γ M1).bind fun xs M2 => .ok (x :: xs) M2
def gTup (ga : GA) : GE := fun Γ M => (ga Γ M).bind fun xs M1 => if xs.length ≤ sizeLine then .ok (.tup xs) M1 else .bad
def gLst (ga : GA) : GE := fun Γ M => (ga Γ M).bind fun xs M1 => if xs.length ≤ sizeLine then .ok (.lst xs) M1 else .bad
def gLstO (ga : GA) : GE := fun Γ M => (ga Γ M).bind fun xs M1 => if xs.length ≤ sizeLine then .ok (.ref M1.length) (M1 ++ [.lst xs]) else .bad
def gCall (f : List MO → List D → Option D) (ga : GA) : GE := fun Γ M => (ga Γ M).bind fun xs M1 => opR (f M1 xs) M1
def toBl : D → Option Bool
  | .bl b => some b
  | _ => none
def gVal (ga : GE) : GT := fun Γ M => (ga Γ M).bind fun x M1 => opR (toBl x) M1
def gAndT (a b : GT) : GT := fun Γ M => (a Γ M).bind fun c M1 => if c = true then b Γ M1 else .ok false M1
def gOrT (a b : GT) : GT := fun Γ M => (a Γ M).bind fun c M1 => if c = true then .ok true M1 else b Γ M1
def gNotT (a : GT) : GT := fun Γ M => (a Γ M).bind fun c M1 => .ok (!c) M1
def gIfE (c : GT) (a b : GE) : GE := fun Γ M => (c Γ M).bind fun k M1 => if k = true then a Γ M1 else b Γ M1
def gAndV (a b : GE) : GE := fun Γ M => (a Γ M).bind fun x M1 => match x with
  | .bl c => if c = true then b Γ M1 else .ok (.bl false) M1
  | _ => .bad
def gOrV (a b : GE) : GE := fun Γ M => (a Γ M).bind fun x M1 => match x with
  | .bl c => if c = true then .ok (.bl true) M1 else b Γ M1
  | _ => .bad
def gChain (f f' : List MO → D → D → Option D) (ga gb gc : GE) : GE := fun Γ M => (ga Γ M).bind fun x M1 => (gb Γ M1).bind fun y M2 => (opR (f M2 x y) M2).bind fun k M3 => match k with
  | .bl c => if c = true then (gc Γ M3).bind fun z M4 => opR (f' M4 y z) M4 else .ok (.bl false) M3
  | _ => .bad

section
variable {X : Cx} {C : CT} {W : WX}
/-- a result that is new and will not be changed, or an old one -/
def After (X : Cx) (H Z : Hp) (ι : Nat → Addr) (M : List MO) (d : D) (Q : VK) : Prop := ∀ (v : V) (H' Z' : Hp), Ext H Z ι M.length H' Z' ι M.length → HR X.K H' Z' ι M → Rp X.K Z' ι M.length d v → Q v H'
theorem After.now {H Z : Hp} {ι : Nat → Addr} {M : List MO} {d : D} {Q : VK} {v : V} (h : After X H Z ι M d Q) (hr : HR X.K H Z ι M) (r : Rp X.K Z ι M.length d v) : Q v H := h v H Z .refl hr r
theorem After.lst {H Z : Hp} {ι : Nat → Addr} {M : List MO} {ds : List D} {Q : VK} {xs : List V} (h : After X H Z ι M (.lst ds) Q) (hr : HR X.K H Z ι M) (r : Rps X.K Z ι M.length ds xs) : ∀ p, H p = none → Q (.ref p) (upd H p (.lst xs)) := fun p hp => by
  obtain ⟨h1, e1⟩ := hr.frozen (o := .lst xs) hp
  exact h _ _ _ e1 h1 (.lst (.inl (.inl upd_same)) (r.ext e1))
theorem After.tup {H Z : Hp} {ι : Nat → Addr} {M : List MO} {ds : List D} {Q : VK} {xs : List V} (h : After X H Z ι M (.tup ds) Q) (hr : HR X.K H Z ι M) (r : Rps X.K Z ι M.length ds xs) : ∀ p, H p = none → Q (.ref p) (upd H p (.tup xs)) := fun p hp => by
  obtain ⟨h1, e1⟩ := hr.frozen (o := .tup xs) hp
  exact h _ _ _ e1 h1 (.tup (.inl (.inl upd_same)) (r.ext e1))
theorem Post.after {σ : St} {H Z : Hp} {ι : Nat → Addr} {M : List MO} {d : D} {Q : VK} (h : Post X C W (rpE X.K) σ H Z ι M (.ok d M) Q) : After X H Z ι M d Q := fun v H' Z' e hr r => h v H' Z' ι e hr r
/-- an operation on values is computed by f -/
def Ok2 (X : Cx) (r : R2) (f : List MO → D → D → Option D) : Prop := ∀ (x y : V) (H Z : Hp) (ι : Nat → Addr) (M : List MO) (dx dy d : D) (Q : VK), HR X.K H Z ι M → Rp X.K Z ι M.length dx x → Rp X.K Z ι M.length dy y → f M dx dy = some d → After X H Z ι M d Q → r x y H Q
def Ok1 (X : Cx) (r : V → Hp → VK → Prop) (f : List MO → D → Option D) : Prop := ∀ (x : V) (H Z : Hp) (ι : Nat → Addr) (M : List MO) (dx d : D) (Q : VK), HR X.K H Z ι M → Rp X.K Z ι M.length dx x → f M dx = some d → After X H Z ι M d Q → r x H Q
def OkA (X : Cx) (r : List V → Hp → VK → Prop) (f : List MO → List D → Option D) : Prop := ∀ (xs : List V) (H Z : Hp) (ι : Nat → Addr) (M : List MO) (ds : List D) (d : D) (Q : VK), HR X.K H Z ι M → Rps X.K Z ι M.length ds xs → f M ds = some d → After X H Z ι M d Q → r xs H Q
theorem Post.of_opR {α β γ δ : Type} {rp1 : RpK α β} {σ : St} {H Z : Hp} {ι : Nat → Addr} {M : List MO} {o : Option α} {Q : β → Hp → Prop} (h : Post X C W rp1 σ H Z ι M (opR o M) Q) : ∃ a, o = some a ∧ Post X C W rp1 σ H Z ι M (.ok a M) Q := by
  cases o with
  | none => exact h.elim
  | some a => exact ⟨a, rfl, h⟩

/-! ### the rules -/
theorem qe_v (i : Nat) {x : Str} {pos : Pos} (hN : X.N[i]? = some x := by rfl) (hv : Vis X.env.scope x := by first | exact Or.inl rfl | exact Or.inr (Or.inl rfl) | exact Or.inr (Or.inr rfl)) (hd : (x == ("__debug__" : Str)) = false := by decide)
    (hcd : (x == ("__classdict__" : Str)) = false := by decide) : QE X C W (.Name x pos) (gV i) := by
  refine ⟨_, pe_var hN hv hd hcd, fun σ H Z ι Γ M Q sl hr h => ?_⟩
  unfold gV at h
  cases e : Γ[i]? with
  | none => rw [e] at h; exact h.elim
  | some o =>
    cases o with
    | none => rw [e] at h; exact h.elim
    | some d =>
      rw [e] at h
      obtain ⟨v, h1, h2⟩ := sl.2 i d e
      exact ⟨v, h1, h v H Z ι .refl hr h2⟩
theorem qe_int {i : Int} {j pos} : QE X C W (.Constant (.int i) j pos) (gC (.int i)) := ⟨_, pe_int, fun σ H Z ι Γ M Q sl hr h => h _ H Z ι .refl hr (.int i)⟩
theorem qe_bl {b : Bool} {j pos} : QE X C W (.Constant (.bool b) j pos) (gC (.bl b)) := ⟨_, pe_bl, fun σ H Z ι Γ M Q sl hr h => h _ H Z ι .refl hr (.bl b)⟩
theorem qe_non {j pos} : QE X C W (.Constant .none j pos) (gC .non) := ⟨_, pe_non, fun σ H Z ι Γ M Q sl hr h => h _ H Z ι .refl hr .non⟩
theorem qe_str {x : Str} {j pos} : QE X C W (.Constant (.str x) j pos) (gC (.str x)) := ⟨_, pe_str, fun σ H Z ι Γ M Q sl hr h => h _ H Z ι .refl hr (.str x)⟩
/-- a module's number -/
theorem qe_gint {x : Str} {i : Int} {t : Tok} {pos : Pos} (hg : Gl X x) (hm : X.mg x = some (.int i t)) (hd : (x == ("__debug__" : Str)) = false := by decide) : QE X C W (.Name x pos) (gC (.int i)) :=
  ⟨_, pe_glob (v := .int i) hg hm ⟨t, rfl⟩ hd, fun σ H Z ι Γ M Q sl hr h => h _ H Z ι .refl hr (.int i)⟩
variable {e a b c : Expr} {es : List Expr} {ga gb gc g : GE} {gt gu : GT} {gs : GA} {pos : Pos} {f f' : List MO → D → D → Option D}
abbrev Rd1 (X : Cx) (C : CT) (W : WX) (g : GE) (te : TE) : Prop := ∀ (σ : St) (H Z : Hp) (ι : Nat → Addr) (Γ : Env) (M : List MO) (Q : VK), Slots X.K Z ι M.length Γ σ → HR X.K H Z ι M → Post X C W (rpE X.K) σ H Z ι M (g Γ M) Q → te σ H Q
theorem op_read {r : R2} {ta tb : TE} (hf : Ok2 X r f) (qa : Rd1 X C W ga ta) (qb : Rd1 X C W gb tb) : Rd1 X C W (gOp2 f ga gb) (tOp r ta tb) := fun σ H Z ι Γ M Q sl hr h =>
  qa σ H Z ι Γ M _ sl hr (Post.bind h fun x M1 v H1 Z1 ι1 e1 hr1 r1 h1 => qb σ H1 Z1 ι1 Γ M1 _ (sl.ext e1) hr1 (h1.bind fun y M2 u H2 Z2 ι2 e2 hr2 r2 h2 => by
    obtain ⟨d, hd, h3⟩ := Post.of_opR (γ := D) (δ := V) h2
    exact hf v u H2 Z2 ι2 M2 x y d Q hr2 (r1.ext e2) r2 hd h3.after))
theorem qe_bin {op : Operator} {r : R2} (ho : OpR X (binaryOp op) r) (hf : Ok2 X r f) (ha : QE X C W a ga) (hb : QE X C W b gb) : QE X C W (.BinOp a op b pos) (gOp2 f ga gb) := by
  obtain ⟨ta, pa, qa⟩ := ha
  obtain ⟨tb, pb, qb⟩ := hb
  exact ⟨_, pe_op ho pa pb, op_read hf qa qb⟩
theorem qe_cmp {op : CmpOp} {r : R2} (ho : OpR X (compareOp op) r) (hf : Ok2 X r f) (ha : QE X C W a ga) (hb : QE X C W b gb) (hm : behindInMarks op b = false) : QE X C W (.Compare a [op] [b] pos) (gOp2 f ga gb) := by
  obtain ⟨ta, pa, qa⟩ := ha
  obtain ⟨tb, pb, qb⟩ := hb
  exact ⟨_, pe_cmpR ho pa pb hm, op_read hf qa qb⟩
theorem qe_ix {r : R2} (ho : IxR X r) (hf : Ok2 X r f) (ha : QE X C W a ga) (hb : QE X C W b gb) (hs : PlainIx b := by exact fun _ _ => rfl) : QE X C W (.Subscript a b pos) (gOp2 f ga gb) := by
  obtain ⟨ta, pa, qa⟩ := ha
  obtain ⟨tb, pb, qb⟩ := hb
  exact ⟨_, pe_ix ho pa pb hs, op_read hf qa qb⟩
theorem qe_un {op : UnaryOp} {r : V → Hp → VK → Prop} {f : List MO → D → Option D} (ho : UnR X (unaryOp op) r) (hf : Ok1 X r f) (ha : QE X C W a ga) : QE X C W (.UnaryOp op a pos) (gOp1 f ga) := by
  obtain ⟨ta, pa, qa⟩ := ha
  refine ⟨_, pe_un ho pa, fun σ H Z ι Γ M Q sl hr h => qa σ H Z ι Γ M _ sl hr (h.bind fun x M1 v H1 Z1 ι1 e1 hr1 r1 h1 => ?_)⟩
  obtain ⟨d, hd, h3⟩ := Post.of_opR (γ := D) (δ := V) h1
  exact hf v H1 Z1 ι1 M1 x d Q hr1 r1 hd h3.after
theorem chain_read {r r' : R2} {ta tb tc : TE} (hf : Ok2 X r f) (hf' : Ok2 X r' f') (qa : Rd1 X C W ga ta) (qb : Rd1 X C W gb tb) (qc : Rd1 X C W gc tc) : Rd1 X C W (gChain f f' ga gb gc) (tChain r r' ta tb tc) := by
  intro σ H Z ι Γ M Q sl hr h
  refine qa σ H Z ι Γ M _ sl hr (Post.bind h fun x M1 v H1 Z1 ι1 e1 hr1 r1 h1 => qb σ H1 Z1 ι1 Γ M1 _ (sl.ext e1) hr1 (h1.bind fun y M2 u H2 Z2 ι2 e2 hr2 r2 h2 => ?_))
  cases hd : f M2 x y with
  | none => rw [hd] at h2; exact h2.elim
  | some d =>
    rw [hd] at h2
    refine hf v u H2 Z2 ι2 M2 x y d _ hr2 (r1.ext e2) r2 hd fun w H3 Z3 e3 hr3 r3 => ?_
    have h3 := Post.shift h2 e3 hr3
    cases r3 with
    | bl k =>
      refine ⟨k, rfl, ?_⟩
      cases k with
      | false => exact h3 _ H3 Z3 ι2 .refl hr3 (.bl false)
      | true =>
        have h4 : Post X C W (rpE X.K) σ H3 Z3 ι2 M2 ((gc Γ M2).bind fun z M4 => opR (f' M4 y z) M4) Q := h3
        refine qc σ H3 Z3 ι2 Γ M2 _ ((sl.ext e1).ext e2 |>.ext e3) hr3 (h4.bind fun z M4 w' H4 Z4 ι4 e4 hr4 r4 h5 => ?_)
        obtain ⟨d', hd', h6⟩ := Post.of_opR (γ := D) (δ := V) h5
        exact hf' u w' H4 Z4 ι4 M4 y z d' Q hr4 ((r2.ext e3).ext e4) r4 hd' h6.after
    | _ => exact h3.elim
theorem qe_chain {op op' : CmpOp} {r r' : R2} (ho : OpR X (compareOp op) r) (hf : Ok2 X r f) (ho' : OpR X (compareOp op') r') (hf' : Ok2 X r' f') (ha : QE X C W a ga) (hb : QE X C W b gb) (hc : QE X C W c gc) (hm : lastMarks [op, op'] [b, c] = false := by with_unfolding_all rfl) :
    QE X C W (.Compare a [op, op'] [b, c] pos) (gChain f f' ga gb gc) := by
  obtain ⟨ta, pa, qa⟩ := ha
  obtain ⟨tb, pb, qb⟩ := hb
  obtain ⟨tc, pc, qc⟩ := hc
  exact ⟨_, pe_chain ho ho' pa pb pc (hm := hm), chain_read hf hf' qa qb qc⟩
theorem qa_nil : QA X C W [] gNil := ⟨_, pa_nil, fun σ H Z ι Γ M Q sl hr h => h [] H Z ι .refl hr .nil⟩
theorem qa_cons (ha : QE X C W e g) (hb : QA X C W es gs) (hs : starEach (e :: es) X.env = (false, eval e X.env) :: starEach es X.env := by rfl) : QA X C W (e :: es) (gCons g gs) := by
  obtain ⟨ta, pa, qa⟩ := ha
  obtain ⟨tb, pb, qb⟩ := hb
  exact ⟨_, pa_cons pa pb hs, fun σ H Z ι Γ M Q sl hr h => qa σ H Z ι Γ M _ sl hr (h.bind fun x M1 v H1 Z1 ι1 e1 hr1 r1 h1 => qb σ H1 Z1 ι1 Γ M1 _ (sl.ext e1) hr1 (h1.bind fun y M2 u H2 Z2 ι2 e2 hr2 r2 h2 => h2 _ H2 Z2 ι2 .refl hr2 (.cons (r1.ext e2) r2)))⟩
theorem qe_tup {x1} (ha : QA X C W es gs) : QE X C W (.Tuple es x1 pos) (gTup gs) := by
  obtain ⟨ta, pa, qa⟩ := ha
  refine ⟨_, pe_tup pa, fun σ H Z ι Γ M Q sl hr h => qa σ H Z ι Γ M _ sl hr (h.bind fun x M1 v H1 Z1 ι1 e1 hr1 r1 h1 => ?_)⟩
  by_cases hz : x.length ≤ sizeLine
  · rw [if_pos hz] at h1
    exact ⟨by rw [← r1.length]; exact hz, h1.after.tup hr1 r1⟩
  · rw [if_neg hz] at h1
    exact h1.elim
theorem qe_lst (ha : QA X C W es gs) : QE X C W (.List es pos) (gLst gs) := by
  obtain ⟨ta, pa, qa⟩ := ha
  refine ⟨_, pe_lst pa, fun σ H Z ι Γ M Q sl hr h => qa σ H Z ι Γ M _ sl hr (h.bind fun x M1 v H1 Z1 ι1 e1 hr1 r1 h1 => ?_)⟩
  by_cases hz : x.length ≤ sizeLine
  · rw [if_pos hz] at h1
    exact ⟨by rw [← r1.length]; exact hz, h1.after.lst hr1 r1⟩
  · rw [if_neg hz] at h1
    exact h1.elim
theorem qe_lstO (ha : QA X C W es gs) : QE X C W (.List es pos) (gLstO gs) := by
  obtain ⟨ta, pa, qa⟩ := ha
  refine ⟨_, pe_lst pa, fun σ H Z ι Γ M Q sl hr h => qa σ H Z ι Γ M _ sl hr (h.bind fun x M1 v H1 Z1 ι1 e1 hr1 r1 h1 => ?_)⟩
  by_cases hz : x.length ≤ sizeLine
  · rw [if_pos hz] at h1
    refine ⟨by rw [← r1.length]; exact hz, fun p hp => ?_⟩
    obtain ⟨hr2, e2⟩ := hr1.owned hp r1
    refine h1 _ _ _ _ e2 hr2 ?_
    have q : Rp X.K Z1 (put ι1 M1.length p) (M1 ++ [MO.lst x]).length (.ref M1.length) (.ref (put ι1 M1.length p M1.length)) := .ref (by simp)
    rw [put_at] at q
    exact q
  · rw [if_neg hz] at h1
    exact h1.elim
theorem qe_callB {x : Str} {p : Pos} {id : String} {r : List V → Hp → VK → Prop} {f : List MO → List D → Option D} (ho : CallR X (.builtin id) r) (hf : OkA X r f) (hg : Gl X x) (hm : X.mg x = none) (hv : bootBuiltins x = some (.builtin id)) (ha : QA X C W (e :: es) gs)
    (hn : x ≠ "__name__" := by decide) (hdb : (x == ("__debug__" : Str)) = false := by decide) (he : starEach (e :: es) X.env = (false, eval e X.env) :: starEach es X.env := by rfl) (hpl : (backTo pos (starEach es X.env)).any (·.1) = false := by rfl) :
    QE X C W (.Call (.Name x p) (e :: es) [] pos) (gCall f gs) := by
  obtain ⟨ta, pa, qa⟩ := ha
  refine ⟨_, pe_callB ho hg hm hv pa hn hdb he hpl, fun σ H Z ι Γ M Q sl hr h => qa σ H Z ι Γ M _ sl hr (h.bind fun x M1 v H1 Z1 ι1 e1 hr1 r1 h1 => ?_)⟩
  obtain ⟨d, hd, h3⟩ := Post.of_opR (γ := D) (δ := V) h1
  exact hf v H1 Z1 ι1 M1 x d Q hr1 r1 hd h3.after
theorem qe_callTy {x T : Str} {p : Pos} {id : String} {r : List V → Hp → VK → Prop} {f : List MO → List D → Option D} (ho : CallR X (.type id) r) (hf : OkA X r f) (hg : Gl X x) (hm : X.mg x = none) (hv : bootBuiltins x = some (.type id)) (ha : QA X C W (e :: es) gs)
    (hn : x ≠ "__name__" := by decide) (hdb : (x == ("__debug__" : Str)) = false := by decide) (he : starEach (e :: es) X.env = (false, eval e X.env) :: starEach es X.env := by rfl) (hpl : (backTo pos (starEach es X.env)).any (·.1) = false := by rfl) :
    QE X C W (.Call (.Name x p) (e :: es) [] pos) (gCall f gs) := by
  obtain ⟨ta, pa, qa⟩ := ha
  refine ⟨_, pe_callTy ho hg hm hv pa hn hdb he hpl, fun σ H Z ι Γ M Q sl hr h => qa σ H Z ι Γ M _ sl hr (h.bind fun x M1 v H1 Z1 ι1 e1 hr1 r1 h1 => ?_)⟩
  obtain ⟨d, hd, h3⟩ := Post.of_opR (γ := D) (δ := V) h1
  exact hf v H1 Z1 ι1 M1 x d Q hr1 r1 hd h3.after

/-! tests -/
theorem qt_val (ha : QE X C W a ga) (he : ∀ whole, isTrue a X.env whole = (do let v ← whole; standAt a.pos; holding [v] (truthy v)) := by intro _; rfl) : QT X C W a (gVal ga) := by
  obtain ⟨ta, pa, qa⟩ := ha
  refine ⟨_, pt_val pa he, fun σ H Z ι Γ M Q sl hr h => qa σ H Z ι Γ M _ sl hr (h.bind fun x M1 v H1 Z1 ι1 e1 hr1 r1 h1 => ?_)⟩
  cases r1 with
  | bl k => exact ⟨k, rfl, h1 k H1 Z1 ι1 .refl hr1 rfl⟩
  | _ => exact h1.elim
theorem val_read {te : TE} (q : Rd1 X C W ga te) (σ : St) (H Z : Hp) (ι : Nat → Addr) (Γ : Env) (M : List MO) (Q : Bool → Hp → Prop) (sl : Slots X.K Z ι M.length Γ σ) (hr : HR X.K H Z ι M) (h : Post X C W rpT σ H Z ι M (gVal ga Γ M) Q) : tTest te σ H Q :=
  q σ H Z ι Γ M _ sl hr (Post.bind h fun x M1 v H1 Z1 ι1 e1 hr1 r1 h1 => by
    cases r1 with
    | bl k => exact ⟨k, rfl, h1 k H1 Z1 ι1 .refl hr1 rfl⟩
    | _ => exact h1.elim)
theorem qt_cmp {op : CmpOp} {r : R2} (ho : OpR X (compareOp op) r) (hf : Ok2 X r f) (ha : QE X C W a ga) (hb : QE X C W b gb) (hm : behindInMarks op b = false) : QT X C W (.Compare a [op] [b] pos) (gVal (gOp2 f ga gb)) := by
  obtain ⟨ta, pa, qa⟩ := ha
  obtain ⟨tb, pb, qb⟩ := hb
  exact ⟨_, pt_cmpR ho pa pb hm, val_read (op_read hf qa qb)⟩
theorem qt_of (h : QW X C W a gt) : QT X C W a gt := let ⟨t, p, q⟩ := h; ⟨t, p.pt, q⟩
theorem qw_and1 (h : QT X C W a gt) : QW X C W (.BoolOp .And [a] pos) gt := let ⟨t, p, q⟩ := h; ⟨t, pw_and1 p, q⟩
theorem qw_or1 (h : QT X C W a gt) : QW X C W (.BoolOp .Or [a] pos) gt := let ⟨t, p, q⟩ := h; ⟨t, pw_or1 p, q⟩
theorem qw_and {rest : List Expr} (ha : QT X C W a gt) (hb : QW X C W (.BoolOp .And (b :: rest) pos) gu) : QW X C W (.BoolOp .And (a :: b :: rest) pos) (gAndT gt gu) := by
  obtain ⟨ta, pa, qa⟩ := ha
  obtain ⟨tb, pb, qb⟩ := hb
  refine ⟨_, pw_and pa pb, fun σ H Z ι Γ M Q sl hr h => qa σ H Z ι Γ M _ sl hr (h.bind fun x M1 v H1 Z1 ι1 e1 hr1 r1 h1 => ?_)⟩
  have r1' : x = v := r1
  subst r1'
  cases x with
  | true => exact qb σ H1 Z1 ι1 Γ M1 _ (sl.ext e1) hr1 h1
  | false => exact h1 false H1 Z1 ι1 .refl hr1 rfl
theorem qw_or {rest : List Expr} (ha : QT X C W a gt) (hb : QW X C W (.BoolOp .Or (b :: rest) pos) gu) : QW X C W (.BoolOp .Or (a :: b :: rest) pos) (gOrT gt gu) := by
  obtain ⟨ta, pa, qa⟩ := ha
  obtain ⟨tb, pb, qb⟩ := hb
  refine ⟨_, pw_or pa pb, fun σ H Z ι Γ M Q sl hr h => qa σ H Z ι Γ M _ sl hr (h.bind fun x M1 v H1 Z1 ι1 e1 hr1 r1 h1 => ?_)⟩
  have r1' : x = v := r1
  subst r1'
  cases x with
  | true => exact h1 true H1 Z1 ι1 .refl hr1 rfl
  | false => exact qb σ H1 Z1 ι1 Γ M1 _ (sl.ext e1) hr1 h1
theorem qt_not (ha : QT X C W a gt) : QT X C W (.UnaryOp .Not a pos) (gNotT gt) := by
  obtain ⟨ta, pa, qa⟩ := ha
  refine ⟨_, pt_not pa, fun σ H Z ι Γ M Q sl hr h => qa σ H Z ι Γ M _ sl hr (h.bind fun x M1 v H1 Z1 ι1 e1 hr1 r1 h1 => ?_)⟩
  have r1' : x = v := r1
  subst r1'
  exact h1 _ H1 Z1 ι1 .refl hr1 rfl
theorem qe_if (hc : QT X C W c gt) (ha : QE X C W a ga) (hb : QE X C W b gb) : QE X C W (.IfExp c a b pos) (gIfE gt ga gb) := by
  obtain ⟨tc, pc, qc⟩ := hc
  obtain ⟨ta, pa, qa⟩ := ha
  obtain ⟨tb, pb, qb⟩ := hb
  refine ⟨_, pe_ifExp pc pa pb, fun σ H Z ι Γ M Q sl hr h => qc σ H Z ι Γ M _ sl hr (h.bind fun x M1 v H1 Z1 ι1 e1 hr1 r1 h1 => ?_)⟩
  have r1' : x = v := r1
  subst r1'
  cases x with
  | true => exact qa σ H1 Z1 ι1 Γ M1 _ (sl.ext e1) hr1 h1
  | false => exact qb σ H1 Z1 ι1 Γ M1 _ (sl.ext e1) hr1 h1
theorem qe_one {op} (h : QE X C W a ga) : QE X C W (.BoolOp op [a] pos) ga := let ⟨t, p, q⟩ := h; ⟨t, pe_one p, q⟩
theorem qe_and {rest : List Expr} (ha : QE X C W a ga) (hb : QE X C W (.BoolOp .And (b :: rest) pos) gb) : QE X C W (.BoolOp .And (a :: b :: rest) pos) (gAndV ga gb) := by
  obtain ⟨ta, pa, qa⟩ := ha
  obtain ⟨tb, pb, qb⟩ := hb
  refine ⟨_, pe_and pa pb, fun σ H Z ι Γ M Q sl hr h => qa σ H Z ι Γ M _ sl hr (h.bind fun x M1 v H1 Z1 ι1 e1 hr1 r1 h1 => ?_)⟩
  cases r1 with
  | bl k =>
    refine ⟨k, rfl, ?_⟩
    cases k with
    | true => exact qb σ H1 Z1 ι1 Γ M1 _ (sl.ext e1) hr1 h1
    | false => exact h1 _ H1 Z1 ι1 .refl hr1 (.bl false)
  | _ => exact h1.elim
theorem qe_or {rest : List Expr} (ha : QE X C W a ga) (hb : QE X C W (.BoolOp .Or (b :: rest) pos) gb) : QE X C W (.BoolOp .Or (a :: b :: rest) pos) (gOrV ga gb) := by
  obtain ⟨ta, pa, qa⟩ := ha
  obtain ⟨tb, pb, qb⟩ := hb
  refine ⟨_, pe_or pa pb, fun σ H Z ι Γ M Q sl hr h => qa σ H Z ι Γ M _ sl hr (h.bind fun x M1 v H1 Z1 ι1 e1 hr1 r1 h1 => ?_)⟩
  cases r1 with
  | bl k =>
    refine ⟨k, rfl, ?_⟩
    cases k with
    | true => exact h1 _ H1 Z1 ι1 .refl hr1 (.bl true)
    | false => exact qb σ H1 Z1 ι1 Γ M1 _ (sl.ext e1) hr1 h1
  | _ => exact h1.elim
def dNot (_ : List MO) : D → Option D
  | .bl b => some (.bl (!b))
  | _ => none
theorem qe_not (ha : QE X C W a ga) : QE X C W (.UnaryOp .Not a pos) (gOp1 dNot ga) := by
  obtain ⟨ta, pa, qa⟩ := ha
  refine ⟨_, pe_not pa, fun σ H Z ι Γ M Q sl hr h => qa σ H Z ι Γ M _ sl hr (h.bind fun x M1 v H1 Z1 ι1 e1 hr1 r1 h1 => ?_)⟩
  cases r1 with
  | bl k => exact ⟨k, rfl, h1 _ H1 Z1 ι1 .refl hr1 (.bl _)⟩
  | _ => exact h1.elim
end
end Bk

set_option Elab.async false
set_option linter.all false
set_option maxRecDepth 100000
set_option maxHeartbeats 1000000
namespace Bk
open PySem PySem.Spec PyProof.Rows L2

/-! ### what is walked -/
abbrev GI := GA
/-- cd: what must hold of the store at each turn -/
def ItC (cd : List MO → Prop) (K : PySem.W.Frag) (J : It) (items : List D) (Z : Hp) (ι : Nat → Addr) (n : Nat) : Prop :=
  ∀ (i : Nat) (H' Z' : Hp) (ι' : Nat → Addr) (M' : List MO), Sub Z Z' → (∀ k, k < n → ι' k = ι k) → n ≤ M'.length → HR K H' Z' ι' M' → cd M' →
    (items.length = i → J.stop i H') ∧ ∀ d, items[i]? = some d → J.go i H' ∧ ∀ x H2, J.yld i H' x H2 → ∃ Z2, Ext H' Z' ι' M'.length H2 Z2 ι' M'.length ∧ HR K H2 Z2 ι' M' ∧ Rp K Z2 ι' M'.length d x
abbrev anyM : List MO → Prop := fun _ => True
abbrev ItR := ItC anyM
abbrev rpI (K : PySem.W.Frag) : RpK (List D) It := fun Z ι n items J => ItR K J items Z ι n
def QI (X : Cx) (C : CT) (W : WX) (tg e : Expr) (g : GI) : Prop := ∃ wi, PI X tg e wi ∧ ∀ (σ : St) (H Z : Hp) (ι : Nat → Addr) (Γ : Env) (M : List MO) (Q : It → Hp → Prop), Slots X.K Z ι M.length Γ σ → HR X.K H Z ι M → Post X C W (rpI X.K) σ H Z ι M (g Γ M) Q → wi σ H Q
def rngL (lo : Int) : Nat → List D
  | 0 => []
  | n + 1 => .int lo :: rngL (lo + 1) n
theorem rngL_get : ∀ (n : Nat) (lo : Int) (i : Nat) (d : D), (rngL lo n)[i]? = some d → i < n ∧ d = .int (lo + i)
  | 0, _, _, _, h => by simp [rngL] at h
  | n + 1, lo, 0, d, h => by
    simp [rngL] at h
    exact ⟨Nat.succ_pos _, by rw [← h]; simp⟩
  | n + 1, lo, i + 1, d, h => by
    simp only [rngL, List.getElem?_cons_succ] at h
    obtain ⟨h1, h2⟩ := rngL_get n (lo + 1) i d h
    refine ⟨Nat.succ_lt_succ h1, ?_⟩
    rw [h2]
    congr 1
    push_cast
    omega
theorem rngL_length : ∀ (n : Nat) (lo : Int), (rngL lo n).length = n
  | 0, _ => rfl
  | n + 1, lo => by simp [rngL, rngL_length n]
def seqD : D → Option (List D)
  | .lst ds => some ds
  | .tup ds => some ds
  | .ptu ds => some ds
  | _ => none
def gSeqI (ge : GE) : GI := fun Γ M => (ge Γ M).bind fun d M1 => opR (seqD d) M1
def inR (i : Int) : Bool := decide (-(2 ^ 62) ≤ i) && decide (i < 2 ^ 62)
def rng1 : List D → Option (List D)
  | [.int j] => if inR j then some (rngL 0 j.toNat) else none
  | _ => none
def rng2 : List D → Option (List D)
  | [.int i, .int j] => if inR i && inR j then some (rngL i (j - i).toNat) else none
  | _ => none
def gRng1 (ga : GA) : GI := fun Γ M => (ga Γ M).bind fun ds M1 => opR (rng1 ds) M1
def gRng2 (ga : GA) : GI := fun Γ M => (ga Γ M).bind fun ds M1 => opR (rng2 ds) M1
section
variable {X : Cx} {C : CT} {W : WX} {tg e a b : Expr} {g ga gb : GE} {gs : GA} {pos : Pos}
theorem itr_l {K : PySem.W.Frag} {Z : Hp} {ι : Nat → Addr} {n : Nat} {a : Addr} {xs : List V} {ds : List D} (s : ExL K Z a xs) (r : Rps K Z ι n ds xs) : ItR K (Itl K a) ds Z ι n := by
  intro i H' Z' ι' M' hz hi hn hr _
  have sH : SqL K H' a xs := (subL (fun a o h => hr.sub _ _ (hz _ _ h)) s).sq
  refine ⟨fun hl => ⟨xs, sH, by rw [← r.length]; exact Nat.le_of_eq hl⟩, fun d hd => ?_⟩
  obtain ⟨v, hv, rv⟩ := r.get hd
  refine ⟨⟨xs, v, sH, hv⟩, fun x H2 hy => ?_⟩
  obtain ⟨rfl, hx⟩ := hy
  have ex : xs[i]? = some x := hx _ sH
  rw [hv] at ex
  cases ex
  exact ⟨Z', .refl, hr, Rp.mono hz hi hn _ _ rv⟩
theorem itr_t {K : PySem.W.Frag} {Z : Hp} {ι : Nat → Addr} {n : Nat} {a : Addr} {xs : List V} {ds : List D} (s : SqT K Z a xs) (r : Rps K Z ι n ds xs) : ItR K (Itt K a) ds Z ι n := by
  intro i H' Z' ι' M' hz hi hn hr _
  have sH : SqT K H' a xs := subT (fun a o h => hr.sub _ _ (hz _ _ h)) s
  refine ⟨fun hl => ⟨xs, sH, by rw [← r.length]; exact Nat.le_of_eq hl⟩, fun d hd => ?_⟩
  obtain ⟨v, hv, rv⟩ := r.get hd
  refine ⟨⟨xs, v, sH, hv⟩, fun x H2 hy => ?_⟩
  obtain ⟨rfl, hx⟩ := hy
  have ex : xs[i]? = some x := hx _ sH
  rw [hv] at ex
  cases ex
  exact ⟨Z', .refl, hr, Rp.mono hz hi hn _ _ rv⟩
theorem itr_r {K : PySem.W.Frag} {Z : Hp} {ι : Nat → Addr} {n : Nat} {lo : Int} {m : Nat} : ItR K (Itr lo m) (rngL lo m) Z ι n := by
  intro i H' Z' ι' M' hz hi hn hr _
  refine ⟨fun hl => by rw [rngL_length] at hl; exact Nat.le_of_eq hl, fun d hd => ?_⟩
  obtain ⟨h1, rfl⟩ := rngL_get _ _ _ _ hd
  refine ⟨h1, fun x H2 hy => ?_⟩
  obtain ⟨rfl, rfl⟩ := hy
  exact ⟨Z', .refl, hr, .int _⟩
/-- a list or a tuple -/
def iSeq (K : PySem.W.Frag) (tl : TE) : TI := fun σ H R => tl σ H fun x H1 => ∃ a, x = .ref a ∧ (((∃ xs, SqL K H1 a xs) ∧ R (Itl K a) H1) ∨ ((∃ xs, SqT K H1 a xs) ∧ R (Itt K a) H1))
theorem pi_seq {tl : TE} (hl : PE X e tl) : PI X tg e (iSeq X.K tl) := by
  refine ⟨fun pins s σ H R I h => thn (hl.run pins s σ H _ I h) fun v s1 ⟨x, H1, J1, r1, a, ex, q1⟩ => ?_⟩
  subst ex
  cases r1
  have fp : ∀ b ∈ [s1.heap.objs.size], H1 b = none ∧ FpOk X pins H1 b := fun b hb => by
    obtain rfl : b = s1.heap.objs.size := by simpa using hb
    have z := J1.hok.fresh (Nat.le_refl _)
    exact ⟨z, J1.fpOk (Nat.le_refl _) z⟩
  rcases q1 with ⟨⟨xs, hq⟩, q⟩ | ⟨⟨xs, hq⟩, q⟩
  · obtain ⟨its, rv, p, hz⟩ := J1.list hq
    refine wpAny_pyIter_list p.isList ⟨_, _, _, _, H1, rfl, J1.kept (t' := s1.toks) fun b o e => Heap.get?_push_of_some _ e, turn_list a s1.heap.objs.size, ⟨_, Heap.get?_push_size _ rfl, rfl, rfl⟩, fun b hb => (fp b hb).2, q⟩
  · obtain ⟨its, rv, p, hz⟩ := J1.tuple hq
    refine wpAny_pyIter_tuple (show s1.heap.IsTuple a its.toArray from p) ⟨_, _, _, _, H1, rfl, J1.kept (t' := s1.toks) fun b o e => Heap.get?_push_of_some _ e, turn_tuple a s1.heap.objs.size, ⟨_, Heap.get?_push_size _ rfl, rfl, rfl⟩, fun b hb => (fp b hb).2, q⟩
theorem qi_seq (ha : QE X C W e g) : QI X C W tg e (gSeqI g) := by
  obtain ⟨ta, pa, qa⟩ := ha
  refine ⟨_, pi_seq pa, fun σ H Z ι Γ M Q sl hr h => qa σ H Z ι Γ M _ sl hr (h.bind fun x M1 v H1 Z1 ι1 e1 hr1 r1 h1 => ?_)⟩
  obtain ⟨ds, hd, h2⟩ := Post.of_opR (γ := D) (δ := V) h1
  cases r1 with
  | lst s r =>
    cases hd
    exact ⟨_, rfl, .inl ⟨⟨_, (subL hr1.sub s).sq⟩, h2 _ H1 Z1 ι1 .refl hr1 (itr_l s r)⟩⟩
  | tup s r =>
    cases hd
    exact ⟨_, rfl, .inr ⟨⟨_, subT hr1.sub s⟩, h2 _ H1 Z1 ι1 .refl hr1 (itr_t s r)⟩⟩
  | ptu s r =>
    cases hd
    exact ⟨_, rfl, .inr ⟨⟨_, subT hr1.sub s.sq⟩, h2 _ H1 Z1 ι1 .refl hr1 (itr_t s.sq r)⟩⟩
  | _ => cases hd
theorem qi_rng1 {p : Pos} (hg : Gl X "range") (hm : X.mg "range" = none) (ha : QA X C W [a] gs) (hs : starEach [a] X.env = [(false, eval a X.env)] := by rfl) : QI X C W tg (.Call (.Name "range" p) [a] [] pos) (gRng1 gs) := by
  obtain ⟨ta, pa, qa⟩ := ha
  refine ⟨_, pi_range1 hg hm pa hs, fun σ H Z ι Γ M Q sl hr h => qa σ H Z ι Γ M _ sl hr (h.bind fun x M1 v H1 Z1 ι1 e1 hr1 r1 h1 => ?_)⟩
  obtain ⟨ds, hd, h2⟩ := Post.of_opR (γ := D) (δ := V) h1
  unfold rng1 at hd
  split at hd
  · rename_i j
    cases r1 with
    | cons r rr =>
      cases r
      cases rr
      by_cases hj : inR j = true
      · rw [if_pos hj] at hd
        cases hd
        simp only [inR, Bool.and_eq_true, decide_eq_true_eq] at hj
        exact ⟨j, rfl, hj.1, hj.2, h2 _ H1 Z1 ι1 .refl hr1 itr_r⟩
      · rw [if_neg hj] at hd
        cases hd
  · cases hd
theorem qi_rng2 {p : Pos} (hg : Gl X "range") (hm : X.mg "range" = none) (ha : QA X C W [a, b] gs) (hs : starEach [a, b] X.env = [(false, eval a X.env), (false, eval b X.env)] := by rfl) (hs2 : starEach [b] X.env = [(false, eval b X.env)] := by rfl) : QI X C W tg (.Call (.Name "range" p) [a, b] [] pos) (gRng2 gs) := by
  obtain ⟨ta, pa, qa⟩ := ha
  refine ⟨_, pi_range2 hg hm pa hs (hs2 := hs2), fun σ H Z ι Γ M Q sl hr h => qa σ H Z ι Γ M _ sl hr (h.bind fun x M1 v H1 Z1 ι1 e1 hr1 r1 h1 => ?_)⟩
  obtain ⟨ds, hd, h2⟩ := Post.of_opR (γ := D) (δ := V) h1
  unfold rng2 at hd
  split at hd
  · rename_i i j
    cases r1 with
    | cons r rr =>
      cases r
      cases rr with
      | cons r2 rr =>
        cases r2
        cases rr
        by_cases hj : (inR i && inR j) = true
        · rw [if_pos hj] at hd
          cases hd
          simp only [inR, Bool.and_eq_true, decide_eq_true_eq] at hj
          exact ⟨i, j, rfl, ⟨hj.1.1, hj.1.2, hj.2.1, hj.2.2⟩, h2 _ H1 Z1 ι1 .refl hr1 itr_r⟩
        · rw [if_neg hj] at hd
          cases hd
  · cases hd
end

/-! ### targets -/
abbrev GG := D → Env → Option Env
abbrev GGs := List D → Env → Option Env
def gTo (i : Nat) : GG := fun d Γ => some (Γ.set i (some d))
def gToT (gs : GGs) : GG := fun d Γ => match d with
  | .tup ds => gs ds Γ
  | _ => none
def gToNil : GGs := fun ds Γ => match ds with
  | [] => some Γ
  | _ :: _ => none
def gToCons (g : GG) (gs : GGs) : GGs := fun ds Γ => match ds with
  | [] => none
  | d :: r => (g d Γ).bind fun Γ1 => gs r Γ1
def Wip (is : List Nat) (σ σ' : St) : Prop := ∀ vs : List Nat, (∀ i ∈ is, i ∈ vs) → wipe σ' vs = wipe σ vs
theorem wipe_set {σ : St} {i : Nat} {v : V} : ∀ {vs : List Nat}, i ∈ vs → wipe (σ.set i (some v)) vs = wipe σ vs
  | [], h => nomatch h
  | j :: vs, h => by
    show (wipe (σ.set i (some v)) vs).set j none = (wipe σ vs).set j none
    by_cases hm : i ∈ vs
    · rw [wipe_set hm]
    · have e : i = j := by
        rcases List.mem_cons.mp h with e | e
        · exact e
        · exact absurd e hm
      subst e
      have z : ∀ vs : List Nat, i ∉ vs → wipe (σ.set i (some v)) vs = (wipe σ vs).set i (some v) := by
        intro vs
        induction vs with
        | nil => intro _; rfl
        | cons k vs ih =>
          intro hk
          show (wipe (σ.set i (some v)) vs).set k none = ((wipe σ vs).set k none).set i (some v)
          rw [ih fun q => hk (List.mem_cons_of_mem _ q), List.set_comm _ _ (fun q => hk (by rw [q]; exact List.mem_cons_self))]
      rw [z vs hm, List.set_set]
def QG (X : Cx) (tg : Expr) (g : GG) (is : List Nat) : Prop := ∃ t, PG X tg t ∧ ∀ (v : V) (σ : St) (H Z : Hp) (ι : Nat → Addr) (n : Nat) (d : D) (Γ Γ' : Env) (Q : L2.St → Hp → Prop), Sub Z H → Slots X.K Z ι n Γ σ → Rp X.K Z ι n d v → g d Γ = some Γ' →
  (∀ σ', Slots X.K Z ι n Γ' σ' → Wip is σ σ' → Q σ' H) → t v σ H Q
def QGs (X : Cx) (tgs : List Expr) (g : GGs) (is : List Nat) : Prop := ∃ t, PGs X tgs t ∧ ∀ (vs : List V) (σ : St) (H Z : Hp) (ι : Nat → Addr) (n : Nat) (ds : List D) (Γ Γ' : Env) (Q : L2.St → Hp → Prop), Sub Z H → Slots X.K Z ι n Γ σ → Rps X.K Z ι n ds vs → g ds Γ = some Γ' →
  (∀ σ', Slots X.K Z ι n Γ' σ' → Wip is σ σ' → Q σ' H) → t vs σ H Q
section
variable {X : Cx} {e : Expr} {es : List Expr} {g : GG} {gs : GGs} {is js : List Nat} {pos : Pos}
theorem qg_name (i : Nat) {x : Str} (hN : X.N.Nodup) (hi : X.N[i]? = some x := by rfl) (hx : Loc X.env.scope x := by first | exact Or.inl rfl | exact Or.inr rfl)
    (hf : X.fn x = true ∨ X.env.scope.names.lookup x = some .local := by first | exact Or.inl rfl | exact Or.inr rfl) : QG X (.Name x pos) (gTo i) [i] := by
  refine ⟨_, pg_name hN hi hx hf, fun v σ H Z ι n d Γ Γ' Q hs sl r e h => ?_⟩
  cases e
  exact h _ (sl.set i r) fun vs hv => wipe_set (hv i (by simp))
theorem qgs_nil : QGs X [] gToNil [] := by
  refine ⟨_, pgs_nil, fun vs σ H Z ι n ds Γ Γ' Q hs sl r e h => ?_⟩
  cases r with
  | nil =>
    cases e
    exact ⟨rfl, h _ sl fun _ _ => rfl⟩
  | cons _ _ => cases e
theorem qgs_cons (h1 : QG X e g is) (h2 : QGs X es gs js) (hs : (assignEach (e :: es) X.env).map (·.2) = assign e X.env :: (assignEach es X.env).map (·.2) := by rfl) : QGs X (e :: es) (gToCons g gs) (is ++ js) := by
  obtain ⟨t1, p1, q1⟩ := h1
  obtain ⟨t2, p2, q2⟩ := h2
  refine ⟨_, pgs_cons p1 p2 hs, fun vs σ H Z ι n ds Γ Γ' Q hs sl r e h => ?_⟩
  cases r with
  | nil => cases e
  | cons r1 r2 =>
    rename_i d v ds vs
    have e' : (g d Γ).bind (fun Γ1 => gs ds Γ1) = some Γ' := e
    cases eg : g d Γ with
    | none => rw [eg] at e'; cases e'
    | some Γ1 =>
      rw [eg] at e'
      refine ⟨v, vs, rfl, q1 v σ H Z ι n d Γ Γ1 _ hs sl r1 eg fun σ1 s1 w1 => q2 vs σ1 H Z ι n ds Γ1 Γ' _ hs s1 r2 e' fun σ2 s2 w2 => h σ2 s2 fun us hu => ?_⟩
      rw [w2 us fun i hi => hu i (List.mem_append_right _ hi), w1 us fun i hi => hu i (List.mem_append_left _ hi)]
theorem qg_tup {k : Nat} {n : Nat} (hc : X.calm = true) (h : QGs X es gs is) (hn : (assignEach es X.env).length = n := by rfl) (hst : (assignEach es X.env).findIdx? (·.1) = none := by rfl) (hlen : ∀ ds Γ Γ', gs ds Γ = some Γ' → ds.length = n) : QG X (.Tuple es k pos) (gToT gs) is := by
  obtain ⟨t, p, q⟩ := h
  refine ⟨_, pg_tup hc p hn (hst := hst), fun v σ H Z ι m d Γ Γ' Q hs sl r e h => ?_⟩
  cases r with
  | tup s r =>
    have e' : gs _ Γ = some Γ' := e
    exact ⟨_, _, rfl, subT hs s, by rw [← r.length]; exact hlen _ _ _ e', q _ σ H Z ι m _ Γ Γ' Q hs sl r e' h⟩
  | _ => cases e
theorem len_nil : ∀ (ds : List D) (Γ Γ' : Env), gToNil ds Γ = some Γ' → ds.length = 0 := fun ds Γ Γ' e => by
  cases ds with
  | nil => rfl
  | cons _ _ => cases e
theorem len_cons {g : GG} {gs : GGs} {n : Nat} (h : ∀ (ds : List D) (Γ Γ' : Env), gs ds Γ = some Γ' → ds.length = n) : ∀ (ds : List D) (Γ Γ' : Env), gToCons g gs ds Γ = some Γ' → ds.length = n + 1 := fun ds Γ Γ' e => by
  cases ds with
  | nil => cases e
  | cons d ds =>
    have e' : (g d Γ).bind (fun Γ1 => gs ds Γ1) = some Γ' := e
    cases eg : g d Γ with
    | none => rw [eg] at e'; cases e'
    | some Γ1 =>
      rw [eg] at e'
      rw [List.length_cons, h _ _ _ e']
end

/-! ### statements -/
def PostS (X : Cx) (C : CT) (W : WX) (H Z : Hp) (ι : Nat → Addr) (M : List MO) (r : RS) (Dd : Ends) : Prop := match r with
  | .nx Γ M' => ∀ (σ' : L2.St) (H' Z' : Hp) (ι' : Nat → Addr), Ext H Z ι M.length H' Z' ι' M'.length → HR X.K H' Z' ι' M' → Slots X.K Z' ι' M'.length Γ σ' → Dd.nx σ' H'
  | .bk Γ M' => ∀ (σ' : L2.St) (H' Z' : Hp) (ι' : Nat → Addr), Ext H Z ι M.length H' Z' ι' M'.length → HR X.K H' Z' ι' M' → Slots X.K Z' ι' M'.length Γ σ' → Dd.bk σ' H'
  | .ct Γ M' => ∀ (σ' : L2.St) (H' Z' : Hp) (ι' : Nat → Addr), Ext H Z ι M.length H' Z' ι' M'.length → HR X.K H' Z' ι' M' → Slots X.K Z' ι' M'.length Γ σ' → Dd.ct σ' H'
  | .rt d M' => ∀ (v : V) (H' Z' : Hp) (ι' : Nat → Addr), Ext H Z ι M.length H' Z' ι' M'.length → HR X.K H' Z' ι' M' → Rp X.K Z' ι' M'.length d v → Dd.rt v H'
  | .exc c d Γ M' => ∀ (cls : Value) (dd : Option Addr) (σ' : L2.St) (H' Z' : Hp) (ι' : Nat → Addr), Ext H Z ι M.length H' Z' ι' M'.length → HR X.K H' Z' ι' M' → Slots X.K Z' ι' M'.length Γ σ' → ExcR X.K C H' Z' ι' M'.length c d cls dd → W cls dd σ' H'
  | .bad => False
def QS (X : Cx) (C : CT) (W : WX) (st : Stmt) (g : GS) : Prop := ∃ ts, PS X st ts ∧ ∀ (Dd : Ends) (σ : L2.St) (H Z : Hp) (ι : Nat → Addr) (Γ : Env) (M : List MO), Slots X.K Z ι M.length Γ σ → HR X.K H Z ι M → PostS X C W H Z ι M (g Γ M) Dd → ts Dd σ H
def QSs (X : Cx) (C : CT) (W : WX) (st : List Stmt) (g : GS) : Prop := ∃ ts, PSs X st ts ∧ ∀ (Dd : Ends) (σ : L2.St) (H Z : Hp) (ι : Nat → Addr) (Γ : Env) (M : List MO), Slots X.K Z ι M.length Γ σ → HR X.K H Z ι M → PostS X C W H Z ι M (g Γ M) Dd → ts Dd σ H
def R.thenS {α : Type} (Γ : Env) (r : R α) (f : α → List MO → RS) : RS := match r with
  | .ok a M => f a M
  | .exc c d M => .exc c d Γ M
  | .bad => .bad
def RS.next (r : RS) (f : Env → List MO → RS) : RS := match r with
  | .nx Γ M => f Γ M
  | r => r
def gPass : GS := fun Γ M => .nx Γ M
def gSeq (a b : GS) : GS := fun Γ M => (a Γ M).next b
def gExpr (ge : GE) : GS := fun Γ M => (ge Γ M).thenS Γ fun _ M1 => .nx Γ M1
def gRet (ge : GE) : GS := fun Γ M => (ge Γ M).thenS Γ fun d M1 => .rt d M1
def gRetN : GS := fun _ M => .rt .non M
def gIf (c : GT) (a b : GS) : GS := fun Γ M => (c Γ M).thenS Γ fun k M1 => if k = true then a Γ M1 else b Γ M1
def gAsg (ge : GE) (gg : GG) : GS := fun Γ M => (ge Γ M).thenS Γ fun d M1 => match gg d Γ with
  | some Γ' => .nx Γ' M1
  | none => .bad
def gBad : GS := fun _ _ => .bad
def gForget (is : List Nat) : GS := fun Γ M => .nx (forget Γ is) M
/-- a list of ours that stands in a slot is left as it is from now on -/
def gFz (i : Nat) : GS := fun Γ M => match Γ[i]? with
  | some (some (.ref k)) => match M[k]? with
    | some (.lst ds) => .nx (Γ.set i (some (.lst ds))) (M.set k .dead)
    | some (.dct ks vs) => .nx (Γ.set i (some (.dct ks vs))) (M.set k .dead)
    | _ => .bad
  | _ => .bad
/-- what the turn has made is dropped -/
def gCut (m : Nat) (r : RS) : RS := match r with
  | .nx Γ M => if m ≤ M.length ∧ cutOk m M = true then .nx (clean m Γ) (M.take m) else .bad
  | .ct Γ M => if m ≤ M.length ∧ cutOk m M = true then .ct (clean m Γ) (M.take m) else .bad
  | r => r
def gScope (a : GS) : GS := fun Γ M => gCut M.length (a Γ M)
/-- behind a loop's turn -/
def RS.turn (r : RS) (f : Env → List MO → RS) : RS := match r with
  | .nx Γ M => f Γ M
  | .ct Γ M => f Γ M
  | .bk Γ M => .nx Γ M
  | r => r
def optS (o : Option Env) (f : Env → RS) : RS := match o with
  | some Γ => f Γ
  | none => .bad
def gForL (gg : GG) (body : GS) : List D → GS
  | [] => gPass
  | d :: ds => fun Γ M => optS (gg d Γ) fun Γ1 => (body Γ1 M).turn (gForL gg body ds)
def gFor (gi : GI) (gg : GG) (body : GS) : GS := fun Γ M => (gi Γ M).thenS Γ fun ds M1 => gForL gg body ds Γ M1
def gWhile (gt : GT) (body : GS) : Nat → GS
  | 0 => gBad
  | n + 1 => fun Γ M => (gt Γ M).thenS Γ fun k M1 => if k = true then (body Γ M1).turn (gWhile gt body n) else .nx Γ M1
section
variable {X : Cx} {C : CT} {W : WX} {H Z H1 Z1 : Hp} {ι ι1 : Nat → Addr} {M M1 : List MO} {Dd : Ends}
theorem PostS.shift {r : RS} (h : PostS X C W H Z ι M r Dd) (e : Ext H Z ι M.length H1 Z1 ι1 M1.length) (hr : HR X.K H1 Z1 ι1 M1) : PostS X C W H1 Z1 ι1 M1 r Dd := by
  cases r with
  | nx Γ M' => exact fun σ' H' Z' ι' e' => h σ' H' Z' ι' (e.trans e' hr.ali)
  | bk Γ M' => exact fun σ' H' Z' ι' e' => h σ' H' Z' ι' (e.trans e' hr.ali)
  | ct Γ M' => exact fun σ' H' Z' ι' e' => h σ' H' Z' ι' (e.trans e' hr.ali)
  | rt d M' => exact fun σ' H' Z' ι' e' => h σ' H' Z' ι' (e.trans e' hr.ali)
  | exc c d Γ M' => exact fun cls dd σ' H' Z' ι' e' => h cls dd σ' H' Z' ι' (e.trans e' hr.ali)
  | bad => exact h
theorem PostS.bind {α β : Type} {rp1 : RpK α β} {r : R α} {f : α → List MO → RS} {Γ : Env} {σ : St} {Q1 : β → Hp → Prop} (h : PostS X C W H Z ι M (r.thenS Γ f) Dd) (sl : Slots X.K Z ι M.length Γ σ)
    (k : ∀ (a : α) (M1 : List MO) (b : β) (H1 Z1 : Hp) (ι1 : Nat → Addr), Ext H Z ι M.length H1 Z1 ι1 M1.length → HR X.K H1 Z1 ι1 M1 → rp1 Z1 ι1 M1.length a b → PostS X C W H1 Z1 ι1 M1 (f a M1) Dd → Q1 b H1) :
    Post X C W rp1 σ H Z ι M r Q1 := by
  cases r with
  | ok a M' => exact fun b H' Z' ι' e' hr' rb => k a M' b H' Z' ι' e' hr' rb (PostS.shift (r := f a M') h e' hr')
  | exc c d M' => exact fun cls dd H' Z' ι' e' hr' rb => h cls dd σ H' Z' ι' e' hr' (sl.ext e') rb
  | bad => exact h
theorem PostS.next {r : RS} {f : Env → List MO → RS} {nx : L2.St → Hp → Prop} (h : PostS X C W H Z ι M (r.next f) Dd)
    (k : ∀ (Γ1 : Env) (M1 : List MO) (σ1 : L2.St) (H1 Z1 : Hp) (ι1 : Nat → Addr), Ext H Z ι M.length H1 Z1 ι1 M1.length → HR X.K H1 Z1 ι1 M1 → Slots X.K Z1 ι1 M1.length Γ1 σ1 → PostS X C W H1 Z1 ι1 M1 (f Γ1 M1) Dd → nx σ1 H1) :
    PostS X C W H Z ι M r { Dd with nx := nx } := by
  cases r with
  | nx Γ M' => exact fun σ' H' Z' ι' e' hr' sl => k Γ M' σ' H' Z' ι' e' hr' sl (PostS.shift (r := f Γ M') h e' hr')
  | bk Γ M' => exact h
  | ct Γ M' => exact h
  | rt d M' => exact h
  | exc c d Γ M' => exact h
  | bad => exact h
variable {st : Stmt} {rest : List Stmt} {e tg : Expr} {ge : GE} {gt : GT} {gg : GG} {g g2 : GS} {pos : Pos}
theorem qss_nil : QSs X C W [] gPass := ⟨_, pss_nil, fun Dd σ H Z ι Γ M sl hr h => h σ H Z ι .refl hr sl⟩
theorem qss_cons (h1 : QS X C W st g) (h2 : QSs X C W rest g2) : QSs X C W (st :: rest) (gSeq g g2) := by
  obtain ⟨t1, p1, q1⟩ := h1
  obtain ⟨t2, p2, q2⟩ := h2
  exact ⟨_, pss_cons p1 p2, fun Dd σ H Z ι Γ M sl hr h => q1 _ σ H Z ι Γ M sl hr (PostS.next h fun Γ1 M1 σ1 H1 Z1 ι1 e1 hr1 sl1 h1 => q2 Dd σ1 H1 Z1 ι1 Γ1 M1 sl1 hr1 h1)⟩
theorem qss_one (h1 : QS X C W st g) : QSs X C W [st] g := let ⟨t, p, q⟩ := h1; ⟨t, pss_one p, q⟩
/-- a step of our own behind a statement -/
theorem qs_ghost {g3 : GS} (h1 : QS X C W st g) (h : ∀ (Dd : Ends) (σ : L2.St) (H Z : Hp) (ι : Nat → Addr) (Γ : Env) (M : List MO), Slots X.K Z ι M.length Γ σ → HR X.K H Z ι M → PostS X C W H Z ι M (g3 Γ M) Dd → Dd.nx σ H) : QS X C W st (gSeq g g3) := by
  obtain ⟨t1, p1, q1⟩ := h1
  exact ⟨_, p1, fun Dd σ H Z ι Γ M sl hr hp => q1 Dd σ H Z ι Γ M sl hr (PostS.next (nx := Dd.nx) hp fun Γ1 M1 σ1 H1 Z1 ι1 e1 hr1 sl1 h1 => h Dd σ1 H1 Z1 ι1 Γ1 M1 sl1 hr1 h1)⟩
theorem qs_forget (is : List Nat) (h1 : QS X C W st g) : QS X C W st (gSeq g (gForget is)) := qs_ghost h1 fun Dd σ H Z ι Γ M sl hr h => h σ H Z ι .refl hr (sl.forget is)
theorem qs_fz (i : Nat) (h1 : QS X C W st g) : QS X C W st (gSeq g (gFz i)) := qs_ghost h1 fun Dd σ H Z ι Γ M sl hr h => by
  unfold gFz at h
  cases e : Γ[i]? with
  | none => rw [e] at h; exact h.elim
  | some o =>
    rw [e] at h
    cases o with
    | none => exact h.elim
    | some d =>
      cases d with
      | ref k =>
        simp only at h
        cases e2 : M[k]? with
        | none => rw [e2] at h; exact h.elim
        | some u =>
          rw [e2] at h
          cases u with
          | dead => exact h.elim
          | dki kvs0 => exact h.elim
          | tab nm0 => exact h.elim
          | obj nm fs => exact h.elim
          | lst ds =>
            obtain ⟨xs, r, hr1, x1, rp⟩ := hr.freeze e2
            obtain ⟨v, hv, rv⟩ := sl.2 i _ e
            cases rv
            have q := (sl.ext x1).set i rp
            have es : σ.set i (some (V.ref (ι k))) = σ := by
              have lt : i < σ.length := (List.getElem?_eq_some_iff.mp hv).1
              have ev : σ[i] = some (V.ref (ι k)) := (List.getElem?_eq_some_iff.mp hv).2
              rw [← ev, List.set_getElem_self]
            rw [es] at q
            exact h σ H _ ι x1 hr1 q
          | dct ks vs =>
            obtain ⟨ho, r, hr1, x1, rp⟩ := hr.freezeD e2
            obtain ⟨v, hv, rv⟩ := sl.2 i _ e
            cases rv
            have q := (sl.ext x1).set i rp
            have es : σ.set i (some (V.ref (ι k))) = σ := by
              have lt : i < σ.length := (List.getElem?_eq_some_iff.mp hv).1
              have ev : σ[i] = some (V.ref (ι k)) := (List.getElem?_eq_some_iff.mp hv).2
              rw [← ev, List.set_getElem_self]
            rw [es] at q
            exact h σ H _ ι x1 hr1 q
      | _ => exact h.elim
theorem qs_expr (ha : QE X C W e ge) (hs : swapsWith e none pos.line X.env = pure false := by rfl) : QS X C W (.Expr e pos) (gExpr ge) := by
  obtain ⟨ta, pa, qa⟩ := ha
  exact ⟨_, ps_expr pa hs, fun Dd σ H Z ι Γ M sl hr h => qa σ H Z ι Γ M _ sl hr (PostS.bind h sl fun x M1 v H1 Z1 ι1 e1 hr1 r1 h1 => h1 σ H1 Z1 ι1 .refl hr1 (sl.ext e1))⟩
theorem qs_ret (ha : QE X C W e ge) : QS X C W (.Return (some e) pos) (gRet ge) := by
  obtain ⟨ta, pa, qa⟩ := ha
  exact ⟨_, ps_ret pa, fun Dd σ H Z ι Γ M sl hr h => qa σ H Z ι Γ M _ sl hr (PostS.bind h sl fun x M1 v H1 Z1 ι1 e1 hr1 r1 h1 => h1 v H1 Z1 ι1 .refl hr1 r1)⟩
theorem qs_if {c : Expr} {a b : List Stmt} (hc : QT X C W c gt) (ha : QSs X C W a g) (hb : QSs X C W b g2) : QS X C W (.If c a b pos) (gIf gt g g2) := by
  obtain ⟨tc, pc, qc⟩ := hc
  obtain ⟨ta, pa, qa⟩ := ha
  obtain ⟨tb, pb, qb⟩ := hb
  refine ⟨_, ps_if pc pa pb, fun Dd σ H Z ι Γ M sl hr h => qc σ H Z ι Γ M _ sl hr (PostS.bind h sl fun x M1 v H1 Z1 ι1 e1 hr1 r1 h1 => ?_)⟩
  have r1' : x = v := r1
  subst r1'
  cases x with
  | true => exact qa Dd σ H1 Z1 ι1 Γ M1 (sl.ext e1) hr1 h1
  | false => exact qb Dd σ H1 Z1 ι1 Γ M1 (sl.ext e1) hr1 h1
theorem qs_asg {is : List Nat} (ha : QE X C W e ge) (hg : QG X tg gg is) (hs : swapsWithSole [tg] e pos.line X.env = pure false := by rfl) (hp : swappedStores [tg] e X.env = pure none := by rfl) (h1 : (assignEach [tg] X.env).map (·.2) = [assign tg X.env] := by rfl) : QS X C W (.Assign [tg] e pos) (gAsg ge gg) := by
  obtain ⟨ta, pa, qa⟩ := ha
  obtain ⟨t2, p2, q2⟩ := hg
  refine ⟨_, ps_asg pa p2 hs (hw := hp) (h1 := h1), fun Dd σ H Z ι Γ M sl hr h => qa σ H Z ι Γ M _ sl hr (PostS.bind h sl fun x M1 v H1 Z1 ι1 e1 hr1 r1 h1 => ?_)⟩
  cases eg : gg x Γ with
  | none => rw [eg] at h1; exact h1.elim
  | some Γ' =>
    rw [eg] at h1
    exact q2 v σ H1 Z1 ι1 M1.length x Γ Γ' _ hr1.sub (sl.ext e1) r1 eg fun σ' s' _ => h1 σ' H1 Z1 ι1 .refl hr1 s'

theorem qss_scope (h1 : QSs X C W rest g) : QSs X C W rest (gScope g) := by
  obtain ⟨t1, p1, q1⟩ := h1
  refine ⟨_, p1, fun Dd σ H Z ι Γ M sl hr h => q1 Dd σ H Z ι Γ M sl hr ?_⟩
  have h' : PostS X C W H Z ι M (gCut M.length (g Γ M)) Dd := h
  cases er : g Γ M with
  | nx Γ' M' =>
    rw [er] at h'
    by_cases hc : M.length ≤ M'.length ∧ cutOk M.length M' = true
    · have h2 : PostS X C W H Z ι M (if M.length ≤ M'.length ∧ cutOk M.length M' = true then .nx (clean M.length Γ') (M'.take M.length) else .bad) Dd := h'
      rw [if_pos hc] at h2
      have ln : (M'.take M.length).length = M.length := by rw [List.length_take]; omega
      intro σ' H' Z' ι' e1 hr1 sl1
      refine h2 σ' H' Z' ι' (by rw [ln]; exact e1.cut (Nat.le_refl _) hc.1) (hr1.cut hc.1 hc.2) (by rw [ln]; exact sl1.cut)
    · have h2 : PostS X C W H Z ι M (if M.length ≤ M'.length ∧ cutOk M.length M' = true then .nx (clean M.length Γ') (M'.take M.length) else .bad) Dd := h'
      rw [if_neg hc] at h2
      exact h2.elim
  | ct Γ' M' =>
    rw [er] at h'
    by_cases hc : M.length ≤ M'.length ∧ cutOk M.length M' = true
    · have h2 : PostS X C W H Z ι M (if M.length ≤ M'.length ∧ cutOk M.length M' = true then .ct (clean M.length Γ') (M'.take M.length) else .bad) Dd := h'
      rw [if_pos hc] at h2
      have ln : (M'.take M.length).length = M.length := by rw [List.length_take]; omega
      intro σ' H' Z' ι' e1 hr1 sl1
      refine h2 σ' H' Z' ι' (by rw [ln]; exact e1.cut (Nat.le_refl _) hc.1) (hr1.cut hc.1 hc.2) (by rw [ln]; exact sl1.cut)
    · have h2 : PostS X C W H Z ι M (if M.length ≤ M'.length ∧ cutOk M.length M' = true then .ct (clean M.length Γ') (M'.take M.length) else .bad) Dd := h'
      rw [if_neg hc] at h2
      exact h2.elim
  | bk Γ' M' => rw [er] at h'; exact h'
  | rt d M' => rw [er] at h'; exact h'
  | exc c d Γ' M' => rw [er] at h'; exact h'
  | bad => rw [er] at h'; exact h'
/-- a loop's turn: what is wanted behind it -/
theorem PostS.turn {r : RS} {f : Env → List MO → RS} {N : L2.St → Hp → Prop} (h : PostS X C W H Z ι M (r.turn f) Dd)
    (k : ∀ (Γ1 : Env) (M1 : List MO) (σ1 : L2.St) (H1 Z1 : Hp) (ι1 : Nat → Addr), Ext H Z ι M.length H1 Z1 ι1 M1.length → HR X.K H1 Z1 ι1 M1 → Slots X.K Z1 ι1 M1.length Γ1 σ1 → PostS X C W H1 Z1 ι1 M1 (f Γ1 M1) Dd → N σ1 H1) :
    PostS X C W H Z ι M r { Dd with nx := N, ct := N, bk := Dd.nx } := by
  cases r with
  | nx Γ M' => exact fun σ' H' Z' ι' e' hr' sl => k Γ M' σ' H' Z' ι' e' hr' sl (PostS.shift (r := f Γ M') h e' hr')
  | ct Γ M' => exact fun σ' H' Z' ι' e' hr' sl => k Γ M' σ' H' Z' ι' e' hr' sl (PostS.shift (r := f Γ M') h e' hr')
  | bk Γ M' => exact h
  | rt d M' => exact h
  | exc c d Γ M' => exact h
  | bad => exact h
theorem qs_for {iter : Expr} {body : List Stmt} {gi : GI} {is : List Nat} (hp : PassesOwn (model X.prog X.w) X.A X.env X.xe) (hc : X.calm = true) (hi : QI X C W tg iter gi) (hg : QG X tg gg is) (hb : QSs X C W body g)
    (hs : ∀ x, foldedSetIterable iter X.env x = pure x := by intro _; rfl) : QS X C W (.For tg iter body [] pos) (gFor gi gg g) := by
  obtain ⟨wi, pi, qi⟩ := hi
  obtain ⟨tg', pg, qg⟩ := hg
  obtain ⟨tb, pb, qb⟩ := hb
  refine ⟨_, ps_for hp hc pi pg pb hs, fun Dd σ H Z ι Γ M sl hr h => qi σ H Z ι Γ M _ sl hr (PostS.bind h sl fun ds M1 J H1 Z1 ι1 e1 hr1 rJ h1 => ?_)⟩
  refine ⟨fun i m σ' H' => ∃ (Z' : Hp) (ι' : Nat → Addr) (Γ' : Env) (M' : List MO), m = ds.length - i ∧ i ≤ ds.length ∧ Sub Z1 Z' ∧ (∀ k, k < M1.length → ι' k = ι1 k) ∧ M1.length ≤ M'.length ∧ HR X.K H' Z' ι' M' ∧ Slots X.K Z' ι' M'.length Γ' σ' ∧
    PostS X C W H' Z' ι' M' (gForL gg g (ds.drop i) Γ' M') Dd, ⟨ds.length, Z1, ι1, Γ, M1, rfl, Nat.zero_le _, fun _ _ z => z, fun _ _ => rfl, Nat.le_refl _, hr1, sl.ext e1, h1⟩, ?_⟩
  rintro i m σ' H' ⟨Z', ι', Γ', M', em, hle, hz, hii, hn, hr', sl', hp'⟩
  obtain ⟨hstop, hgo⟩ := rJ i H' Z' ι' M' hz hii hn hr' trivial
  by_cases hi : i < ds.length
  · refine .inr ?_
    have ed : ds.drop i = ds[i] :: ds.drop (i + 1) := List.drop_eq_getElem_cons hi
    obtain ⟨go, yl⟩ := hgo ds[i] (List.getElem?_eq_getElem hi)
    refine ⟨go, fun σ2 H2 => ∃ (Z2 : Hp) (ι2 : Nat → Addr) (Γ2 : Env) (M2 : List MO), Sub Z1 Z2 ∧ (∀ k, k < M1.length → ι2 k = ι1 k) ∧ M1.length ≤ M2.length ∧ HR X.K H2 Z2 ι2 M2 ∧ Slots X.K Z2 ι2 M2.length Γ2 σ2 ∧
      PostS X C W H2 Z2 ι2 M2 (gForL gg g (ds.drop (i + 1)) Γ2 M2) Dd, fun σ2 H2 hN => ?_, fun x H2 hy => ?_⟩
    · obtain ⟨Z2, ι2, Γ2, M2, a1, a2, a3, a4, a5, a6⟩ := hN
      exact ⟨ds.length - (i + 1), by omega, Z2, ι2, Γ2, M2, rfl, by omega, a1, a2, a3, a4, a5, a6⟩
    · obtain ⟨Z2, e2, hr2, rx⟩ := yl x H2 hy
      rw [ed] at hp'
      have hp2 := PostS.shift hp' e2 hr2
      have hb : PostS X C W H2 Z2 ι' M' (optS (gg ds[i] Γ') fun Γ1 => (g Γ1 M').turn (gForL gg g (ds.drop (i + 1)))) Dd := hp2
      cases eg : gg ds[i] Γ' with
      | none =>
        rw [eg] at hb
        exact hb.elim
      | some Γ1 =>
        rw [eg] at hb
        exact qg x σ' H2 Z2 ι' M'.length ds[i] Γ' Γ1 _ hr2.sub (sl'.ext e2) rx eg fun σ3 s3 _ => qb _ σ3 H2 Z2 ι' Γ1 M' s3 hr2 (PostS.turn hb fun Γ4 M4 σ4 H4 Z4 ι4 e4 hr4 s4 h4 =>
          ⟨Z4, ι4, Γ4, M4, fun a o z => e4.zz _ _ (e2.zz _ _ (hz _ _ z)), fun k hk => (e4.ii k (Nat.lt_of_lt_of_le hk hn)).trans (hii k hk), Nat.le_trans hn e4.ln, hr4, s4, h4⟩)
  · refine .inl ⟨hstop (by omega), ?_⟩
    rw [List.drop_eq_nil_of_le (Nat.le_of_not_lt hi)] at hp'
    exact hp' σ' H' Z' ι' .refl hr' sl'
theorem qs_while {c : Expr} {body : List Stmt} (n : Nat) (hp : PassesOwn (model X.prog X.w) X.A X.env X.xe) (hc : QT X C W c gt) (hb : QSs X C W body g) : QS X C W (.While c body [] pos) (gWhile gt g n) := by
  obtain ⟨tc, pc, qc⟩ := hc
  obtain ⟨tb, pb, qb⟩ := hb
  refine ⟨_, ps_while hp pc pb, fun Dd σ H Z ι Γ M sl hr h => ?_⟩
  refine ⟨fun m σ' H' => ∃ (Z' : Hp) (ι' : Nat → Addr) (Γ' : Env) (M' : List MO), HR X.K H' Z' ι' M' ∧ Slots X.K Z' ι' M'.length Γ' σ' ∧ PostS X C W H' Z' ι' M' (gWhile gt g m Γ' M') Dd, ⟨n, Z, ι, Γ, M, hr, sl, h⟩, ?_⟩
  rintro m σ' H' ⟨Z', ι', Γ', M', hr', sl', hp'⟩
  cases m with
  | zero => exact hp'.elim
  | succ m =>
    refine qc σ' H' Z' ι' Γ' M' _ sl' hr' (PostS.bind hp' sl' fun x M1 v H1 Z1 ι1 e1 hr1 r1 h1 => ?_)
    have r1' : x = v := r1
    subst r1'
    cases x with
    | false => exact h1 σ' H1 Z1 ι1 .refl hr1 (sl'.ext e1)
    | true =>
      refine ⟨fun σ2 H2 => ∃ (Z2 : Hp) (ι2 : Nat → Addr) (Γ2 : Env) (M2 : List MO), HR X.K H2 Z2 ι2 M2 ∧ Slots X.K Z2 ι2 M2.length Γ2 σ2 ∧ PostS X C W H2 Z2 ι2 M2 (gWhile gt g m Γ2 M2) Dd, fun σ2 H2 hN => ⟨m, Nat.lt_succ_self _, hN⟩, ?_⟩
      exact qb _ σ' H1 Z1 ι1 Γ' M1 (sl'.ext e1) hr1 (PostS.turn h1 fun Γ4 M4 σ4 H4 Z4 ι4 e4 hr4 s4 h4 => ⟨Z4, ι4, Γ4, M4, hr4, s4, h4⟩)
end
end Bk

set_option Elab.async false
set_option linter.all false
set_option maxRecDepth 100000
set_option maxHeartbeats 2000000
namespace Bk
open PySem PySem.Spec PyProof.Rows L2

/-! ### a list made by a comprehension -/
/-- nothing may be raised -/
abbrev noW : WX := fun _ _ _ _ => False
theorem takes_no {X : Cx} : Takes X noW := fun u s' h => by
  unfold XE at h
  obtain ⟨_, _, _, _, _, _, _, h⟩ := h
  simp_all
/-- no exception goes on -/
def R.only {α β : Type} (r : R α) (f : α → List MO → R β) : R β := match r with
  | .ok a M => f a M
  | _ => .bad
def gLcL (gg : GG) (gt : GT) (ge : GE) (Γ : Env) : List D → List D → List MO → R (List D)
  | [], acc, M => .ok acc M
  | d :: ds, acc, M => match gg d Γ with
    | none => .bad
    | some Γ1 => (gt Γ1 M).only fun k M1 => if k = true then (ge Γ1 M1).only fun y M2 => if acc.length < sizeLine then gLcL gg gt ge Γ ds (acc ++ [y]) M2 else .bad else gLcL gg gt ge Γ ds acc M1
def gYes : GT := fun _ M => .ok true M
/-- the new list will not be changed -/
def gLc (gi : GI) (gg : GG) (gt : GT) (ge : GE) (own : List Nat) : GE := fun Γ M => (gi Γ M).bind fun ds M1 => (gLcL gg gt ge (forget Γ own) ds [] M1).bind fun acc M2 => .ok (.lst acc) M2
/-- the new list is ours -/
def gLcO (gi : GI) (gg : GG) (gt : GT) (ge : GE) (own : List Nat) : GE := fun Γ M => (gi Γ M).bind fun ds M1 => (gLcL gg gt ge (forget Γ own) ds [] M1).bind fun acc M2 => .ok (.ref M2.length) (M2 ++ [.lst acc])

section
variable {K : PySem.W.Frag} {H Z H0 Z0 : Hp} {ι ι0 : Nat → Addr} {M : List MO} {n0 : Nat} {p : Addr} {xs : List V} {ds : List D} {o : HO}
/-- a thing that is neither frozen nor ours -/
structure Odd (Z : Hp) (ι : Nat → Addr) (n : Nat) (p : Addr) : Prop where
  z : Z p = none
  i : ∀ k, k < n → ι k ≠ p
theorem HR.odd (h : HR K H Z ι M) (q : Odd Z ι M.length p) : HR K (upd H p o) Z ι M := by
  have lt : ∀ {k : Nat} {u : MO}, M[k]? = some u → k < M.length := fun e => (List.getElem?_eq_some_iff.mp e).1
  refine ⟨fun a u e => by rw [upd_ne (ne_of_none e q.z)]; exact h.sub _ _ e, fun k hk => by rw [upd_ne (q.i k hk)]; exact h.ali k hk, h.sep, h.inj, fun k u e => ?_, h.ded⟩
  exact OR.mono (fun _ _ z => z) (fun _ _ => rfl) (Nat.le_refl _) (fun o z => by rw [upd_ne (q.i k (lt e))]; exact z) (h.obj k u e)
theorem Odd.new (h : HR K H Z ι M) (hp : H p = none) : Odd Z ι M.length p := by
  refine ⟨?_, fun k hk e => ?_⟩
  · cases e : Z p with
    | none => rfl
    | some u =>
      rw [h.sub _ _ e] at hp
      cases hp
  · obtain ⟨u, hu⟩ := h.ali k hk
    rw [e, hp] at hu
    cases hu
theorem Odd.ext {H1 Z1 : Hp} {ι1 : Nat → Addr} {n n1 : Nat} {u : HO} (q : Odd Z ι n p) (hp : H p = some u) (e : Ext H Z ι n H1 Z1 ι1 n1) : Odd Z1 ι1 n1 p ∧ H1 p = some u := by
  refine ⟨⟨?_, fun k hk z => ?_⟩, e.fr p u hp fun k hk z => q.i k hk z.symm⟩
  · cases z : Z1 p with
    | none => rfl
    | some w =>
      rcases e.zn p w z with a | a | ⟨k, hk, a⟩
      · rw [q.z] at a; cases a
      · rw [hp] at a; cases a
      · exact absurd a.symm (q.i k hk)
  · by_cases hn : k < n
    · exact q.i k hn ((e.ii k hn).symm.trans z)
    · have w := e.nw k (Nat.le_of_not_lt hn) hk
      rw [z, hp] at w
      cases w
theorem Ext.touch {n : Nat} (e : Ext H0 Z0 ι0 n0 H Z ι n) (hp : H0 p = none) : Ext H0 Z0 ι0 n0 (upd H p o) Z ι n :=
  ⟨e.zz, e.ii, fun a u h1 h2 => by rw [upd_ne (ne_of_none h1 hp)]; exact e.fr a u h1 h2, e.nw, e.ln, e.zn⟩
theorem HR.adoptZ (h : HR K H Z ι M) (q : Odd Z ι M.length p) (hp : H p = some o) : HR K H (upd Z p o) ι M := by
  have s1 : Sub Z (upd Z p o) := fun a u e => by rw [upd_ne (ne_of_none e q.z)]; exact e
  refine ⟨fun a u e => ?_, h.ali, fun k u e d => by rw [upd_ne (q.i k (List.getElem?_eq_some_iff.mp e).1)]; exact h.sep k u e d, h.inj, fun k u e => ?_, fun k e => let ⟨u, hu⟩ := h.ded k e; ⟨u, s1 _ _ hu⟩⟩
  · by_cases ha : a = p
    · subst ha
      rw [upd_same] at e
      rw [← e]
      exact hp
    · rw [upd_ne ha] at e
      exact h.sub _ _ e
  · exact OR.mono s1 (fun _ _ => rfl) (Nat.le_refl _) (fun _ z => z) (h.obj k u e)
theorem Ext.adoptZ {n : Nat} (e : Ext H0 Z0 ι0 n0 H Z ι n) (hz : Z p = none) (hp : H0 p = none) : Ext H0 Z0 ι0 n0 H (upd Z p o) ι n :=
  ⟨fun a u h => by rw [upd_ne (ne_of_none (e.zz _ _ h) hz)]; exact e.zz _ _ h, e.ii, e.fr, e.nw, e.ln, fun a u h => by
    by_cases ha : a = p
    · subst ha
      exact .inr (.inl hp)
    · rw [upd_ne ha] at h
      exact e.zn a u h⟩
theorem HR.adoptM (h : HR K H Z ι M) (q : Odd Z ι M.length p) (hp : H p = some (.lst xs)) (r : Rps K Z ι M.length ds xs) : HR K H Z (put ι M.length p) (M ++ [.lst ds]) := by
  have ln : (M ++ [MO.lst ds]).length = M.length + 1 := by simp
  have cs : ∀ {k : Nat} {u : MO}, (M ++ [MO.lst ds])[k]? = some u → (k < M.length ∧ M[k]? = some u) ∨ (k = M.length ∧ u = .lst ds) := fun {k u} e => by
    by_cases hk : k < M.length
    · rw [List.getElem?_append_left hk] at e
      exact .inl ⟨hk, e⟩
    · rw [List.getElem?_append_right (Nat.le_of_not_lt hk)] at e
      by_cases hz : k - M.length = 0
      · rw [hz] at e
        exact .inr ⟨by omega, (Option.some.inj e).symm⟩
      · rw [List.getElem?_eq_none (by simp; omega)] at e
        cases e
  refine ⟨h.sub, fun k hk => ?_, fun k u e d => ?_, fun j k o u e1 e2 d1 d2 e => ?_, fun k u e => ?_, fun k e => ?_⟩
  · rw [ln] at hk
    by_cases hk' : k < M.length
    · rw [put_lt hk']
      exact h.ali k hk'
    · have : k = M.length := by omega
      subst this
      exact ⟨_, by rw [put_at]; exact hp⟩
  · rcases cs e with ⟨hk, e⟩ | ⟨rfl, rfl⟩
    · rw [put_lt hk]
      exact h.sep k u e d
    · rw [put_at]
      exact q.z
  · rcases cs e1 with ⟨hj, e1⟩ | ⟨rfl, rfl⟩ <;> rcases cs e2 with ⟨hk, e2⟩ | ⟨rfl, rfl⟩
    · rw [put_lt hj, put_lt hk] at e
      exact h.inj j k o u e1 e2 d1 d2 e
    · rw [put_lt hj, put_at] at e
      exact absurd e (q.i j hj)
    · rw [put_lt hk, put_at] at e
      exact absurd e.symm (q.i k hk)
    · rfl
  · rcases cs e with ⟨hk, e⟩ | ⟨rfl, rfl⟩
    · rw [put_lt hk]
      exact OR.mono (fun _ _ z => z) (fun _ z => put_lt z) (by rw [ln]; omega) (fun _ z => z) (h.obj k u e)
    · rw [put_at]
      exact ⟨xs, hp, Rps.mono (fun _ _ z => z) (fun _ z => put_lt z) (by rw [ln]; omega) _ _ r⟩
  · rcases cs e with ⟨hk, e⟩ | ⟨_, e⟩
    · rw [put_lt hk]
      exact h.ded k e
    · cases e
theorem Ext.adoptM (e : Ext H0 Z0 ι0 n0 H Z ι M.length) (hp : H0 p = none) : Ext H0 Z0 ι0 n0 H Z (put ι M.length p) (M ++ [MO.lst ds]).length := by
  have ln : (M ++ [MO.lst ds]).length = M.length + 1 := by simp
  refine ⟨e.zz, fun k hk => (put_lt (Nat.lt_of_lt_of_le hk e.ln)).trans (e.ii k hk), e.fr, fun k h1 h2 => ?_, by rw [ln]; have := e.ln; omega, e.zn⟩
  rw [ln] at h2
  by_cases hk : k < M.length
  · rw [put_lt hk]
    exact e.nw k h1 hk
  · have : k = M.length := by omega
    subst this
    rw [put_at]
    exact hp
end
theorem wipe_at {σ : St} : ∀ (vs : List Nat) (i : Nat), (wipe σ vs)[i]? = if i ∈ vs ∧ i < σ.length then some none else σ[i]?
  | [], i => by simp [wipe]
  | v :: vs, i => by
    have ih := wipe_at (σ := σ) vs i
    have ln := wipe_length σ vs
    show ((wipe σ vs).set v none)[i]? = _
    by_cases hv : v = i
    · subst hv
      by_cases hl : v < σ.length
      · rw [List.getElem?_set_self (by rw [ln]; exact hl), if_pos ⟨List.mem_cons_self, hl⟩]
      · rw [if_neg (fun z => hl z.2), List.getElem?_eq_none (by rw [List.length_set, ln]; omega), List.getElem?_eq_none (by omega)]
    · rw [List.getElem?_set_ne hv, ih]
      have : (i ∈ v :: vs) ↔ i ∈ vs := by simp only [List.mem_cons]; exact ⟨fun z => z.elim (fun e => absurd e.symm hv) id, .inr⟩
      simp only [this]
theorem wipe_wipe {σ : St} (vs : List Nat) : wipe (wipe σ vs) vs = wipe σ vs := by
  refine List.ext_getElem? fun i => ?_
  rw [wipe_at, wipe_length, wipe_at]
  split <;> rfl
theorem slots_wipe {K : PySem.W.Frag} {Z : Hp} {ι : Nat → Addr} {n : Nat} {σ : St} : ∀ (vs : List Nat) {Γ : Env}, Slots K Z ι n Γ σ → Slots K Z ι n (forget Γ vs) (wipe σ vs) := by
  have one : ∀ (vs : List Nat) (Γ : Env) (i : Nat) (d : D), (forget Γ vs)[i]? = some (some d) → Γ[i]? = some (some d) ∧ i ∉ vs := by
    intro vs
    induction vs with
    | nil => intro Γ i d h; exact ⟨h, by simp⟩
    | cons v vs ih =>
      intro Γ i d h
      obtain ⟨h1, h2⟩ := ih (Γ.set v none) i d h
      by_cases hv : v = i
      · subst hv
        have lt : v < Γ.length := by
          have := (List.getElem?_eq_some_iff.mp h1).1
          rw [List.length_set] at this
          exact this
        rw [List.getElem?_set_self lt] at h1
        cases h1
      · rw [List.getElem?_set_ne hv] at h1
        exact ⟨h1, by simp only [List.mem_cons, not_or]; exact ⟨fun e => hv e.symm, h2⟩⟩
  have keep : ∀ (vs : List Nat) (i : Nat), i ∉ vs → (wipe σ vs)[i]? = σ[i]? := by
    intro vs
    induction vs with
    | nil => intro i _; rfl
    | cons v vs ih =>
      intro i h
      show ((wipe σ vs).set v none)[i]? = _
      rw [List.getElem?_set_ne (fun e => h (by rw [e]; exact List.mem_cons_self))]
      exact ih i fun z => h (List.mem_cons_of_mem _ z)
  have len : ∀ (vs : List Nat) (Γ : Env), (forget Γ vs).length = Γ.length := by
    intro vs
    induction vs with
    | nil => intro Γ; rfl
    | cons v vs ih => intro Γ; exact (ih _).trans List.length_set
  intro vs Γ sl
  refine ⟨by rw [len, wipe_length]; exact sl.1, fun i d h => ?_⟩
  obtain ⟨h1, h2⟩ := one vs Γ i d h
  obtain ⟨v, e, r⟩ := sl.2 i d h1
  exact ⟨v, by rw [keep vs i h2]; exact e, r⟩
section
variable {X : Cx} {C : CT} {W : WX}
abbrev Blk (X : Cx) (scope : Scope) (F : Cx → Prop) : Prop := ∀ (s : Shared) (H : Hp) (c : Addr) (cl : List (Str × Addr)) (fp : List Addr), F (X.blk s H scope (compEnvC scope cl c X.env) fp)
/-- the readings that the functions are: the same in every block -/
def liftE (K : PySem.W.Frag) (X : Cx) (C : CT) (W : WX) (g : GE) : TE := fun σ H Q => ∃ (Z : Hp) (ι : Nat → Addr) (Γ : Env) (M : List MO), Slots K Z ι M.length Γ σ ∧ HR K H Z ι M ∧ Post X C W (rpE K) σ H Z ι M (g Γ M) Q
def liftT (K : PySem.W.Frag) (X : Cx) (C : CT) (W : WX) (g : GT) : TT := fun σ H Q => ∃ (Z : Hp) (ι : Nat → Addr) (Γ : Env) (M : List MO), Slots K Z ι M.length Γ σ ∧ HR K H Z ι M ∧ Post X C W rpT σ H Z ι M (g Γ M) Q
def liftG (K : PySem.W.Frag) (g : GG) (is : List Nat) : TG := fun v σ H Q => ∃ (Z : Hp) (ι : Nat → Addr) (n : Nat) (d : D) (Γ Γ' : Env), Sub Z H ∧ Slots K Z ι n Γ σ ∧ Rp K Z ι n d v ∧ g d Γ = some Γ' ∧ ∀ σ', Slots K Z ι n Γ' σ' → Wip is σ σ' → Q σ' H
def QTs (X : Cx) (C : CT) (W : WX) (es : List Expr) (g : GT) : Prop := ∃ te, PTs X es te ∧ ∀ (σ : St) (H Z : Hp) (ι : Nat → Addr) (Γ : Env) (M : List MO) (Q : Bool → Hp → Prop), Slots X.K Z ι M.length Γ σ → HR X.K H Z ι M → Post X C W rpT σ H Z ι M (g Γ M) Q → te σ H Q
theorem qts_nil : QTs X C W [] gYes := ⟨_, pts_nil, fun σ H Z ι Γ M Q sl hr h => h true H Z ι .refl hr rfl⟩
theorem Post.blk {α β : Type} {X Y : Cx} {rp : RpK α β} {σ : St} {H Z : Hp} {ι : Nat → Addr} {M : List MO} {r : R α} {Q : β → Hp → Prop} (e : X.K = Y.K) (h : Post X C W rp σ H Z ι M r Q) : Post Y C W rp σ H Z ι M r Q := by
  cases r with
  | ok a M' =>
    intro b H' Z' ι' e' hr rb
    exact h b H' Z' ι' e' (by rw [e]; exact hr) rb
  | exc c d M' =>
    intro cls dd H' Z' ι' e' hr rb
    exact h cls dd H' Z' ι' e' (by rw [e]; exact hr) (by rw [e]; exact rb)
  | bad => exact h
theorem gLcL_run {cd : List MO → Prop} {gg : GG} {gt : GT} {ge : GE} {is own : List Nat} {σ : St} {Γ0 : Env} {fin : List D → List MO → R D} {Q : VK} {J : It} {p : Addr}
    {ds : List D} {H0 Z0 : Hp} {ι0 : Nat → Addr} {M0 : List MO} (hsub : ∀ i ∈ is, i ∈ own) (sl : Slots X.K Z0 ι0 M0.length Γ0 (wipe σ own)) (rJ : ItC cd X.K J ds Z0 ι0 M0.length) (cd0 : cd M0) (cdt : ∀ Γ M d M', gt Γ M = .ok d M' → cd M → cd M') (cde : ∀ Γ M d M', ge Γ M = .ok d M' → cd M → cd M') (hp0 : H0 p = none) (hr0 : HR X.K H0 Z0 ι0 M0)
    (h : Post X C W (rpE X.K) σ H0 Z0 ι0 M0 ((gLcL gg gt ge Γ0 ds [] M0).bind fin) Q)
    (hfin : ∀ (acc : List D) (accV : List V) (M : List MO) (H Z : Hp) (ι : Nat → Addr), Ext H0 Z0 ι0 M0.length H Z ι M.length → HR X.K H Z ι M → Odd Z ι M.length p → H p = some (.lst accV) → Rps X.K Z ι M.length acc accV → Post X C W (rpE X.K) σ H0 Z0 ι0 M0 (fin acc M) Q → Q (.ref p) H) :
    ∃ Wv : Nat → Nat → Hp → Prop, (∃ m, Wv 0 m (upd H0 p (.lst []))) ∧ ∀ i m H, Wv i m H →
      (J.stop i H ∧ Q (.ref p) H) ∨ (J.go i H ∧ ∃ Nx : Hp → Prop, (∀ H', Nx H' → ∃ m', m' < m ∧ Wv (i + 1) m' H') ∧ ∀ x H', J.yld i H x H' → liftG X.K gg is x (wipe σ own) H' fun σ2 H2 => wipe σ2 own = wipe σ own ∧ liftT X.K X C noW gt σ2 H2 fun b H3 =>
        if b = true then liftE X.K X C noW ge σ2 H3 fun y H4 => ∃ acc, H4 p = some (.lst acc) ∧ acc.length < sizeLine ∧ Nx (upd H4 p (.lst (acc ++ [y]))) else Nx H3) := by
  let Inv' : Nat → Hp → Prop := fun i H => ∃ (Z : Hp) (ι : Nat → Addr) (M : List MO) (acc : List D) (accV : List V), Ext H0 Z0 ι0 M0.length H Z ι M.length ∧ HR X.K H Z ι M ∧ Odd Z ι M.length p ∧ H p = some (.lst accV) ∧ Rps X.K Z ι M.length acc accV ∧ cd M ∧
    Post X C W (rpE X.K) σ H0 Z0 ι0 M0 ((gLcL gg gt ge Γ0 (ds.drop i) acc M).bind fin) Q
  have q0 : Odd Z0 ι0 M0.length p := .new hr0 hp0
  refine ⟨fun i m H => m = ds.length - i ∧ i ≤ ds.length ∧ Inv' i H, ⟨ds.length, rfl, Nat.zero_le _, Z0, ι0, M0, [], [], (Ext.refl).touch hp0, hr0.odd q0, q0, upd_same, .nil, cd0, h⟩, ?_⟩
  rintro i m H ⟨em, hle, Z, ι, M, acc, accV, e1, hr1, od, hp, ra, cdM, hpost⟩
  obtain ⟨hstop, hgo⟩ := rJ i H Z ι M e1.zz e1.ii e1.ln hr1 cdM
  by_cases hi : i < ds.length
  · refine .inr ?_
    have ed : ds.drop i = ds[i] :: ds.drop (i + 1) := List.drop_eq_getElem_cons hi
    obtain ⟨go, yl⟩ := hgo ds[i] (List.getElem?_eq_getElem hi)
    refine ⟨go, Inv' (i + 1), fun H' hN => ⟨ds.length - (i + 1), by omega, rfl, by omega, hN⟩, fun x H2 hy => ?_⟩
    obtain ⟨Z2, e2, hr2, rx⟩ := yl x H2 hy
    obtain ⟨od2, hp2⟩ := od.ext hp e2
    have e12 := e1.trans e2 hr1.ali
    rw [ed] at hpost
    cases eg : gg ds[i] Γ0 with
    | none =>
      have z : gLcL gg gt ge Γ0 (ds[i] :: ds.drop (i + 1)) acc M = .bad := by
        unfold gLcL
        rw [eg]
      rw [z] at hpost
      exact hpost.elim
    | some Γ1 =>
      have z : gLcL gg gt ge Γ0 (ds[i] :: ds.drop (i + 1)) acc M = ((gt Γ1 M).only fun k M1 => if k = true then (ge Γ1 M1).only fun y M2 => if acc.length < sizeLine then gLcL gg gt ge Γ0 (ds.drop (i + 1)) (acc ++ [y]) M2 else .bad
          else gLcL gg gt ge Γ0 (ds.drop (i + 1)) acc M1) := by
        conv => lhs; unfold gLcL
        rw [eg]
      rw [z] at hpost
      refine ⟨Z2, ι, M.length, ds[i], Γ0, Γ1, hr2.sub, sl.ext e12, rx, eg, fun σ2 s2 w2 => ⟨(w2 own hsub).trans (wipe_wipe own), Z2, ι, Γ1, M, s2, hr2, ?_⟩⟩
      cases et : gt Γ1 M with
      | bad => rw [et] at hpost; exact hpost.elim
      | exc c d M' => rw [et] at hpost; exact hpost.elim
      | ok k M3 =>
        rw [et] at hpost
        intro b H3 Z3 ι3 e3 hr3 hb
        have hb' : k = b := hb
        subst hb'
        obtain ⟨od3, hp3⟩ := od2.ext hp2 e3
        have e13 := e12.trans e3 hr2.ali
        have ra3 := (ra.ext e2).ext e3
        cases k with
        | false => exact ⟨Z3, ι3, M3, acc, accV, e13, hr3, od3, hp3, ra3, cdt _ _ _ _ et cdM, hpost⟩
        | true =>
          rw [if_pos rfl]
          refine ⟨Z3, ι3, Γ1, M3, s2.ext e3, hr3, ?_⟩
          have hpost2 : Post X C W (rpE X.K) σ H0 Z0 ι0 M0 (((ge Γ1 M3).only fun y M2 => if acc.length < sizeLine then gLcL gg gt ge Γ0 (ds.drop (i + 1)) (acc ++ [y]) M2 else .bad).bind fin) Q := hpost
          cases ee : ge Γ1 M3 with
          | bad => rw [ee] at hpost2; exact hpost2.elim
          | exc c d M' => rw [ee] at hpost2; exact hpost2.elim
          | ok y M4 =>
            rw [ee] at hpost2
            have hpost3 : Post X C W (rpE X.K) σ H0 Z0 ι0 M0 ((if acc.length < sizeLine then gLcL gg gt ge Γ0 (ds.drop (i + 1)) (acc ++ [y]) M4 else .bad).bind fin) Q := hpost2
            by_cases hz : acc.length < sizeLine
            · rw [if_pos hz] at hpost3
              intro v H4 Z4 ι4 e4 hr4 rv
              obtain ⟨od4, hp4⟩ := od3.ext hp3 e4
              have ra4 := ra3.ext e4
              exact ⟨accV, hp4, by rw [← ra4.length]; exact hz, Z4, ι4, M4, acc ++ [y], accV ++ [v], (e13.trans e4 hr3.ali).touch hp0, hr4.odd od4, od4, upd_same, ra4.append (.cons rv .nil), cde _ _ _ _ ee (cdt _ _ _ _ et cdM), hpost3⟩
            · rw [if_neg hz] at hpost3
              exact hpost3.elim
  · refine .inl ⟨hstop (by omega), ?_⟩
    rw [List.drop_eq_nil_of_le (Nat.le_of_not_lt hi)] at hpost
    exact hfin acc accV M H Z ι e1 hr1 od hp ra hpost

theorem lc_read {own : List Nat} {gi : GI} {gg : GG} {gt : GT} {ge : GE} {is : List Nat} {wi : TI} {fin : List D → List MO → R D}
    (qi : ∀ (σ : St) (H Z : Hp) (ι : Nat → Addr) (Γ : Env) (M : List MO) (Q : It → Hp → Prop), Slots X.K Z ι M.length Γ σ → HR X.K H Z ι M → Post X C W (rpI X.K) σ H Z ι M (gi Γ M) Q → wi σ H Q) (hsub : ∀ i ∈ is, i ∈ own)
    (hfin : ∀ (σ : St) (H0 Z0 : Hp) (ι0 : Nat → Addr) (M0 : List MO) (p : Addr) (Q : VK) (acc : List D) (accV : List V) (M : List MO) (H Z : Hp) (ι : Nat → Addr), H0 p = none → Ext H0 Z0 ι0 M0.length H Z ι M.length → HR X.K H Z ι M → Odd Z ι M.length p → H p = some (.lst accV) →
      Rps X.K Z ι M.length acc accV → Post X C W (rpE X.K) σ H0 Z0 ι0 M0 (fin acc M) Q → Q (.ref p) H)
    (σ : St) (H Z : Hp) (ι : Nat → Addr) (Γ : Env) (M : List MO) (Q : VK) (sl : Slots X.K Z ι M.length Γ σ) (hr : HR X.K H Z ι M)
    (h : Post X C W (rpE X.K) σ H Z ι M ((gi Γ M).bind fun ds M1 => (gLcL gg gt ge (forget Γ own) ds [] M1).bind fin) Q) :
    tLc wi (liftG X.K gg is) (liftT X.K X C noW gt) (liftE X.K X C noW ge) own σ H Q :=
  qi σ H Z ι Γ M _ sl hr (h.bind fun ds M1 J H1 Z1 ι1 e1 hr1 rJ h1 => fun p hp =>
    gLcL_run hsub (slots_wipe _ (sl.ext e1)) rJ trivial (fun _ _ _ _ _ _ => trivial) (fun _ _ _ _ _ _ => trivial) hp hr1 h1 fun acc accV M' H' Z' ι' a1 a2 a3 a4 a5 a6 => hfin σ H1 Z1 ι1 M1 p Q acc accV M' H' Z' ι' hp a1 a2 a3 a4 a5 a6)
theorem blk_g {tg : Expr} {scope : Scope} {gg : GG} {is : List Nat} (hg : Blk X scope fun Y => QG Y tg gg is) : Blk X scope fun Y => PG Y tg (liftG X.K gg is) := fun s H c cl fp => by
  obtain ⟨t, p, q⟩ := hg s H c cl fp
  exact ⟨fun pins s σ H v u Q I r h => p.run pins s σ H v u Q I r (let ⟨Z, ι, n, d, Γ, Γ', h1, h2, h3, h4, h5⟩ := h; q v σ H Z ι n d Γ Γ' Q h1 h2 h3 h4 h5)⟩
theorem blk_t {ifs : List Expr} {scope : Scope} {gt : GT} (ht : Blk X scope fun Y => QTs Y C noW ifs gt) : Blk X scope fun Y => PTs Y ifs (liftT X.K X C noW gt) := fun s H c cl fp => by
  obtain ⟨t, p, q⟩ := ht s H c cl fp
  exact ⟨fun pins s σ H Q I h => p.run pins s σ H Q I (let ⟨Z, ι, Γ, M, h1, h2, h3⟩ := h; q σ H Z ι Γ M Q h1 h2 (h3.blk rfl))⟩
theorem blk_e {elt : Expr} {scope : Scope} {ge : GE} (he : Blk X scope fun Y => QE Y C noW elt ge) : Blk X scope fun Y => PE Y elt (liftE X.K X C noW ge) := fun s H c cl fp => by
  obtain ⟨t, p, q⟩ := he s H c cl fp
  exact ⟨fun pins s σ H Q I h => p.run pins s σ H Q I (let ⟨Z, ι, Γ, M, h1, h2, h3⟩ := h; q σ H Z ι Γ M Q h1 h2 (h3.blk rfl))⟩
theorem fin_z {σ : St} {H0 Z0 : Hp} {ι0 : Nat → Addr} {M0 : List MO} {p : Addr} {Q : VK} {acc : List D} {accV : List V} {M : List MO} {H Z : Hp} {ι : Nat → Addr} (h0 : H0 p = none) (e : Ext H0 Z0 ι0 M0.length H Z ι M.length) (hr : HR X.K H Z ι M) (od : Odd Z ι M.length p) (hp : H p = some (.lst accV))
    (ra : Rps X.K Z ι M.length acc accV) (h : Post X C W (rpE X.K) σ H0 Z0 ι0 M0 (.ok (.lst acc) M) Q) : Q (.ref p) H :=
  h _ H _ ι (e.adoptZ od.z h0) (hr.adoptZ od hp) (.lst (.inl (.inl upd_same)) (Rps.mono (fun a u q => by rw [upd_ne (ne_of_none q od.z)]; exact q) (fun _ _ => rfl) (Nat.le_refl _) _ _ ra))
section
variable {elt tg iter : Expr} {ifs : List Expr} {scope : Scope} {own : List (Str × Nat)} {pos spos py : Pos} {gi : GI} {gg : GG} {gt : GT} {ge : GE} {is ixs : List Nat}
theorem qe_lc (hc : X.calm = true) (hN : X.N.Nodup) (hi : QI X C W tg iter gi) (ok : BlkOk X.N X.env.scope scope own)
    (hg : Blk X scope fun Y => QG Y tg gg is) (ht : Blk X scope fun Y => QTs Y C noW ifs gt) (he : Blk X scope fun Y => QE Y C noW elt ge) (hix : ixs = own.map (·.2) := by rfl) (hsub : ∀ i ∈ is, i ∈ own.map (·.2) := by decide) (hs : ∀ x, foldedSetIterable iter X.env x = pure x := by intro _; rfl) :
    QE X C W (.ListComp elt [⟨tg, iter, ifs, 0⟩] scope pos) (gLc gi gg gt ge ixs) := by
  subst hix
  obtain ⟨wi, pi, qi⟩ := hi
  exact ⟨_, pe_lc hc hN pi ok (blk_g hg) (blk_t ht) (blk_e he) hs, lc_read qi hsub fun σ H0 Z0 ι0 M0 p Q acc accV M H Z ι h0 e hr od hp ra h => fin_z h0 e hr od hp ra h⟩
/-- y = [..]: the model stores the list within the comprehension -/
theorem qs_lc {i : Nat} {y : Str} (hc : X.calm = true) (hN : X.N.Nodup) (hy : X.N[i]? = some y) (hyl : X.env.scope.names.lookup y = some .local) (hsw : swapsWith (.ListComp elt [⟨tg, iter, ifs, 0⟩] scope pos) (some (.Name y py)) spos.line X.env = pure true)
    (hi : QI X C W tg iter gi) (ok : BlkOk X.N X.env.scope scope own) (hg : Blk X scope fun Y => QG Y tg gg is) (ht : Blk X scope fun Y => QTs Y C noW ifs gt) (he : Blk X scope fun Y => QE Y C noW elt ge)
    (hix : ixs = own.map (·.2) := by rfl) (hsub : ∀ i ∈ is, i ∈ own.map (·.2) := by decide) (hs : ∀ x, foldedSetIterable iter X.env x = pure x := by intro _; rfl) : QS X C W (.Assign [.Name y py] (.ListComp elt [⟨tg, iter, ifs, 0⟩] scope pos) spos) (gAsg (gLc gi gg gt ge ixs) (gTo i)) := by
  subst hix
  obtain ⟨wi, pi, qi⟩ := hi
  refine ⟨_, ps_setLc hc hN hy hyl hsw pi ok (blk_g hg) (blk_t ht) (blk_e he) hs, fun Dd σ H Z ι Γ M sl hr h => ?_⟩
  refine lc_read qi hsub (fin := fun acc M2 => .ok (.lst acc) M2) (fun σ H0 Z0 ι0 M0 p Q acc accV M H Z ι h0 e hr od hp ra h => fin_z h0 e hr od hp ra h) σ H Z ι Γ M _ sl hr (PostS.bind (Γ := Γ) h sl fun x M1 v H1 Z1 ι1 e1 hr1 r1 h1 => ?_)
  exact h1 _ H1 Z1 ι1 .refl hr1 ((sl.ext e1).set i r1)
end
end
end Bk

set_option Elab.async false
set_option linter.all false
set_option maxRecDepth 100000
set_option maxHeartbeats 2000000
namespace Bk
open PySem PySem.Spec PyProof.Rows L2

/-! ### calls: what of ours is handed over is lent, and comes back changed -/
/-- the arguments as the callee sees them, and which things of ours are lent -/
def lendA : Nat → List D → List D
  | _, [] => []
  | m, .ref _ :: r => .ref m :: lendA (m + 1) r
  | m, d :: r => d :: lendA m r
def lendK : List D → List Nat
  | [] => []
  | .ref k :: r => k :: lendK r
  | _ :: r => lendK r
def getAll (M : List MO) : List Nat → Option (List MO)
  | [] => some []
  | k :: ks => match M[k]?, getAll M ks with
    | some o, some os => some (o :: os)
    | _, _ => none
def setAll (M : List MO) : List Nat → List MO → List MO
  | k :: ks, o :: os => setAll (M.set k o) ks os
  | _, _ => M
def isDead : MO → Bool
  | .dead => true
  | _ => false
/-- no refs but at the top -/
def flatArgs : List D → Bool
  | [] => true
  | .ref _ :: r => flatArgs r
  | d :: r => below 0 d && flatArgs r
def lentOk (os : List MO) : Bool := os.all fun o => !isDead o && belowO 0 o
def backD (ks : List Nat) (n : Nat) : D → Option D
  | .ref j => if j < ks.length then (ks[j]?).map D.ref else some (.ref (n + (j - ks.length)))
  | d => if below 0 d = true then some d else none
/-- nothing is lent: nothing comes back -/
def callF (F : List D → List MO → R D) (ds : List D) (M : List MO) : R D := match getAll M (lendK ds) with
  | none => .bad
  | some os => if (lendK ds).Nodup ∧ flatArgs ds = true ∧ lentOk os = true then
      match F (lendA 0 ds) os with
      | .ok d os' => if (lendK ds).length ≤ os'.length ∧ os'.all (belowO 0) = true then
          match backD (lendK ds) M.length d with
          | some d' => .ok d' (setAll M (lendK ds) os' ++ os'.drop (lendK ds).length)
          | none => .bad
        else .bad
      | .exc c d os' => if (lendK ds).length ≤ os'.length ∧ os'.all (belowO 0) = true ∧ below 0 d = true then .exc c d (setAll M (lendK ds) os' ++ os'.drop (lendK ds).length) else .bad
      | .bad => .bad
    else .bad
def gCallF (n : Nat) (F : List D → List MO → R D) (ga : GA) : GE := fun Γ M => (ga Γ M).bind fun ds M1 => if ds.length = n then callF F ds M1 else .bad
/-- positional values, then the keywords' values, in the parameters' order -/
def pick {α : Type} (l : List α) : List Nat → List α
  | [] => []
  | i :: is => match l[i]? with
    | some a => a :: pick l is
    | none => pick l is
def gCallK (n : Nat) (F : List D → List MO → R D) (is : List Nat) (ga gk : GA) : GE := fun Γ M => (ga Γ M).bind fun ds M1 => (gk Γ M1).bind fun es M2 => if (pick (ds ++ es) is).length = n then callF F (pick (ds ++ es) is) M2 else .bad

section
variable {K : PySem.W.Frag} {Z : Hp} {ι : Nat → Addr} {n : Nat}
/-- which address stands for which lent thing -/
def lentι (ι : Nat → Addr) (ks : List Nat) : Nat → Addr := fun j => ι (ks.getD j 0)
theorem lend_rps : ∀ (ds : List D) (vs : List V) (pre : List Nat), flatArgs ds = true → Rps K Z ι n ds vs → Rps K Z (lentι ι (pre ++ lendK ds)) (pre ++ lendK ds).length (lendA pre.length ds) vs
  | [], _, _, _, h => by cases h; exact .nil
  | .ref k :: r, _, pre, hf, h => by
    cases h with
    | cons r1 rs =>
      cases r1 with
      | ref hk =>
        have ih := lend_rps r _ (pre ++ [k]) (by simpa [flatArgs] using hf) rs
        have e : pre ++ [k] ++ lendK r = pre ++ lendK (.ref k :: r) := by simp [lendK]
        rw [e] at ih
        have el : (pre ++ [k]).length = pre.length + 1 := by simp
        rw [el] at ih
        refine .cons ?_ ih
        have q : Rp K Z (lentι ι (pre ++ lendK (.ref k :: r))) (pre ++ lendK (.ref k :: r)).length (.ref pre.length) (.ref (lentι ι (pre ++ lendK (.ref k :: r)) pre.length)) := .ref (by simp [lendK])
        have ek : lentι ι (pre ++ lendK (.ref k :: r)) pre.length = ι k := by
          unfold lentι
          congr 1
          simp [lendK]
        rw [ek] at q
        exact q
  | .non :: r, _, pre, hf, h => by
    cases h with
    | cons r1 rs =>
      cases r1
      exact .cons .non (lend_rps r _ pre (by simpa [flatArgs, below] using hf) rs)
  | .bl b :: r, _, pre, hf, h => by
    cases h with
    | cons r1 rs =>
      cases r1
      exact .cons (.bl b) (lend_rps r _ pre (by simpa [flatArgs, below] using hf) rs)
  | .int i :: r, _, pre, hf, h => by
    cases h with
    | cons r1 rs =>
      cases r1
      exact .cons (.int i) (lend_rps r _ pre (by simpa [flatArgs, below] using hf) rs)
  | .str x :: r, _, pre, hf, h => by
    cases h with
    | cons r1 rs =>
      cases r1
      exact .cons (.str x) (lend_rps r _ pre (by simpa [flatArgs, below] using hf) rs)
  | .tup ds :: r, _, pre, hf, h => by
    cases h with
    | cons r1 rs =>
      have hf' : below 0 (.tup ds) = true ∧ flatArgs r = true := by simpa [flatArgs] using hf
      exact .cons (Rp.mono (fun _ _ z => z) (fun k hk => absurd hk (Nat.not_lt_zero _)) (Nat.zero_le _) _ _ (r1.shrink _ _ hf'.1)) (lend_rps r _ pre hf'.2 rs)
  | .lst ds :: r, _, pre, hf, h => by
    cases h with
    | cons r1 rs =>
      have hf' : below 0 (.lst ds) = true ∧ flatArgs r = true := by simpa [flatArgs] using hf
      exact .cons (Rp.mono (fun _ _ z => z) (fun k hk => absurd hk (Nat.not_lt_zero _)) (Nat.zero_le _) _ _ (r1.shrink _ _ hf'.1)) (lend_rps r _ pre hf'.2 rs)
  | .dct ks ws :: r, _, pre, hf, h => by
    cases h with
    | cons r1 rs =>
      have hf' : below 0 (.dct ks ws) = true ∧ flatArgs r = true := by simpa [flatArgs] using hf
      exact .cons (Rp.mono (fun _ _ z => z) (fun k hk => absurd hk (Nat.not_lt_zero _)) (Nat.zero_le _) _ _ (r1.shrink _ _ hf'.1)) (lend_rps r _ pre hf'.2 rs)
  | .ptu ds :: r, _, pre, hf, h => by
    cases h with
    | cons r1 rs =>
      have hf' : below 0 (.ptu ds) = true ∧ flatArgs r = true := by simpa [flatArgs] using hf
      exact .cons (Rp.mono (fun _ _ z => z) (fun k hk => absurd hk (Nat.not_lt_zero _)) (Nat.zero_le _) _ _ (r1.shrink _ _ hf'.1)) (lend_rps r _ pre hf'.2 rs)
  | .lam l cl :: r, _, pre, hf, h => by
    cases h with
    | cons r1 rs =>
      have hf' : below 0 (.lam l cl) = true ∧ flatArgs r = true := by simpa [flatArgs] using hf
      exact .cons (Rp.mono (fun _ _ z => z) (fun k hk => absurd hk (Nat.not_lt_zero _)) (Nat.zero_le _) _ _ (r1.shrink _ _ hf'.1)) (lend_rps r _ pre hf'.2 rs)
  | .exn nm f d :: r, _, pre, hf, h => by
    cases h with
    | cons r1 rs =>
      have hf' : below 0 (.exn nm f d) = true ∧ flatArgs r = true := by simpa [flatArgs] using hf
      exact .cons (Rp.mono (fun _ _ z => z) (fun k hk => absurd hk (Nat.not_lt_zero _)) (Nat.zero_le _) _ _ (r1.shrink _ _ hf'.1)) (lend_rps r _ pre hf'.2 rs)
  | .exv a dx f d :: r, _, pre, hf, h => by
    cases h with
    | cons r1 rs =>
      have hf' : below 0 (.exv a dx f d) = true ∧ flatArgs r = true := by simpa [flatArgs] using hf
      exact .cons (Rp.mono (fun _ _ z => z) (fun k hk => absurd hk (Nat.not_lt_zero _)) (Nat.zero_le _) _ _ (r1.shrink _ _ hf'.1)) (lend_rps r _ pre hf'.2 rs)
  | .dcx k d :: r, _, pre, hf, h => by
    cases h with
    | cons r1 rs =>
      have hf' : below 0 (.dcx k d) = true ∧ flatArgs r = true := by simpa [flatArgs] using hf
      exact .cons (Rp.mono (fun _ _ z => z) (fun k hk => absurd hk (Nat.not_lt_zero _)) (Nat.zero_le _) _ _ (r1.shrink _ _ hf'.1)) (lend_rps r _ pre hf'.2 rs)
theorem getAll_at {M : List MO} : ∀ {ks : List Nat} {os : List MO}, getAll M ks = some os → os.length = ks.length ∧ ∀ (j : Nat) (o : MO), os[j]? = some o → ∃ k, ks[j]? = some k ∧ M[k]? = some o
  | [], os, h => by
    cases h
    exact ⟨rfl, fun j o e => by simp at e⟩
  | k :: ks, os, h => by
    unfold getAll at h
    cases e1 : M[k]? with
    | none => rw [e1] at h; simp at h
    | some o =>
      cases e2 : getAll M ks with
      | none => rw [e1, e2] at h; simp at h
      | some os' =>
        rw [e1, e2] at h
        cases h
        obtain ⟨l, f⟩ := getAll_at e2
        refine ⟨by simp [l], fun j o' e => ?_⟩
        cases j with
        | zero =>
          simp at e
          subst e
          exact ⟨k, rfl, e1⟩
        | succ j =>
          obtain ⟨k', h1, h2⟩ := f j o' (by simpa using e)
          exact ⟨k', by simpa using h1, h2⟩
theorem setAll_length : ∀ (ks : List Nat) (os : List MO) (M : List MO), (setAll M ks os).length = M.length
  | [], _, _ => by simp [setAll]
  | _ :: _, [], _ => by simp [setAll]
  | k :: ks, o :: os, M => by
    show (setAll (M.set k o) ks os).length = _
    rw [setAll_length ks os, List.length_set]
/-- what stands where, behind -/
theorem setAll_at : ∀ (ks : List Nat) (os : List MO) (M : List MO) (k : Nat) (o : MO), ks.Nodup → ks.length ≤ os.length → (setAll M ks os)[k]? = some o → (k ∉ ks ∧ M[k]? = some o) ∨ ∃ j : Nat, j < ks.length ∧ ks[j]? = some k ∧ os[j]? = some o
  | [], _, M, k, o, _, _, h => .inl ⟨by simp, by simpa [setAll] using h⟩
  | _ :: _, [], _, _, _, _, hl, _ => by simp at hl
  | k0 :: ks, o0 :: os, M, k, o, nd, hl, h => by
    have nd' := List.nodup_cons.mp nd
    rcases setAll_at ks os (M.set k0 o0) k o nd'.2 (by simpa using hl) h with ⟨h1, h2⟩ | ⟨j, h1, h2, h3⟩
    · by_cases e : k0 = k
      · subst e
        have lt : k0 < M.length := by
          have := (List.getElem?_eq_some_iff.mp h2).1
          rw [List.length_set] at this
          exact this
        rw [List.getElem?_set_self lt] at h2
        exact .inr ⟨0, by simp, rfl, by simpa using h2⟩
      · rw [List.getElem?_set_ne e] at h2
        exact .inl ⟨by simp only [List.mem_cons, not_or]; exact ⟨fun z => e z.symm, h1⟩, h2⟩
    · exact .inr ⟨j + 1, by simp; omega, by simpa using h2, by simpa using h3⟩
end
/-- the things that are lent, as the callee has them -/
theorem HR.lend {K : PySem.W.Frag} {H Z : Hp} {ι : Nat → Addr} {M os : List MO} {ks : List Nat} (h : HR K H Z ι M) (nd : ks.Nodup) (g : getAll M ks = some os) (lo : lentOk os = true) : HR K H Z (lentι ι ks) os := by
  obtain ⟨l, f⟩ := getAll_at g
  have at_ : ∀ {j k : Nat}, ks[j]? = some k → lentι ι ks j = ι k := fun {j k} e => by
    unfold lentι
    rw [List.getD_eq_getElem?_getD, e]
    rfl
  have ok : ∀ {j : Nat} {o : MO}, os[j]? = some o → belowO 0 o = true ∧ o ≠ .dead := fun {j o} e => by
    have q := List.all_eq_true.mp lo o (List.mem_of_getElem? e)
    simp only [Bool.and_eq_true, Bool.not_eq_true'] at q
    exact ⟨q.2, fun z => by rw [z] at q; exact absurd q.1 (by simp [isDead])⟩
  refine ⟨h.sub, fun j hj => ?_, fun j o e d => ?_, fun i j o u e1 e2 d1 d2 e => ?_, fun j o e => ?_, fun j e => absurd rfl (ok e).2⟩
  · obtain ⟨k, h1, h2⟩ := f j os[j] (List.getElem?_eq_getElem hj)
    rw [at_ h1]
    exact h.ali k (List.getElem?_eq_some_iff.mp h2).1
  · obtain ⟨k, h1, h2⟩ := f j o e
    rw [at_ h1]
    exact h.sep k o h2 d
  · obtain ⟨k1, a1, b1⟩ := f i o e1
    obtain ⟨k2, a2, b2⟩ := f j u e2
    rw [at_ a1, at_ a2] at e
    have ek := h.inj k1 k2 o u b1 b2 d1 d2 e
    subst ek
    obtain ⟨i1, i2⟩ := List.getElem?_eq_some_iff.mp a1
    obtain ⟨j1, j2⟩ := List.getElem?_eq_some_iff.mp a2
    exact (List.getElem_inj nd).mp (i2.trans j2.symm)
  · obtain ⟨k, h1, h2⟩ := f j o e
    rw [at_ h1]
    exact (h.obj k o h2).low (ok e).1
/-- where everything stands behind a call -/
def backι (ι ι' : Nat → Addr) (n m : Nat) : Nat → Addr := fun k => if k < n then ι k else ι' (m + (k - n))
theorem HR.back {K : PySem.W.Frag} {H Z H' Z' : Hp} {ι ι' : Nat → Addr} {M os os' : List MO} {ks : List Nat} (h : HR K H Z ι M) (nd : ks.Nodup) (g : getAll M ks = some os) (lo : lentOk os = true) (e : Ext H Z (lentι ι ks) os.length H' Z' ι' os'.length) (h' : HR K H' Z' ι' os')
    (hl : ks.length ≤ os'.length) (hb : os'.all (belowO 0) = true) :
    HR K H' Z' (backι ι ι' M.length ks.length) (setAll M ks os' ++ os'.drop ks.length) ∧ Ext H Z ι M.length H' Z' (backι ι ι' M.length ks.length) (setAll M ks os' ++ os'.drop ks.length).length := by
  obtain ⟨l, f⟩ := getAll_at g
  have ln : (setAll M ks os' ++ os'.drop ks.length).length = M.length + (os'.length - ks.length) := by rw [List.length_append, setAll_length, List.length_drop]
  have bl : ∀ {k : Nat}, k < M.length → backι ι ι' M.length ks.length k = ι k := fun hk => if_pos hk
  have bn : ∀ {k : Nat}, ¬ k < M.length → backι ι ι' M.length ks.length k = ι' (ks.length + (k - M.length)) := fun hk => if_neg hk
  have at_ : ∀ {j k : Nat}, ks[j]? = some k → lentι ι ks j = ι k := fun {j k} e => by
    unfold lentι
    rw [List.getD_eq_getElem?_getD, e]
    rfl
  have at' : ∀ {j k : Nat}, ks[j]? = some k → ι' j = ι k := fun {j k} z => (e.ii j (by rw [l]; exact (List.getElem?_eq_some_iff.mp z).1)).trans (at_ z)
  have cs : ∀ {k : Nat} {o : MO}, (setAll M ks os' ++ os'.drop ks.length)[k]? = some o → (k < M.length ∧ k ∉ ks ∧ M[k]? = some o) ∨ (k < M.length ∧ ∃ j : Nat, ks[j]? = some k ∧ os'[j]? = some o) ∨ (¬ k < M.length ∧ os'[ks.length + (k - M.length)]? = some o) := fun {k o} z => by
    by_cases hk : k < M.length
    · rw [List.getElem?_append_left (by rw [setAll_length]; exact hk)] at z
      rcases setAll_at ks os' M k o nd hl z with ⟨h1, h2⟩ | ⟨j, _, h2, h3⟩
      · exact .inl ⟨hk, h1, h2⟩
      · exact .inr (.inl ⟨hk, j, h2, h3⟩)
    · rw [List.getElem?_append_right (by rw [setAll_length]; exact Nat.le_of_not_lt hk), setAll_length, List.getElem?_drop] at z
      exact .inr (.inr ⟨hk, z⟩)
  have dd : ∀ {j : Nat} {o : MO}, os[j]? = some o → o ≠ .dead := fun {j o} e => by
    have q := List.all_eq_true.mp lo o (List.mem_of_getElem? e)
    simp only [Bool.and_eq_true, Bool.not_eq_true'] at q
    exact fun z => by rw [z] at q; exact absurd q.1 (by simp [isDead])
  -- a live thing that was not lent stands apart from all that were
  have apart : ∀ {k j : Nat} {o : MO}, k ∉ ks → M[k]? = some o → o ≠ .dead → j < os.length → ι k ≠ lentι ι ks j := fun {k j o} hk ho hd hj z => by
    obtain ⟨k', h1, h2⟩ := f j os[j] (List.getElem?_eq_getElem hj)
    rw [at_ h1] at z
    have ek := h.inj k k' o os[j] ho h2 hd (dd (List.getElem?_eq_getElem hj)) z
    subst ek
    exact hk (List.mem_of_getElem? h1)
  have old : ∀ {k : Nat}, k < M.length → ∃ u, H (ι k) = some u := fun hk => h.ali _ hk
  have nw : ∀ {k j : Nat}, k < M.length → os.length ≤ j → j < os'.length → ι k ≠ ι' j := fun {k j} hk h1 h2 z => by
    obtain ⟨u, hu⟩ := old hk
    have w := e.nw j h1 h2
    rw [← z, hu] at w
    cases w
  refine ⟨⟨h'.sub, fun k hk => ?_, fun k o z d => ?_, fun a b o u z1 z2 d1 d2 z => ?_, fun k o z => ?_, fun k z => ?_⟩, e.zz, fun k hk => bl hk, fun a o h1 h2 => e.fr a o h1 fun j hj z => ?_, fun k h1 h2 => ?_, by rw [ln]; omega, fun a o z => ?_⟩
  · by_cases hk' : k < M.length
    · rw [bl hk']
      obtain ⟨u, hu⟩ := old hk'
      by_cases z : ∃ j, j < os.length ∧ ι k = lentι ι ks j
      · obtain ⟨j, hj, z⟩ := z
        rw [z, ← e.ii j hj]
        exact h'.ali j (Nat.lt_of_lt_of_le hj e.ln)
      · exact ⟨u, e.fr _ _ hu fun j hj q => z ⟨j, hj, q⟩⟩
    · rw [bn hk']
      rw [ln] at hk
      exact h'.ali _ (by omega)
  · rcases cs z with ⟨hk, hn, ho⟩ | ⟨hk, j, hj, ho⟩ | ⟨hk, ho⟩
    · rw [bl hk]
      cases q : Z' (ι k) with
      | none => rfl
      | some w =>
        rcases e.zn _ _ q with a | a | ⟨j, hj, a⟩
        · rw [h.sep k o ho d] at a; cases a
        · obtain ⟨u, hu⟩ := old hk
          rw [hu] at a; cases a
        · exact absurd a (apart hn ho d hj)
    · rw [bl hk, ← at' hj]
      exact h'.sep j o ho d
    · rw [bn hk]
      exact h'.sep _ o ho d
  · rcases cs z1 with ⟨ha, hn, ho⟩ | ⟨ha, i, hi, ho⟩ | ⟨ha, ho⟩ <;> rcases cs z2 with ⟨hb', hn', hu⟩ | ⟨hb', j, hj, hu⟩ | ⟨hb', hu⟩
    · rw [bl ha, bl hb'] at z
      exact h.inj a b o u ho hu d1 d2 z
    · rw [bl ha, bl hb'] at z
      exact absurd (z.trans (at_ hj).symm) (apart hn ho d1 (by rw [l]; exact (List.getElem?_eq_some_iff.mp hj).1))
    · rw [bl ha, bn hb'] at z
      exact absurd z (nw ha (by rw [l]; omega) (List.getElem?_eq_some_iff.mp hu).1)
    · rw [bl ha, bl hb'] at z
      exact absurd (z.symm.trans (at_ hi).symm) (apart hn' hu d2 (by rw [l]; exact (List.getElem?_eq_some_iff.mp hi).1))
    · rw [bl ha, bl hb', ← at' hi, ← at' hj] at z
      have ij := h'.inj i j o u ho hu d1 d2 z
      subst ij
      rw [hi] at hj
      exact Option.some.inj hj
    · rw [bl ha, bn hb', ← at' hi] at z
      have ij := h'.inj i _ o u ho hu d1 d2 z
      have := (List.getElem?_eq_some_iff.mp hi).1
      omega
    · rw [bn ha, bl hb'] at z
      exact absurd z.symm (nw hb' (by rw [l]; omega) (List.getElem?_eq_some_iff.mp ho).1)
    · rw [bn ha, bl hb', ← at' hj] at z
      have ij := h'.inj _ j o u ho hu d1 d2 z
      have := (List.getElem?_eq_some_iff.mp hj).1
      omega
    · rw [bn ha, bn hb'] at z
      have ij := h'.inj _ _ o u ho hu d1 d2 z
      omega
  · have low : ∀ {j : Nat} {o : MO}, os'[j]? = some o → belowO 0 o = true := fun q => List.all_eq_true.mp hb _ (List.mem_of_getElem? q)
    rcases cs z with ⟨hk, hn, ho⟩ | ⟨hk, j, hj, ho⟩ | ⟨hk, ho⟩
    · rw [bl hk]
      by_cases du : o = .dead
      · subst du
        trivial
      · exact OR.mono e.zz (fun k hk => bl hk) (by rw [ln]; omega) (fun u z => e.fr _ _ z fun j hj => apart hn ho du hj) (h.obj k o ho)
    · rw [bl hk, ← at' hj]
      exact (h'.obj j o ho).low (low ho)
    · rw [bn hk]
      exact (h'.obj _ o ho).low (low ho)
  · rcases cs z with ⟨hk, _, ho⟩ | ⟨hk, j, hj, ho⟩ | ⟨hk, ho⟩
    · rw [bl hk]
      obtain ⟨u, hu⟩ := h.ded k ho
      exact ⟨u, e.zz _ _ hu⟩
    · rw [bl hk, ← at' hj]
      exact h'.ded j ho
    · rw [bn hk]
      exact h'.ded _ ho
  · obtain ⟨k, q1, q2⟩ := f j os[j] (List.getElem?_eq_getElem hj)
    rw [at_ q1] at z
    exact h2 k (List.getElem?_eq_some_iff.mp q2).1 z
  · rw [bn (Nat.not_lt.mpr h1)]
    rw [ln] at h2
    exact e.nw _ (by rw [l]; omega) (by omega)
  · rcases e.zn a o z with q | q | ⟨j, hj, q⟩
    · exact .inl q
    · exact .inr (.inl q)
    · obtain ⟨k, q1, q2⟩ := f j os[j] (List.getElem?_eq_getElem hj)
      rw [at_ q1] at q
      exact .inr (.inr ⟨k, (List.getElem?_eq_some_iff.mp q2).1, q⟩)
theorem backD_rp {K : PySem.W.Frag} {Z' : Hp} {ι ι' : Nat → Addr} {ks : List Nat} {n m N : Nat} {d d' : D} {v : V} (hk : ∀ k ∈ ks, k < n) (hi : ∀ (j k : Nat), ks[j]? = some k → ι' j = ι k) (hN : n + (m - ks.length) ≤ N) (r : Rp K Z' ι' m d v) (h : backD ks n d = some d') :
    Rp K Z' (backι ι ι' n ks.length) N d' v := by
  have flat : ∀ {d : D}, below 0 d = true → Rp K Z' ι' m d v → Rp K Z' (backι ι ι' n ks.length) N d v := fun b r => Rp.mono (fun _ _ z => z) (fun _ z => absurd z (Nat.not_lt_zero _)) (Nat.zero_le _) _ _ (r.shrink _ _ b)
  cases r with
  | ref hj =>
    rename_i j
    have h' : (if j < ks.length then (ks[j]?).map D.ref else some (.ref (n + (j - ks.length)))) = some d' := h
    by_cases hl : j < ks.length
    · rw [if_pos hl, List.getElem?_eq_getElem hl] at h'
      cases h'
      have hk' := hk _ (List.getElem_mem hl)
      have q : Rp K Z' (backι ι ι' n ks.length) N (.ref ks[j]) (.ref (backι ι ι' n ks.length ks[j])) := .ref (by omega)
      rw [show backι ι ι' n ks.length ks[j] = ι' j by unfold backι; rw [if_pos hk']; exact (hi j _ (List.getElem?_eq_getElem hl)).symm] at q
      exact q
    · rw [if_neg hl] at h'
      cases h'
      have q : Rp K Z' (backι ι ι' n ks.length) N (.ref (n + (j - ks.length))) (.ref (backι ι ι' n ks.length (n + (j - ks.length)))) := .ref (by omega)
      rw [show backι ι ι' n ks.length (n + (j - ks.length)) = ι' j by unfold backι; rw [if_neg (by omega)]; congr 1; omega] at q
      exact q
  | non => cases h; exact .non
  | bl b => cases h; exact .bl b
  | int i => cases h; exact .int i
  | str x => cases h; exact .str x
  | tup s r =>
    rename_i ds a xs
    have h' : (if below 0 (.tup ds) = true then some (D.tup ds) else none) = some d' := h
    by_cases b : below 0 (.tup ds) = true
    · rw [if_pos b] at h'
      cases h'
      exact flat b (.tup s r)
    · rw [if_neg b] at h'
      cases h'
  | lst s r =>
    rename_i ds a xs
    have h' : (if below 0 (.lst ds) = true then some (D.lst ds) else none) = some d' := h
    by_cases b : below 0 (.lst ds) = true
    · rw [if_pos b] at h'
      cases h'
      exact flat b (.lst s r)
    · rw [if_neg b] at h'
      cases h'
  | dct s r t =>
    rename_i ks ws a nks kx xs
    have h' : (if below 0 (.dct ks ws) = true then some (D.dct ks ws) else none) = some d' := h
    by_cases b : below 0 (.dct ks ws) = true
    · rw [if_pos b] at h'
      cases h'
      exact flat b (.dct s r t)
    · rw [if_neg b] at h'
      cases h'
  | ptu s r =>
    rename_i ds a xs
    have h' : (if below 0 (.ptu ds) = true then some (D.ptu ds) else none) = some d' := h
    by_cases b : below 0 (.ptu ds) = true
    · rw [if_pos b] at h'
      cases h'
      exact flat b (.ptu s r)
    · rw [if_neg b] at h'
      cases h'
  | lam s r =>
    rename_i l cl a c
    have h' : (if below 0 (.lam l cl) = true then some (D.lam l cl) else none) = some d' := h
    rw [if_pos (show below 0 (.lam l cl) = true from rfl)] at h'
    cases h'
    exact flat rfl (.lam s r)
  | exv q w =>
    rename_i a dx f d v
    have h' : (if below 0 (.exv a dx f d) = true then some (D.exv a dx f d) else none) = some d' := h
    by_cases b : below 0 (.exv a dx f d) = true
    · rw [if_pos b] at h'
      cases h'
      exact flat b (.exv q w)
    · rw [if_neg b] at h'
      cases h'
  | dcx q w =>
    rename_i k d a v
    have h' : (if below 0 (.dcx k d) = true then some (D.dcx k d) else none) = some d' := h
    by_cases b : below 0 (.dcx k d) = true
    · rw [if_pos b] at h'
      cases h'
      exact flat b (.dcx q w)
    · rw [if_neg b] at h'
      cases h'
  | exn s r q w =>
    rename_i nm f d a dx B v
    have h' : (if below 0 (.exn nm f d) = true then some (D.exn nm f d) else none) = some d' := h
    by_cases b : below 0 (.exn nm f d) = true
    · rw [if_pos b] at h'
      cases h'
      exact flat b (.exn s r q w)
    · rw [if_neg b] at h'
      cases h'
end Bk

set_option Elab.async false
set_option linter.all false
set_option maxRecDepth 100000
set_option maxHeartbeats 2000000
namespace Bk
open PySem PySem.Spec PyProof.Rows L2

/-! ### defs -/
def PostF (K : PySem.W.Frag) (C : CT) (E : XK) (H Z : Hp) (ι : Nat → Addr) (M : List MO) (r : R D) (Q : VK) : Prop := match r with
  | .ok d M' => ∀ (v : V) (H' Z' : Hp) (ι' : Nat → Addr), Ext H Z ι M.length H' Z' ι' M'.length → HR K H' Z' ι' M' → Rp K Z' ι' M'.length d v → Q v H'
  | .exc c d M' => ∀ (cls : Value) (dd : Option Addr) (H' Z' : Hp) (ι' : Nat → Addr), Ext H Z ι M.length H' Z' ι' M'.length → HR K H' Z' ι' M' → ExcR K C H' Z' ι' M'.length c d cls dd → E cls dd H'
  | .bad => False
/-- the def at f computes F, by at most k calls one in another -/
structure FnQ (P : Program) (w : World) (K : PySem.W.Frag) (mg : Str → Option Value) (base : Heap) (C : CT) (k : Nat) (f : Addr) (fd : FuncData) (ps : List Str) (F : List D → List MO → R D) : Prop where
  run : ∀ (A : Around) (outer : List PySem.Env) (s : Shared) (H : Hp) (args : Args) (us : List Value) (vs : List V) (Q : VK) (E : XK) (ds : List D) (Z : Hp) (ι : Nat → Addr) (M : List MO), Room k A → A.guards = some [] → Env0 P w K mg base A outer s H →
    BindsTo s fd args (ps.zip us) → Vals vs us → vs.length = ps.length → Rps K Z ι M.length ds vs → HR K H Z ι M → PostF K C E H Z ι M (F ds M) Q → codeAny (model P w) A (.call (.ref f) args) (CR (L2.CX P w) outer P w H s Q E) s
theorem FnQ.mono {P : Program} {w : World} {K : PySem.W.Frag} {mg : Str → Option Value} {base : Heap} {C : CT} {j k : Nat} {f : Addr} {fd : FuncData} {ps : List Str} {F : List D → List MO → R D} (x : FnQ P w K mg base C j f fd ps F) (h : j ≤ k) : FnQ P w K mg base C k f fd ps F :=
  ⟨fun A outer s H args us vs Q E ds Z ι M hr => x.run A outer s H args us vs Q E ds Z ι M (hr.mono h)⟩
/-- what a body's end gives the caller: what it made besides is dropped -/
def retR (m : Nat) (M' : List MO) : D → R D
  | .ref k => if k < m then .ok (.ref k) (M'.take m) else match M'[k]? with
    | some (.lst ds) => if belows m ds = true then .ok (.ref m) (M'.take m ++ [.lst ds]) else .bad
    | _ => .bad
  | d => if below m d = true then .ok d (M'.take m) else .bad
def fin (m : Nat) : RS → R D
  | .rt d M' => if m ≤ M'.length ∧ cutOk m M' = true then retR m M' d else .bad
  | .nx _ M' => if m ≤ M'.length ∧ cutOk m M' = true then .ok .non (M'.take m) else .bad
  | .exc c d _ M' => if m ≤ M'.length ∧ cutOk m M' = true ∧ below m d = true then .exc c d (M'.take m) else .bad
  | _ => .bad
/-- a def of n names with the body g -/
def runF (n : Nat) (g : GS) (ds : List D) (M : List MO) : R D := fin M.length (g (ds.map some ++ List.replicate (n - ds.length) none) M)

section
variable {K : PySem.W.Frag} {C : CT} {H Z H' Z' : Hp} {ι ι' : Nat → Addr} {M M' : List MO} {E : XK} {Q : VK}
theorem take_len {α : Type} {l : List α} {m : Nat} (h : m ≤ l.length) : (l.take m).length = m := by rw [List.length_take]; omega
theorem retR_run {d : D} {v : V} (e : Ext H Z ι M.length H' Z' ι' M'.length) (hr : HR K H' Z' ι' M') (r : Rp K Z' ι' M'.length d v) (c1 : M.length ≤ M'.length) (c2 : cutOk M.length M' = true) (h : PostF K C E H Z ι M (retR M.length M' d) Q) : Q v H' := by
  have ln := take_len c1
  have flat : ∀ {d : D}, Rp K Z' ι' M'.length d v → PostF K C E H Z ι M (if below M.length d = true then .ok d (M'.take M.length) else .bad) Q → Q v H' := fun {d} r h => by
    by_cases b : below M.length d = true
    · rw [if_pos b] at h
      exact h v H' Z' ι' (by rw [ln]; exact e.cut (Nat.le_refl _) c1) (hr.cut c1 c2) (by rw [ln]; exact r.shrink _ _ b)
    · rw [if_neg b] at h
      exact h.elim
  cases r with
  | ref hk =>
    rename_i k
    have h2 : PostF K C E H Z ι M (if k < M.length then .ok (.ref k) (M'.take M.length) else match M'[k]? with
      | some (.lst ds) => if belows M.length ds = true then .ok (.ref M.length) (M'.take M.length ++ [.lst ds]) else .bad
      | _ => .bad) Q := h
    by_cases hm : k < M.length
    · rw [if_pos hm] at h2
      exact h2 _ H' Z' ι' (by rw [ln]; exact e.cut (Nat.le_refl _) c1) (hr.cut c1 c2) (by rw [ln]; exact .ref hm)
    · rw [if_neg hm] at h2
      cases e1 : M'[k]? with
      | none => rw [e1] at h2; exact h2.elim
      | some o =>
        rw [e1] at h2
        cases o with
        | dead => exact h2.elim
        | dct ks0 vs0 => exact h2.elim
        | dki kvs0 => exact h2.elim
        | tab nm0 => exact h2.elim
        | obj nm fs => exact h2.elim
        | lst ds =>
          have h3 : PostF K C E H Z ι M (if belows M.length ds = true then .ok (.ref M.length) (M'.take M.length ++ [.lst ds]) else .bad) Q := h2
          by_cases b : belows M.length ds = true
          · rw [if_pos b] at h3
            obtain ⟨xs, e2, r2⟩ := hr.obj k _ e1
            have hc := hr.cut c1 c2
            have lk : k < M'.length := (List.getElem?_eq_some_iff.mp e1).1
            have od : Odd Z' ι' (M'.take M.length).length (ι' k) := ⟨hr.sep k _ e1 (by simp), fun j hj => by
              rw [ln] at hj
              exact hr.apart (by omega) e1 (by simp) (by omega)⟩
            have q : Rp K Z' (put ι' (M'.take M.length).length (ι' k)) (M'.take M.length ++ [MO.lst ds]).length (.ref (M'.take M.length).length) (.ref (put ι' (M'.take M.length).length (ι' k) (M'.take M.length).length)) := .ref (by simp)
            rw [put_at] at q
            have n0 : H (ι' k) = none := e.nw k (by omega) lk
            have x := Ext.adoptM (M := M'.take M.length) (ds := ds) (p := ι' k) (by rw [ln]; exact e.cut (Nat.le_refl _) c1) n0
            have z := hc.adoptM od e2 (by rw [ln]; exact Rps.shrink _ _ r2 b)
            have h4 : PostF K C E H Z ι M (.ok (.ref (M'.take M.length).length) (M'.take M.length ++ [.lst ds])) Q := by rw [ln]; exact h3
            exact h4 _ H' Z' _ x z q
          · rw [if_neg b] at h3
            exact h3.elim
  | non => exact flat .non h
  | bl b => exact flat (.bl b) h
  | int i => exact flat (.int i) h
  | str x => exact flat (.str x) h
  | tup s r => exact flat (.tup s r) h
  | lst s r => exact flat (.lst s r) h
  | dct s r t => exact flat (.dct s r t) h
  | ptu s r => exact flat (.ptu s r) h
  | lam s r => exact flat (.lam s r) h
  | exn s r q w => exact flat (.exn s r q w) h
  | exv q w => exact flat (.exv q w) h
  | dcx q w => exact flat (.dcx q w) h

theorem fin_run {X : Cx} {W : WX} {r : RS} (hW : ∀ c d σ H, E c d H → W c d σ H) (eK : X.K = K) (h : PostF K C E H Z ι M (fin M.length r) Q) : PostS X C W H Z ι M r { nx := fun _ H' => Q .non H', rt := Q } := by
  subst eK
  cases r with
  | bad => exact h
  | bk Γ M' => exact h.elim
  | ct Γ M' => exact h.elim
  | nx Γ M' =>
    have h2 : PostF X.K C E H Z ι M (if M.length ≤ M'.length ∧ cutOk M.length M' = true then .ok .non (M'.take M.length) else .bad) Q := h
    by_cases c : M.length ≤ M'.length ∧ cutOk M.length M' = true
    · rw [if_pos c] at h2
      intro σ' H' Z' ι' e hr sl
      have ln := take_len c.1
      exact h2 .non H' Z' ι' (by rw [ln]; exact e.cut (Nat.le_refl _) c.1) (hr.cut c.1 c.2) .non
    · rw [if_neg c] at h2
      exact h2.elim
  | rt d M' =>
    have h2 : PostF X.K C E H Z ι M (if M.length ≤ M'.length ∧ cutOk M.length M' = true then retR M.length M' d else .bad) Q := h
    by_cases c : M.length ≤ M'.length ∧ cutOk M.length M' = true
    · rw [if_pos c] at h2
      intro v H' Z' ι' e hr r
      exact retR_run e hr r c.1 c.2 h2
    · rw [if_neg c] at h2
      exact h2.elim
  | exc n d Γ M' =>
    have h2 : PostF X.K C E H Z ι M (if M.length ≤ M'.length ∧ cutOk M.length M' = true ∧ below M.length d = true then .exc n d (M'.take M.length) else .bad) Q := h
    by_cases c : M.length ≤ M'.length ∧ cutOk M.length M' = true ∧ below M.length d = true
    · rw [if_pos c] at h2
      intro cls dd σ' H' Z' ι' e hr sl x
      have ln := take_len c.1
      obtain ⟨x1, a, v, x2, x3, x4⟩ := x
      exact hW _ _ _ _ (h2 cls dd H' Z' ι' (by rw [ln]; exact e.cut (Nat.le_refl _) c.1) (hr.cut c.1 c.2.1) ⟨x1, a, v, x2, x3, by rw [ln]; exact x4.shrink _ _ c.2.2⟩)
    · rw [if_neg c] at h2
      exact h2.elim
theorem slots_start {ds : List D} {vs : List V} {N : List Str} {n : Nat} (r : Rps K Z ι n ds vs) (hl : vs.length ≤ N.length) : Slots K Z ι n (ds.map some ++ List.replicate (N.length - ds.length) none) (L2.start N vs) := by
  have l := r.length
  refine ⟨by unfold L2.start; simp [l], fun i d h => ?_⟩
  by_cases hi : i < ds.length
  · rw [List.getElem?_append_left (by simpa using hi), List.getElem?_map] at h
    cases e : ds[i]? with
    | none => rw [e] at h; cases h
    | some d' =>
      rw [e] at h
      cases h
      obtain ⟨v, e2, r2⟩ := r.get e
      refine ⟨v, ?_, r2⟩
      unfold L2.start
      rw [List.getElem?_append_left (by rw [List.length_map, ← l]; exact hi), List.getElem?_map, e2]
      rfl
  · rw [List.getElem?_append_right (by simpa using Nat.le_of_not_lt hi), List.getElem?_replicate] at h
    split at h <;> cases h
end
section
variable {P : Program} {w : World} {K : PySem.W.Frag} {mg : Str → Option Value} {base : Heap} {C : CT}
/-- THE RULE for a def: its body computes g -/
theorem fq_of {x qual : Str} {st : Stmt} {f : Addr} {fd : FuncData} {N ps : List Str} {k : Nat} {g : GS} (F : Fun K x qual st f fd) (S : FnScope N ps (defScope st))
    (hbody : ∀ (cdv : Value) (A : Around) (outer : List PySem.Env) (s : Shared) (H : Hp) (E : XK), Room k (A.deeper (envOfC qual (defScope st) s.heap.objs.size f cdv)) → A.guards = some [] →
      QSs (cxOf (L2.CX P w) P w K mg base N qual (defScope st) f cdv A outer s H E) C (fun cls d _ H => E cls d H) (defBody st) g) : FnQ P w K mg base C (k + 1) f fd ps (runF N.length g) := by
  obtain ⟨oc, od, kV, doc, pm, an, cdv, ct, osl, rfl, lk, hcd⟩ := F.ex
  refine ⟨fun A outer s H args us vs Q E ds Z ι M room hgu env0 hbind rvs hlen rds hr hpost => ?_⟩
  have hK : K.In s.heap := env0.mod.kin.keeps fun b o z => (env0.bs b o z).1
  have hlim : s.heap.NoLimit := env0.mod.nolimit.keeps fun b o z => (env0.bs b o z).1
  have kinds : ∀ y ∈ ps.zip us, (defScope st).names.lookup y.1 = some .local ∨ ((defScope st).names.lookup y.1 = some .cell ∧ ((cellsFrom (s.heap.objs.size + 1) (defScope st).names []).lookup y.1).isSome = true) := fun y hy => by
    rcases S.par y.1 (List.of_mem_zip (a := y.1) (b := y.2) hy).1 with z | z
    · exact .inl z
    · exact .inr ⟨z, PySem.W.cellsFrom_some _ _ _ (.inl z)⟩
  refine codeAny_call_function room.depth (hK _ _ lk) rfl S.co S.gen rfl (PySem.W.codeRec_of hK hcd) (hbind _ _ _ _ (wpAny_newFunctionEnv_cells S.kind kinds fun env he s1 ic => ?_))
  subst he
  refine ⟨hlim.keeps ic.toInCall.keep, codeAny_func ?_⟩
  obtain ⟨ts, pts, qts⟩ := hbody cdv A outer s H E (room.deeper _) hgu
  have J : Inv (cxOf (L2.CX P w) P w K mg base N qual (defScope st) f cdv A outer s H E) [] (L2.start N vs) H s1 := inv_start S room.hd env0 hlen rvs ic
  have lN : vs.length ≤ N.length := by
    have z := congrArg List.length S.pre
    rw [List.length_take] at z
    omega
  have hq := qts _ (L2.start N vs) H Z ι _ M (slots_start rds lN) hr (fin_run (E := E) (fun _ _ _ _ z => z) rfl hpost)
  refine wpAny_mono (pts.run [] s1 _ H _ J hq) (fun fl s' hs => ?_) fun _ _ hs => hs
  have ends : ∀ {σ' : L2.St} {H' : Hp} {v : V} {u : Value}, Inv (cxOf (L2.CX P w) P w K mg base N qual (defScope st) f cdv A outer s H E) [] σ' H' s' → RelV v u → Q v H' → CE outer P w H s Q u s' :=
    fun {σ' H' v u} J2 rv q => ⟨v, H', J2.os, J2.bare, J2.base, J2.hok, rv, q⟩
  cases fl with
  | ret u => exact let ⟨v, σ', H', J2, rv, q⟩ := hs; ends J2 rv q
  | next => exact let ⟨σ', H', J2, q⟩ := hs; ends (v := V.non) (u := Value.none) J2 rfl q
  | brk => exact let ⟨_, _, _, q⟩ := hs; q.elim
  | cont => exact let ⟨_, _, _, q⟩ := hs; q.elim
end

/-! ### calls of defs -/
section
variable {X : Cx} {C : CT} {W : WX} {k : Nat} {f : Addr} {fd : FuncData} {ps : List Str} {F : List D → List MO → R D} {x : Str} {p pos : Pos} {e : Expr} {es : List Expr} {gs : GA}
/-- what a call asks -/
def rCallQ (K : PySem.W.Frag) (C : CT) (ps : List Str) (F : List D → List MO → R D) (E : XK) (vs : List V) (H : Hp) (Q : VK) : Prop :=
  vs.length = ps.length ∧ ∃ (ds : List D) (Z : Hp) (ι : Nat → Addr) (M : List MO), Rps K Z ι M.length ds vs ∧ HR K H Z ι M ∧ PostF K C E H Z ι M (F ds M) Q
theorem run_q {pins : List (Addr × Obj)} {σ : St} {H : Hp} {s : Shared} {Q : VK} {vs : List V} {us : List Value} {args : Args} (F0 : FnQ X.prog X.w X.K X.mg X.base C k f fd ps F) (hr : Room k X.A) (hgu : X.A.guards = some []) (tk : Takes X W) (I : Inv X pins σ H s)
    (hb : BindsTo s fd args (ps.zip us)) (r : Vals vs us) (h : rCallQ X.K C ps F (WE W σ) vs H Q) : codeAny (model X.prog X.w) X.A (.call (.ref f) args) (fun r s' => match r with
      | .ok (.ret u) => EP X pins σ Q u s'
      | .ok _ => False
      | .error e => X.xe e s') s := by
  obtain ⟨hl, ds, Z, ι, M, rd, hr', hp⟩ := h
  refine codeAny_mono (F0.run X.A X.stack s H args us vs Q (WE W σ) ds Z ι M hr hgu I.env0 hb r hl rd hr' hp) fun r s' hq => ?_
  cases r with
  | error e => exact passAt tk σ pins H s e s' I hq
  | ok fl =>
    cases fl with
    | ret u => exact I.after hq
    | next => exact hq.elim
    | brk => exact hq.elim
    | cont => exact hq.elim
theorem lent_post {σ : St} {H Z : Hp} {ι : Nat → Addr} {ds : List D} {vs : List V} {M : List MO} {Q : VK} (hr : HR X.K H Z ι M) (r : Rps X.K Z ι M.length ds vs) (hl : vs.length = ps.length) (h : Post X C W (rpE X.K) σ H Z ι M (callF F ds M) Q) : rCallQ X.K C ps F (WE W σ) vs H Q := by
  unfold callF at h
  cases eg : getAll M (lendK ds) with
  | none => rw [eg] at h; exact h.elim
  | some os =>
    rw [eg] at h
    simp only at h
    by_cases c : (lendK ds).Nodup ∧ flatArgs ds = true ∧ lentOk os = true
    · rw [if_pos c] at h
      obtain ⟨l, fa⟩ := getAll_at eg
      have r2 := lend_rps ds vs [] c.2.1 r
      simp only [List.nil_append, List.length_nil] at r2
      rw [← l] at r2
      have hr2 := hr.lend c.1 eg c.2.2
      refine ⟨hl, lendA 0 ds, Z, lentι ι (lendK ds), os, r2, hr2, ?_⟩
      have kl : ∀ k ∈ lendK ds, k < M.length := fun k hk => by
        obtain ⟨j, hj, ej⟩ := List.mem_iff_getElem.mp hk
        obtain ⟨k', q1, q2⟩ := fa j os[j] (List.getElem?_eq_getElem (by rw [l]; exact hj))
        rw [List.getElem?_eq_getElem hj] at q1
        cases q1
        rw [← ej]
        exact (List.getElem?_eq_some_iff.mp q2).1
      cases eF : F (lendA 0 ds) os with
      | bad => rw [eF] at h; exact h.elim
      | exc n d os' =>
        rw [eF] at h
        simp only at h
        by_cases c2 : (lendK ds).length ≤ os'.length ∧ os'.all (belowO 0) = true ∧ below 0 d = true
        · rw [if_pos c2] at h
          intro cls dd H' Z' ι' e' hr' x
          obtain ⟨b1, b2⟩ := hr.back c.1 eg c.2.2 e' hr' c2.1 c2.2.1
          obtain ⟨x1, a, v, x2, x3, x4⟩ := x
          exact h cls dd H' Z' _ b2 b1 ⟨x1, a, v, x2, x3, Rp.mono (fun _ _ z => z) (fun _ z => absurd z (Nat.not_lt_zero _)) (Nat.zero_le _) _ _ (x4.shrink _ _ c2.2.2)⟩
        · rw [if_neg c2] at h
          exact h.elim
      | ok d os' =>
        rw [eF] at h
        simp only at h
        by_cases c2 : (lendK ds).length ≤ os'.length ∧ os'.all (belowO 0) = true
        · rw [if_pos c2] at h
          intro v H' Z' ι' e' hr' x
          obtain ⟨b1, b2⟩ := hr.back c.1 eg c.2.2 e' hr' c2.1 c2.2
          cases eb : backD (lendK ds) M.length d with
          | none => rw [eb] at h; exact h.elim
          | some d' =>
            rw [eb] at h
            have ln : (setAll M (lendK ds) os' ++ os'.drop (lendK ds).length).length = M.length + (os'.length - (lendK ds).length) := by rw [List.length_append, setAll_length, List.length_drop]
            refine h v H' Z' _ b2 b1 (backD_rp kl (fun j k q => ?_) (by rw [ln]; exact Nat.le_refl _) x eb)
            rw [e'.ii j (by rw [l]; exact (List.getElem?_eq_some_iff.mp q).1)]
            unfold lentι
            rw [List.getD_eq_getElem?_getD, q]
            rfl
        · rw [if_neg c2] at h
          exact h.elim
    · rw [if_neg c] at h
      exact h.elim
/-- the callee runs, its arguments bound -/
theorem run_call {pins : List (Addr × Obj)} {σ : St} {H : Hp} {s : Shared} {Q : VK} {vs : List V} {us ts : List Value} {kw : List (Str × Value)} (F0 : FnQ X.prog X.w X.K X.mg X.base C k f fd ps F) (hr : Room k X.A) (hgu : X.A.guards = some []) (tk : Takes X W) (I : Inv X pins σ H s)
    (hb : BindsTo s fd ⟨us, kw⟩ (ps.zip ts)) (r : Vals vs ts) (h : rCallQ X.K C ps F (WE W σ) vs H Q) : wpAny (model X.prog X.w) X.A (call (.ref f) us kw) (EP X pins σ Q) X.xe s :=
  wpAny_call (codeAny_mono (run_q F0 hr hgu tk I hb r h) fun r s' hq => by
    cases r with
    | error e => exact hq
    | ok fl =>
      cases fl with
      | ret u => exact hq
      | next => exact hq.elim
      | brk => exact hq.elim
      | cont => exact hq.elim)
/-- f(e, ..) -/
theorem qe_call {n : Nat} (F0 : FnQ X.prog X.w X.K X.mg X.base C k f fd ps F) (hr : Room k X.A) (hgu : X.A.guards = some []) (tk : Takes X W) (hg : Gl X x) (hm : X.mg x = some (.ref f)) (hk : PySem.W.keepIn X.K (.ref f) = true) (hb : Binds X.K fd ps []) (ha : QA X C W (e :: es) gs) (hn : n = ps.length := by rfl)
    (hdb : (x == ("__debug__" : Str)) = false := by decide) (he : starEach (e :: es) X.env = (false, eval e X.env) :: starEach es X.env := by rfl) (hpl : (backTo pos (starEach es X.env)).any (·.1) = false := by rfl) :
    QE X C W (.Call (.Name x p) (e :: es) [] pos) (gCallF n F gs) := by
  subst hn
  obtain ⟨ta, pa, qa⟩ := ha
  refine ⟨fun σ H Q => ta σ H fun vs H1 => rCallQ X.K C ps F (WE W σ) vs H1 Q, ⟨fun pins s σ H Q I h => wpAny_Call_Name_kw (ld_glob I hg hm ?_ hdb)⟩, fun σ H Z ι Γ M Q sl hr h => qa σ H Z ι Γ M _ sl hr (h.bind fun ds M1 vs H1 Z1 ι1 e1 hr1 r1 h1 => ?_)⟩
  · refine PySem.W.callWith_K (h₀ := X.base) I.ok.mod.kin hk (thn (pa.run pos pins s σ H _ I h) fun us s1 hh => ?_) he hpl
    obtain ⟨vs, H1, J, r, q⟩ := hh
    have hl : us.length = ps.length := r.length.symm.trans q.1
    have hbb := hb s1 us J.kIn (by rw [List.append_nil]; exact hl)
    rw [List.append_nil] at hbb
    exact ⟨J.kIn, run_call F0 hr hgu tk J hbb r q⟩
  · by_cases c : ds.length = ps.length
    · rw [if_pos c] at h1
      exact lent_post hr1 r1 (by rw [← r1.length]; exact c) h1
    · rw [if_neg c] at h1
      exact h1.elim
variable {kws : List Keyword} {gk : GA} {ks : List Str} {is : List Nat} {np : Nat}
end
end Bk

set_option Elab.async false
set_option linter.all false
set_option maxRecDepth 100000
set_option maxHeartbeats 2000000
namespace Bk
open PySem PySem.Spec PyProof.Rows L2

/-! ### the law's own call -/
theorem no_cx {P : Program} {w : World} {outer : List PySem.Env} {H : Hp} {s s' : Shared} {u : Value} : ¬ L2.CX P w outer H s (fun _ _ _ => False) u s' := by
  intro h
  unfold L2.CX at h
  simp_all
theorem rps_ints {K : PySem.W.Frag} {Z : Hp} {ι : Nat → Addr} {n : Nat} (is : List Int) : Rps K Z ι n (is.map D.int) (is.map V.int) := Rps.of_ints is
end Bk

set_option Elab.async false
set_option linter.all false
set_option maxRecDepth 100000
set_option maxHeartbeats 2000000
namespace Bk
open PySem PySem.Spec PyProof.Rows L2

/-! ### what operations compute -/
def listD (M : List MO) : D → Option (List D)
  | .lst ds => some ds
  | .ref k => match M[k]? with
    | some (.lst ds) => some ds
    | _ => none
  | _ => none
def itemsD (M : List MO) : D → Option (List D)
  | .tup ds => some ds
  | .ptu ds => some ds
  | d => listD M d
section
variable {K : PySem.W.Frag} {H Z : Hp} {ι : Nat → Addr} {M : List MO} {d : D} {ds : List D} {v : V}
theorem listD_run (hr : HR K H Z ι M) (r : Rp K Z ι M.length d v) (h : listD M d = some ds) : ∃ a xs, v = .ref a ∧ ExL K H a xs ∧ Rps K Z ι M.length ds xs := by
  cases r with
  | lst s r =>
    cases h
    exact ⟨_, _, rfl, subL hr.sub s, r⟩
  | ref hk =>
    rename_i k
    have h' : (match M[k]? with
      | some (.lst ds) => some ds
      | _ => none) = some ds := h
    cases e : M[k]? with
    | none => rw [e] at h'; cases h'
    | some o =>
      rw [e] at h'
      cases o with
      | dead => cases h'
      | dct ks0 vs0 => cases h'
      | dki kvs0 => cases h'
      | tab nm0 => cases h'
      | obj nm fs => cases h'
      | lst es =>
        cases h'
        obtain ⟨xs, e1, r1⟩ := hr.obj k _ e
        exact ⟨_, xs, rfl, .inl (.of e1), r1⟩
  | _ => cases h
theorem itemsD_run (hr : HR K H Z ι M) (r : Rp K Z ι M.length d v) (h : itemsD M d = some ds) : ∃ a xs, v = .ref a ∧ (ExL K H a xs ∨ SqT K H a xs) ∧ Rps K Z ι M.length ds xs := by
  cases r with
  | tup s r =>
    cases h
    exact ⟨_, _, rfl, .inr (subT hr.sub s), r⟩
  | ptu s r =>
    cases h
    exact ⟨_, _, rfl, .inr (subT hr.sub s.sq), r⟩
  | lst s r =>
    obtain ⟨a, xs, h1, h2, h3⟩ := listD_run hr (.lst s r) h
    exact ⟨a, xs, h1, .inl h2, h3⟩
  | ref hk =>
    obtain ⟨a, xs, h1, h2, h3⟩ := listD_run hr (.ref hk) h
    exact ⟨a, xs, h1, .inl h2, h3⟩
  | _ => cases h
end
def iop (c : Int → Int → Bool) (g : Int → Int → D) (_ : List MO) : D → D → Option D
  | .int i, .int j => if c i j = true then some (g i j) else none
  | _, _ => none
section
variable {X : Cx}
theorem OpR.or {f : Value → Value → Sem Value} {r r' : R2} (h : OpR X f r) (h' : OpR X f r') : OpR X f (fun x y H Q => r x y H Q ∨ r' x y H Q) := fun pins s σ H x y v u Q I rx ry q =>
  q.elim (h pins s σ H x y v u Q I rx ry) (h' pins s σ H x y v u Q I rx ry)
theorem UnR.or {f : Value → Sem Value} {r r' : V → Hp → VK → Prop} (h : UnR X f r) (h' : UnR X f r') : UnR X f (fun x H Q => r x H Q ∨ r' x H Q) := fun pins s σ H x v Q I rx q => q.elim (h pins s σ H x v Q I rx) (h' pins s σ H x v Q I rx)
/-- either of two functions, as the second finds none -/
def orD (f f' : List MO → D → D → Option D) (M : List MO) (x y : D) : Option D := (f M x y).or (f' M x y)
theorem Ok2.or {r r' : R2} {f f' : List MO → D → D → Option D} (h : Ok2 X r f) (h' : Ok2 X r' f') : Ok2 X (fun x y H Q => r x y H Q ∨ r' x y H Q) (orD f f') := fun x y H Z ι M dx dy d Q hr rx ry e q => by
  unfold orD at e
  cases e1 : f M dx dy with
  | some d' =>
    rw [e1] at e
    cases e
    exact .inl (h x y H Z ι M dx dy _ Q hr rx ry e1 q)
  | none =>
    rw [e1] at e
    exact .inr (h' x y H Z ι M dx dy _ Q hr rx ry e q)
/-- how a value without parts is handed on -/
def flatVD : V → Option D
  | .non => some .non
  | .bl b => some (.bl b)
  | .int i => some (.int i)
  | .str x => some (.str x)
  | _ => none
theorem flat_rp {K : PySem.W.Frag} {Z : Hp} {ι : Nat → Addr} {n : Nat} {v : V} {d : D} (h : flatVD v = some d) : Rp K Z ι n d v := by
  cases v with
  | non => cases h; exact .non
  | bl b => cases h; exact .bl b
  | int i => cases h; exact .int i
  | str x => cases h; exact .str x
  | _ => cases h
theorem ok_rI {P : Int → Int → Prop} {gV : Int → Int → V} {c : Int → Int → Bool} {g : Int → Int → D} (hc : ∀ i j, c i j = true → P i j) (hg : ∀ i j, flatVD (gV i j) = some (g i j)) : Ok2 X (rI P gV) (iop c g) := fun x y H Z ι M dx dy d Q hr rx ry e q => by
  cases rx with
  | int i =>
    cases ry with
    | int j =>
      have e' : (if c i j = true then some (g i j) else none) = some d := e
      by_cases hh : c i j = true
      · rw [if_pos hh] at e'
        cases e'
        exact ⟨i, j, rfl, rfl, hc i j hh, q.now hr (flat_rp (hg i j))⟩
      · rw [if_neg hh] at e'
        cases e'
    | _ => cases e
  | _ => cases ry <;> cases e
def yes2 (_ _ : Int) : Bool := true
theorem ok_rI0 {gV : Int → Int → V} {g : Int → Int → D} (hg : ∀ i j, flatVD (gV i j) = some (g i j)) : Ok2 X (rI0 gV) (iop yes2 g) := fun x y H Z ι M dx dy d Q hr rx ry e q => by
  cases rx with
  | int i =>
    cases ry with
    | int j =>
      cases e
      exact ⟨i, j, rfl, rfl, q.now hr (flat_rp (hg i j))⟩
    | _ => cases e
  | _ => cases ry <;> cases e
/-! numbers -/
def dSub := iop yes2 fun i j => .int (i - j)
def mulOk (i j : Int) : Bool := (decide (-(2 ^ 64) < i) && decide (i < 2 ^ 64)) || (decide (-(2 ^ 64) < j) && decide (j < 2 ^ 64)) || decide (i.natAbs.log2 + j.natAbs.log2 < 1000000)
def fdivOk (_ j : Int) : Bool := decide (0 < j) && decide (j.natAbs.log2 < 9000)
def dFdiv := iop fdivOk fun i j => .int (i / j)
def modOk (_ j : Int) : Bool := decide (0 < j)
def dMod := iop modOk fun i j => .int (i % j)
def dMul := iop mulOk fun i j => .int (i * j)
def powOk (i j : Int) : Bool := decide (0 ≤ j) && decide (j ≤ 1000000) && decide (i.natAbs < 2 ^ 64)
def dPow := iop powOk fun i j => .int (i ^ j.toNat)
theorem ok_sub : Ok2 X (rI0 fun i j => .int (i - j)) dSub := ok_rI0 fun _ _ => rfl
theorem ok_fdiv : Ok2 X (rI CDivW fun i j => .int (i / j)) dFdiv := ok_rI (fun i j h => by
  simp only [fdivOk, Bool.and_eq_true, decide_eq_true_eq] at h
  exact h) fun _ _ => rfl
theorem op_modP : OpR X (binaryOp .Mod) (rI (fun _ j => 0 < j) fun i j => .int (i % j)) := fun pins s σ H x y v u Q I rx ry ⟨i, j, h1, h2, h3, q⟩ =>
  op_modN pins s σ H x y v u Q I rx ry ⟨i, j, h1, h2, by omega, by
    have h4 : (0 : Int) < j := h3
    show Q (V.int (i.fmod j)) H
    rw [Int.fmod_eq_emod_of_nonneg i (by omega)]
    exact q⟩
theorem ok_mod : Ok2 X (rI (fun _ j => 0 < j) fun i j => .int (i % j)) dMod := ok_rI (fun i j h => of_decide_eq_true h) fun _ _ => rfl
theorem op_mulA : OpR X (binaryOp .Mult) (rI (fun i j => mulOk i j = true) fun i j => .int (i * j)) := fun pins s σ H x y v u Q I rx ry ⟨i, j, h1, h2, h3, q⟩ => by
  simp only [mulOk, Bool.or_eq_true, Bool.and_eq_true, decide_eq_true_eq] at h3
  rcases h3 with h3 | h3
  · exact op_mul pins s σ H x y v u Q I rx ry ⟨i, j, h1, h2, h3, q⟩
  · exact op_mulW pins s σ H x y v u Q I rx ry ⟨i, j, h1, h2, h3, q⟩
theorem ok_mul : Ok2 X (rI (fun i j => mulOk i j = true) fun i j => .int (i * j)) dMul := ok_rI (fun i j h => h) fun _ _ => rfl
theorem ok_pow : Ok2 X (rI CPow fun i j => .int (i ^ j.toNat)) dPow := ok_rI (fun i j h => by
  simp only [powOk, Bool.and_eq_true, decide_eq_true_eq] at h
  exact ⟨h.1.1, h.1.2, h.2⟩) fun _ _ => rfl
def dLt := iop yes2 fun i j => .bl (decide (i < j))
def dLe := iop yes2 fun i j => .bl (decide (i ≤ j))
def dGt := iop yes2 fun i j => .bl (decide (j < i))
def dGe := iop yes2 fun i j => .bl (decide (j ≤ i))
theorem ok_lt : Ok2 X (rI0 fun i j => .bl (decide (i < j))) dLt := ok_rI0 fun _ _ => rfl
theorem ok_le : Ok2 X (rI0 fun i j => .bl (decide (i ≤ j))) dLe := ok_rI0 fun _ _ => rfl
theorem ok_gt : Ok2 X (rI0 fun i j => .bl (decide (j < i))) dGt := ok_rI0 fun _ _ => rfl
theorem ok_ge : Ok2 X (rI0 fun i j => .bl (decide (j ≤ i))) dGe := ok_rI0 fun _ _ => rfl

/-! adding -/
def catT (_ : List MO) : D → D → Option D
  | .tup a, .tup b => if a.length + b.length ≤ sizeLine then some (.tup (a ++ b)) else none
  | _, _ => none
def catL (M : List MO) (x y : D) : Option D := match listD M x, listD M y with
  | some a, some b => if a.length + b.length ≤ sizeLine then some (.lst (a ++ b)) else none
  | _, _ => none
def addI (M : List MO) : D → D → Option D
  | .int i, .int j => some (.int (i + j))
  | .str x, .str y => if x.length + y.length ≤ sizeLine then some (.str (x ++ y)) else none
  | .tup a, y => catT M (.tup a) y
  | x, y => catL M x y
def dAdd := addI
def rCatS (K : PySem.W.Frag) : R2 := fun x y H Q => ∃ l b xs zs, x = .ref l ∧ y = .ref b ∧ ExL K H l xs ∧ ExL K H b zs ∧ xs.length + zs.length ≤ sizeLine ∧ ∀ p, H p = none → Q (.ref p) (upd H p (.lst (xs ++ zs)))
theorem op_catS : OpR X (binaryOp .Add) (rCatS X.K) := by
  intro pins s σ H x y v u Q I rx ry h
  obtain ⟨l, b, xs, zs, rfl, rfl, hx, hz, hs, q⟩ := h
  cases rx
  cases ry
  obtain ⟨its, m1, r1, e1, _⟩ := hx.at_ I
  obtain ⟨its2, m2, r2, e2, _⟩ := hz.at_ I
  refine PySem.P.add_list e1 e2 ?_ (by rw [List.size_toArray, List.size_toArray, ← r1.length, ← r2.length]; exact hs)
  have ea : its.toArray ++ its2.toArray = (its ++ its2).toArray := by simp
  rw [ea]
  exact ⟨.ref _, _, I.lnew (t' := s.toks) (r1.append r2) (by rw [List.length_append]; exact hs), rfl, q _ I.fresh⟩
abbrev rAdd (K : PySem.W.Frag) : R2 := fun x y H Q => (rI0 (fun i j => .int (i + j)) x y H Q ∨ (∃ i j, x = .str i ∧ y = .str j ∧ i.length + j.length ≤ sizeLine ∧ Q (.str (i ++ j)) H)) ∨ (rCatA K x y H Q ∨ rCatS K x y H Q)
theorem op_addA : OpR X (binaryOp .Add) (rAdd X.K) := (op_add.or op_add_str).or (op_catA.or op_catS)
theorem ok_add : Ok2 X (rAdd X.K) dAdd := fun x y H Z ι M dx dy d Q hr rx ry e q => by
  have lists : ∀ {dx : D}, Rp X.K Z ι M.length dx x → catL M dx dy = some d → rAdd X.K x y H Q := fun {dx} rx e => by
    unfold catL at e
    cases e1 : listD M dx with
    | none => rw [e1] at e; cases e
    | some a =>
      cases e2 : listD M dy with
      | none => rw [e1, e2] at e; cases e
      | some b =>
        rw [e1, e2] at e
        simp only at e
        by_cases c : a.length + b.length ≤ sizeLine
        · rw [if_pos c] at e
          cases e
          obtain ⟨p1, xs, rfl, s1, r1⟩ := listD_run hr rx e1
          obtain ⟨p2, ys, rfl, s2, r2⟩ := listD_run hr ry e2
          exact .inr (.inr ⟨p1, p2, xs, ys, rfl, rfl, s1, s2, by rw [← r1.length, ← r2.length]; exact c, q.lst hr (r1.append r2)⟩)
        · rw [if_neg c] at e
          cases e
  cases rx with
  | int i =>
    cases ry with
    | int j =>
      cases e
      exact .inl (.inl ⟨i, j, rfl, rfl, q.now hr (.int _)⟩)
    | _ => cases e
  | dct s r t => cases e
  | lam s r => cases e
  | exn s r q w => cases e
  | exv q w => cases e
  | dcx q w => cases e
  | ptu s r => cases e
  | str a =>
    cases ry with
    | str b =>
      have e' : (if a.length + b.length ≤ sizeLine then some (D.str (a ++ b)) else none) = some d := e
      by_cases c : a.length + b.length ≤ sizeLine
      · rw [if_pos c] at e'
        cases e'
        exact .inl (.inr ⟨a, b, rfl, rfl, c, q.now hr (.str _)⟩)
      · rw [if_neg c] at e'
        cases e'
    | _ => cases e
  | tup s1 r1 =>
    rename_i a p1 xs
    cases ry with
    | tup s2 r2 =>
      rename_i b p2 ys
      have e' : (if a.length + b.length ≤ sizeLine then some (D.tup (a ++ b)) else none) = some d := e
      by_cases c : a.length + b.length ≤ sizeLine
      · rw [if_pos c] at e'
        cases e'
        refine .inr (.inl ⟨p1, p2, xs, ys, rfl, rfl, subT hr.sub s1, subT hr.sub s2, by rw [← r1.length, ← r2.length]; exact c, fun z => ?_, fun _ z => ?_, fun _ _ => q.tup hr (r1.append r2)⟩)
        · have : a = [] := List.length_eq_zero_iff.mp (by rw [r1.length, z]; rfl)
          subst this
          exact q.now hr (.tup s2 r2)
        · have : b = [] := List.length_eq_zero_iff.mp (by rw [r2.length, z]; rfl)
          subst this
          rw [List.append_nil] at q
          exact q.now hr (.tup s1 r1)
      · rw [if_neg c] at e'
        cases e'
    | _ => cases e
  | lst s1 r1 => exact lists (.lst s1 r1) e
  | ref hk => exact lists (.ref hk) e
  | non => cases ry <;> cases e
  | bl b => cases ry <;> cases e

/-! is None -/
def dIsN (_ : List MO) : D → D → Option D
  | .non, .non => some (.bl true)
  | _, .non => some (.bl false)
  | _, _ => none
def dNotN (_ : List MO) : D → D → Option D
  | .non, .non => some (.bl false)
  | _, .non => some (.bl true)
  | _, _ => none
theorem ok_isN : Ok2 X (fun x y H Q => y = .non ∧ Q (.bl (decide (x = .non))) H) dIsN := fun x y H Z ι M dx dy d Q hr rx ry e q => by
  cases ry with
  | non =>
    refine ⟨rfl, ?_⟩
    cases rx with
    | non =>
      cases e
      exact q.now hr (.bl true)
    | _ =>
      cases e
      exact q.now hr (.bl false)
  | _ => cases rx <;> cases e
theorem ok_notN : Ok2 X (fun x y H Q => y = .non ∧ Q (.bl (!decide (x = .non))) H) dNotN := fun x y H Z ι M dx dy d Q hr rx ry e q => by
  cases ry with
  | non =>
    refine ⟨rfl, ?_⟩
    cases rx with
    | non =>
      cases e
      exact q.now hr (.bl false)
    | _ =>
      cases e
      exact q.now hr (.bl true)
  | _ => cases rx <;> cases e

/-! equal data -/
mutual
/-- data without refs -/
def toP : D → Option PyData
  | .non => some .none
  | .bl b => some (.bool b)
  | .int i => some (.int i)
  | .str x => some (.str x)
  | .tup ds => (toPs ds).map .tuple
  | .lst ds => (toPs ds).map .list
  | .ref _ => none
  | .dct _ _ => none
  | .ptu ds => (toPs ds).map .tuple
  | .lam _ _ => none
  | .exn _ _ _ => none
  | .exv _ _ _ _ => none
  | .dcx _ _ => none
def toPs : List D → Option (List PyData)
  | [] => some []
  | d :: ds => match toP d, toPs ds with
    | some p, some ps => some (p :: ps)
    | _, _ => none
end
/-- a list of ours, and those in it, as they stand -/
def deref1 (M : List MO) : D → D
  | .ref k => match M[k]? with
    | some (.lst ds) => .lst ds
    | _ => .ref k
  | d => d
def deref (M : List MO) (d : D) : D := match deref1 M d with
  | .lst ds => .lst (ds.map (deref1 M))
  | d => d
section
variable {K : PySem.W.Frag} {H Z : Hp} {ι : Nat → Addr} {n : Nat} {M : List MO}
mutual
theorem toP_dp (hs : Sub Z H) : ∀ (d : D) (v : V) (p : PyData), Rp K Z ι n d v → toP d = some p → Dp K H v p
  | .non, _, p, h, e => by cases h; cases e; exact .non
  | .bl b, _, p, h, e => by cases h; cases e; exact .bl b
  | .int i, _, p, h, e => by cases h; cases e; exact .int i
  | .str x, _, p, h, e => by cases h; cases e; exact .str x
  | .tup ds, _, p, h, e => by
    cases h with
    | tup s r =>
      have e' : (toPs ds).map PyData.tuple = some p := e
      cases e2 : toPs ds with
      | none => rw [e2] at e'; cases e'
      | some ps =>
        rw [e2] at e'
        cases e'
        exact .tup (subT hs s) (toPs_dp hs ds _ ps r e2)
  | .lst ds, _, p, h, e => by
    cases h with
    | lst s r =>
      have e' : (toPs ds).map PyData.list = some p := e
      cases e2 : toPs ds with
      | none => rw [e2] at e'; cases e'
      | some ps =>
        rw [e2] at e'
        cases e'
        exact .lst (subL hs s).sq (toPs_dp hs ds _ ps r e2)
  | .ref k, _, p, h, e => by cases e
  | .dct _ _, _, p, h, e => by cases e
  | .ptu ds, _, p, h, e => by
    cases h with
    | ptu s r =>
      have e' : (toPs ds).map PyData.tuple = some p := e
      cases e2 : toPs ds with
      | none => rw [e2] at e'; cases e'
      | some ps =>
        rw [e2] at e'
        cases e'
        exact .tup (subT hs s.sq) (toPs_dp hs ds _ ps r e2)
  | .lam _ _, _, p, h, e => by cases e
  | .exn _ _ _, _, p, h, e => by cases e
  | .exv _ _ _ _, _, p, h, e => by cases e
  | .dcx _ _, _, p, h, e => by cases e
theorem toPs_dp (hs : Sub Z H) : ∀ (ds : List D) (vs : List V) (ps : List PyData), Rps K Z ι n ds vs → toPs ds = some ps → DpAll K H vs ps
  | [], _, ps, h, e => by cases h; cases e; exact .nil
  | d :: ds, _, ps, h, e => by
    cases h with
    | cons r rs =>
      have e' : (match toP d, toPs ds with
        | some p, some ps => some (p :: ps)
        | _, _ => none) = some ps := e
      cases e1 : toP d with
      | none => rw [e1] at e'; cases e'
      | some p =>
        cases e2 : toPs ds with
        | none => rw [e1, e2] at e'; cases e'
        | some qs =>
          rw [e1, e2] at e'
          cases e'
          exact .cons (toP_dp hs d _ p r e1) (toPs_dp hs ds _ qs rs e2)
end
theorem deref1_dp (hr : HR K H Z ι M) {d : D} {v : V} {p : PyData} (r : Rp K Z ι M.length d v) (e : toP (deref1 M d) = some p) : Dp K H v p := by
  cases r with
  | ref hk =>
    rename_i k
    have e' : toP (match M[k]? with
      | some (.lst ds) => .lst ds
      | _ => .ref k) = some p := e
    cases e1 : M[k]? with
    | none => rw [e1] at e'; cases e'
    | some o =>
      rw [e1] at e'
      cases o with
      | dead => cases e'
      | dct ks0 vs0 => cases e'
      | dki kvs0 => cases e'
      | tab nm0 => cases e'
      | obj nm fs => cases e'
      | lst ds =>
        have e2 : (toPs ds).map PyData.list = some p := e'
        obtain ⟨xs, h1, r1⟩ := hr.obj k _ e1
        cases e3 : toPs ds with
        | none => rw [e3] at e2; cases e2
        | some ps =>
          rw [e3] at e2
          cases e2
          exact .lst (.of h1) (toPs_dp hr.sub ds _ ps r1 e3)
  | non => exact toP_dp (ι := ι) (n := M.length) hr.sub _ _ _ .non e
  | bl b => exact toP_dp (ι := ι) (n := M.length) hr.sub _ _ _ (.bl b) e
  | int i => exact toP_dp (ι := ι) (n := M.length) hr.sub _ _ _ (.int i) e
  | str x => exact toP_dp (ι := ι) (n := M.length) hr.sub _ _ _ (.str x) e
  | tup s r => exact toP_dp hr.sub _ _ _ (.tup s r) e
  | dct s r t => cases e
  | lam s r => cases e
  | exn s r q w => cases e
  | exv q w => cases e
  | dcx q w => cases e
  | ptu s r => exact toP_dp hr.sub _ _ _ (.ptu s r) e
  | lst s r => exact toP_dp hr.sub _ _ _ (.lst s r) e
theorem deref1s_dp (hr : HR K H Z ι M) : ∀ {ds : List D} {vs : List V} {ps : List PyData}, Rps K Z ι M.length ds vs → toPs (ds.map (deref1 M)) = some ps → DpAll K H vs ps
  | [], _, ps, h, e => by cases h; cases e; exact .nil
  | d :: ds, _, ps, h, e => by
    cases h with
    | cons r rs =>
      have e' : (match toP (deref1 M d), toPs (ds.map (deref1 M)) with
        | some p, some ps => some (p :: ps)
        | _, _ => none) = some ps := e
      cases e1 : toP (deref1 M d) with
      | none => rw [e1] at e'; cases e'
      | some p =>
        cases e2 : toPs (ds.map (deref1 M)) with
        | none => rw [e1, e2] at e'; cases e'
        | some qs =>
          rw [e1, e2] at e'
          cases e'
          exact .cons (deref1_dp hr r e1) (deref1s_dp hr rs e2)
theorem deref_dp (hr : HR K H Z ι M) {d : D} {v : V} {p : PyData} (r : Rp K Z ι M.length d v) (e : toP (deref M d) = some p) : Dp K H v p := by
  have two : ∀ {ds : List D} {a : Addr} {xs : List V}, SqL K H a xs → Rps K Z ι M.length ds xs → toP (.lst (ds.map (deref1 M))) = some p → Dp K H (.ref a) p := fun {ds a xs} s r e => by
    have e' : (toPs (ds.map (deref1 M))).map PyData.list = some p := e
    cases e2 : toPs (ds.map (deref1 M)) with
    | none => rw [e2] at e'; cases e'
    | some ps =>
      rw [e2] at e'
      cases e'
      exact .lst s (deref1s_dp hr r e2)
  cases r with
  | lst s r => exact two (subL hr.sub s).sq r e
  | ref hk =>
    rename_i k
    cases e1 : M[k]? with
    | none =>
      have : deref M (.ref k) = .ref k := by simp [deref, deref1, e1]
      rw [this] at e
      cases e
    | some o =>
      cases o with
      | dead =>
        have : deref M (.ref k) = .ref k := by simp [deref, deref1, e1]
        rw [this] at e
        cases e
      | dct ks0 vs0 =>
        have : deref M (.ref k) = .ref k := by simp [deref, deref1, e1]
        rw [this] at e
        cases e
      | tab nm0 =>
        have : deref M (.ref k) = .ref k := by simp [deref, deref1, e1]
        rw [this] at e
        cases e
      | dki kvs0 =>
        have : deref M (.ref k) = .ref k := by simp [deref, deref1, e1]
        rw [this] at e
        cases e
      | obj nm fs =>
        have : deref M (.ref k) = .ref k := by simp [deref, deref1, e1]
        rw [this] at e
        cases e
      | lst ds =>
        have : deref M (.ref k) = .lst (ds.map (deref1 M)) := by simp [deref, deref1, e1]
        rw [this] at e
        obtain ⟨xs, h1, r1⟩ := hr.obj k _ e1
        exact two (.of h1) r1 e
  | non => exact toP_dp (ι := ι) (n := M.length) hr.sub _ _ _ .non e
  | bl b => exact toP_dp (ι := ι) (n := M.length) hr.sub _ _ _ (.bl b) e
  | int i => exact toP_dp (ι := ι) (n := M.length) hr.sub _ _ _ (.int i) e
  | str x => exact toP_dp (ι := ι) (n := M.length) hr.sub _ _ _ (.str x) e
  | tup s r => exact toP_dp hr.sub _ _ _ (.tup s r) e
  | dct s r t => cases e
  | lam s r => cases e
  | exn s r q w => cases e
  | exv q w => cases e
  | dcx q w => cases e
  | ptu s r => exact toP_dp hr.sub _ _ _ (.ptu s r) e
end
def eqP (M : List MO) (x y : D) : Option Bool := match toP (deref M x), toP (deref M y) with
  | some p, some q => if (SeqAt.shaped p && SeqAt.shaped q) = true then some (PyData.eqv p q) else none
  | _, _ => none
def dEq (M : List MO) (x y : D) : Option D := (eqP M x y).map D.bl
def dNe (M : List MO) (x y : D) : Option D := (eqP M x y).map fun b => D.bl (!b)
theorem eqP_run {K : PySem.W.Frag} {H Z : Hp} {ι : Nat → Addr} {M : List MO} {dx dy : D} {x y : V} {b : Bool} (hr : HR K H Z ι M) (rx : Rp K Z ι M.length dx x) (ry : Rp K Z ι M.length dy y) (e : eqP M dx dy = some b) :
    ∃ p q, Dp K H x p ∧ Dp K H y q ∧ SeqAt.shaped p = true ∧ SeqAt.shaped q = true ∧ PyData.eqv p q = b := by
  unfold eqP at e
  cases e1 : toP (deref M dx) with
  | none => rw [e1] at e; cases e
  | some p =>
    cases e2 : toP (deref M dy) with
    | none => rw [e1, e2] at e; cases e
    | some q =>
      rw [e1, e2] at e
      simp only at e
      by_cases c : (SeqAt.shaped p && SeqAt.shaped q) = true
      · rw [if_pos c] at e
        rw [Bool.and_eq_true] at c
        exact ⟨p, q, deref_dp hr rx e1, deref_dp hr ry e2, c.1, c.2, Option.some.inj e⟩
      · rw [if_neg c] at e
        cases e
theorem ok_eq : Ok2 X (rEqD X.K) dEq := fun x y H Z ι M dx dy d Q hr rx ry e q => by
  unfold dEq at e
  cases e1 : eqP M dx dy with
  | none => rw [e1] at e; cases e
  | some b =>
    rw [e1] at e
    cases e
    obtain ⟨p, p', h1, h2, h3, h4, h5⟩ := eqP_run hr rx ry e1
    exact ⟨p, p', h1, h2, h3, h4, by rw [h5]; exact q.now hr (.bl b)⟩
theorem ok_ne : Ok2 X (rNeD X.K) dNe := fun x y H Z ι M dx dy d Q hr rx ry e q => by
  unfold dNe at e
  cases e1 : eqP M dx dy with
  | none => rw [e1] at e; cases e
  | some b =>
    rw [e1] at e
    cases e
    obtain ⟨p, p', h1, h2, h3, h4, h5⟩ := eqP_run hr rx ry e1
    exact ⟨p, p', h1, h2, h3, h4, by rw [h5]; exact q.now hr (.bl _)⟩
end
end Bk

set_option Elab.async false
set_option linter.all false
set_option maxRecDepth 100000
set_option maxHeartbeats 2000000
namespace Bk
open PySem PySem.Spec PyProof.Rows L2
section
variable {X : Cx}
/-! a list times a number -/
def rRepS (K : PySem.W.Frag) : R2 := fun x y H Q => ∃ l k xs, x = .ref l ∧ y = .int k ∧ ExL K H l xs ∧ -(2 ^ 63) ≤ k ∧ k < 2 ^ 63 ∧ xs.length * k.toNat ≤ sizeLine ∧ ∀ p, H p = none → Q (.ref p) (upd H p (.lst (List.replicate k.toNat xs).flatten))
theorem op_repS : OpR X (binaryOp .Mult) (rRepS X.K) := by
  intro pins s σ H x y v u Q I rx ry h
  obtain ⟨l, k, xs, rfl, rfl, hx, k1, k2, hz, q⟩ := h
  cases rx
  obtain ⟨tk, rfl⟩ := ry
  obtain ⟨its, m, rv, eo, _⟩ := hx.at_ I
  have hl := rv.length
  have size : its.toArray.size * k.toNat ≤ sizeLine := by rw [List.size_toArray, ← hl]; exact hz
  have cap : ¬ its.toArray.size * k.toNat > (2 ^ 63 - 1) / 8 := Nat.not_lt.mpr (Nat.le_trans size (by decide))
  have fit : ¬ (!Builtin.List.listFitsIndex k) = true := by
    rw [fitsIndex_both k1 k2]
    exact Bool.false_ne_true
  have long : ¬ Builtin.List.listTooLong (its.toArray.size * k.toNat) = true := by
    rw [notLongL size]
    exact Bool.false_ne_true
  have made : List.foldl (fun a b => a ++ b) #[] (List.replicate (if its.toArray.isEmpty = true then 0 else k.toNat) its.toArray) = (List.replicate k.toNat its).flatten.toArray := by
    have any : ∀ j : Nat, List.foldl (fun a b => a ++ b) #[] (List.replicate j its.toArray) = (List.replicate j its).flatten.toArray := fun j => by simpa using foldl_rep its j []
    rw [any]
    cases its with
    | nil => simp
    | cons a r' => simp
  refine wpAny_binaryOp_repeat_ref (T := "list") (U := "int") (by decide) ⟨_, eo, rfl⟩ (fun s' => typeIs_int s' k tk) noFill_list_mul F.fills_int_mul F.slot_int_rmul repeat_list F.slot_int_index.lookup ?_
  refine call_meets F.slot_int_rmul (typeIs_int s k tk) F.entry_int_rmul (F.args_int_rmul_2 _ _) (int___rmul___int_list k tk l its.toArray m) ⟨eo, rfl, ⟨_, eo, rfl⟩, ?_⟩
  refine call_meets F.slot_list_mul ⟨_, eo, rfl⟩ F.entry_list_mul (F.args_list_mul_2 _ _) (AutoListH.list___mul___list_int_3 l its.toArray m k tk fit cap long) ⟨eo, ?_⟩
  rw [made]
  exact ⟨.ref _, _, I.lnew (t' := s.toks) (rv.rep k.toNat) (by rw [PyProof.Rows.lm_len_rep_flat, Nat.mul_comm]; exact hz), rfl, q _ I.fresh⟩
def repI (M : List MO) (x : D) : D → Option D
  | .int k => match listD M x with
    | some a => if decide (k < 2 ^ 63) && decide (-(2 ^ 63) ≤ k) && decide (a.length * k.toNat ≤ sizeLine) then some (.lst (List.replicate k.toNat a).flatten) else none
    | none => none
  | _ => none
def dMulA (M : List MO) : D → D → Option D
  | .int i, y => dMul M (.int i) y
  | x, y => repI M x y
abbrev rMulA (K : PySem.W.Frag) : R2 := fun x y H Q => rI (fun i j => mulOk i j = true) (fun i j => .int (i * j)) x y H Q ∨ rRepS K x y H Q
theorem op_mulL : OpR X (binaryOp .Mult) (rMulA X.K) := op_mulA.or op_repS
theorem ok_mulL : Ok2 X (rMulA X.K) dMulA := fun x y H Z ι M dx dy d Q hr rx ry e q => by
  have lists : ∀ {dx : D}, Rp X.K Z ι M.length dx x → repI M dx dy = some d → rMulA X.K x y H Q := fun {dx} rx e => by
    cases ry with
    | int k =>
      have e' : (match listD M dx with
        | some a => if decide (k < 2 ^ 63) && decide (-(2 ^ 63) ≤ k) && decide (a.length * k.toNat ≤ sizeLine) then some (D.lst (List.replicate k.toNat a).flatten) else none
        | none => none) = some d := e
      cases e1 : listD M dx with
      | none => rw [e1] at e'; cases e'
      | some a =>
        rw [e1] at e'
        simp only at e'
        by_cases c : (decide (k < 2 ^ 63) && decide (-(2 ^ 63) ≤ k) && decide (a.length * k.toNat ≤ sizeLine)) = true
        · rw [if_pos c] at e'
          cases e'
          simp only [Bool.and_eq_true, decide_eq_true_eq] at c
          obtain ⟨p1, xs, rfl, s1, r1⟩ := listD_run hr rx e1
          exact .inr ⟨p1, k, xs, rfl, rfl, s1, c.1.2, c.1.1, by rw [← r1.length]; exact c.2, q.lst hr (r1.rep k.toNat)⟩
        · rw [if_neg c] at e'
          cases e'
    | _ => cases e
  cases rx with
  | dct s_ r_ t_ => first | (cases e; done) | (cases hd; done) | (cases h; done) | (cases h1; done) | (cases e1; done) | (cases h'; done) | (cases ei; done) | (cases e'; done) | exact h.elim | exact h1.elim | exact h2.elim | exact .inl (lists (.dct s_ r_ t_) hd) | exact lists (.dct s_ r_ t_) e
  | ptu s_ r_ => first | exact seqs (.ptu s_ r_) e | (cases e; exact .base (.tup (subT hr.sub s_.sq))) | (cases e; done) | (cases hd; done) | (cases h; done) | (cases h1; done) | (cases e1; done) | (cases h'; done) | (cases ei; done) | (cases e'; done) | exact h.elim | exact h1.elim | exact h2.elim | exact .inl (lists (.ptu s_ r_) hd) | exact lists (.ptu s_ r_) e
  | lam s_ r_ => exact lists (.lam s_ r_) e
  | exn s_ r_ q_ w_ => exact lists (.exn s_ r_ q_ w_) e
  | exv q_ w_ => exact lists (.exv q_ w_) e
  | dcx q_ w_ => exact lists (.dcx q_ w_) e
  | int i => exact .inl (ok_mul (X := X) _ _ H Z ι M _ _ d Q hr (.int i) ry e q)
  | lst s1 r1 => exact lists (.lst s1 r1) e
  | ref hk => exact lists (.ref hk) e
  | tup s1 r1 => exact lists (.tup s1 r1) e
  | non => exact lists .non e
  | bl b => exact lists (.bl b) e
  | str b => exact lists (.str b) e
/-! minus -/
def dNeg (_ : List MO) : D → Option D
  | .int i => some (.int (-i))
  | _ => none
theorem ok_neg : Ok1 X (rU fun i => .int (-i)) dNeg := fun x H Z ι M dx d Q hr rx e q => by
  cases rx with
  | int i =>
    cases e
    exact ⟨i, rfl, q.now hr (.int _)⟩
  | _ => cases e
/-! items -/
def dIx (M : List MO) (x : D) : D → Option D
  | .int i => (itemsD M x).bind fun ds => atI ds i
  | _ => none
theorem atI_rp {K : PySem.W.Frag} {Z : Hp} {ι : Nat → Addr} {n : Nat} {ds : List D} {vs : List V} {i : Int} {d : D} (r : Rps K Z ι n ds vs) (h : atI ds i = some d) : ∃ v, atI vs i = some v ∧ Rp K Z ι n d v := by
  unfold atI at h
  cases e : ixN ds.length i with
  | none => rw [e] at h; cases h
  | some j =>
    rw [e] at h
    obtain ⟨v, h1, h2⟩ := r.get (i := j) h
    refine ⟨v, ?_, h2⟩
    unfold atI
    rw [← r.length, e]
    exact h1
abbrev rIxA (K : PySem.W.Frag) : R2 := fun x y H Q => rIxL K x y H Q ∨ rIxT K x y H Q
theorem ix_A : IxR X (rIxA X.K) := ix_list.or ix_tup
theorem ok_ix : Ok2 X (rIxA X.K) dIx := fun x y H Z ι M dx dy d Q hr rx ry e q => by
  cases ry with
  | int i =>
    have e' : (itemsD M dx).bind (fun ds => atI ds i) = some d := e
    cases e1 : itemsD M dx with
    | none => rw [e1] at e'; cases e'
    | some ds =>
      rw [e1] at e'
      obtain ⟨a, xs, rfl, s, r⟩ := itemsD_run hr rx e1
      obtain ⟨v, h1, h2⟩ := atI_rp r e'
      rcases s with s | s
      · exact .inl ⟨a, xs, i, v, rfl, rfl, s.sq, h1, q.now hr h2⟩
      · exact .inr ⟨a, xs, i, v, rfl, rfl, s, h1, q.now hr h2⟩
  | _ => cases e
/-! in -/
def toV : D → Option V
  | .non => some .non
  | .bl b => some (.bl b)
  | .int i => some (.int i)
  | .str x => some (.str x)
  | _ => none
def toVs : List D → Option (List V)
  | [] => some []
  | d :: ds => match toV d, toVs ds with
    | some v, some vs => some (v :: vs)
    | _, _ => none
theorem toV_is {K : PySem.W.Frag} {Z : Hp} {ι : Nat → Addr} {n : Nat} {d : D} {v w : V} (r : Rp K Z ι n d v) (h : toV d = some w) : v = w ∧ flatV v = true := by
  cases r with
  | non => cases h; exact ⟨rfl, rfl⟩
  | bl b => cases h; exact ⟨rfl, rfl⟩
  | int i => cases h; exact ⟨rfl, rfl⟩
  | str x => cases h; exact ⟨rfl, rfl⟩
  | _ => cases h
theorem toVs_is {K : PySem.W.Frag} {Z : Hp} {ι : Nat → Addr} {n : Nat} : ∀ {ds : List D} {vs ws : List V}, Rps K Z ι n ds vs → toVs ds = some ws → vs = ws ∧ vs.all flatV = true
  | [], _, _, r, h => by cases r; cases h; exact ⟨rfl, rfl⟩
  | d :: ds, _, _, r, h => by
    cases r with
    | cons r rs =>
      have h' : (match toV d, toVs ds with
        | some v, some vs => some (v :: vs)
        | _, _ => none) = some _ := h
      cases e1 : toV d with
      | none => rw [e1] at h'; cases h'
      | some v =>
        cases e2 : toVs ds with
        | none => rw [e1, e2] at h'; cases h'
        | some vs =>
          rw [e1, e2] at h'
          cases h'
          obtain ⟨a1, a2⟩ := toV_is r e1
          obtain ⟨b1, b2⟩ := toVs_is rs e2
          exact ⟨by rw [a1, b1], by simp [a2, b2]⟩
def inP (M : List MO) (x y : D) : Option Bool := match toV x, (itemsD M y).bind toVs with
  | some v, some vs => some (inV v vs)
  | _, _ => none
def dIn (M : List MO) (x y : D) : Option D := (inP M x y).map D.bl
def dNotIn (M : List MO) (x y : D) : Option D := (inP M x y).map fun b => D.bl (!b)
theorem inP_run {K : PySem.W.Frag} {H Z : Hp} {ι : Nat → Addr} {M : List MO} {dx dy : D} {x y : V} {b : Bool} (hr : HR K H Z ι M) (rx : Rp K Z ι M.length dx x) (ry : Rp K Z ι M.length dy y) (e : inP M dx dy = some b) :
    ∃ p xs, y = .ref p ∧ (SqL K H p xs ∨ SqT K H p xs) ∧ flatV x = true ∧ xs.all flatV = true ∧ inV x xs = b := by
  unfold inP at e
  cases e1 : toV dx with
  | none => rw [e1] at e; cases e
  | some v =>
    cases e2 : itemsD M dy with
    | none => rw [e1, e2] at e; cases e
    | some ds =>
      cases e3 : toVs ds with
      | none => rw [e1, e2, Option.bind_some, e3] at e; cases e
      | some vs =>
        rw [e1, e2, Option.bind_some, e3] at e
        cases e
        obtain ⟨a1, a2⟩ := toV_is rx e1
        obtain ⟨p, xs, rfl, s, r⟩ := itemsD_run hr ry e2
        obtain ⟨b1, b2⟩ := toVs_is r e3
        subst a1 b1
        exact ⟨p, _, rfl, s.elim (fun s => .inl s.sq) .inr, a2, b2, rfl⟩
theorem ok_in : Ok2 X (rIn X.K false) dIn := fun x y H Z ι M dx dy d Q hr rx ry e q => by
  unfold dIn at e
  cases e1 : inP M dx dy with
  | none => rw [e1] at e; cases e
  | some b =>
    rw [e1] at e
    cases e
    obtain ⟨p, xs, h1, h2, h3, h4, h5⟩ := inP_run hr rx ry e1
    exact ⟨p, xs, h1, h2, h3, h4, by rw [h5]; exact q.now hr (.bl b)⟩
theorem ok_notIn : Ok2 X (rIn X.K true) dNotIn := fun x y H Z ι M dx dy d Q hr rx ry e q => by
  unfold dNotIn at e
  cases e1 : inP M dx dy with
  | none => rw [e1] at e; cases e
  | some b =>
    rw [e1] at e
    cases e
    obtain ⟨p, xs, h1, h2, h3, h4, h5⟩ := inP_run hr rx ry e1
    exact ⟨p, xs, h1, h2, h3, h4, by rw [h5]; exact q.now hr (.bl _)⟩
/-! slices -/
abbrev GO := Env → List MO → R (Option Int)
abbrev rpO : RpK (Option Int) (Option Int) := fun _ _ _ a b => a = b
def QO (X : Cx) (C : CT) (W : WX) (e : Option Expr) (g : GO) : Prop := ∃ te, PO X e te ∧ ∀ (σ : St) (H Z : Hp) (ι : Nat → Addr) (Γ : Env) (M : List MO) (Q : Option Int → Hp → Prop), Slots X.K Z ι M.length Γ σ → HR X.K H Z ι M → Post X C W rpO σ H Z ι M (g Γ M) Q → te σ H Q
def gNoO : GO := fun _ M => .ok none M
def toI : D → Option Int
  | .int i => some i
  | _ => none
def gO (ge : GE) : GO := fun Γ M => (ge Γ M).bind fun d M1 => opR ((toI d).map some) M1
variable {C : CT} {W : WX}
theorem qo_none : QO X C W none gNoO := ⟨_, po_none, fun σ H Z ι Γ M Q sl hr h => h none H Z ι .refl hr rfl⟩
theorem qo_some {e : Expr} {g : GE} (h : QE X C W e g) : QO X C W (some e) (gO g) := by
  obtain ⟨t, p, q⟩ := h
  refine ⟨_, po_some p, fun σ H Z ι Γ M Q sl hr h => q σ H Z ι Γ M _ sl hr (h.bind fun x M1 v H1 Z1 ι1 e1 hr1 r1 h1 => ?_)⟩
  cases r1 with
  | int i => exact ⟨i, rfl, h1 _ H1 Z1 ι1 .refl hr1 rfl⟩
  | _ => exact h1.elim
def cutD (ds : List D) (lo hi : Option Int) : List D := (ds.drop (HT.sIx ds.length 0 lo)).take (HT.sIx ds.length ds.length hi - HT.sIx ds.length 0 lo)
def dCut (M : List MO) (lo hi : Option Int) : D → Option D
  | .tup ds => some (.tup (cutD ds lo hi))
  | d => (listD M d).map fun ds => .lst (cutD ds lo hi)
def gSl (ge : GE) (lo hi : GO) : GE := fun Γ M => (ge Γ M).bind fun x M1 => (lo Γ M1).bind fun a M2 => (hi Γ M2).bind fun b M3 => opR (dCut M3 a b x) M3
theorem cut_rps {K : PySem.W.Frag} {Z : Hp} {ι : Nat → Addr} {n : Nat} {ds : List D} {vs : List V} (r : Rps K Z ι n ds vs) (lo hi : Option Int) : Rps K Z ι n (cutD ds lo hi) (cutV vs lo hi) := by
  unfold cutD cutV
  rw [r.length]
  exact (r.drop _).take _
theorem qe_slice {e : Expr} {lo hi : Option Expr} {g : GE} {gl gh : GO} {pos p2 : Pos} (he : QE X C W e g) (hl : QO X C W lo gl) (hh : QO X C W hi gh) : QE X C W (.Subscript e (.Slice lo hi none p2) pos) (gSl g gl gh) := by
  obtain ⟨t, p, q⟩ := he
  obtain ⟨tl, pl, ql⟩ := hl
  obtain ⟨th, ph, qh⟩ := hh
  refine ⟨_, pe_slice (sl_list.or sl_tupA) p pl ph, fun σ H Z ι Γ M Q sl hr h => q σ H Z ι Γ M _ sl hr (h.bind fun x M1 v H1 Z1 ι1 e1 hr1 r1 h1 => ql σ H1 Z1 ι1 Γ M1 _ (sl.ext e1) hr1 (h1.bind fun a M2 a' H2 Z2 ι2 e2 hr2 ra h2 =>
    qh σ H2 Z2 ι2 Γ M2 _ ((sl.ext e1).ext e2) hr2 (h2.bind fun b M3 b' H3 Z3 ι3 e3 hr3 rb h3 => ?_)))⟩
  have ra' : a = a' := ra
  have rb' : b = b' := rb
  subst ra' rb'
  obtain ⟨d, hd, h4⟩ := Post.of_opR (γ := D) (δ := V) h3
  have r3 := (r1.ext e2).ext e3
  have q3 := h4.after
  have lists : ∀ {dx : D}, Rp X.K Z3 ι3 M3.length dx v → (listD M3 dx).map (fun ds => D.lst (cutD ds a b)) = some d → rSlL X.K v a b H3 Q := fun {dx} rx e => by
    cases e1 : listD M3 dx with
    | none => rw [e1] at e; cases e
    | some ds =>
      rw [e1] at e
      cases e
      obtain ⟨p1, xs, rfl, s1, r1⟩ := listD_run hr3 rx e1
      exact ⟨p1, xs, rfl, s1.sq, q3.lst hr3 (cut_rps r1 a b)⟩
  cases r3 with
  | dct s_ r_ t_ => first | (cases e; done) | (cases hd; done) | (cases h; done) | (cases h1; done) | (cases e1; done) | (cases h'; done) | (cases ei; done) | (cases e'; done) | exact h.elim | exact h1.elim | exact h2.elim | exact .inl (lists (.dct s_ r_ t_) hd) | exact lists (.dct s_ r_ t_) e
  | ptu s_ r_ => first | exact seqs (.ptu s_ r_) e | (cases e; exact .base (.tup (subT hr.sub s_.sq))) | (cases e; done) | (cases hd; done) | (cases h; done) | (cases h1; done) | (cases e1; done) | (cases h'; done) | (cases ei; done) | (cases e'; done) | exact h.elim | exact h1.elim | exact h2.elim | exact .inl (lists (.ptu s_ r_) hd) | exact lists (.ptu s_ r_) e
  | lam s_ r_ => first | (cases e; done) | (cases hd; done) | (cases h; done) | (cases h1; done) | (cases e1; done) | (cases h'; done) | (cases ei; done) | (cases e'; done) | exact h.elim | exact h1.elim | exact h2.elim | exact .inl (lists (.lam s_ r_) hd) | exact lists (.lam s_ r_) e | exact seqs (.lam s_ r_) e
  | exn s_ r_ q_ w_ => first | (cases e; done) | (cases hd; done) | (cases h; done) | (cases h1; done) | (cases e1; done) | (cases h'; done) | (cases ei; done) | (cases e'; done) | exact h.elim | exact h1.elim | exact h2.elim | exact .inl (lists (.exn s_ r_ q_ w_) hd) | exact lists (.exn s_ r_ q_ w_) e | exact seqs (.exn s_ r_ q_ w_) e
  | exv q_ w_ => first | (cases e; done) | (cases hd; done) | (cases h; done) | (cases h1; done) | (cases e1; done) | (cases h'; done) | (cases ei; done) | (cases e'; done) | exact h.elim | exact h1.elim | exact h2.elim | exact .inl (lists (.exv q_ w_) hd) | exact lists (.exv q_ w_) e | exact seqs (.exv q_ w_) e
  | dcx q_ w_ => first | (cases e; done) | (cases hd; done) | (cases h; done) | (cases h1; done) | (cases e1; done) | (cases h'; done) | (cases ei; done) | (cases e'; done) | exact h.elim | exact h1.elim | exact h2.elim | exact .inl (lists (.dcx q_ w_) hd) | exact lists (.dcx q_ w_) e | exact seqs (.dcx q_ w_) e
  | tup s r =>
    rename_i ds a0 xs
    cases hd
    refine .inr ⟨a0, xs, rfl, subT hr3.sub s, fun z => ?_, fun _ => q3.tup hr3 (cut_rps r a b)⟩
    have ec : cutD ds a b = ds := by
      unfold cutD
      rw [r.length, z.1, z.2, List.drop_zero, Nat.sub_zero, ← r.length, List.take_length]
    rw [ec] at q3
    exact q3.now hr3 (.tup s r)
  | lst s r => exact .inl (lists (.lst s r) hd)
  | ref hk => exact .inl (lists (.ref hk) hd)
  | non => cases hd
  | bl b => cases hd
  | int b => cases hd
  | str b => cases hd
end
end Bk

set_option Elab.async false
set_option linter.all false
set_option maxRecDepth 100000
set_option maxHeartbeats 2000000
namespace Bk
open PySem PySem.Spec PyProof.Rows L2
section
variable {X : Cx}
theorem rps1 {K : PySem.W.Frag} {Z : Hp} {ι : Nat → Addr} {n : Nat} {d : D} {vs : List V} (r : Rps K Z ι n [d] vs) : ∃ v, vs = [v] ∧ Rp K Z ι n d v := by
  cases r with
  | cons r rs =>
    cases rs
    exact ⟨_, rfl, r⟩
theorem rps2 {K : PySem.W.Frag} {Z : Hp} {ι : Nat → Addr} {n : Nat} {d e : D} {vs : List V} (r : Rps K Z ι n [d, e] vs) : ∃ v u, vs = [v, u] ∧ Rp K Z ι n d v ∧ Rp K Z ι n e u := by
  cases r with
  | cons r rs =>
    obtain ⟨u, rfl, r2⟩ := rps1 rs
    exact ⟨_, u, rfl, r, r2⟩
/-- a function of one argument -/
def fn1 (f : List MO → D → Option D) (M : List MO) : List D → Option D
  | [d] => f M d
  | _ => none
theorem OkA.of1 {r : List V → Hp → VK → Prop} {f : List MO → D → Option D} (h : Ok1 X (fun x H Q => r [x] H Q) f) : OkA X r (fn1 f) := fun xs H Z ι M ds d Q hr rx e q => by
  match ds, e, rx with
  | [d0], e, rx =>
    obtain ⟨v, rfl, r1⟩ := rps1 rx
    exact h v H Z ι M d0 d Q hr r1 e q
def fn2 (f : List MO → D → D → Option D) (M : List MO) : List D → Option D
  | [d, e] => f M d e
  | _ => none
theorem OkA.of2 {r : List V → Hp → VK → Prop} {f : List MO → D → D → Option D} (h : Ok2 X (fun x y H Q => r [x, y] H Q) f) : OkA X r (fn2 f) := fun xs H Z ι M ds d Q hr rx e q => by
  match ds, e, rx with
  | [d0, d1], e, rx =>
    obtain ⟨v, u, rfl, r1, r2⟩ := rps2 rx
    exact h v u H Z ι M d0 d1 d Q hr r1 r2 e q
/-! len -/
def dLen (M : List MO) : D → Option D
  | .str x => if x.length ≤ sizeLine then some (.int x.length) else none
  | d => (itemsD M d).map fun ds => .int ds.length
theorem ok_len : Ok1 X (fun x H Q => ∃ x' n, [x] = [x'] ∧ LenV X.K x' H n ∧ Q (.int n) H) dLen := fun x H Z ι M dx d Q hr rx e q => by
  have seqs : ∀ {dx : D}, Rp X.K Z ι M.length dx x → (itemsD M dx).map (fun ds => D.int ds.length) = some d → ∃ x' n, [x] = [x'] ∧ LenV X.K x' H n ∧ Q (.int n) H := fun {dx} rx e => by
    cases e1 : itemsD M dx with
    | none => rw [e1] at e; cases e
    | some ds =>
      rw [e1] at e
      cases e
      obtain ⟨a, xs, rfl, s, r⟩ := itemsD_run hr rx e1
      refine ⟨_, xs.length, rfl, ?_, by rw [← r.length]; exact q.now hr (.int _)⟩
      rcases s with s | s
      · exact .inl ⟨xs, s.sq, rfl⟩
      · exact .inr ⟨xs, s, rfl⟩
  cases rx with
  | dct s_ r_ t_ => first | (cases e; done) | (cases hd; done) | (cases h; done) | (cases h1; done) | (cases e1; done) | (cases h'; done) | (cases ei; done) | (cases e'; done) | exact h.elim | exact h1.elim | exact h2.elim | exact .inl (lists (.dct s_ r_ t_) hd) | exact lists (.dct s_ r_ t_) e
  | ptu s_ r_ => first | exact seqs (.ptu s_ r_) e | (cases e; exact .base (.tup (subT hr.sub s_.sq))) | (cases e; done) | (cases hd; done) | (cases h; done) | (cases h1; done) | (cases e1; done) | (cases h'; done) | (cases ei; done) | (cases e'; done) | exact h.elim | exact h1.elim | exact h2.elim | exact .inl (lists (.ptu s_ r_) hd) | exact lists (.ptu s_ r_) e
  | lam s_ r_ => first | (cases e; done) | (cases hd; done) | (cases h; done) | (cases h1; done) | (cases e1; done) | (cases h'; done) | (cases ei; done) | (cases e'; done) | exact h.elim | exact h1.elim | exact h2.elim | exact .inl (lists (.lam s_ r_) hd) | exact lists (.lam s_ r_) e | exact seqs (.lam s_ r_) e
  | exn s_ r_ q_ w_ => first | (cases e; done) | (cases hd; done) | (cases h; done) | (cases h1; done) | (cases e1; done) | (cases h'; done) | (cases ei; done) | (cases e'; done) | exact h.elim | exact h1.elim | exact h2.elim | exact .inl (lists (.exn s_ r_ q_ w_) hd) | exact lists (.exn s_ r_ q_ w_) e | exact seqs (.exn s_ r_ q_ w_) e
  | exv q_ w_ => first | (cases e; done) | (cases hd; done) | (cases h; done) | (cases h1; done) | (cases e1; done) | (cases h'; done) | (cases ei; done) | (cases e'; done) | exact h.elim | exact h1.elim | exact h2.elim | exact .inl (lists (.exv q_ w_) hd) | exact lists (.exv q_ w_) e | exact seqs (.exv q_ w_) e
  | dcx q_ w_ => first | (cases e; done) | (cases hd; done) | (cases h; done) | (cases h1; done) | (cases e1; done) | (cases h'; done) | (cases ei; done) | (cases e'; done) | exact h.elim | exact h1.elim | exact h2.elim | exact .inl (lists (.dcx q_ w_) hd) | exact lists (.dcx q_ w_) e | exact seqs (.dcx q_ w_) e
  | str z =>
    have e' : (if z.length ≤ sizeLine then some (D.int z.length) else none) = some d := e
    by_cases c : z.length ≤ sizeLine
    · rw [if_pos c] at e'
      cases e'
      exact ⟨_, z.length, rfl, ⟨c, rfl⟩, q.now hr (.int _)⟩
    · rw [if_neg c] at e'
      cases e'
  | tup s r => exact seqs (.tup s r) e
  | lst s r => exact seqs (.lst s r) e
  | ref hk => exact seqs (.ref hk) e
  | non => exact seqs .non e
  | bl b => exact seqs (.bl b) e
  | int b => exact seqs (.int b) e
/-! int -/
def dInt (_ : List MO) : D → Option D
  | .int i => some (.int i)
  | .bl b => some (.int (if b then 1 else 0))
  | _ => none
theorem ok_int : Ok1 X (fun x H Q => (∃ i, [x] = [.int i] ∧ Q (.int i) H) ∨ ∃ k, [x] = [.bl k] ∧ Q (.int (if k then 1 else 0)) H) dInt := fun x H Z ι M dx d Q hr rx e q => by
  cases rx with
  | int i =>
    cases e
    exact .inl ⟨i, rfl, q.now hr (.int i)⟩
  | bl b =>
    cases e
    exact .inr ⟨b, rfl, q.now hr (.int _)⟩
  | _ => cases e
/-! str of a number -/
def dStr (_ : List MO) : D → Option D
  | .int i => if i.natAbs.log2 < 1920 then some (.str (toString i)) else none
  | _ => none
/-! min, max, sum, all, any -/
def dMin2 (_ : List MO) : D → D → Option D
  | .int i, .int j => some (.int (if j < i then j else i))
  | _, _ => none
def dMax2 (_ : List MO) : D → D → Option D
  | .int i, .int j => some (.int (if j > i then j else i))
  | _, _ => none
theorem ok_min2 : Ok2 X (fun x y H Q => ∃ i j, [x, y] = [V.int i, .int j] ∧ Q (.int (if j < i then j else i)) H) dMin2 := fun x y H Z ι M dx dy d Q hr rx ry e q => by
  cases rx with
  | int i =>
    cases ry with
    | int j =>
      cases e
      exact ⟨i, j, rfl, q.now hr (.int _)⟩
    | _ => cases e
  | _ => cases ry <;> cases e
theorem ok_max2 : Ok2 X (fun x y H Q => ∃ i j, [x, y] = [V.int i, .int j] ∧ Q (.int (if j > i then j else i)) H) dMax2 := fun x y H Z ι M dx dy d Q hr rx ry e q => by
  cases rx with
  | int i =>
    cases ry with
    | int j =>
      cases e
      exact ⟨i, j, rfl, q.now hr (.int _)⟩
    | _ => cases e
  | _ => cases ry <;> cases e
def intsD : List D → Option (List Int)
  | [] => some []
  | .int i :: ds => (intsD ds).map (i :: ·)
  | _ => none
def blsD : List D → Option (List Bool)
  | [] => some []
  | .bl i :: ds => (blsD ds).map (i :: ·)
  | _ => none
theorem intsD_is {K : PySem.W.Frag} {Z : Hp} {ι : Nat → Addr} {n : Nat} : ∀ {ds : List D} {vs : List V} {is : List Int}, Rps K Z ι n ds vs → intsD ds = some is → vs = is.map V.int
  | [], _, _, r, h => by cases r; cases h; rfl
  | .int i :: ds, _, _, r, h => by
    cases r with
    | cons r rs =>
      have h' : (intsD ds).map (i :: ·) = some _ := h
      cases e : intsD ds with
      | none => rw [e] at h'; cases h'
      | some js =>
        rw [e] at h'
        cases h'
        cases r
        rw [intsD_is rs e]
        rfl
  | .non :: _, _, _, _, h => by cases h
  | .bl _ :: _, _, _, _, h => by cases h
  | .str _ :: _, _, _, _, h => by cases h
  | .tup _ :: _, _, _, _, h => by cases h
  | .lst _ :: _, _, _, _, h => by cases h
  | .ref _ :: _, _, _, _, h => by cases h
theorem blsD_is {K : PySem.W.Frag} {Z : Hp} {ι : Nat → Addr} {n : Nat} : ∀ {ds : List D} {vs : List V} {is : List Bool}, Rps K Z ι n ds vs → blsD ds = some is → vs = is.map V.bl
  | [], _, _, r, h => by cases r; cases h; rfl
  | .bl i :: ds, _, _, r, h => by
    cases r with
    | cons r rs =>
      have h' : (blsD ds).map (i :: ·) = some _ := h
      cases e : blsD ds with
      | none => rw [e] at h'; cases h'
      | some js =>
        rw [e] at h'
        cases h'
        cases r
        rw [blsD_is rs e]
        rfl
  | .non :: _, _, _, _, h => by cases h
  | .int _ :: _, _, _, _, h => by cases h
  | .str _ :: _, _, _, _, h => by cases h
  | .tup _ :: _, _, _, _, h => by cases h
  | .lst _ :: _, _, _, _, h => by cases h
  | .ref _ :: _, _, _, _, h => by cases h
@[simp] theorem intsD_map (is : List Int) : intsD (is.map D.int) = some is := by
  induction is with
  | nil => rfl
  | cons i is ih => simp [intsD, ih]
@[simp] theorem blsD_map (is : List Bool) : blsD (is.map D.bl) = some is := by
  induction is with
  | nil => rfl
  | cons i is ih => simp [blsD, ih]
def minI : List Int → Int
  | [] => 0
  | [i] => i
  | i :: j :: r => let m := minI (j :: r); if i ≤ m then i else m
def maxI : List Int → Int
  | [] => 0
  | [i] => i
  | i :: j :: r => let m := maxI (j :: r); if m ≤ i then i else m
theorem minI_is : ∀ (is : List Int) (m : Int), m ∈ is → (∀ y, y ∈ is → m ≤ y) → minI is = m
  | [], _, h, _ => by cases h
  | [i], m, h, _ => by
    have : m = i := by simpa using h
    rw [this]
    rfl
  | i :: j :: r, m, h, hl => by
    have h1 : m ≤ i := hl i List.mem_cons_self
    have up : ∀ l : List Int, l ≠ [] → minI l ∈ l := by
      intro l
      induction l with
      | nil => intro z; exact absurd rfl z
      | cons a l ih =>
        intro _
        cases l with
        | nil => simp [minI]
        | cons b l =>
          have q := ih (by simp)
          show (if a ≤ minI (b :: l) then a else minI (b :: l)) ∈ a :: b :: l
          split
          · exact List.mem_cons_self
          · exact List.mem_cons_of_mem _ q
    show (if i ≤ minI (j :: r) then i else minI (j :: r)) = m
    have hm := up (j :: r) (by simp)
    have h2 : m ≤ minI (j :: r) := hl _ (List.mem_cons_of_mem _ hm)
    rcases List.mem_cons.mp h with e | e
    · subst e
      rw [if_pos h2]
    · have q := minI_is (j :: r) m e fun y hy => hl y (List.mem_cons_of_mem _ hy)
      rw [q]
      split
      · omega
      · rfl
theorem maxI_is : ∀ (is : List Int) (m : Int), m ∈ is → (∀ y, y ∈ is → y ≤ m) → maxI is = m
  | [], _, h, _ => by cases h
  | [i], m, h, _ => by
    have : m = i := by simpa using h
    rw [this]
    rfl
  | i :: j :: r, m, h, hl => by
    have h1 : i ≤ m := hl i List.mem_cons_self
    have up : ∀ l : List Int, l ≠ [] → maxI l ∈ l := by
      intro l
      induction l with
      | nil => intro z; exact absurd rfl z
      | cons a l ih =>
        intro _
        cases l with
        | nil => simp [maxI]
        | cons b l =>
          have q := ih (by simp)
          show (if maxI (b :: l) ≤ a then a else maxI (b :: l)) ∈ a :: b :: l
          split
          · exact List.mem_cons_self
          · exact List.mem_cons_of_mem _ q
    show (if maxI (j :: r) ≤ i then i else maxI (j :: r)) = m
    have hm := up (j :: r) (by simp)
    have h2 : maxI (j :: r) ≤ m := hl _ (List.mem_cons_of_mem _ hm)
    rcases List.mem_cons.mp h with e | e
    · subst e
      rw [if_pos h2]
    · have q := maxI_is (j :: r) m e fun y hy => hl y (List.mem_cons_of_mem _ hy)
      rw [q]
      split
      · omega
      · rfl
def ofInts (f : List Int → Option D) (M : List MO) (d : D) : Option D := ((listD M d).bind intsD).bind f
def ofBls (f : List Bool → D) (M : List MO) (d : D) : Option D := ((listD M d).bind blsD).map f
def dSum := ofInts fun is => some (.int is.sum)
def dMin := ofInts fun is => if is = [] then none else some (.int (minI is))
def dMax := ofInts fun is => if is = [] then none else some (.int (maxI is))
def dAll := ofBls fun bs => .bl (bs.all id)
theorem ofInts_run {K : PySem.W.Frag} {H Z : Hp} {ι : Nat → Addr} {M : List MO} {f : List Int → Option D} {dx d : D} {x : V} (hr : HR K H Z ι M) (r : Rp K Z ι M.length dx x) (e : ofInts f M dx = some d) : ∃ a is, x = .ref a ∧ SqL K H a (is.map V.int) ∧ f is = some d := by
  unfold ofInts at e
  cases e1 : listD M dx with
  | none => rw [e1] at e; cases e
  | some ds =>
    rw [e1, Option.bind_some] at e
    cases e2 : intsD ds with
    | none => rw [e2] at e; cases e
    | some is =>
      rw [e2] at e
      obtain ⟨a, xs, rfl, s, r2⟩ := listD_run hr r e1
      rw [intsD_is r2 e2] at s
      exact ⟨a, is, rfl, s.sq, e⟩
theorem ofBls_run {K : PySem.W.Frag} {H Z : Hp} {ι : Nat → Addr} {M : List MO} {f : List Bool → D} {dx d : D} {x : V} (hr : HR K H Z ι M) (r : Rp K Z ι M.length dx x) (e : ofBls f M dx = some d) : ∃ a is, x = .ref a ∧ SqL K H a (is.map V.bl) ∧ f is = d := by
  unfold ofBls at e
  cases e1 : listD M dx with
  | none => rw [e1] at e; cases e
  | some ds =>
    rw [e1, Option.bind_some] at e
    cases e2 : blsD ds with
    | none => rw [e2] at e; cases e
    | some is =>
      rw [e2] at e
      cases e
      obtain ⟨a, xs, rfl, s, r2⟩ := listD_run hr r e1
      rw [blsD_is r2 e2] at s
      exact ⟨a, is, rfl, s.sq, rfl⟩
theorem ok_min : Ok1 X (fun x H Q => rMin X.K [x] H Q) dMin := fun x H Z ι M dx d Q hr rx e q => by
  obtain ⟨a, is, rfl, s, e2⟩ := ofInts_run hr rx e
  by_cases c : is = []
  · rw [if_pos c] at e2
    cases e2
  · rw [if_neg c] at e2
    cases e2
    refine ⟨a, is, rfl, s, List.length_pos_iff.mpr c, fun m h1 h2 => ?_⟩
    rw [← minI_is is m h1 h2]
    exact q.now hr (.int _)
theorem ok_max : Ok1 X (fun x H Q => rMax X.K [x] H Q) dMax := fun x H Z ι M dx d Q hr rx e q => by
  obtain ⟨a, is, rfl, s, e2⟩ := ofInts_run hr rx e
  by_cases c : is = []
  · rw [if_pos c] at e2
    cases e2
  · rw [if_neg c] at e2
    cases e2
    refine ⟨a, is, rfl, s, List.length_pos_iff.mpr c, fun m h1 h2 => ?_⟩
    rw [← maxI_is is m h1 h2]
    exact q.now hr (.int _)
theorem ok_all : Ok1 X (fun x H Q => rAll X.K [x] H Q) dAll := fun x H Z ι M dx d Q hr rx e q => by
  obtain ⟨a, is, rfl, s, rfl⟩ := ofBls_run hr rx e
  exact ⟨a, is, rfl, s, q.now hr (.bl _)⟩
/-! list(x), tuple(x) -/
def dList (M : List MO) (d : D) : Option D := (itemsD M d).map D.lst
def dTuple (M : List MO) (d : D) : Option D := (itemsD M d).map D.tup
theorem ok_list : Ok1 X (fun x H Q => ∃ p ys, [x] = [.ref p] ∧ (SqL X.K H p ys ∨ SqT X.K H p ys) ∧ ∀ l, H l = none → Q (.ref l) (upd H l (.lst ys))) dList := fun x H Z ι M dx d Q hr rx e q => by
  unfold dList at e
  cases e1 : itemsD M dx with
  | none => rw [e1] at e; cases e
  | some ds =>
    rw [e1] at e
    cases e
    obtain ⟨a, xs, rfl, s, r⟩ := itemsD_run hr rx e1
    exact ⟨a, xs, rfl, s.elim (fun s => .inl s.sq) .inr, q.lst hr r⟩
theorem ok_tuple : Ok1 X (fun x H Q => ∃ p ys, [x] = [.ref p] ∧ ((SqL X.K H p ys ∧ ∀ l, H l = none → Q (.ref l) (upd H l (.tup ys))) ∨ (SqT X.K H p ys ∧ Q (.ref p) H))) dTuple := fun x H Z ι M dx d Q hr rx e q => by
  unfold dTuple at e
  cases rx with
  | tup s r =>
    cases e
    exact ⟨_, _, rfl, .inr ⟨subT hr.sub s, q.now hr (.tup s r)⟩⟩
  | ptu s r =>
    cases e
    exact ⟨_, _, rfl, .inr ⟨subT hr.sub s.sq, q.now hr (.tup s.sq r)⟩⟩
  | lst s r =>
    cases e
    exact ⟨_, _, rfl, .inl ⟨(subL hr.sub s).sq, q.tup hr r⟩⟩
  | ref hk =>
    rename_i k
    cases e1 : itemsD M (.ref k) with
    | none => rw [e1] at e; cases e
    | some ds =>
      rw [e1] at e
      cases e
      obtain ⟨a, xs, ea, s, r⟩ := listD_run hr (.ref hk) e1
      cases ea
      exact ⟨_, _, rfl, .inl ⟨s.sq, q.tup hr r⟩⟩
  | _ => cases e
end
/-! list(range(..)) -/
section
variable {X : Cx} {C : CT} {W : WX} {a b e : Expr} {ga gb : GE} {p pos p2 pos2 : Pos}
def rngOk (i j : Int) : Bool := inR i && inR j && decide ((j - i).toNat ≤ 2 ^ 24)
def gRgL (own : Bool) (ga gb : GE) : GE := fun Γ M => (ga Γ M).bind fun x M1 => (gb Γ M1).bind fun y M2 => match x, y with
  | .int i, .int j => if rngOk i j = true then (if own = true then .ok (.ref M2.length) (M2 ++ [.lst (rngL i (j - i).toNat)]) else .ok (.lst (rngL i (j - i).toNat)) M2) else .bad
  | _, _ => .bad
/-! isinstance -/
/-- a value's type, dicts too -/
inductive TyD (K : PySem.W.Frag) (H : Hp) : V → Value → Prop where
  | x {v : V} {t : Value} (h : TyX K H v t) : TyD K H v t
  | d {a : Addr} {es : Array DictEntry} {ep : Nat} (h : H a = some (dnO a es ep)) : TyD K H (.ref a) (.type "dict")
theorem kit_ofD {X : Cx} {pins : List (Addr × Obj)} {σ : L2.St} {H : Hp} {s : Shared} {x : V} {u t : Value} (I : Inv X pins σ H s) (rx : RelV x u) (ty : TyD X.K H x t) : ∃ P : Heap → Prop, PySem.W.KitX X.K u t P ∧ P s.heap ∧ u ≠ .builtin "__main__.__loader__#opaque" := by
  cases ty with
  | x h => exact kit_of I rx h
  | d h =>
    cases rx
    obtain ⟨⟨o, ho, hx, _⟩, _, _⟩ := I.hok _ _ h
    exact ⟨_, PySem.W.kitx_dict, ⟨o, ho, hx.1⟩, fun z => nomatch z⟩
def rIsiD (K : PySem.W.Frag) : List V → Hp → VK → Prop := fun vs H Q => ∃ (x c : V) (t u : Value) (b : Bool), vs = [x, c] ∧ ClsV c u ∧ TyD K H x t ∧ PySem.W.kitOne K t u = some b ∧ Q (.bl b) H
def rIsiTD (K : PySem.W.Frag) : List V → Hp → VK → Prop := fun vs H Q => ∃ (x : V) (tp : Addr) (cs : List V) (t : Value) (us : List Value) (b : Bool), vs = [x, .ref tp] ∧ H tp = some (.tup cs) ∧ Paired ClsV cs us ∧ TyD K H x t ∧ PySem.W.kitAny K t us = some b ∧ Q (.bl b) H
theorem call_isiD {X : Cx} : CallR X (.builtin "isinstance") (rIsiD X.K) := by
  intro pins s σ H vs us Q I r h
  obtain ⟨x, c, t, u, b, rfl, k, ty, e, q⟩ := h
  obtain ⟨w1, w2, rfl, r1, r2⟩ := vals2 r
  have e2 := k.eq r2
  subst e2
  obtain ⟨P, KX, p, hx⟩ := kit_ofD I r1 ty
  exact PySem.W.kia_one KX I.kIn p e hx fun tk => ⟨.bl b, H, I.tok tk, rfl, q⟩
theorem call_isiTD {X : Cx} : CallR X (.builtin "isinstance") (rIsiTD X.K) := by
  intro pins s σ H vs us Q I r h
  obtain ⟨x, tp, cs, t, ws, b, rfl, hT, k, ty, e, q⟩ := h
  obtain ⟨w1, w2, rfl, r1, r2⟩ := vals2 r
  cases (show w2 = Value.ref tp from r2)
  obtain ⟨P, KX, p, hx⟩ := kit_ofD I r1 ty
  obtain ⟨_, its, rv, o, h1, h2, n, h3⟩ := (show ObjOk X.prog X.w H s.heap tp (.tup cs) from I.hok tp _ hT)
  have e3 := ClsV.all k rv
  subst e3
  obtain ⟨oc, od, dt, sl⟩ := o
  simp only at h2 h3
  subst h2 h3
  exact PySem.W.kia_tup KX I.kIn p h1 e hx fun tk => ⟨.bl b, H, I.tok tk, rfl, q⟩
def tyName (M : List MO) : D → Option String
  | .non => some "NoneType"
  | .bl _ => some "bool"
  | .int _ => some "int"
  | .str _ => some "str"
  | .tup _ => some "tuple"
  | .lst _ => some "list"
  | .dct _ _ => some "dict"
  | .lam _ _ => none
  | .exn _ _ _ => none
  | .exv _ _ _ _ => none
  | .dcx _ _ => some "dict"
  | .ptu _ => some "tuple"
  | .ref k => match M[k]? with
    | some (.lst _) => some "list"
    | _ => none
theorem tyName_run {K : PySem.W.Frag} {H Z : Hp} {ι : Nat → Addr} {M : List MO} {d : D} {x : V} {t : String} (hr : HR K H Z ι M) (r : Rp K Z ι M.length d x) (e : tyName M d = some t) : TyD K H x (.type t) := by
  have lists : ∀ {a : Addr} {xs : List V}, ExL K H a xs → TyD K H (.ref a) (.type "list") := fun {a xs} s => by
    rcases s with (s | ⟨o, s⟩) | ⟨its, m, s, _, _⟩
    · exact .x (.base (.lst s))
    · exact .x (.base (.frz s))
    · exact .x (.kList s rfl)
  cases r with
  | dct s_ r_ t_ =>
    cases e
    obtain ⟨es, ep, h1, _⟩ := s_
    exact .d (hr.sub _ _ h1)
  | lam s_ r_ => cases e
  | exn s_ r_ q_ w_ => cases e
  | exv q_ w_ => cases e
  | dcx q_ w_ =>
    cases e
    exact .x (.base (.dK (hr.sub _ _ q_)))
  | ptu s r =>
    cases e
    obtain ⟨o, s, _⟩ := s
    exact .x (.fTuple (hr.sub _ _ s))
  | non => cases e; exact .x (.base .non)
  | bl b => cases e; exact .x (.base (.bl b))
  | int i => cases e; exact .x (.base (.int i))
  | str z => cases e; exact .x (.base (.str z))
  | tup s r =>
    cases e
    rcases subT hr.sub s with (s | ⟨o, s⟩) | ⟨o, its, m, s, c, _⟩
    · exact .x (.base (.tup s))
    · exact .x (.fTuple s)
    · exact .x (.kTuple s c)
  | lst s r =>
    cases e
    exact lists (subL hr.sub s)
  | ref hk =>
    rename_i k
    have e' : (match M[k]? with
      | some (.lst _) => some "list"
      | _ => none) = some t := e
    cases e1 : M[k]? with
    | none => rw [e1] at e'; cases e'
    | some o =>
      rw [e1] at e'
      cases o with
      | dead => cases e'
      | dct ks0 vs0 => cases e'
      | dki kvs0 => cases e'
      | tab nm0 => cases e'
      | obj nm fs => cases e'
      | lst ds =>
        cases e'
        obtain ⟨xs, h1, _⟩ := hr.obj k _ e1
        exact lists (.inl (.of h1))
def dIsi (T : String) (M : List MO) (d : D) : Option D := (tyName M d).bind fun t => (kitB t T).map D.bl
def anyB (t : String) : List String → Option Bool
  | [] => some false
  | T :: Ts => match kitB t T with
    | some true => some true
    | some false => anyB t Ts
    | none => none
def dIsiT (Ts : List String) (M : List MO) (d : D) : Option D := (tyName M d).bind fun t => (anyB t Ts).map D.bl
theorem anyB_kit {K : PySem.W.Frag} {t : String} : ∀ {Ts : List String} {b : Bool}, anyB t Ts = some b → PySem.W.kitAny K (.type t) (Ts.map Value.type) = some b
  | [], b, h => by cases h; rfl
  | T :: Ts, b, h => by
    unfold anyB at h
    show (match PySem.W.kitOne K (.type t) (.type T) with
      | some true => some true
      | some false => PySem.W.kitAny K (.type t) (Ts.map Value.type)
      | none => none) = some b
    cases e : kitB t T with
    | none => rw [e] at h; cases h
    | some k =>
      rw [e] at h
      rw [kit_ty e]
      cases k with
      | true => exact h
      | false => exact anyB_kit h
theorem qe_isi {T : String} {TN : Str} {q : Pos} (hg : Gl X "isinstance") (hm : X.mg "isinstance" = none) (hT : Gl X TN) (hmT : X.mg TN = none) (hv : bootBuiltins TN = some (.type T)) (ha : QE X C W e ga) (hn : TN ≠ "__name__" := by decide) (hd : (TN == ("__debug__" : Str)) = false := by decide)
    (he : starEach [e, Expr.Name TN q] X.env = (false, eval e X.env) :: starEach [Expr.Name TN q] X.env := by rfl) (he2 : starEach [Expr.Name TN q] X.env = (false, eval (Expr.Name TN q) X.env) :: starEach [] X.env := by rfl) (hpl : (backTo pos (starEach [Expr.Name TN q] X.env)).any (·.1) = false := by rfl) :
    QE X C W (.Call (.Name "isinstance" p) [e, .Name TN q] [] pos) (gOp1 (dIsi T) ga) := by
  obtain ⟨ta, pa, qa⟩ := ha
  refine ⟨_, pe_callB call_isiD hg hm (by decide +kernel) (pa_cons pa (pa_cons (pe_bltn (v := .ty T) hT hmT hv rfl hn hd) pa_nil he2) he) (he := he) (hpl := hpl), fun σ H Z ι Γ M Q sl hr h => qa σ H Z ι Γ M _ sl hr (h.bind fun x M1 v H1 Z1 ι1 e1 hr1 r1 h1 => ?_)⟩
  obtain ⟨d, hd, h3⟩ := Post.of_opR (γ := D) (δ := V) h1
  unfold dIsi at hd
  cases e2 : tyName M1 x with
  | none => rw [e2] at hd; cases hd
  | some t =>
    rw [e2, Option.bind_some] at hd
    cases e3 : kitB t T with
    | none => rw [e3] at hd; cases hd
    | some b =>
      rw [e3] at hd
      cases hd
      exact ⟨v, .ty T, .type t, .type T, b, rfl, .ty T, tyName_run hr1 r1 e2, kit_ty e3, h3.after.now hr1 (.bl b)⟩
theorem qe_isi2 {T1 T2 : String} {N1 N2 : Str} {q1 q2 q3 : Pos} {kk : Nat} (hg : Gl X "isinstance") (hm : X.mg "isinstance" = none) (hT1 : Gl X N1) (hm1 : X.mg N1 = none) (hv1 : bootBuiltins N1 = some (.type T1)) (hT2 : Gl X N2) (hm2 : X.mg N2 = none) (hv2 : bootBuiltins N2 = some (.type T2)) (ha : QE X C W e ga)
    (hn1 : N1 ≠ "__name__" := by decide) (hd1 : (N1 == ("__debug__" : Str)) = false := by decide) (hn2 : N2 ≠ "__name__" := by decide) (hd2 : (N2 == ("__debug__" : Str)) = false := by decide)
    (he : starEach [e, Expr.Tuple [.Name N1 q1, .Name N2 q2] kk q3] X.env = (false, eval e X.env) :: starEach [Expr.Tuple [.Name N1 q1, .Name N2 q2] kk q3] X.env := by rfl) (he2 : starEach [Expr.Tuple [.Name N1 q1, .Name N2 q2] kk q3] X.env = (false, eval (Expr.Tuple [.Name N1 q1, .Name N2 q2] kk q3) X.env) :: starEach [] X.env := by rfl)
    (hpl : (backTo pos (starEach [Expr.Tuple [.Name N1 q1, .Name N2 q2] kk q3] X.env)).any (·.1) = false := by rfl)
    (hs1 : starEach [Expr.Name N1 q1, Expr.Name N2 q2] X.env = (false, eval (Expr.Name N1 q1) X.env) :: starEach [Expr.Name N2 q2] X.env := by rfl) (hs2 : starEach [Expr.Name N2 q2] X.env = (false, eval (Expr.Name N2 q2) X.env) :: starEach [] X.env := by rfl) :
    QE X C W (.Call (.Name "isinstance" p) [e, .Tuple [.Name N1 q1, .Name N2 q2] kk q3] [] pos) (gOp1 (dIsiT [T1, T2]) ga) := by
  obtain ⟨ta, pa, qa⟩ := ha
  refine ⟨_, pe_callB call_isiTD hg hm (by decide +kernel) (pa_cons pa (pa_cons (pe_tup (pa_cons (pe_bltn (v := .ty T1) hT1 hm1 hv1 rfl hn1 hd1) (pa_cons (pe_bltn (v := .ty T2) hT2 hm2 hv2 rfl hn2 hd2) pa_nil hs2) hs1)) pa_nil he2) he) (he := he) (hpl := hpl),
    fun σ H Z ι Γ M Q sl hr h => qa σ H Z ι Γ M _ sl hr (h.bind fun x M1 v H1 Z1 ι1 e1 hr1 r1 h1 => ?_)⟩
  obtain ⟨d, hd, h3⟩ := Post.of_opR (γ := D) (δ := V) h1
  unfold dIsiT at hd
  cases e2 : tyName M1 x with
  | none => rw [e2] at hd; cases hd
  | some t =>
    rw [e2, Option.bind_some] at hd
    cases e3 : anyB t [T1, T2] with
    | none => rw [e3] at hd; cases hd
    | some b =>
      rw [e3] at hd
      cases hd
      refine ⟨by show 2 ≤ sizeLine; decide, fun tp hp => ?_⟩
      obtain ⟨hr2, x2⟩ := hr1.frozen (o := .tup [.ty T1, .ty T2]) hp
      exact ⟨v, tp, [.ty T1, .ty T2], .type t, [.type T1, .type T2], b, rfl, upd_same, .cons (.ty T1) (.cons (.ty T2) .nil), tyName_run hr2 (r1.ext x2) e2, anyB_kit (Ts := [T1, T2]) e3, h3.after _ _ _ x2 hr2 (.bl b)⟩
end
end Bk

set_option Elab.async false
set_option linter.all false
set_option maxRecDepth 100000
set_option maxHeartbeats 2000000
namespace Bk
open PySem PySem.Spec PyProof.Rows L2
/-! ### what changes a list of ours -/
/-- a method: the list as it was, the argument; the list as it is, the answer -/
abbrev MF := List MO → List D → D → Option (List D × D)
abbrev MF0 := List D → Option (List D × D)
def isListD (M : List MO) (d : D) : Bool := (listD M d).isSome
def mutR (M : List MO) (x : D) (f : List D → Option (List D × D)) : R D := match x with
  | .ref k => match M[k]? with
    | some (.lst ds) => match f ds with
      | some (ds', r) => .ok r (M.set k (.lst ds'))
      | none => .bad
    | _ => .bad
  | _ => .bad
def gMeth1 (f : MF) (go ge : GE) : GE := fun Γ M => (go Γ M).bind fun x M1 => if isListD M1 x = true then (ge Γ M1).bind fun y M2 => mutR M2 x fun ds => f M2 ds y else .bad
def gMeth0 (f : MF0) (go : GE) : GE := fun Γ M => (go Γ M).bind fun x M1 => mutR M1 x f
section
variable {X : Cx} {C : CT} {W : WX}
def OkM (X : Cx) (r : V → List V → Hp → VK → Prop) (f : MF) : Prop := ∀ (p : Addr) (xs : List V) (y : V) (H Z : Hp) (ι : Nat → Addr) (M : List MO) (ds ds' : List D) (dy d : D) (Q : VK), HR X.K H Z ι M → H p = some (.lst xs) → Rps X.K Z ι M.length ds xs → Rp X.K Z ι M.length dy y → f M ds dy = some (ds', d) →
  (∀ (xs' : List V) (w : V), Rps X.K Z ι M.length ds' xs' → Rp X.K Z ι M.length d w → Q w (upd H p (.lst xs'))) → r (.ref p) [y] H Q
theorem mutR_run {σ : St} {H Z : Hp} {ι : Nat → Addr} {M : List MO} {x : D} {v : V} {f : List D → Option (List D × D)} {Q : VK} (hr : HR X.K H Z ι M) (r : Rp X.K Z ι M.length x v) (h : Post X C W (rpE X.K) σ H Z ι M (mutR M x f) Q) :
    ∃ (k : Nat) (ds ds' : List D) (d : D) (xs : List V), v = .ref (ι k) ∧ H (ι k) = some (.lst xs) ∧ Rps X.K Z ι M.length ds xs ∧ f ds = some (ds', d) ∧ ∀ (xs' : List V) (w : V), Rps X.K Z ι M.length ds' xs' → Rp X.K Z ι M.length d w → Q w (upd H (ι k) (.lst xs')) := by
  cases r with
  | ref hk =>
    rename_i k
    have h' : Post X C W (rpE X.K) σ H Z ι M (match M[k]? with
      | some (.lst ds) => match f ds with
        | some (ds', r) => .ok r (M.set k (.lst ds'))
        | none => .bad
      | _ => .bad) Q := h
    cases e1 : M[k]? with
    | none => rw [e1] at h'; exact h'.elim
    | some o =>
      rw [e1] at h'
      cases o with
      | dead => exact h'.elim
      | dct ks0 vs0 => exact h'.elim
      | dki kvs0 => exact h'.elim
      | tab nm0 => exact h'.elim
      | obj nm fs => exact h'.elim
      | lst ds =>
        have h2 : Post X C W (rpE X.K) σ H Z ι M (match f ds with
          | some (ds', r) => .ok r (M.set k (.lst ds'))
          | none => .bad) Q := h'
        cases e2 : f ds with
        | none => rw [e2] at h2; exact h2.elim
        | some q =>
          obtain ⟨ds', d⟩ := q
          rw [e2] at h2
          obtain ⟨xs, a1, a2⟩ := hr.obj k _ e1
          refine ⟨k, ds, ds', d, xs, rfl, a1, a2, e2, fun xs' w r1 r2 => ?_⟩
          obtain ⟨b1, b2⟩ := hr.change e1 r1
          exact h2 w _ Z ι b2 b1 (r2.ext b2)
  | _ => exact h.elim
theorem isListD_run {K : PySem.W.Frag} {H Z : Hp} {ι : Nat → Addr} {M : List MO} {d : D} {v : V} (hr : HR K H Z ι M) (r : Rp K Z ι M.length d v) (h : isListD M d = true) : tyV K "list" v H := by
  unfold isListD at h
  cases e : listD M d with
  | none => rw [e] at h; cases h
  | some ds =>
    obtain ⟨a, xs, rfl, s, _⟩ := listD_run hr r e
    exact .inl ⟨rfl, xs, s.sq⟩
theorem qe_meth1 {o e : Expr} {go ge : GE} {f : MF} {id : String} {name : Str} {pos apos : Pos} {r : V → List V → Hp → VK → Prop} (slot : Slot "list" name id) (hty : typeOf (.builtin id) = pure (.type "method_descriptor")) (hm : MtR X id r) (ok : OkM X r f) (ho : QE X C W o go) (he : QE X C W e ge)
    (hbase : attributeBase o name X.env (eval o X.env) = eval o X.env := by rfl) (hs : starEach [e] X.env = (false, eval e X.env) :: starEach [] X.env := by rfl)
    (hfew : ((backTo pos (starEach [e] X.env)).all (fun x => !x.1) && (backToKw pos (keywordEach [] X.env)).all (fun x => x.1.isSome) && decide ([e].length + ([] : List Keyword).length + (if ([] : List Keyword).isEmpty then 0 else 1) < 30)) = true := by rfl)
    (hline : (apos.endLine == pos.line) = true := by rfl) : QE X C W (.Call (.Attribute o name apos) [e] [] pos) (gMeth1 f go ge) := by
  obtain ⟨ta, pa, qa⟩ := ho
  obtain ⟨tb, pb, qb⟩ := he
  refine ⟨_, pe_bm PySem.F.plainAttrs_list slot hty hm pa (pa_cons pb pa_nil hs) hbase hfew hline hs rfl, fun σ H Z ι Γ M Q sl hr h => qa σ H Z ι Γ M _ sl hr (h.bind fun x M1 v H1 Z1 ι1 e1 hr1 r1 h1 => ?_)⟩
  by_cases c : isListD M1 x = true
  · rw [if_pos c] at h1
    refine ⟨isListD_run hr1 r1 c, qb σ H1 Z1 ι1 Γ M1 _ (sl.ext e1) hr1 (h1.bind fun y M2 u H2 Z2 ι2 e2 hr2 r2 h2 => ?_)⟩
    obtain ⟨k, ds, ds', d, xs, ev, a1, a2, a3, a4⟩ := mutR_run hr2 (r1.ext e2) h2
    rw [ev]
    exact ok _ xs u H2 Z2 ι2 M2 ds ds' y d Q hr2 a1 a2 r2 a3 a4
  · rw [if_neg c] at h1
    exact h1.elim
def mAppend : MF := fun _ ds y => if ds.length < sizeLine then some (ds ++ [y], .non) else none
theorem ok_append : OkM X rAppend mAppend := fun p xs y H Z ι M ds ds' dy d Q hr e r ry h q => by
  unfold mAppend at h
  by_cases c : ds.length < sizeLine
  · rw [if_pos c] at h
    cases h
    exact ⟨p, xs, y, rfl, rfl, e, by rw [← r.length]; exact c, q _ _ (r.append (.cons ry .nil)) .non⟩
  · rw [if_neg c] at h
    cases h
/-! xs[i] = e -/
def setR (M : List MO) (o i v : D) : Option (List MO) := match o, i with
  | .ref k, .int j => match M[k]? with
    | some (.lst ds) => match ixN ds.length j with
      | some m => some (M.set k (.lst (ds.set m v)))
      | none => none
    | _ => none
  | _, _ => none
def gSetI (ge go gi : GE) : GS := fun Γ M => (ge Γ M).thenS Γ fun v M1 => (go Γ M1).thenS Γ fun o M2 => (gi Γ M2).thenS Γ fun i M3 => match setR M3 o i v with
  | some M4 => .nx Γ M4
  | none => .bad
theorem qs_setI {o i e : Expr} {go gi ge : GE} {pos spos : Pos} (he : QE X C W e ge) (ho : QE X C W o go) (hi : QE X C W i gi) (hs : swapsWithSole [Expr.Subscript o i spos] e pos.line X.env = pure false := by rfl) (hp : swappedStores [Expr.Subscript o i spos] e X.env = pure none := by rfl)
    (h1 : (assignEach [Expr.Subscript o i spos] X.env).map (·.2) = [assign (Expr.Subscript o i spos) X.env] := by rfl)
    (ha : ∀ v, assign (.Subscript o i spos) X.env v = (do let ov ← holding [v] (eval o X.env); let iv ← holding [v, ov] (eval i X.env); standAt spos; holding [v, ov, iv] (setItem ov iv v); release [v, ov, iv] []) := by intro _; rfl) :
    QS X C W (.Assign [.Subscript o i spos] e pos) (gSetI ge go gi) := by
  obtain ⟨te, pe, qe⟩ := he
  obtain ⟨to, po, qo⟩ := ho
  obtain ⟨ti, pi, qi⟩ := hi
  refine ⟨_, ps_asg pe (pg_sub po pi set_list ha) hs hp h1, fun Dd σ H Z ι Γ M sl hr h => qe σ H Z ι Γ M _ sl hr (PostS.bind h sl fun v M1 v' H1 Z1 ι1 e1 hr1 r1 h1 => qo σ H1 Z1 ι1 Γ M1 _ (sl.ext e1) hr1 (PostS.bind h1 (sl.ext e1) fun o M2 o' H2 Z2 ι2 e2 hr2 r2 h2 =>
    qi σ H2 Z2 ι2 Γ M2 _ ((sl.ext e1).ext e2) hr2 (PostS.bind h2 ((sl.ext e1).ext e2) fun i M3 i' H3 Z3 ι3 e3 hr3 r3 h3 => ?_)))⟩
  have ro := r2.ext e3
  have rv := (r1.ext e2).ext e3
  have sl3 := ((sl.ext e1).ext e2).ext e3
  cases es : setR M3 o i v with
  | none => rw [es] at h3; exact h3.elim
  | some M4 =>
    rw [es] at h3
    unfold setR at es
    cases ro with
    | ref hk =>
      rename_i k
      cases r3 with
      | int j =>
        simp only at es
        cases ek : M3[k]? with
        | none => rw [ek] at es; cases es
        | some u =>
          rw [ek] at es
          cases u with
          | dead => cases es
          | dct ks0 vs0 => cases es
          | dki kvs0 => cases es
          | tab nm0 => cases es
          | obj nm fs => cases es
          | lst ds =>
            simp only at es
            cases em : ixN ds.length j with
            | none => rw [em] at es; cases es
            | some m =>
              rw [em] at es
              cases es
              obtain ⟨xs, a1, a2⟩ := hr3.obj k _ ek
              obtain ⟨b1, b2⟩ := hr3.change ek (a2.set m rv)
              exact ⟨_, xs, j, m, rfl, rfl, a1, by rw [← a2.length]; exact em, h3 σ _ Z3 ι3 b2 b1 (sl3.ext b2)⟩
      | _ => cases es
    | _ => cases es
/-! x += e -/
def gAug (i : Nat) (f : Int → Int → Int) (ge : GE) : GS := fun Γ M => match Γ[i]? with
  | some (some (.int a)) => (ge Γ M).thenS Γ fun y M1 => match y with
    | .int b => .nx (Γ.set i (some (.int (f a b)))) M1
    | _ => .bad
  | _ => .bad
theorem qs_aug (i : Nat) {x : Str} {e : Expr} {op : Operator} {f : Int → Int → Int} {ge : GE} {pos pos' : Pos} (hN : X.N.Nodup) (ho : PIp X op (ipI f)) (he : QE X C W e ge) (hi : X.N[i]? = some x := by rfl) (hx : Loc X.env.scope x := by first | exact Or.inl rfl | exact Or.inr rfl)
    (hf : X.fn x = true ∨ X.env.scope.names.lookup x = some .local := by first | exact Or.inl rfl | exact Or.inr rfl) : QS X C W (.AugAssign (.Name x pos') op e pos) (gAug i f ge) := by
  obtain ⟨te, pe, qe⟩ := he
  refine ⟨_, ps_aug hN hi hx pe ho hf, fun Dd σ H Z ι Γ M sl hr h => ?_⟩
  unfold gAug at h
  cases e1 : Γ[i]? with
  | none => rw [e1] at h; exact h.elim
  | some o =>
    rw [e1] at h
    cases o with
    | none => exact h.elim
    | some d =>
      cases d with
      | int a =>
        obtain ⟨v, a1, a2⟩ := sl.2 i _ e1
        cases a2
        refine ⟨_, a1, qe σ H Z ι Γ M _ sl hr (PostS.bind h sl fun y M1 u H1 Z1 ι1 x1 hr1 r1 h1 => ?_)⟩
        cases r1 with
        | int b => exact ⟨a, b, rfl, rfl, h1 _ H1 Z1 ι1 .refl hr1 ((sl.ext x1).set i (.int _))⟩
        | _ => exact h1.elim
      | _ => exact h.elim
/-! repr -/
end
end Bk

set_option Elab.async false
set_option linter.all false
set_option maxRecDepth 100000
set_option maxHeartbeats 2000000
namespace Bk
open PySem PySem.Spec PyProof.Rows L2
/-! ### enumerate and zip of lists and tuples -/
inductive Src where
  | l (a : Addr) | t (a : Addr)
namespace Src
def addr : Src → Addr
  | .l a => a
  | .t a => a
def here (K : PySem.W.Frag) (H : Hp) (xs : List V) : Src → Prop
  | .l a => SqL K H a xs
  | .t a => SqT K H a xs
def it (h : Heap) (i : Addr) (n : Nat) : Src → Prop
  | .l a => h.IsListIter i a n
  | .t a => h.IsTupleIter i a n
def arr (h : Heap) (items : Array Value) : Src → Prop
  | .l a => h.IsList a items
  | .t a => h.IsTuple a items
def obj : Src → Obj
  | .l a => { cls := .type "list_iterator", data := .fields #[.ref a, .int 0 0] }
  | .t a => { cls := .type "tuple_iterator", data := .fields #[.ref a, .int 0 0] }
theorem begins (S : Src) (items : Array Value) : Begins (.ref S.addr) S.obj fun h => S.arr h items := by
  cases S with
  | l a => exact begins_list a items
  | t a => exact begins_tuple a items
theorem draws {prog : Program} {w : World} {A : Around} (hh : A.handled = none) (S : Src) (i : Addr) (hne : S.addr ≠ i) (items : Array Value) :
    Draws prog w A i [i, S.addr] items.size (fun n v => items[n]? = some v) (fun n h => S.it h i n ∧ S.arr h items) := by
  cases S with
  | l a => exact Draws.list hh i a hne items
  | t a => exact Draws.tuple hh i a hne items
theorem inv {X : Cx} {pins : List (Addr × Obj)} {σ : L2.St} {H : Hp} {s : Shared} {xs : List V} (I : Inv X pins σ H s) {S : Src} (h : S.here X.K H xs) : ∃ its : List Value, Vals xs its ∧ S.arr s.heap its.toArray := by
  cases S with
  | l a =>
    obtain ⟨its, r, p, _⟩ := I.list h
    exact ⟨its, r, p.isList⟩
  | t a =>
    obtain ⟨its, r, p, _⟩ := I.tuple h
    exact ⟨its, r, p⟩
theorem inj {X : Cx} {pins : List (Addr × Obj)} {σ : L2.St} {H : Hp} {s : Shared} {xs ys : List V} (I : Inv X pins σ H s) {S : Src} (h : S.here X.K H xs) (h' : S.here X.K H ys) : xs = ys := by
  cases S with
  | l a => exact I.list_inj h h'
  | t a => exact I.tuple_inj h h'
theorem start {S : Src} {h : Heap} {i : Addr} (e : h.get? i = some S.obj) : S.it h i 0 := by
  cases S with
  | l a => exact ⟨_, e, rfl, rfl⟩
  | t a => exact ⟨_, e, rfl, rfl⟩
theorem it_at {S : Src} {h h' : Heap} {i : Addr} {n : Nat} (x : S.it h i n) (k : ∀ o, h.get? i = some o → h'.get? i = some o) : S.it h' i n := by
  cases S with
  | l a =>
    have y : h.IsListIter i a n := x
    exact y.at k
  | t a =>
    have y : h.IsTupleIter i a n := x
    exact y.at k
theorem it_obj {S : Src} {h : Heap} {i : Addr} {n : Nat} (x : S.it h i n) : ∃ o, h.get? i = some o ∧ ∀ v, o.data ≠ .cell v := by
  cases S with
  | l a =>
    obtain ⟨o, ho, _, hd⟩ := (show h.IsListIter i a n from x)
    exact ⟨o, ho, fun v q => by rw [hd] at q; cases q⟩
  | t a =>
    obtain ⟨o, ho, _, hd⟩ := (show h.IsTupleIter i a n from x)
    exact ⟨o, ho, fun v q => by rw [hd] at q; cases q⟩
theorem arr_ne {S : Src} {h : Heap} {items : Array Value} {b : Addr} {ob : Obj} (x : S.arr h items) (e : h.get? b = some ob) (hd : ∀ its n, ob.data ≠ .seq its n) : S.addr ≠ b := by
  cases S with
  | l a =>
    obtain ⟨o, ho, _, m, hdd⟩ := (show h.IsList a items from x)
    intro z
    have z' : a = b := z
    rw [z', e] at ho
    cases ho
    exact hd _ _ hdd
  | t a =>
    obtain ⟨o, ho, _, m, hdd⟩ := (show h.IsTuple a items from x)
    intro z
    have z' : a = b := z
    rw [z', e] at ho
    cases ho
    exact hd _ _ hdd
theorem arr_it {S : Src} {h : Heap} {items : Array Value} {i : Addr} {n : Nat} (x : S.arr h items) (y : S.it h i n) : S.addr ≠ i := by
  cases S with
  | l a =>
    obtain ⟨o, ho, _, m, hd⟩ := (show h.IsList a items from x)
    obtain ⟨o', ho', _, hd'⟩ := (show h.IsListIter i a n from y)
    intro z
    have z' : a = i := z
    rw [z', ho'] at ho
    cases ho
    rw [hd] at hd'
    cases hd'
  | t a =>
    obtain ⟨o, ho, _, m, hd⟩ := (show h.IsTuple a items from x)
    obtain ⟨o', ho', _, hd'⟩ := (show h.IsTupleIter i a n from y)
    intro z
    have z' : a = i := z
    rw [z', ho'] at ho
    cases ho
    rw [hd] at hd'
    cases hd'
theorem arr_lt {S : Src} {h : Heap} {items : Array Value} (x : S.arr h items) : S.addr < h.objs.size := by
  cases S with
  | l a =>
    obtain ⟨o, ho, _⟩ := (show h.IsList a items from x)
    exact Heap.lt_size ho
  | t a =>
    obtain ⟨o, ho, _⟩ := (show h.IsTuple a items from x)
    exact Heap.lt_size ho
end Src
set_option maxHeartbeats 4000000 in
theorem meets_enum1 {v : Value} {o : Obj} {H : Heap → Prop} (B : Begins v o H) :
    Meets (Builtin.«enumerate.__new__» ⟨[.type "enumerate", v], []⟩) (fun _ R s => H s.heap ∧ R (.ok (.ret (.ref (s.heap.push o).objs.size)))
      { s with heap := (s.heap.push o).push { cls := .type "enumerate", data := .fields #[.none, .bool false, .ref s.heap.objs.size, rawInt 0, .none, .none] } }) :=
  .of_wp fun prog w A R s hs => by
    obtain ⟨hp, g, d, tk, os⟩ := s
    obtain ⟨hH, hR⟩ := hs
    have subs := sub_enumerate
    have iter : ∀ {A' : Around} {E : Value → Shared → Prop} {Q : Value → Shared → Prop}, Q (.ref hp.objs.size) ⟨hp.push o, g, d, tk, os⟩ → wpAny (model prog w) A' (pyIter v) Q E ⟨hp, g, d, tk, os⟩ := fun q => B.iter prog w _ _ _ _ hH q
    wp_walk using iter
    refine wpAny_stack_any fun _ => wpAny_pure ?_
    split
    · rename_i c _ _ _ _ _
      cases (c == Value.type "enumerate") <;> (wp_walk using iter; exact ⟨_, rfl, hR⟩)
    · wp_walk using iter
      exact ⟨_, rfl, hR⟩
theorem call_enum1 {prog : Program} {w : World} {A : Around} {E : Value → Shared → Prop} {s : Shared} {v : Value} {o : Obj} {H : Heap → Prop} {Q : Value → Shared → Prop} (B : Begins v o H) (hH : H s.heap)
    (h : ∀ h', IsEnum h' (s.heap.objs.size + 1) s.heap.objs.size 0 .none → h'.get? s.heap.objs.size = some o → (∀ b u, s.heap.get? b = some u → h'.get? b = some u) → Q (.ref (s.heap.objs.size + 1)) { s with heap := h' }) :
    wpAny (model prog w) A (call (.type "enumerate") [v]) Q E s := by
  refine callType_new F.called_enumerate (by decide) (F.typeCall_enumerate_1 _) (F.newCall_enumerate_1 _) (fun ob => F.args_object_init_2 ob _) F.entry_enumerate_new (meets_enum1 B) ⟨hH, ?_⟩
  have sz : (s.heap.push o).objs.size = s.heap.objs.size + 1 := Heap.size_push ..
  show _ ∧ _
  rw [sz]
  have e := Heap.get?_push_size (s.heap.push o) (o := { cls := .type "enumerate", data := .fields #[.none, .bool false, .ref s.heap.objs.size, rawInt 0, .none, .none] }) rfl
  rw [sz] at e
  exact ⟨⟨_, e, rfl⟩, h _ e (Heap.get?_push_of_some _ (Heap.get?_push_size _ B.free)) fun b u x => Heap.get?_push_of_some _ (Heap.get?_push_of_some _ x)⟩
/-! the turns -/
def Ien (K : PySem.W.Frag) (S : Src) (k0 : Int) : It :=
  ⟨fun n H => ∃ (xs : List V) (x : V), S.here K H xs ∧ xs[n]? = some x, fun n H v H' => ∃ T x, v = .ref T ∧ H T = none ∧ H' = upd H T (.tup [.int (k0 + (n : Nat)), x]) ∧ ∀ xs, S.here K H xs → xs[n]? = some x, fun n H => ∃ xs : List V, S.here K H xs ∧ xs.length = n⟩
theorem turn_en {P : Program} {w : World} {K : PySem.W.Frag} {elts : List Expr} {kk : Nat} {tpos : Pos} (S : Src) (k0 : Int) (e i : Addr) :
    Turn P w K (.Tuple elts kk tpos) (Ien K S k0) [e, i] e (fun n h => (∃ old, IsEnum h e i (k0 + (n : Nat)) old) ∧ S.it h i n ∧ e ≠ i) where
  mem := List.mem_cons_self
  obj := fun n h st b hb => by
    obtain ⟨⟨old, he⟩, hi, _⟩ := st
    rcases List.mem_cons.mp hb with z | z
    · subst z
      exact ⟨_, he, fun v q => nomatch q⟩
    · have z' : b = i := by simpa using z
      subst z'
      exact Src.it_obj hi
  keep := fun n h h' st k => by
    obtain ⟨⟨old, he⟩, hi, ne⟩ := st
    exact ⟨⟨old, k e (by simp) _ he⟩, Src.it_at hi fun o q => k i (by simp) o q, ne⟩
  item := by
    intro X hP hw hK hc n pins s σ H E I hf st hg
    subst hP hw hK
    obtain ⟨⟨old, he⟩, hi, ne⟩ := st
    obtain ⟨xs, x, hq, hx⟩ := hg
    obtain ⟨its, rv, har⟩ := Src.inv I hq
    obtain ⟨u, hu, ru⟩ := rv.get hx
    obtain ⟨oi, hoi, _⟩ := Src.it_obj hi
    have hh : X.A.in1.handled = none := I.ok.hd hc
    have a1 : S.addr ≠ e := Src.arr_ne har he (fun _ _ q => nomatch q)
    have a2 := Src.arr_it har hi
    have Wk := WalksT.enumFrom k0 (Src.draws (prog := X.prog) (w := X.w) hh S i a2 its.toArray) e ne (by simp only [List.mem_cons, List.not_mem_nil, or_false, not_or]; exact ⟨ne, fun z => a1 z.symm⟩) (by simp)
    have ln : n < its.toArray.size := by
      have := (List.getElem?_eq_some_iff.mp hu).1
      simpa using this
    refine Wk.item n s _ E ln ⟨⟨old, he⟩, hi, har⟩ fun T vals h' tk hP hT hTup hMid hk => ⟨_, rfl, Wk.go elts kk tpos n T _ _ _ hMid fun h2 hSt hk2 => ?_⟩
    obtain ⟨t, x', hx', hvals⟩ := hP
    subst hvals
    have ex : x' = u := by
      have q : its.toArray[n]? = some u := by simpa using hu
      rw [hx'] at q
      exact Option.some.inj q
    subst ex
    have out := Wk.apart n T _ hMid
    have tup2 : h2.IsTuple T #[.int (k0 + (n : Nat)) t, x'] := hTup.at fun o q => hk2 T o out q
    have new : ObjOk X.prog X.w (upd H T (.tup [.int (k0 + (n : Nat)), x])) h2 T (.tup [.int (k0 + (n : Nat)), x]) :=
      ⟨by show 2 ≤ sizeLine; decide, [.int (k0 + (n : Nat)) t, x'], .cons ⟨_, rfl⟩ (.cons ru .nil), tup2⟩
    have J := I.turnedNew (t' := tk) (ch := [e, i]) (fun b ob hb q => hk2 b ob hb (hk b ob hb q)) hf hT new
    refine ⟨.ref T, _, J, rfl, ⟨T, x, rfl, I.hok.fresh hT, rfl, fun ys hy => by rw [Src.inj I hy hq]; exact hx⟩, ?_, fun b hb => ?_⟩
    · obtain ⟨⟨o2, he2⟩, hi2, _⟩ := hSt
      have en : k0 + ((n + 1 : Nat) : Int) = k0 + (n : Nat) + 1 := by push_cast; omega
      exact ⟨⟨o2, by first | exact he2 | (rw [en]; exact he2)⟩, hi2, ne⟩
    · have hb' : b < s.heap.objs.size := by
        rcases List.mem_cons.mp hb with z | z
        · rw [z]; exact Heap.lt_size he
        · have z' : b = i := by simpa using z
          rw [z']; exact Heap.lt_size hoi
      rw [upd_ne (Nat.ne_of_lt (Nat.lt_of_lt_of_le hb' hT))]
      exact (hf b hb).1
  done := by
    intro X hP hw hK hc n pins s σ H E I hf st hg
    subst hP hw hK
    obtain ⟨⟨old, he⟩, hi, ne⟩ := st
    obtain ⟨xs, hq, hx⟩ := hg
    obtain ⟨its, rv, har⟩ := Src.inv I hq
    have hh : X.A.in1.handled = none := I.ok.hd hc
    have a1 : S.addr ≠ e := Src.arr_ne har he (fun _ _ q => nomatch q)
    have Wk := WalksT.enumFrom k0 (Src.draws (prog := X.prog) (w := X.w) hh S i (Src.arr_it har hi) its.toArray) e ne (by simp only [List.mem_cons, List.not_mem_nil, or_false, not_or]; exact ⟨ne, fun z => a1 z.symm⟩) (by simp)
    have en : its.toArray.size = n := by rw [List.size_toArray, ← rv.length]; exact hx
    rw [en] at Wk
    exact Wk.done s _ E ⟨⟨old, he⟩, hi, har⟩ fun h' tk hk => ⟨rfl, I.turnedL (t' := tk) (ch := [e, i]) (fun b ob hb q => hk b ob hb q) hf⟩
  self := fun A n s Q E st h => by
    obtain ⟨⟨_, he⟩, _⟩ := st
    exact wpAny_pyIter_enum he h
end Bk

set_option Elab.async false
set_option linter.all false
set_option maxRecDepth 100000
set_option maxHeartbeats 2000000
namespace Bk
open PySem PySem.Spec PyProof.Rows L2
def enumL (k : Int) : List D → List D
  | [] => []
  | d :: ds => .tup [.int k, d] :: enumL (k + 1) ds
theorem enumL_len : ∀ (ds : List D) (k : Int), (enumL k ds).length = ds.length
  | [], _ => rfl
  | d :: ds, k => by simp [enumL, enumL_len ds]
theorem enumL_get : ∀ (ds : List D) (k : Int) (i : Nat) (x : D), (enumL k ds)[i]? = some x → ∃ d, ds[i]? = some d ∧ x = .tup [.int (k + (i : Nat)), d]
  | [], _, _, _, h => by simp [enumL] at h
  | d :: ds, k, 0, x, h => by
    simp [enumL] at h
    exact ⟨d, rfl, by rw [← h]; simp⟩
  | d :: ds, k, i + 1, x, h => by
    simp only [enumL, List.getElem?_cons_succ] at h
    obtain ⟨d', h1, h2⟩ := enumL_get ds (k + 1) i x h
    refine ⟨d', by simpa using h1, ?_⟩
    rw [h2]
    congr 3
    push_cast
    omega
def zipL : List D → List D → List D
  | d :: ds, e :: es => .tup [d, e] :: zipL ds es
  | _, _ => []
theorem zipL_len : ∀ (ds es : List D), (zipL ds es).length = min ds.length es.length
  | [], _ => by simp [zipL]
  | _ :: _, [] => by simp [zipL]
  | d :: ds, e :: es => by
    simp only [zipL, List.length_cons, zipL_len ds es]
    omega
theorem zipL_get : ∀ (ds es : List D) (i : Nat) (x : D), (zipL ds es)[i]? = some x → ∃ d e, ds[i]? = some d ∧ es[i]? = some e ∧ x = .tup [d, e]
  | [], _, _, _, h => by simp [zipL] at h
  | _ :: _, [], _, _, h => by simp [zipL] at h
  | d :: ds, e :: es, 0, x, h => by
    simp [zipL] at h
    exact ⟨d, e, rfl, rfl, h.symm⟩
  | d :: ds, e :: es, i + 1, x, h => by
    simp only [zipL, List.getElem?_cons_succ] at h
    obtain ⟨d', e', h1, h2, h3⟩ := zipL_get ds es i x h
    exact ⟨d', e', by simpa using h1, by simpa using h2, h3⟩
def gEnum (ge : GE) : GI := fun Γ M => (ge Γ M).bind fun d M1 => opR ((seqD d).map (enumL 0)) M1
def gEnumK (ge : GE) (gk : GE) : GI := fun Γ M => (ge Γ M).bind fun d M1 => (gk Γ M1).bind fun k M2 => match k with
  | .int k => if decide (-(2 ^ 63) ≤ k) && decide (k < 2 ^ 63) then opR ((seqD d).map (enumL k)) M2 else .bad
  | _ => .bad
def zipO (x y : D) : Option (List D) := match seqD x, seqD y with
  | some ds, some es => some (zipL ds es)
  | _, _ => none
def gZip (ga gb : GE) : GI := fun Γ M => (ga Γ M).bind fun x M1 => (gb Γ M1).bind fun y M2 => opR (zipO x y) M2
section
variable {X : Cx} {C : CT} {W : WX} {e e2 : Expr} {ge ga gb gk : GE} {p pos tpos : Pos} {elts : List Expr} {kk : Nat}
theorem src_of {K : PySem.W.Frag} {H Z : Hp} {ι : Nat → Addr} {n : Nat} {d : D} {ds : List D} {v : V} (hs : Sub Z H) (r : Rp K Z ι n d v) (h : seqD d = some ds) : ∃ (S : Src) (xs : List V), v = .ref S.addr ∧ S.here K Z xs ∧ Rps K Z ι n ds xs := by
  cases r with
  | lst s r => cases h; exact ⟨.l _, _, rfl, s.sq, r⟩
  | tup s r => cases h; exact ⟨.t _, _, rfl, s, r⟩
  | ptu s r => cases h; exact ⟨.t _, _, rfl, s.sq, r⟩
  | _ => cases h
theorem here_sub {K : PySem.W.Frag} {Z H : Hp} (h : Sub Z H) {S : Src} {xs : List V} : S.here K Z xs → S.here K H xs := by
  cases S with
  | l a =>
    intro q
    rcases (show SqL K Z a xs from q) with (q | ⟨o, q⟩) | q
    · exact .inl (.inl (h _ _ q))
    · exact .inl (.inr ⟨o, h _ _ q⟩)
    · exact .inr q
  | t a => exact fun q => subT h q
theorem itr_en {K : PySem.W.Frag} {Z : Hp} {ι : Nat → Addr} {n : Nat} {S : Src} {xs : List V} {ds : List D} {k : Int} (s : S.here K Z xs) (r : Rps K Z ι n ds xs) : ItR K (Ien K S k) (enumL k ds) Z ι n := by
  intro i H' Z' ι' M' hz hi hn hr _
  have sH : S.here K H' xs := here_sub (fun a o h => hr.sub _ _ (hz _ _ h)) s
  refine ⟨fun hl => ⟨xs, sH, by rw [← r.length, ← enumL_len ds k]; exact hl⟩, fun d hd => ?_⟩
  obtain ⟨d0, h1, rfl⟩ := enumL_get ds k i d hd
  obtain ⟨v, hv, rv⟩ := r.get h1
  refine ⟨⟨xs, v, sH, hv⟩, fun x H2 hy => ?_⟩
  obtain ⟨T, x', rfl, hT, rfl, hx⟩ := hy
  have ex : xs[i]? = some x' := hx _ sH
  rw [hv] at ex
  cases ex
  obtain ⟨q1, q2⟩ := hr.frozen (o := .tup [.int (k + (i : Nat)), v]) hT
  refine ⟨_, q2, q1, .tup (.inl (.inl upd_same)) (.cons (.int _) (.cons ?_ .nil))⟩
  exact Rp.ext (Rp.mono hz hi hn _ _ rv) q2
theorem qi_enum (hg : Gl X "enumerate") (hm : X.mg "enumerate" = none) (ha : QE X C W e ge) (hs : starEach [e] X.env = (false, eval e X.env) :: starEach [] X.env := by rfl) : QI X C W (.Tuple elts kk tpos) (.Call (.Name "enumerate" p) [e] [] pos) (gEnum ge) := by
  obtain ⟨ta, pa, qa⟩ := ha
  refine ⟨fun σ H R => ta σ H fun v H1 => ∃ (S : Src) (xs : List V), v = .ref S.addr ∧ S.here X.K H1 xs ∧ R (Ien X.K S 0) H1, ⟨fun pins s σ H R I h => ?_⟩, fun σ H Z ι Γ M Q sl hr h => qa σ H Z ι Γ M _ sl hr (Post.bind h fun x M1 v H1 Z1 ι1 e1 hr1 r1 h1 => ?_)⟩
  · refine Call_ (ld_blt I hg hm boot_enumerate (PyProof.Rows.callWith_type1 (thn ((pa_cons pa pa_nil hs).run pos pins s σ H (fun vs H1 => ∃ v, vs = [v] ∧ ∃ (S : Src) (xs : List V), v = .ref S.addr ∧ S.here X.K H1 xs ∧ R (Ien X.K S 0) H1) I ?_) fun us s1 hh => ?_) hs rfl))
    · have hmono : (fun x H1 => tNil σ H1 fun xs H2 => ∃ v, x :: xs = [v] ∧ ∃ (S : Src) (ys : List V), v = .ref S.addr ∧ S.here X.K H2 ys ∧ R (Ien X.K S 0) H2) = fun (v : V) (H1 : Hp) => ∃ (S : Src) (xs : List V), v = .ref S.addr ∧ S.here X.K H1 xs ∧ R (Ien X.K S 0) H1 := by
        funext x H1
        apply propext
        constructor
        · rintro ⟨v, ev, q⟩
          cases ev
          exact q
        · intro q
          exact ⟨x, rfl, q⟩
      show ta σ H fun x H1 => tNil σ H1 fun xs H2 => ∃ v, x :: xs = [v] ∧ ∃ (S : Src) (ys : List V), v = .ref S.addr ∧ S.here X.K H2 ys ∧ R (Ien X.K S 0) H2
      rw [hmono]
      exact h
    · obtain ⟨vs, H1, J, r1, v, rfl, S, xs, rfl, hq, q⟩ := hh
      obtain ⟨u, rfl, ru⟩ := Vals.one r1
      cases ru
      obtain ⟨its, rv, har⟩ := Src.inv J hq
      refine call_enum1 (S.begins its.toArray) har fun h' he hit hk => wpAny_pyIter_enum he ?_
      have J2 : Inv X pins σ H1 { s1 with heap := h' } := J.kept (t' := s1.toks) hk
      refine ⟨s1.heap.objs.size + 1, [s1.heap.objs.size + 1, s1.heap.objs.size], _, _, H1, rfl, J2, turn_en S 0 (s1.heap.objs.size + 1) s1.heap.objs.size, ⟨⟨.none, by simpa using he⟩, Src.start hit, Nat.succ_ne_self _⟩, fun b hb => ?_, q⟩
      have le : s1.heap.objs.size ≤ b := by
        rcases List.mem_cons.mp hb with z | z
        · rw [z]; exact Nat.le_succ _
        · have z' : b = s1.heap.objs.size := by simpa using z
          rw [z']
          exact Nat.le_refl _
      exact J.fpOk le (J.hok.fresh le)
  · obtain ⟨items, hd, h2⟩ := Post.of_opR (γ := D) (δ := V) h1
    cases es : seqD x with
    | none => rw [es] at hd; cases hd
    | some ds =>
      rw [es] at hd
      cases hd
      obtain ⟨S, xs, rfl, hS, r⟩ := src_of hr1.sub r1 es
      exact ⟨S, xs, rfl, here_sub hr1.sub hS, h2 _ H1 Z1 ι1 .refl hr1 (itr_en hS r)⟩
theorem qi_enumK (hg : Gl X "enumerate") (hm : X.mg "enumerate" = none) (ha : QE X C W e ge) (hb : QE X C W e2 gk) (hs : starEach [e, e2] X.env = (false, eval e X.env) :: starEach [e2] X.env := by rfl) (hs2 : starEach [e2] X.env = (false, eval e2 X.env) :: starEach [] X.env := by rfl)
    (hpl : (backTo pos (starEach [e2] X.env)).any (·.1) = false := by rfl) : QI X C W (.Tuple elts kk tpos) (.Call (.Name "enumerate" p) [e, e2] [] pos) (gEnumK ge gk) := by
  obtain ⟨ta, pa, qa⟩ := ha
  obtain ⟨tb, pb, qb⟩ := hb
  refine ⟨fun σ H R => ta σ H fun v H1 => tb σ H1 fun u H2 => ∃ (S : Src) (xs : List V) (k : Int), v = .ref S.addr ∧ u = .int k ∧ S.here X.K H2 xs ∧ -(2 ^ 63) ≤ k ∧ k < 2 ^ 63 ∧ R (Ien X.K S k) H2, ⟨fun pins s σ H R I h => ?_⟩,
    fun σ H Z ι Γ M Q sl hr h => qa σ H Z ι Γ M _ sl hr (Post.bind h fun x M1 v H1 Z1 ι1 e1 hr1 r1 h1 => qb σ H1 Z1 ι1 Γ M1 _ (sl.ext e1) hr1 (h1.bind fun y M2 u H2 Z2 ι2 e2 hr2 r2 h2 => ?_))⟩
  · refine Call_ (ld_blt I hg hm boot_enumerate (PyProof.Rows.callWith_type1 (thn ((pa_cons pa (pa_cons pb pa_nil hs2) hs).run pos pins s σ H (fun vs H1 => ∃ v u, vs = [v, u] ∧ ∃ (S : Src) (xs : List V) (k : Int), v = .ref S.addr ∧ u = .int k ∧ S.here X.K H1 xs ∧ -(2 ^ 63) ≤ k ∧ k < 2 ^ 63 ∧ R (Ien X.K S k) H1) I ?_) fun us s1 hh => ?_) hs hpl))
    · have hmono : (fun x H1 => tb σ H1 fun y H2 => tNil σ H2 fun ys H3 => ∃ v u, x :: y :: ys = [v, u] ∧ ∃ (S : Src) (xs : List V) (k : Int), v = .ref S.addr ∧ u = .int k ∧ S.here X.K H3 xs ∧ -(2 ^ 63) ≤ k ∧ k < 2 ^ 63 ∧ R (Ien X.K S k) H3) =
          fun (v : V) (H1 : Hp) => tb σ H1 fun u H2 => ∃ (S : Src) (xs : List V) (k : Int), v = .ref S.addr ∧ u = .int k ∧ S.here X.K H2 xs ∧ -(2 ^ 63) ≤ k ∧ k < 2 ^ 63 ∧ R (Ien X.K S k) H2 := by
        funext x H1
        congr 1
        funext y H2
        apply propext
        constructor
        · rintro ⟨v, u, ev, q⟩
          cases ev
          exact q
        · intro q
          exact ⟨x, y, rfl, q⟩
      show ta σ H fun x H1 => tb σ H1 fun y H2 => tNil σ H2 fun ys H3 => ∃ v u, x :: y :: ys = [v, u] ∧ ∃ (S : Src) (xs : List V) (k : Int), v = .ref S.addr ∧ u = .int k ∧ S.here X.K H3 xs ∧ -(2 ^ 63) ≤ k ∧ k < 2 ^ 63 ∧ R (Ien X.K S k) H3
      rw [hmono]
      exact h
    · obtain ⟨vs, H1, J, r1, v, u, rfl, S, xs, k, rfl, rfl, hq, k1, k2, q⟩ := hh
      obtain ⟨u1, u2, rfl, ru, ru2⟩ := Vals.two r1
      cases ru
      obtain ⟨tk, rfl⟩ := ru2
      obtain ⟨its, rv, har⟩ := Src.inv J hq
      refine enum_begins (S.begins its.toArray) har k1 k2 fun h' he hit _ hk => wpAny_pyIter_enum he ?_
      have J2 : Inv X pins σ H1 { s1 with heap := h' } := J.kept (t' := s1.toks) hk
      refine ⟨s1.heap.objs.size + 1, [s1.heap.objs.size + 1, s1.heap.objs.size], _, _, H1, rfl, J2, turn_en S k (s1.heap.objs.size + 1) s1.heap.objs.size, ⟨⟨.none, by simpa using he⟩, Src.start hit, Nat.succ_ne_self _⟩, fun b hb => ?_, q⟩
      have le : s1.heap.objs.size ≤ b := by
        rcases List.mem_cons.mp hb with z | z
        · rw [z]; exact Nat.le_succ _
        · have z' : b = s1.heap.objs.size := by simpa using z
          rw [z']
          exact Nat.le_refl _
      exact J.fpOk le (J.hok.fresh le)
  · cases r2 with
    | int k =>
      have h3 : Post X C W (rpI X.K) σ H2 Z2 ι2 M2 (if decide (-(2 ^ 63) ≤ k) && decide (k < 2 ^ 63) then opR ((seqD x).map (enumL k)) M2 else .bad) Q := h2
      by_cases c : (decide (-(2 ^ 63) ≤ k) && decide (k < 2 ^ 63)) = true
      · rw [if_pos c] at h3
        simp only [Bool.and_eq_true, decide_eq_true_eq] at c
        obtain ⟨items, hd, h4⟩ := Post.of_opR (γ := D) (δ := V) h3
        cases es : seqD x with
        | none => rw [es] at hd; cases hd
        | some ds =>
          rw [es] at hd
          cases hd
          obtain ⟨S, xs, rfl, hS, r⟩ := src_of hr2.sub (r1.ext e2) es
          exact ⟨S, xs, k, rfl, rfl, here_sub hr2.sub hS, c.1, c.2, h4 _ H2 Z2 ι2 .refl hr2 (itr_en hS r)⟩
      · rw [if_neg c] at h3
        exact h3.elim
    | _ => exact h2.elim
end
end Bk

set_option Elab.async false
set_option linter.all false
set_option maxRecDepth 100000
set_option maxHeartbeats 2000000
namespace Bk
open PySem PySem.Spec PyProof.Rows L2
/-! ### a comprehension over a list of ours, which it leaves as it is -/
theorem opR_ok {α : Type} {o : Option α} {M M' : List MO} {a : α} (h : opR o M = .ok a M') : M' = M := by
  cases o with
  | none => cases h
  | some a => cases h; rfl
def gLcW (ge : GE) (gg : GG) (gt : GT) (gel : GE) (own : List Nat) : GE := fun Γ M => (ge Γ M).bind fun d M1 => match d with
  | .ref k => match M1[k]? with
    | some (.lst ds) => (gLcL gg gt gel (forget Γ own) ds [] M1).bind fun acc M2 => .ok (.lst acc) M2
    | _ => .bad
  | _ => .bad
section
variable {X : Cx} {C : CT} {W : WX} {elt tg iter : Expr} {ifs : List Expr} {scope : Scope} {own : List (Str × Nat)} {pos : Pos} {gi : GE} {gg : GG} {gt : GT} {ge : GE} {is ixs : List Nat}
end
end Bk
namespace Bk
open PySem PySem.Spec PyProof.Rows L2
theorem qs_pre {X : Cx} {C : CT} {W : WX} {st : Stmt} {g : GS} (is : List Nat) (h1 : QS X C W st g) : QS X C W st (gSeq (gForget is) g) := by
  obtain ⟨t, p, q⟩ := h1
  exact ⟨t, p, fun Dd σ H Z ι Γ M sl hr h => q Dd σ H Z ι (forget Γ is) M (sl.forget is) hr h⟩
end Bk

set_option Elab.async false
set_option linter.all false
set_option maxRecDepth 100000
set_option maxHeartbeats 2000000
namespace Bk
open PySem PySem.Spec PyProof.Rows L2
/-! ### ==, for texts of any kind as well -/
def dEqA (M : List MO) (x y : D) : Option D := match x, y with
  | .str a, .str b => some (.bl (decide (a = b)))
  | x, y => dEq M x y
def dNeA (M : List MO) (x y : D) : Option D := match x, y with
  | .str a, .str b => some (.bl (!decide (a = b)))
  | x, y => dNe M x y
section
variable {X : Cx}
theorem op_eqA (hu : X.A.units + 64 < cLine) : OpR X (compareOp .Eq) (fun x y H Q => rEqD X.K x y H Q ∨ rEq x y H Q) := (op_eqD hu).or op_eq
theorem op_neA (hu : X.A.units + 64 < cLine) : OpR X (compareOp .NotEq) (fun x y H Q => rNeD X.K x y H Q ∨ rNe x y H Q) := (op_neD hu).or op_ne
theorem str_dec (a b : Str) : decide (V.str a = V.str b) = decide (a = b) := by simp
theorem ok_eqA : Ok2 X (fun x y H Q => rEqD X.K x y H Q ∨ rEq x y H Q) dEqA := fun x y H Z ι M dx dy d Q hr rx ry e q => by
  unfold dEqA at e
  split at e
  · cases e
    cases rx
    cases ry
    exact .inr ⟨rfl, q.now hr (by rw [str_dec]; exact .bl _)⟩
  · exact .inl (ok_eq x y H Z ι M dx dy d Q hr rx ry e q)
theorem ok_neA : Ok2 X (fun x y H Q => rNeD X.K x y H Q ∨ rNe x y H Q) dNeA := fun x y H Z ι M dx dy d Q hr rx ry e q => by
  unfold dNeA at e
  split at e
  · cases e
    cases rx
    cases ry
    exact .inr ⟨rfl, q.now hr (by rw [str_dec]; exact .bl _)⟩
  · exact .inl (ok_ne x y H Z ι M dx dy d Q hr rx ry e q)
end
@[simp] theorem e_eqS (M : List MO) (a b : Str) : dEqA M (.str a) (.str b) = some (.bl (decide (a = b))) := Eq.trans rfl rfl
@[simp] theorem e_neS (M : List MO) (a b : Str) : dNeA M (.str a) (.str b) = some (.bl (!decide (a = b))) := Eq.trans rfl rfl
/-! ### data that is as it is -/
structure Dt (n : Nat) (d : D) (p : PyData) : Prop where
  e : toP d = some p
  l : p.canLay0 = true
  h : p.depth ≤ n
structure Dts (n : Nat) (ds : List D) (ps : List PyData) : Prop where
  e : toPs ds = some ps
  l : PyData.canLayAll0 ps = true
  h : PyData.depthAll ps ≤ n
theorem Dt.int (n : Nat) (i : Int) : Dt n (.int i) (.int i) := ⟨rfl, rfl, Nat.zero_le _⟩
theorem Dt.non (n : Nat) : Dt n .non .none := ⟨rfl, rfl, Nat.zero_le _⟩
theorem Dt.bl (n : Nat) (b : Bool) : Dt n (.bl b) (.bool b) := ⟨rfl, rfl, Nat.zero_le _⟩
theorem Dts.nil (n : Nat) : Dts n [] [] := ⟨rfl, rfl, Nat.zero_le _⟩
theorem Dts.cons {n : Nat} {d : D} {ds : List D} {p : PyData} {ps : List PyData} (h : Dt n d p) (t : Dts n ds ps) : Dts n (d :: ds) (p :: ps) :=
  ⟨by simp [toPs, h.e, t.e], by simp [PyData.canLayAll0, h.l, t.l], by have := h.h; have := t.h; simp only [PyData.depthAll]; omega⟩
theorem Dts.tup {n : Nat} {ds : List D} {ps : List PyData} (h : Dts n ds ps) : Dt (n + 1) (.tup ds) (.tuple ps) := ⟨by simp [toP, h.e], by simpa [PyData.canLay0] using h.l, by have := h.h; simp only [PyData.depth]; omega⟩
theorem Dts.lst {n : Nat} {ds : List D} {ps : List PyData} (h : Dts n ds ps) : Dt (n + 1) (.lst ds) (.list ps) := ⟨by simp [toP, h.e], by simpa [PyData.canLay0] using h.l, by have := h.h; simp only [PyData.depth]; omega⟩
theorem Dts.map {α : Type} {n : Nat} {f : α → D} {g : α → PyData} (xs : List α) (h : ∀ x ∈ xs, Dt n (f x) (g x)) : Dts n (xs.map f) (xs.map g) := by
  induction xs with
  | nil => exact .nil n
  | cons x xs ih => exact .cons (h x (by simp)) (ih fun y hy => h y (by simp [hy]))
theorem Dts.ints (n : Nat) (is : List Int) : Dts n (is.map D.int) (is.map PyData.int) := Dts.map is fun i _ => .int n i
theorem Dt.shaped {n : Nat} {d : D} {p : PyData} (h : Dt n d p) (hn : n ≤ 64) : SeqAt.shaped p = true := by
  have := h.h
  simp [SeqAt.shaped, h.l]
  omega
theorem eqP_of {n m : Nat} {M : List MO} {x y d d' : D} {p q : PyData} (h : Dt n d p) (h' : Dt m d' q) (hx : deref M x = d) (hy : deref M y = d') (hn : n ≤ 64) (hm : m ≤ 64) : eqP M x y = some (PyData.eqv p q) := by
  unfold eqP
  rw [hx, hy, h.e, h'.e]
  simp [h.shaped hn, h'.shaped hm]
theorem eqv_same {p : PyData} (h : p.canLay0 = true) : PyData.eqv p p = true := SeqAt.eqv_refl p h
theorem eqP_same {n : Nat} {M : List MO} {x y d : D} {p : PyData} (h : Dt n d p) (hx : deref M x = d) (hy : deref M y = d) (hn : n ≤ 64) : eqP M x y = some true := by
  rw [eqP_of h h hx hy hn hn, eqv_same h.l]
theorem dEqA_p {M : List MO} {x y : D} {b : Bool} (h : eqP M x y = some b) (hx : ∀ s, x ≠ .str s) : dEqA M x y = some (.bl b) := by
  unfold dEqA
  split
  · exact absurd rfl (hx _)
  · simp [dEq, h]
theorem dNeA_p {M : List MO} {x y : D} {b : Bool} (h : eqP M x y = some b) (hx : ∀ s, x ≠ .str s) : dNeA M x y = some (.bl !b) := by
  unfold dNeA
  split
  · exact absurd rfl (hx _)
  · simp [dNe, h]
@[simp] theorem dEqA_int (M : List MO) (i j : Int) : dEqA M (.int i) (.int j) = some (.bl (decide (i = j))) := by
  rw [dEqA_p (eqP_of (Dt.int 0 i) (Dt.int 0 j) rfl rfl (by decide) (by decide)) (fun _ h => by cases h)]
  simp only [PyData.eqv]
  congr 2
  try rfl
@[simp] theorem dNeA_int (M : List MO) (i j : Int) : dNeA M (.int i) (.int j) = some (.bl (!decide (i = j))) := by
  rw [dNeA_p (eqP_of (Dt.int 0 i) (Dt.int 0 j) rfl rfl (by decide) (by decide)) (fun _ h => by cases h)]
  simp only [PyData.eqv]
  congr 2
  try rfl
mutual
theorem below_toP : ∀ (d : D) (p : PyData), toP d = some p → below 0 d = true
  | .non, _, _ => rfl
  | .bl _, _, _ => rfl
  | .int _, _, _ => rfl
  | .str _, _, _ => rfl
  | .tup ds, p, h => by
    cases e : toPs ds with
    | none => simp [toP, e] at h
    | some ps => simpa [below] using belows_toPs ds ps e
  | .lst ds, p, h => by
    cases e : toPs ds with
    | none => simp [toP, e] at h
    | some ps => simpa [below] using belows_toPs ds ps e
  | .ref _, _, h => by cases h
  | .dct _ _, _, h => by cases h
  | .lam _ _, _, h => by cases h
  | .exn _ _ _, _, h => by cases h
  | .exv _ _ _ _, _, h => by cases h
  | .dcx _ _, _, h => by cases h
  | .ptu ds, p, h => by
    cases e : toPs ds with
    | none => simp [toP, e] at h
    | some ps => simpa [below] using belows_toPs ds ps e
theorem belows_toPs : ∀ (ds : List D) (ps : List PyData), toPs ds = some ps → belows 0 ds = true
  | [], _, _ => rfl
  | d :: ds, ps, h => by
    cases e1 : toP d with
    | none => simp [toPs, e1] at h
    | some p =>
      cases e2 : toPs ds with
      | none => simp [toPs, e1, e2] at h
      | some ps => simp [belows, below_toP d p e1, belows_toPs ds ps e2]
end
mutual
theorem below_up : ∀ {m : Nat} (d : D), below 0 d = true → below m d = true
  | _, .non, _ => rfl
  | _, .bl _, _ => rfl
  | _, .int _, _ => rfl
  | _, .str _, _ => rfl
  | m, .tup ds, h => by simpa [below] using belows_up ds (by simpa [below] using h)
  | m, .lst ds, h => by simpa [below] using belows_up ds (by simpa [below] using h)
  | _, .ref _, h => by simp [below] at h
  | m, .dct ks vs, h => by
    have h' : belows 0 ks = true ∧ belows 0 vs = true := by simpa [below] using h
    simp [below, belows_up ks h'.1, belows_up vs h'.2]
  | m, .ptu ds, h => by simpa [below] using belows_up ds (by simpa [below] using h)
  | _, .lam _ _, _ => rfl
  | m, .exn _ _ d, h => by simpa [below] using below_up d (by simpa [below] using h)
  | m, .exv _ _ _ d, h => by simpa [below] using below_up d (by simpa [below] using h)
  | m, .dcx _ d, h => by simpa [below] using below_up d (by simpa [below] using h)
theorem belows_up : ∀ {m : Nat} (ds : List D), belows 0 ds = true → belows m ds = true
  | _, [], _ => rfl
  | m, d :: ds, h => by
    simp only [belows, Bool.and_eq_true] at h ⊢
    exact ⟨below_up d h.1, belows_up ds h.2⟩
end
mutual
theorem flat_noref : ∀ (M : List MO) (d : D), below 0 d = true → deref1 M d = d
  | _, .non, _ => rfl
  | _, .bl _, _ => rfl
  | _, .int _, _ => rfl
  | _, .str _, _ => rfl
  | _, .tup _, _ => rfl
  | _, .lst _, _ => rfl
  | _, .ref _, h => by simp [below] at h
  | _, .dct _ _, _ => rfl
  | _, .ptu _, _ => rfl
  | _, .lam _ _, _ => rfl
  | _, .exn _ _ _, _ => rfl
  | _, .exv _ _ _ _, _ => rfl
  | _, .dcx _ _, _ => rfl
end
theorem belows_all {m : Nat} (ds : List D) : belows m ds = ds.all (below m) := by
  induction ds with
  | nil => rfl
  | cons d ds ih => simp [belows, ih]
theorem map_deref {M : List MO} {ds : List D} (h : belows 0 ds = true) : ds.map (deref1 M) = ds := by
  rw [belows_all, List.all_eq_true] at h
  conv => rhs; rw [← List.map_id ds]
  exact List.map_congr_left fun d hd => flat_noref M d (h d hd)
theorem deref_flat {M : List MO} {d : D} (h : below 0 d = true) : deref M d = d := by
  unfold deref
  rw [flat_noref M d h]
  cases d with
  | lst ds =>
    show D.lst (ds.map (deref1 M)) = _
    rw [map_deref (by simpa [below] using h)]
  | _ => rfl
theorem Dt.below {n m : Nat} {d : D} {p : PyData} (h : Dt n d p) : below m d = true := below_up d (below_toP d p h.e)
theorem Dts.belows {n m : Nat} {ds : List D} {ps : List PyData} (h : Dts n ds ps) : belows m ds = true := belows_up ds (belows_toPs ds ps h.e)
theorem Dt.deref {n : Nat} {M : List MO} {d : D} {p : PyData} (h : Dt n d p) : deref M d = d := deref_flat h.below
@[simp] theorem belows_ints (m : Nat) (is : List Int) : belows m (is.map D.int) = true := (Dts.ints 0 is).belows
/-! what repr writes is not too long -/
structure Sh (b : Nat) (p : PyData) : Prop where
  s : p.showable = true
  d : p.hasDict = false
  l : p.leavesShort 13 = true
  b : p.bulk ≤ b
structure Shs (b : Nat) (ps : List PyData) : Prop where
  s : PyData.showableAll ps = true
  d : PyData.hasDictAll ps = false
  l : PyData.leavesShortAll 13 ps = true
  b : PyData.bulkAll ps ≤ b
theorem Sh.int {i : Int} (h : i.natAbs < 10 ^ 12) : Sh 0 (.int i) := ⟨by
  have : i.natAbs.log2 < 1920 := by
    by_cases z : i.natAbs = 0
    · rw [z]; decide
    · have : i.natAbs.log2 < 40 := (Nat.log2_lt z).mpr (by omega)
      omega
  simp [PyData.showable, this], rfl, by simpa [PyData.leavesShort] using PyData.shown_int_le h, Nat.le_refl _⟩
theorem Sh.non : Sh 0 .none := ⟨rfl, rfl, rfl, Nat.le_refl _⟩
theorem Sh.bl (b : Bool) : Sh 0 (.bool b) := ⟨rfl, rfl, rfl, Nat.le_refl _⟩
theorem Shs.nil : Shs 0 [] := ⟨rfl, rfl, rfl, Nat.le_refl _⟩
theorem Shs.cons {b c : Nat} {p : PyData} {ps : List PyData} (h : Sh b p) (t : Shs c ps) : Shs (b + 1 + c) (p :: ps) :=
  ⟨by simp [PyData.showableAll, h.s, t.s], by simp [PyData.hasDictAll, h.d, t.d], by simp [PyData.leavesShortAll, h.l, t.l], by have := h.b; have := t.b; simp only [PyData.bulkAll]; omega⟩
theorem Shs.tup {b : Nat} {ps : List PyData} (h : Shs b ps) : Sh b (.tuple ps) := ⟨by simpa [PyData.showable] using h.s, by simpa [PyData.hasDict] using h.d, by simpa [PyData.leavesShort] using h.l, by simpa [PyData.bulk] using h.b⟩
theorem Shs.lst {b : Nat} {ps : List PyData} (h : Shs b ps) : Sh b (.list ps) := ⟨by simpa [PyData.showable] using h.s, by simpa [PyData.hasDict] using h.d, by simpa [PyData.leavesShort] using h.l, by simpa [PyData.bulk] using h.b⟩
theorem Shs.map {α : Type} {b : Nat} {g : α → PyData} (xs : List α) (h : ∀ x ∈ xs, Sh b (g x)) : Shs (xs.length * (b + 1)) (xs.map g) := by
  induction xs with
  | nil => simpa using Shs.nil
  | cons x xs ih =>
    have := Shs.cons (h x (by simp)) (ih fun y hy => h y (by simp [hy]))
    simp only [List.length_cons, List.map_cons]
    rw [Nat.succ_mul, Nat.add_comm]
    exact this
theorem Shs.ints {is : List Int} (h : ∀ i ∈ is, i.natAbs < 10 ^ 12) : Shs is.length (is.map PyData.int) := by
  have := Shs.map (b := 0) is fun i hi => Sh.int (h i hi)
  simpa using this
end Bk

set_option Elab.async false
set_option linter.all false
set_option maxRecDepth 100000
set_option maxHeartbeats 2000000
namespace Bk
open PySem PySem.Spec PyProof.Rows L2
/-! ### how the functions are worked out -/
section
variable {α β : Type}
@[simp] theorem rb_ok (a : α) (M : List MO) (f : α → List MO → R β) : (R.ok a M).bind f = f a M := Eq.trans rfl rfl
@[simp] theorem rb_ex (c : Nat) (d : D) (M : List MO) (f : α → List MO → R β) : (R.exc c d M : R α).bind f = .exc c d M := Eq.trans rfl rfl
@[simp] theorem rt_ok (Γ : Env) (a : α) (M : List MO) (f : α → List MO → RS) : (R.ok a M).thenS Γ f = f a M := Eq.trans rfl rfl
@[simp] theorem rt_ex (Γ : Env) (c : Nat) (d : D) (M : List MO) (f : α → List MO → RS) : (R.exc c d M : R α).thenS Γ f = .exc c d Γ M := Eq.trans rfl rfl
@[simp] theorem ro_ok (a : α) (M : List MO) (f : α → List MO → R β) : (R.ok a M).only f = f a M := Eq.trans rfl rfl
@[simp] theorem sn_nx (Γ : Env) (M : List MO) (f : Env → List MO → RS) : (RS.nx Γ M).next f = f Γ M := Eq.trans rfl rfl
@[simp] theorem sn_rt (d : D) (M : List MO) (f : Env → List MO → RS) : (RS.rt d M).next f = .rt d M := Eq.trans rfl rfl
@[simp] theorem sn_ct (Γ : Env) (M : List MO) (f : Env → List MO → RS) : (RS.ct Γ M).next f = .ct Γ M := Eq.trans rfl rfl
@[simp] theorem sn_bk (Γ : Env) (M : List MO) (f : Env → List MO → RS) : (RS.bk Γ M).next f = .bk Γ M := Eq.trans rfl rfl
@[simp] theorem sn_ex (c : Nat) (d : D) (Γ : Env) (M : List MO) (f : Env → List MO → RS) : (RS.exc c d Γ M).next f = .exc c d Γ M := Eq.trans rfl rfl
@[simp] theorem st_nx (Γ : Env) (M : List MO) (f : Env → List MO → RS) : (RS.nx Γ M).turn f = f Γ M := Eq.trans rfl rfl
@[simp] theorem st_ct (Γ : Env) (M : List MO) (f : Env → List MO → RS) : (RS.ct Γ M).turn f = f Γ M := Eq.trans rfl rfl
@[simp] theorem st_bk (Γ : Env) (M : List MO) (f : Env → List MO → RS) : (RS.bk Γ M).turn f = .nx Γ M := Eq.trans rfl rfl
@[simp] theorem st_rt (d : D) (M : List MO) (f : Env → List MO → RS) : (RS.rt d M).turn f = .rt d M := Eq.trans rfl rfl
@[simp] theorem st_ex (c : Nat) (d : D) (Γ : Env) (M : List MO) (f : Env → List MO → RS) : (RS.exc c d Γ M).turn f = .exc c d Γ M := Eq.trans rfl rfl
@[simp] theorem opR_some (a : α) (M : List MO) : opR (some a) M = .ok a M := Eq.trans rfl rfl
@[simp] theorem optS_some (Γ : Env) (f : Env → RS) : optS (some Γ) f = f Γ := Eq.trans rfl rfl
end
@[simp] theorem u_gV (i : Nat) (Γ : Env) (M : List MO) : gV i Γ M = (match Γ[i]? with
  | some (some d) => .ok d M
  | _ => .bad) := Eq.trans rfl rfl
@[simp] theorem u_gC (d : D) (Γ : Env) (M : List MO) : gC d Γ M = .ok d M := Eq.trans rfl rfl
@[simp] theorem u_gOp2 (f : List MO → D → D → Option D) (ga gb : GE) (Γ : Env) (M : List MO) : gOp2 f ga gb Γ M = (ga Γ M).bind fun x M1 => (gb Γ M1).bind fun y M2 => opR (f M2 x y) M2 := Eq.trans rfl rfl
@[simp] theorem u_gOp1 (f : List MO → D → Option D) (ga : GE) (Γ : Env) (M : List MO) : gOp1 f ga Γ M = (ga Γ M).bind fun x M1 => opR (f M1 x) M1 := Eq.trans rfl rfl
@[simp] theorem u_gNil (Γ : Env) (M : List MO) : gNil Γ M = .ok [] M := Eq.trans rfl rfl
@[simp] theorem u_gCons (ga : GE) (gr : GA) (Γ : Env) (M : List MO) : gCons ga gr Γ M = (ga Γ M).bind fun x M1 => (gr Γ M1).bind fun xs M2 => .ok (x :: xs) M2 := Eq.trans rfl rfl
@[simp] theorem u_gTup (ga : GA) (Γ : Env) (M : List MO) : gTup ga Γ M = (ga Γ M).bind fun xs M1 => if xs.length ≤ sizeLine then .ok (.tup xs) M1 else .bad := Eq.trans rfl rfl
@[simp] theorem u_gLst (ga : GA) (Γ : Env) (M : List MO) : gLst ga Γ M = (ga Γ M).bind fun xs M1 => if xs.length ≤ sizeLine then .ok (.lst xs) M1 else .bad := Eq.trans rfl rfl
@[simp] theorem u_gLstO (ga : GA) (Γ : Env) (M : List MO) : gLstO ga Γ M = (ga Γ M).bind fun xs M1 => if xs.length ≤ sizeLine then .ok (.ref M1.length) (M1 ++ [.lst xs]) else .bad := Eq.trans rfl rfl
@[simp] theorem u_gCall (f : List MO → List D → Option D) (ga : GA) (Γ : Env) (M : List MO) : gCall f ga Γ M = (ga Γ M).bind fun xs M1 => opR (f M1 xs) M1 := Eq.trans rfl rfl
@[simp] theorem u_gVal (ga : GE) (Γ : Env) (M : List MO) : gVal ga Γ M = (ga Γ M).bind fun x M1 => opR (toBl x) M1 := Eq.trans rfl rfl
@[simp] theorem u_gAndT (a b : GT) (Γ : Env) (M : List MO) : gAndT a b Γ M = (a Γ M).bind fun c M1 => if c = true then b Γ M1 else .ok false M1 := Eq.trans rfl rfl
@[simp] theorem u_gOrT (a b : GT) (Γ : Env) (M : List MO) : gOrT a b Γ M = (a Γ M).bind fun c M1 => if c = true then .ok true M1 else b Γ M1 := Eq.trans rfl rfl
@[simp] theorem u_gNotT (a : GT) (Γ : Env) (M : List MO) : gNotT a Γ M = (a Γ M).bind fun c M1 => .ok (!c) M1 := Eq.trans rfl rfl
@[simp] theorem u_gIfE (c : GT) (a b : GE) (Γ : Env) (M : List MO) : gIfE c a b Γ M = (c Γ M).bind fun k M1 => if k = true then a Γ M1 else b Γ M1 := Eq.trans rfl rfl
@[simp] theorem u_gAndV (a b : GE) (Γ : Env) (M : List MO) : gAndV a b Γ M = ((a Γ M).bind fun x M1 => match x with
  | .bl c => if c = true then b Γ M1 else .ok (.bl false) M1
  | _ => .bad) := Eq.trans rfl rfl
@[simp] theorem u_gOrV (a b : GE) (Γ : Env) (M : List MO) : gOrV a b Γ M = ((a Γ M).bind fun x M1 => match x with
  | .bl c => if c = true then .ok (.bl true) M1 else b Γ M1
  | _ => .bad) := Eq.trans rfl rfl
@[simp] theorem u_gChain (f f' : List MO → D → D → Option D) (ga gb gc : GE) (Γ : Env) (M : List MO) : gChain f f' ga gb gc Γ M = ((ga Γ M).bind fun x M1 => (gb Γ M1).bind fun y M2 => (opR (f M2 x y) M2).bind fun k M3 => match k with
  | .bl c => if c = true then (gc Γ M3).bind fun z M4 => opR (f' M4 y z) M4 else .ok (.bl false) M3
  | _ => .bad) := Eq.trans rfl rfl
@[simp] theorem u_gSeqI (ge : GE) (Γ : Env) (M : List MO) : gSeqI ge Γ M = (ge Γ M).bind fun d M1 => opR (seqD d) M1 := Eq.trans rfl rfl
@[simp] theorem u_gRng1 (ga : GA) (Γ : Env) (M : List MO) : gRng1 ga Γ M = (ga Γ M).bind fun ds M1 => opR (rng1 ds) M1 := Eq.trans rfl rfl
@[simp] theorem u_gRng2 (ga : GA) (Γ : Env) (M : List MO) : gRng2 ga Γ M = (ga Γ M).bind fun ds M1 => opR (rng2 ds) M1 := Eq.trans rfl rfl
@[simp] theorem u_gTo (i : Nat) (d : D) (Γ : Env) : gTo i d Γ = some (Γ.set i (some d)) := Eq.trans rfl rfl
@[simp] theorem u_gToT (gs : GGs) (d : D) (Γ : Env) : gToT gs d Γ = (match d with
  | .tup ds => gs ds Γ
  | _ => none) := Eq.trans rfl rfl
@[simp] theorem u_gToNil (ds : List D) (Γ : Env) : gToNil ds Γ = (match ds with
  | [] => some Γ
  | _ :: _ => none) := Eq.trans rfl rfl
@[simp] theorem u_gToCons (g : GG) (gs : GGs) (ds : List D) (Γ : Env) : gToCons g gs ds Γ = (match ds with
  | [] => none
  | d :: r => (g d Γ).bind fun Γ1 => gs r Γ1) := Eq.trans rfl rfl
@[simp] theorem u_gPass (Γ : Env) (M : List MO) : gPass Γ M = .nx Γ M := Eq.trans rfl rfl
@[simp] theorem u_gSeq (a b : GS) (Γ : Env) (M : List MO) : gSeq a b Γ M = (a Γ M).next b := Eq.trans rfl rfl
@[simp] theorem u_gExpr (ge : GE) (Γ : Env) (M : List MO) : gExpr ge Γ M = (ge Γ M).thenS Γ fun _ M1 => .nx Γ M1 := Eq.trans rfl rfl
@[simp] theorem u_gRet (ge : GE) (Γ : Env) (M : List MO) : gRet ge Γ M = (ge Γ M).thenS Γ fun d M1 => .rt d M1 := Eq.trans rfl rfl
@[simp] theorem u_gRetN (Γ : Env) (M : List MO) : gRetN Γ M = .rt .non M := Eq.trans rfl rfl
@[simp] theorem u_gIf (c : GT) (a b : GS) (Γ : Env) (M : List MO) : gIf c a b Γ M = (c Γ M).thenS Γ fun k M1 => if k = true then a Γ M1 else b Γ M1 := Eq.trans rfl rfl
@[simp] theorem u_gAsg (ge : GE) (gg : GG) (Γ : Env) (M : List MO) : gAsg ge gg Γ M = ((ge Γ M).thenS Γ fun d M1 => match gg d Γ with
  | some Γ' => .nx Γ' M1
  | none => .bad) := Eq.trans rfl rfl
@[simp] theorem u_gBad (Γ : Env) (M : List MO) : gBad Γ M = .bad := Eq.trans rfl rfl
@[simp] theorem u_gForget (is : List Nat) (Γ : Env) (M : List MO) : gForget is Γ M = .nx (forget Γ is) M := Eq.trans rfl rfl
@[simp] theorem u_gFz (i : Nat) (Γ : Env) (M : List MO) : gFz i Γ M = (match Γ[i]? with
  | some (some (.ref k)) => match M[k]? with
    | some (.lst ds) => .nx (Γ.set i (some (.lst ds))) (M.set k .dead)
    | some (.dct ks vs) => .nx (Γ.set i (some (.dct ks vs))) (M.set k .dead)
    | _ => .bad
  | _ => .bad) := Eq.trans rfl rfl
@[simp] theorem u_gScope (a : GS) (Γ : Env) (M : List MO) : gScope a Γ M = gCut M.length (a Γ M) := Eq.trans rfl rfl
@[simp] theorem u_gFor (gi : GI) (gg : GG) (body : GS) (Γ : Env) (M : List MO) : gFor gi gg body Γ M = (gi Γ M).thenS Γ fun ds M1 => gForL gg body ds Γ M1 := Eq.trans rfl rfl
@[simp] theorem u_gYes (Γ : Env) (M : List MO) : gYes Γ M = .ok true M := Eq.trans rfl rfl
@[simp] theorem u_gLc (gi : GI) (gg : GG) (gt : GT) (ge : GE) (own : List Nat) (Γ : Env) (M : List MO) : gLc gi gg gt ge own Γ M = (gi Γ M).bind fun ds M1 => (gLcL gg gt ge (forget Γ own) ds [] M1).bind fun acc M2 => .ok (.lst acc) M2 := Eq.trans rfl rfl
@[simp] theorem u_gLcO (gi : GI) (gg : GG) (gt : GT) (ge : GE) (own : List Nat) (Γ : Env) (M : List MO) : gLcO gi gg gt ge own Γ M = (gi Γ M).bind fun ds M1 => (gLcL gg gt ge (forget Γ own) ds [] M1).bind fun acc M2 => .ok (.ref M2.length) (M2 ++ [.lst acc]) := Eq.trans rfl rfl
@[simp] theorem u_gNoO (Γ : Env) (M : List MO) : gNoO Γ M = .ok none M := Eq.trans rfl rfl
@[simp] theorem u_gO (ge : GE) (Γ : Env) (M : List MO) : gO ge Γ M = (ge Γ M).bind fun d M1 => opR ((toI d).map some) M1 := Eq.trans rfl rfl
@[simp] theorem u_gSl (ge : GE) (lo hi : GO) (Γ : Env) (M : List MO) : gSl ge lo hi Γ M = (ge Γ M).bind fun x M1 => (lo Γ M1).bind fun a M2 => (hi Γ M2).bind fun b M3 => opR (dCut M3 a b x) M3 := Eq.trans rfl rfl
@[simp] theorem u_gRgL (own : Bool) (ga gb : GE) (Γ : Env) (M : List MO) : gRgL own ga gb Γ M = ((ga Γ M).bind fun x M1 => (gb Γ M1).bind fun y M2 => match x, y with
  | .int i, .int j => if rngOk i j = true then (if own = true then .ok (.ref M2.length) (M2 ++ [.lst (rngL i (j - i).toNat)]) else .ok (.lst (rngL i (j - i).toNat)) M2) else .bad
  | _, _ => .bad) := Eq.trans rfl rfl
@[simp] theorem u_gMeth1 (f : MF) (go ge : GE) (Γ : Env) (M : List MO) : gMeth1 f go ge Γ M = (go Γ M).bind fun x M1 => if isListD M1 x = true then (ge Γ M1).bind fun y M2 => mutR M2 x fun ds => f M2 ds y else .bad := Eq.trans rfl rfl
@[simp] theorem u_gMeth0 (f : MF0) (go : GE) (Γ : Env) (M : List MO) : gMeth0 f go Γ M = (go Γ M).bind fun x M1 => mutR M1 x f := Eq.trans rfl rfl
@[simp] theorem u_gSetI (ge go gi : GE) (Γ : Env) (M : List MO) : gSetI ge go gi Γ M = ((ge Γ M).thenS Γ fun v M1 => (go Γ M1).thenS Γ fun o M2 => (gi Γ M2).thenS Γ fun i M3 => match setR M3 o i v with
  | some M4 => .nx Γ M4
  | none => .bad) := Eq.trans rfl rfl
@[simp] theorem u_gAug (i : Nat) (f : Int → Int → Int) (ge : GE) (Γ : Env) (M : List MO) : gAug i f ge Γ M = (match Γ[i]? with
  | some (some (.int a)) => (ge Γ M).thenS Γ fun y M1 => match y with
    | .int b => .nx (Γ.set i (some (.int (f a b)))) M1
    | _ => .bad
  | _ => .bad) := Eq.trans rfl rfl
@[simp] theorem u_gEnum (ge : GE) (Γ : Env) (M : List MO) : gEnum ge Γ M = (ge Γ M).bind fun d M1 => opR ((seqD d).map (enumL 0)) M1 := Eq.trans rfl rfl
@[simp] theorem u_gEnumK (ge : GE) (gk : GE) (Γ : Env) (M : List MO) : gEnumK ge gk Γ M = ((ge Γ M).bind fun d M1 => (gk Γ M1).bind fun k M2 => match k with
  | .int k => if decide (-(2 ^ 63) ≤ k) && decide (k < 2 ^ 63) then opR ((seqD d).map (enumL k)) M2 else .bad
  | _ => .bad) := Eq.trans rfl rfl
@[simp] theorem u_gZip (ga gb : GE) (Γ : Env) (M : List MO) : gZip ga gb Γ M = (ga Γ M).bind fun x M1 => (gb Γ M1).bind fun y M2 => opR (zipO x y) M2 := Eq.trans rfl rfl
@[simp] theorem u_gLcW (ge : GE) (gg : GG) (gt : GT) (gel : GE) (own : List Nat) (Γ : Env) (M : List MO) : gLcW ge gg gt gel own Γ M = ((ge Γ M).bind fun d M1 => match d with
  | .ref k => match M1[k]? with
    | some (.lst ds) => (gLcL gg gt gel (forget Γ own) ds [] M1).bind fun acc M2 => .ok (.lst acc) M2
    | _ => .bad
  | _ => .bad) := Eq.trans rfl rfl
@[simp] theorem u_gCallF (n : Nat) (F : List D → List MO → R D) (ga : GA) (Γ : Env) (M : List MO) : gCallF n F ga Γ M = (ga Γ M).bind fun ds M1 => if ds.length = n then callF F ds M1 else .bad := Eq.trans rfl rfl
@[simp] theorem u_gCallK (n : Nat) (F : List D → List MO → R D) (is : List Nat) (ga gk : GA) (Γ : Env) (M : List MO) : gCallK n F is ga gk Γ M = (ga Γ M).bind fun ds M1 => (gk Γ M1).bind fun es M2 => if (pick (ds ++ es) is).length = n then callF F (pick (ds ++ es) is) M2 else .bad := Eq.trans rfl rfl
@[simp] theorem u_gForL0 (gg : GG) (b : GS) (Γ : Env) (M : List MO) : gForL gg b [] Γ M = .nx Γ M := Eq.trans rfl rfl
@[simp] theorem u_gForLc (gg : GG) (b : GS) (d : D) (ds : List D) (Γ : Env) (M : List MO) : gForL gg b (d :: ds) Γ M = optS (gg d Γ) fun Γ1 => (b Γ1 M).turn (gForL gg b ds) := Eq.trans rfl rfl
@[simp] theorem u_forget0 (Γ : Env) : forget Γ [] = Γ := Eq.trans rfl rfl
@[simp] theorem u_forgetc (Γ : Env) (i : Nat) (is : List Nat) : forget Γ (i :: is) = forget (Γ.set i none) is := Eq.trans rfl rfl
@[simp] theorem u_toBl (b : Bool) : toBl (.bl b) = some b := Eq.trans rfl rfl
@[simp] theorem u_dNot (M : List MO) (b : Bool) : dNot M (.bl b) = some (.bl !b) := Eq.trans rfl rfl
@[simp] theorem u_toI (i : Int) : toI (.int i) = some i := Eq.trans rfl rfl
@[simp] theorem u_rng1 (j : Int) : rng1 [.int j] = if inR j then some (rngL 0 j.toNat) else none := Eq.trans rfl rfl
@[simp] theorem u_rng2 (i j : Int) : rng2 [.int i, .int j] = if inR i && inR j then some (rngL i (j - i).toNat) else none := Eq.trans rfl rfl
@[simp] theorem u_fn1 (f : List MO → D → Option D) (M : List MO) (d : D) : fn1 f M [d] = f M d := Eq.trans rfl rfl
@[simp] theorem u_fn2 (f : List MO → D → D → Option D) (M : List MO) (d e : D) : fn2 f M [d, e] = f M d e := Eq.trans rfl rfl
@[simp] theorem u_isListD (M : List MO) (d : D) : isListD M d = (listD M d).isSome := Eq.trans rfl rfl
@[simp] theorem u_pick0 {α : Type} (l : List α) : pick l [] = [] := Eq.trans rfl rfl
@[simp] theorem u_pickc {α : Type} (l : List α) (i : Nat) (is : List Nat) : pick l (i :: is) = (match l[i]? with
    | some a => a :: pick l is
    | none => pick l is) := Eq.trans rfl rfl
@[simp] theorem bl_non (m : Nat) : below m .non = true := Eq.trans rfl rfl
@[simp] theorem bl_bl (m : Nat) (b : Bool) : below m (.bl b) = true := Eq.trans rfl rfl
@[simp] theorem bl_int (m : Nat) (i : Int) : below m (.int i) = true := Eq.trans rfl rfl
@[simp] theorem bl_str (m : Nat) (x : Str) : below m (.str x) = true := Eq.trans rfl rfl
@[simp] theorem bl_tup (m : Nat) (ds : List D) : below m (.tup ds) = belows m ds := by simp [below]
@[simp] theorem bl_lst (m : Nat) (ds : List D) : below m (.lst ds) = belows m ds := by simp [below]
@[simp] theorem bl_ref (m k : Nat) : below m (.ref k) = decide (k < m) := by simp [below]
@[simp] theorem bls_nil (m : Nat) : belows m [] = true := Eq.trans rfl rfl
@[simp] theorem bls_cons (m : Nat) (d : D) (ds : List D) : belows m (d :: ds) = (below m d && belows m ds) := by simp [belows]
@[simp] theorem bls_app (m : Nat) (ds es : List D) : belows m (ds ++ es) = (belows m ds && belows m es) := by simp [belows_all]
@[simp] theorem blo_lst (m : Nat) (ds : List D) : belowO m (.lst ds) = belows m ds := Eq.trans rfl rfl
@[simp] theorem blo_dead (m : Nat) : belowO m .dead = true := Eq.trans rfl rfl
@[simp] theorem cut_0 (M : List MO) : cutOk 0 M = true := by simp [cutOk]
@[simp] theorem cut_nil (m : Nat) : cutOk m [] = true := by simp [cutOk]
@[simp] theorem cut_s (m : Nat) (o : MO) (M : List MO) : cutOk (m + 1) (o :: M) = ((M.take m).all (belowO (m + 1)) && belowO (m + 1) o) := by simp [cutOk, Bool.and_comm]
@[simp] theorem sz_1 : 1 ≤ sizeLine := by decide
@[simp] theorem sz_2 : 2 ≤ sizeLine := by decide
@[simp] theorem sz_3 : 3 ≤ sizeLine := by decide
@[simp] theorem sz_4 : 4 ≤ sizeLine := by decide
@[simp] theorem sz_5 : 5 ≤ sizeLine := by decide
@[simp] theorem sz_6 : 6 ≤ sizeLine := by decide
@[simp] theorem sz_7 : 7 ≤ sizeLine := by decide
@[simp] theorem sz_8 : 8 ≤ sizeLine := by decide
@[simp] theorem sz_9 : 9 ≤ sizeLine := by decide
@[simp] theorem sz_10 : 10 ≤ sizeLine := by decide
@[simp] theorem sz_11 : 11 ≤ sizeLine := by decide
@[simp] theorem sz_12 : 12 ≤ sizeLine := by decide
@[simp] theorem sz_13 : 13 ≤ sizeLine := by decide
@[simp] theorem sz_14 : 14 ≤ sizeLine := by decide
@[simp] theorem sz_15 : 15 ≤ sizeLine := by decide
@[simp] theorem sz_16 : 16 ≤ sizeLine := by decide
@[simp] theorem sz_17 : 17 ≤ sizeLine := by decide
@[simp] theorem sz_18 : 18 ≤ sizeLine := by decide
@[simp] theorem sz_19 : 19 ≤ sizeLine := by decide
@[simp] theorem sz_20 : 20 ≤ sizeLine := by decide
@[simp] theorem szl_0 : 0 < sizeLine := by decide
@[simp] theorem szl_1 : 1 < sizeLine := by decide
@[simp] theorem szl_2 : 2 < sizeLine := by decide
@[simp] theorem szl_3 : 3 < sizeLine := by decide
@[simp] theorem szl_4 : 4 < sizeLine := by decide
@[simp] theorem szl_5 : 5 < sizeLine := by decide
@[simp] theorem szl_6 : 6 < sizeLine := by decide
@[simp] theorem szl_7 : 7 < sizeLine := by decide
@[simp] theorem szl_8 : 8 < sizeLine := by decide
@[simp] theorem szl_9 : 9 < sizeLine := by decide
@[simp] theorem szl_10 : 10 < sizeLine := by decide
@[simp] theorem szl_11 : 11 < sizeLine := by decide
@[simp] theorem szl_12 : 12 < sizeLine := by decide
@[simp] theorem szl_13 : 13 < sizeLine := by decide
@[simp] theorem szl_14 : 14 < sizeLine := by decide
@[simp] theorem szl_15 : 15 < sizeLine := by decide
@[simp] theorem szl_16 : 16 < sizeLine := by decide
@[simp] theorem szl_17 : 17 < sizeLine := by decide
@[simp] theorem szl_18 : 18 < sizeLine := by decide
@[simp] theorem szl_19 : 19 < sizeLine := by decide
@[simp] theorem szl_20 : 20 < sizeLine := by decide
@[simp] theorem gc_nx (m : Nat) (Γ : Env) (M : List MO) : gCut m (.nx Γ M) = if m ≤ M.length ∧ cutOk m M = true then .nx (clean m Γ) (M.take m) else .bad := Eq.trans rfl rfl
@[simp] theorem gc_ct (m : Nat) (Γ : Env) (M : List MO) : gCut m (.ct Γ M) = if m ≤ M.length ∧ cutOk m M = true then .ct (clean m Γ) (M.take m) else .bad := Eq.trans rfl rfl
@[simp] theorem gc_bk (m : Nat) (Γ : Env) (M : List MO) : gCut m (.bk Γ M) = .bk Γ M := Eq.trans rfl rfl
@[simp] theorem gc_rt (m : Nat) (d : D) (M : List MO) : gCut m (.rt d M) = .rt d M := Eq.trans rfl rfl
@[simp] theorem gc_ex (m c : Nat) (d : D) (Γ : Env) (M : List MO) : gCut m (.exc c d Γ M) = .exc c d Γ M := Eq.trans rfl rfl
@[simp] theorem fi_rt (m : Nat) (d : D) (M : List MO) : fin m (.rt d M) = if m ≤ M.length ∧ cutOk m M = true then retR m M d else .bad := Eq.trans rfl rfl
@[simp] theorem fi_nx (m : Nat) (Γ : Env) (M : List MO) : fin m (.nx Γ M) = if m ≤ M.length ∧ cutOk m M = true then R.ok D.non (M.take m) else .bad := Eq.trans rfl rfl
@[simp] theorem fi_ex (m c : Nat) (d : D) (Γ : Env) (M : List MO) : fin m (.exc c d Γ M) = if m ≤ M.length ∧ cutOk m M = true ∧ below m d = true then .exc c d (M.take m) else .bad := Eq.trans rfl rfl
@[simp] theorem re_non (m : Nat) (M : List MO) : retR m M .non = .ok .non (M.take m) := Eq.trans rfl rfl
@[simp] theorem re_bl (m : Nat) (M : List MO) (b : Bool) : retR m M (.bl b) = .ok (.bl b) (M.take m) := Eq.trans rfl rfl
@[simp] theorem re_int (m : Nat) (M : List MO) (i : Int) : retR m M (.int i) = .ok (.int i) (M.take m) := Eq.trans rfl rfl
@[simp] theorem re_str (m : Nat) (M : List MO) (x : Str) : retR m M (.str x) = .ok (.str x) (M.take m) := Eq.trans rfl rfl
@[simp] theorem re_tup (m : Nat) (M : List MO) (ds : List D) : retR m M (.tup ds) = if belows m ds = true then .ok (.tup ds) (M.take m) else .bad := by simp [retR]
@[simp] theorem re_lst (m : Nat) (M : List MO) (ds : List D) : retR m M (.lst ds) = if belows m ds = true then .ok (.lst ds) (M.take m) else .bad := by simp [retR]
@[simp] theorem re_ref (m : Nat) (M : List MO) (k : Nat) : retR m M (.ref k) = if k < m then .ok (.ref k) (M.take m) else match M[k]? with
    | some (.lst ds) => if belows m ds = true then .ok (.ref m) (M.take m ++ [.lst ds]) else .bad
    | _ => .bad := Eq.trans rfl rfl
@[simp] theorem seqD_l (ds : List D) : seqD (.lst ds) = some ds := Eq.trans rfl rfl
@[simp] theorem seqD_t (ds : List D) : seqD (.tup ds) = some ds := Eq.trans rfl rfl
@[simp] theorem listD_l (M : List MO) (ds : List D) : listD M (.lst ds) = some ds := Eq.trans rfl rfl
@[simp] theorem itemsD_l (M : List MO) (ds : List D) : itemsD M (.lst ds) = some ds := Eq.trans rfl rfl
@[simp] theorem itemsD_t (M : List MO) (ds : List D) : itemsD M (.tup ds) = some ds := Eq.trans rfl rfl
@[simp] theorem itemsD_r (M : List MO) (k : Nat) : itemsD M (.ref k) = listD M (.ref k) := Eq.trans rfl rfl
@[simp] theorem e_add (M : List MO) (i j : Int) : dAdd M (.int i) (.int j) = some (.int (i + j)) := Eq.trans rfl rfl
@[simp] theorem e_addL (M : List MO) (a b : List D) : dAdd M (.lst a) (.lst b) = if a.length + b.length ≤ sizeLine then some (.lst (a ++ b)) else none := Eq.trans rfl rfl
@[simp] theorem e_addT (M : List MO) (a b : List D) : dAdd M (.tup a) (.tup b) = if a.length + b.length ≤ sizeLine then some (.tup (a ++ b)) else none := Eq.trans rfl rfl
@[simp] theorem e_sub (M : List MO) (i j : Int) : dSub M (.int i) (.int j) = some (.int (i - j)) := Eq.trans rfl rfl
theorem e_mul {i j : Int} (M : List MO) (h : mulOk i j = true) : dMulA M (.int i) (.int j) = some (.int (i * j)) := by
  show (if mulOk i j = true then some (D.int (i * j)) else none) = _
  rw [if_pos h]
@[simp] theorem e_mulR (M : List MO) (i : Int) : dMulA M (.int i) (.int 0) = some (.int 0) := by
  rw [e_mul M (by simp [mulOk])]
  simp
@[simp] theorem e_fdiv (M : List MO) (i j : Int) : dFdiv M (.int i) (.int j) = if fdivOk i j = true then some (.int (i / j)) else none := Eq.trans rfl rfl
@[simp] theorem e_mod (M : List MO) (i j : Int) : dMod M (.int i) (.int j) = if 0 < j then some (.int (i % j)) else none := by
  show (if modOk i j = true then _ else _) = _
  simp [modOk]
@[simp] theorem e_pow (M : List MO) (i j : Int) : dPow M (.int i) (.int j) = if powOk i j = true then some (.int (i ^ j.toNat)) else none := Eq.trans rfl rfl
@[simp] theorem e_lt (M : List MO) (i j : Int) : dLt M (.int i) (.int j) = some (.bl (decide (i < j))) := Eq.trans rfl rfl
@[simp] theorem e_le (M : List MO) (i j : Int) : dLe M (.int i) (.int j) = some (.bl (decide (i ≤ j))) := Eq.trans rfl rfl
@[simp] theorem e_gt (M : List MO) (i j : Int) : dGt M (.int i) (.int j) = some (.bl (decide (j < i))) := Eq.trans rfl rfl
@[simp] theorem e_ge (M : List MO) (i j : Int) : dGe M (.int i) (.int j) = some (.bl (decide (j ≤ i))) := Eq.trans rfl rfl
@[simp] theorem e_neg (M : List MO) (i : Int) : dNeg M (.int i) = some (.int (-i)) := Eq.trans rfl rfl
@[simp] theorem e_is0 (M : List MO) : dIsN M .non .non = some (.bl true) := Eq.trans rfl rfl
@[simp] theorem e_is1 (M : List MO) (i : Int) : dIsN M (.int i) .non = some (.bl false) := Eq.trans rfl rfl
@[simp] theorem e_is2 (M : List MO) (i : List D) : dIsN M (.tup i) .non = some (.bl false) := Eq.trans rfl rfl
@[simp] theorem e_is3 (M : List MO) (i : List D) : dIsN M (.lst i) .non = some (.bl false) := Eq.trans rfl rfl
@[simp] theorem e_is4 (M : List MO) (i : Str) : dIsN M (.str i) .non = some (.bl false) := Eq.trans rfl rfl
@[simp] theorem e_is5 (M : List MO) (i : Nat) : dIsN M (.ref i) .non = some (.bl false) := Eq.trans rfl rfl
@[simp] theorem e_ns0 (M : List MO) : dNotN M .non .non = some (.bl false) := Eq.trans rfl rfl
@[simp] theorem e_ns1 (M : List MO) (i : Int) : dNotN M (.int i) .non = some (.bl true) := Eq.trans rfl rfl
@[simp] theorem e_ns2 (M : List MO) (i : List D) : dNotN M (.tup i) .non = some (.bl true) := Eq.trans rfl rfl
@[simp] theorem e_ns3 (M : List MO) (i : List D) : dNotN M (.lst i) .non = some (.bl true) := Eq.trans rfl rfl
@[simp] theorem e_ns4 (M : List MO) (i : Str) : dNotN M (.str i) .non = some (.bl true) := Eq.trans rfl rfl
@[simp] theorem e_ns5 (M : List MO) (i : Nat) : dNotN M (.ref i) .non = some (.bl true) := Eq.trans rfl rfl
@[simp] theorem e_ix (M : List MO) (x : D) (i : Int) : dIx M x (.int i) = (itemsD M x).bind fun ds => atI ds i := Eq.trans rfl rfl
theorem atI_nat (ds : List D) (n : Nat) : atI ds (n : Int) = ds[n]? := by
  unfold atI ixN
  by_cases h : n < ds.length
  · simp [h]
  · simp [h]
@[simp] theorem atI_0 (a : D) (ds : List D) : atI (a :: ds) 0 = some a := (atI_nat _ 0).trans rfl
@[simp] theorem atI_1 (a b : D) (ds : List D) : atI (a :: b :: ds) 1 = some b := (atI_nat _ 1).trans rfl
@[simp] theorem atI_2 (a b c : D) (ds : List D) : atI (a :: b :: c :: ds) 2 = some c := (atI_nat _ 2).trans rfl
@[simp] theorem atI_3 (a b c d : D) (ds : List D) : atI (a :: b :: c :: d :: ds) 3 = some d := (atI_nat _ 3).trans rfl
@[simp] theorem atI_4 (a b c d e : D) (ds : List D) : atI (a :: b :: c :: d :: e :: ds) 4 = some e := (atI_nat _ 4).trans rfl
@[simp] theorem atI_5 (a b c d e f : D) (ds : List D) : atI (a :: b :: c :: d :: e :: f :: ds) 5 = some f := (atI_nat _ 5).trans rfl
@[simp] theorem e_lenL (M : List MO) (ds : List D) : dLen M (.lst ds) = some (.int ds.length) := Eq.trans rfl rfl
@[simp] theorem e_lenT (M : List MO) (ds : List D) : dLen M (.tup ds) = some (.int ds.length) := Eq.trans rfl rfl
@[simp] theorem e_lenR (M : List MO) (k : Nat) : dLen M (.ref k) = (listD M (.ref k)).map fun ds => .int ds.length := Eq.trans rfl rfl
@[simp] theorem e_lenS (M : List MO) (x : Str) : dLen M (.str x) = if x.length ≤ sizeLine then some (.int x.length) else none := Eq.trans rfl rfl
@[simp] theorem e_intI (M : List MO) (i : Int) : dInt M (.int i) = some (.int i) := Eq.trans rfl rfl
@[simp] theorem e_intB (M : List MO) (b : Bool) : dInt M (.bl b) = some (.int (if b then 1 else 0)) := Eq.trans rfl rfl
@[simp] theorem e_str (M : List MO) (i : Int) : dStr M (.int i) = if i.natAbs.log2 < 1920 then some (.str (toString i)) else none := Eq.trans rfl rfl
@[simp] theorem e_min2 (M : List MO) (i j : Int) : dMin2 M (.int i) (.int j) = some (.int (if j < i then j else i)) := Eq.trans rfl rfl
@[simp] theorem e_max2 (M : List MO) (i j : Int) : dMax2 M (.int i) (.int j) = some (.int (if i < j then j else i)) := Eq.trans rfl rfl
@[simp] theorem e_isi_ii (M : List MO) (i : Int) : dIsi "int" M (.int i) = some (.bl true) := Eq.trans rfl rfl
@[simp] theorem e_isi_ib (M : List MO) (i : Int) : dIsi "bool" M (.int i) = some (.bl false) := Eq.trans rfl rfl
@[simp] theorem e_isi_ll (M : List MO) (ds : List D) : dIsi "list" M (.lst ds) = some (.bl true) := Eq.trans rfl rfl
@[simp] theorem e_isi_tt (M : List MO) (ds : List D) : dIsi "tuple" M (.tup ds) = some (.bl true) := Eq.trans rfl rfl
@[simp] theorem e_isi_ss (M : List MO) (ds : Str) : dIsi "str" M (.str ds) = some (.bl true) := Eq.trans rfl rfl
@[simp] theorem e_isi_is (M : List MO) (i : Int) : dIsi "str" M (.int i) = some (.bl false) := Eq.trans rfl rfl
@[simp] theorem e_isiT_l (M : List MO) (ds : List D) : dIsiT ["list", "tuple"] M (.lst ds) = some (.bl true) := Eq.trans rfl rfl
@[simp] theorem e_isiT_t (M : List MO) (ds : List D) : dIsiT ["list", "tuple"] M (.tup ds) = some (.bl true) := Eq.trans rfl rfl
theorem toVs_ints (is : List Int) : toVs (is.map D.int) = some (is.map V.int) := by
  induction is with
  | nil => rfl
  | cons i is ih => simp [toVs, toV, ih]
theorem inV_ints (i : Int) (is : List Int) : inV (V.int i) (is.map V.int) = decide (i ∈ is) := by
  induction is with
  | nil => rfl
  | cons j is ih =>
    have e : eqV (V.int j) (V.int i) = decide (j = i) := Eq.trans rfl rfl
    rw [List.map_cons]
    unfold inV at ih ⊢
    rw [List.any_cons, ih, e]
    by_cases h : j = i
    · subst h
      simp
    · have h' : ¬ i = j := fun e => h e.symm
      simp [h, h']
@[simp] theorem e_inL (M : List MO) (i : Int) (is : List Int) : dIn M (.int i) (.lst (is.map D.int)) = some (.bl (decide (i ∈ is))) := by
  simp [dIn, inP, toV, toVs_ints, inV_ints]
@[simp] theorem e_inT (M : List MO) (i : Int) (is : List Int) : dIn M (.int i) (.tup (is.map D.int)) = some (.bl (decide (i ∈ is))) := by
  simp [dIn, inP, toV, toVs_ints, inV_ints]
@[simp] theorem e_niL (M : List MO) (i : Int) (is : List Int) : dNotIn M (.int i) (.lst (is.map D.int)) = some (.bl (!decide (i ∈ is))) := by
  simp [dNotIn, inP, toV, toVs_ints, inV_ints]
@[simp] theorem e_niT (M : List MO) (i : Int) (is : List Int) : dNotIn M (.int i) (.tup (is.map D.int)) = some (.bl (!decide (i ∈ is))) := by
  simp [dNotIn, inP, toV, toVs_ints, inV_ints]
end Bk
namespace Bk
open PySem PySem.Spec PyProof.Rows L2
theorem mulOk_l {i : Int} (j : Int) (h1 : -(2 ^ 64) < i) (h2 : i < 2 ^ 64) : mulOk i j = true := by
  simp only [mulOk, Bool.or_eq_true, Bool.and_eq_true, decide_eq_true_eq]
  omega
theorem mulOk_r (i : Int) {j : Int} (h1 : -(2 ^ 64) < j) (h2 : j < 2 ^ 64) : mulOk i j = true := by
  simp only [mulOk, Bool.or_eq_true, Bool.and_eq_true, decide_eq_true_eq]
  omega
theorem mulOk_m (x y : Int) {n : Int} (h0 : 0 < n) (h : n ≤ 2 ^ 63) : mulOk (x % n) y = true := by
  have a := Int.emod_nonneg x (by omega : n ≠ 0)
  have b := Int.emod_lt_of_pos x h0
  exact mulOk_l y (by omega) (by omega)
theorem mulOk_m1 (x y : Int) {n : Int} (h0 : 0 < n) (h : n ≤ 2 ^ 63) : mulOk (x % n + 1) y = true := by
  have a := Int.emod_nonneg x (by omega : n ≠ 0)
  have b := Int.emod_lt_of_pos x h0
  exact mulOk_l y (by omega) (by omega)
end Bk

set_option Elab.async false
set_option linter.all false
set_option maxRecDepth 100000
set_option maxHeartbeats 2000000
namespace Bk
open PySem PySem.Spec PyProof.Rows L2
/-! ### calls that lend nothing -/
theorem lendK_nil : ∀ {ds : List D}, belows 0 ds = true → lendK ds = []
  | [], _ => rfl
  | d :: ds, h => by
    simp only [belows, Bool.and_eq_true] at h
    cases d with
    | ref k => simp [below] at h
    | _ =>
      have ih := lendK_nil h.2
      simpa [lendK] using ih
theorem lendA_nil : ∀ {m : Nat} {ds : List D}, belows 0 ds = true → lendA m ds = ds
  | _, [], _ => rfl
  | m, d :: ds, h => by
    simp only [belows, Bool.and_eq_true] at h
    cases d with
    | ref k => simp [below] at h
    | _ => simp [lendA, lendA_nil h.2]
theorem flatArgs_of : ∀ {ds : List D}, belows 0 ds = true → flatArgs ds = true
  | [], _ => rfl
  | d :: ds, h => by
    simp only [belows, Bool.and_eq_true] at h
    cases d with
    | ref k => simp [below] at h
    | _ => simp [flatArgs, flatArgs_of h.2, h.1]
theorem backD_flat {n : Nat} {d : D} (h : below 0 d = true) : backD [] n d = some d := by
  cases d with
  | ref k => simp [below] at h
  | _ => simp [backD, h]
theorem c_flat {F : List D → List MO → R D} {ds : List D} {d : D} (h : F ds [] = .ok d []) (M : List MO) (ha : belows 0 ds = true) (hd : below 0 d = true) : callF F ds M = .ok d M := by
  simp [callF, lendK_nil ha, getAll, flatArgs_of ha, lentOk, lendA_nil ha, h, backD_flat hd, setAll]
/-- a call that raises -/
theorem c_flatX {F : List D → List MO → R D} {ds : List D} {d : D} {c : Nat} (h : F ds [] = .exc c d []) (M : List MO) (ha : belows 0 ds = true) (hd : below 0 d = true) : callF F ds M = .exc c d M := by
  simp [callF, lendK_nil ha, getAll, flatArgs_of ha, lentOk, lendA_nil ha, h, hd, setAll]
/-! ### numbers in a row -/
def intR (lo : Int) : Nat → List Int
  | 0 => []
  | n + 1 => lo :: intR (lo + 1) n
theorem rngL_int : ∀ (n : Nat) (lo : Int), rngL lo n = (intR lo n).map D.int
  | 0, _ => rfl
  | n + 1, lo => by simp [rngL, intR, rngL_int n]
@[simp] theorem intR_length : ∀ (n : Nat) (lo : Int), (intR lo n).length = n
  | 0, _ => rfl
  | n + 1, lo => by simp [intR, intR_length n]
theorem mem_intR : ∀ {n : Nat} {lo i : Int}, i ∈ intR lo n ↔ lo ≤ i ∧ i < lo + n
  | 0, lo, i => by simp [intR]; try omega
  | n + 1, lo, i => by
    simp only [intR, List.mem_cons, mem_intR]
    omega
/-! ### lists made by comprehensions -/
theorem lcL_map {gg : GG} {ge : GE} {Γ : Env} {M : List MO} {f : D → D} : ∀ (ds acc : List D), acc.length + ds.length ≤ sizeLine → (∀ d ∈ ds, ∃ Γ1, gg d Γ = some Γ1 ∧ ge Γ1 M = .ok (f d) M) → gLcL gg gYes ge Γ ds acc M = .ok (acc ++ ds.map f) M
  | [], acc, _, _ => by simp [gLcL]
  | d :: ds, acc, h, hf => by
    obtain ⟨Γ1, h1, h2⟩ := hf d (by simp)
    simp only [List.length_cons] at h
    have ih := lcL_map (gg := gg) (ge := ge) (Γ := Γ) (M := M) (f := f) ds (acc ++ [f d]) (by simp; omega) fun e he => hf e (by simp [he])
    have q : acc.length < sizeLine := by omega
    simp [gLcL, h1, h2, q, ih]
/-! ### walks -/
theorem forL_cons {gg : GG} {b : GS} {d : D} {ds : List D} {Γ Γ1 Γ2 : Env} {M M2 : List MO} (h1 : gg d Γ = some Γ1) (h2 : b Γ1 M = .nx Γ2 M2) : gForL gg b (d :: ds) Γ M = gForL gg b ds Γ2 M2 := by simp [h1, h2]
theorem while_go {gt : GT} {b : GS} {n : Nat} {Γ Γ2 : Env} {M M1 M2 : List MO} (h1 : gt Γ M = .ok true M1) (h2 : b Γ M1 = .nx Γ2 M2) : gWhile gt b (n + 1) Γ M = gWhile gt b n Γ2 M2 := by simp [gWhile, h1, h2]
theorem while_end {gt : GT} {b : GS} {n : Nat} {Γ : Env} {M M1 : List MO} (h1 : gt Γ M = .ok false M1) : gWhile gt b (n + 1) Γ M = .nx Γ M1 := by simp [gWhile, h1]
theorem inR_of {i : Int} (h1 : -(2 ^ 62) ≤ i) (h2 : i < 2 ^ 62) : inR i = true := by simp [inR]; omega
@[simp] theorem append_run (M : List MO) (ds : List D) (y : D) : mAppend M ds y = if ds.length < sizeLine then some (ds ++ [y], .non) else none := rfl
theorem cutD_upto {ds : List D} {n : Nat} : cutD ds none (some (n : Int)) = ds.take n := by
  unfold cutD
  rw [HT.sIx_none, HT.sIx_nat]
  simp
end Bk
namespace Bk
end Bk

set_option Elab.async false
set_option linter.all false
set_option maxRecDepth 100000
set_option maxHeartbeats 2000000
namespace Bk
open PySem PySem.Spec PyProof.Rows L2
/-! ### zip of two lists or tuples of any kind -/
def Izz (K : PySem.W.Frag) (S1 S2 : Src) : It :=
  ⟨fun n H => ∃ (xs ys : List V) (x y : V), S1.here K H xs ∧ S2.here K H ys ∧ xs[n]? = some x ∧ ys[n]? = some y, fun n H v H' => ∃ T x y, v = .ref T ∧ H T = none ∧ H' = upd H T (.tup [x, y]) ∧ (∀ xs, S1.here K H xs → xs[n]? = some x) ∧ ∀ ys, S2.here K H ys → ys[n]? = some y, fun n H => ∃ xs ys : List V, S1.here K H xs ∧ S2.here K H ys ∧ min xs.length ys.length = n⟩
theorem turn_zz {P : Program} {w : World} {K : PySem.W.Frag} {elts : List Expr} {kk : Nat} {tpos : Pos} (S1 S2 : Src) (N : Nat) (lt1 : S1.addr < N) (lt2 : S2.addr < N) :
    Turn P w K (.Tuple elts kk tpos) (Izz K S1 S2) [N + 4, N + 2, N + 3, N, N + 1] (N + 4) (fun n h => IsZip h (N + 4) (N + 2) (N + 3) .none ∧ IsTupOf2 h (N + 2) (.ref N) (.ref (N + 1)) ∧ (∃ a1 a2, IsTupOf2 h (N + 3) a1 a2) ∧ S1.it h N n ∧ S2.it h (N + 1) n) where
  mem := List.mem_cons_self
  obj := fun n h st b hb => by
    obtain ⟨hz, hTI, ⟨x, y, hTO⟩, h1, h2⟩ := st
    have e' : b = N + 4 ∨ b = N + 2 ∨ b = N + 3 ∨ b = N ∨ b = N + 1 := by simpa using hb
    rcases e' with q | q | q | q | q
    · rw [q]; exact ⟨_, hz, fun v q => nomatch q⟩
    · rw [q]; exact ⟨_, hTI, fun v q => nomatch q⟩
    · rw [q]; exact ⟨_, hTO, fun v q => nomatch q⟩
    · rw [q]; exact Src.it_obj h1
    · rw [q]; exact Src.it_obj h2
  keep := fun n h h' st k => by
    obtain ⟨hz, hTI, ⟨x, y, hTO⟩, h1, h2⟩ := st
    exact ⟨k _ (by simp) _ hz, k _ (by simp) _ hTI, ⟨x, y, k _ (by simp) _ hTO⟩, Src.it_at h1 fun o q => k _ (by simp) o q, Src.it_at h2 fun o q => k _ (by simp) o q⟩
  item := by
    intro X hP hw hK hc n pins s σ H E I hf st hg
    subst hP hw hK
    obtain ⟨xs, ys, x, y, hqx, hqy, hx, hy⟩ := hg
    obtain ⟨hz, hTI, hTO, h1, h2⟩ := st
    obtain ⟨its1, rv1, har1⟩ := Src.inv I hqx
    obtain ⟨its2, rv2, har2⟩ := Src.inv I hqy
    obtain ⟨u1, hu1, ru1⟩ := rv1.get hx
    obtain ⟨u2, hu2, ru2⟩ := rv2.get hy
    have hh : X.A.in1.handled = none := I.ok.hd hc
    have Wk := WalksT.zipD2 (prog := X.prog) (w := X.w) (A := X.A) (zip_sep2 (N := N) (fp1 := [S1.addr]) (fp2 := [S2.addr]) (fun b hb => by rw [List.mem_singleton.mp hb]; exact lt1) (fun b hb => by rw [List.mem_singleton.mp hb]; exact lt2))
      (Src.draws hh S1 N (Nat.ne_of_lt lt1) its1.toArray) (Src.draws hh S2 (N + 1) (by have q : S2.addr ≠ N + 1 := Nat.ne_of_lt (Nat.lt_succ_of_lt lt2); exact q) its2.toArray)
    have ln1 : n < its1.toArray.size := by
      have := (List.getElem?_eq_some_iff.mp hu1).1
      simpa using this
    have ln2 : n < its2.toArray.size := by
      have := (List.getElem?_eq_some_iff.mp hu2).1
      simpa using this
    refine Wk.item n s _ E (by omega) ⟨hz, hTI, hTO, ⟨h1, har1⟩, ⟨h2, har2⟩⟩ fun T vals h' tk hP hT hTup hMid hk => ⟨_, rfl, Wk.go elts kk tpos n T _ _ _ hMid fun h2' hSt hk2 => ?_⟩
    obtain ⟨x1, x2, p1, p2, hvals⟩ := hP
    subst hvals
    have ex1 : x1 = u1 := by
      have q : its1.toArray[n]? = some u1 := by simpa using hu1
      rw [p1] at q
      exact Option.some.inj q
    have ex2 : x2 = u2 := by
      have q : its2.toArray[n]? = some u2 := by simpa using hu2
      rw [p2] at q
      exact Option.some.inj q
    subst ex1 ex2
    have out := Wk.apart n T _ hMid
    have tup2 : h2'.IsTuple T #[x1, x2] := hTup.at fun o q => hk2 T o out q
    have new : ObjOk X.prog X.w (upd H T (.tup [x, y])) h2' T (.tup [x, y]) :=
      ⟨by show 2 ≤ sizeLine; decide, [x1, x2], .cons ru1 (.cons ru2 .nil), tup2⟩
    have sub : ∀ c, c ∉ [N + 4, N + 2, N + 3, N, N + 1] → c ∉ [N + 4, N + 3, N, N + 1] := fun c hc q => hc (by
      have e' : c = N + 4 ∨ c = N + 3 ∨ c = N ∨ c = N + 1 := by simpa using q
      rcases e' with z | z | z | z <;> simp [z])
    have J := I.turnedNew (t' := tk) (ch := [N + 4, N + 2, N + 3, N, N + 1]) (fun b ob hb q => hk2 b ob (sub b hb) (hk b ob (sub b hb) q)) hf hT new
    refine ⟨.ref T, _, J, rfl, ⟨T, x, y, rfl, I.hok.fresh hT, rfl, fun ys' hy' => by rw [Src.inj I hy' hqx]; exact hx, fun ys' hy' => by rw [Src.inj I hy' hqy]; exact hy⟩, ?_, fun b hb => ?_⟩
    · obtain ⟨g1, g2, g3, ⟨g4, _⟩, ⟨g5, _⟩⟩ := hSt
      exact ⟨g1, g2, g3, g4, g5⟩
    · have hb' : b < s.heap.objs.size := by
        have e' : b = N + 4 ∨ b = N + 2 ∨ b = N + 3 ∨ b = N ∨ b = N + 1 := by simpa using hb
        rcases e' with q | q | q | q | q
        · rw [q]; exact Heap.lt_size hz
        · rw [q]; exact Heap.lt_size hTI
        · rw [q]; obtain ⟨_, _, q'⟩ := hTO; exact Heap.lt_size q'
        · rw [q]; obtain ⟨_, q', _⟩ := Src.it_obj h1; exact Heap.lt_size q'
        · rw [q]; obtain ⟨_, q', _⟩ := Src.it_obj h2; exact Heap.lt_size q'
      rw [upd_ne (Nat.ne_of_lt (Nat.lt_of_lt_of_le hb' hT))]
      exact (hf b hb).1
  done := by
    intro X hP hw hK hc n pins s σ H E I hf st hg
    subst hP hw hK
    obtain ⟨xs, ys, hqx, hqy, hl⟩ := hg
    obtain ⟨hz, hTI, hTO, h1, h2⟩ := st
    obtain ⟨its1, rv1, har1⟩ := Src.inv I hqx
    obtain ⟨its2, rv2, har2⟩ := Src.inv I hqy
    have hh : X.A.in1.handled = none := I.ok.hd hc
    have Wk := WalksT.zipD2 (prog := X.prog) (w := X.w) (A := X.A) (zip_sep2 (N := N) (fp1 := [S1.addr]) (fp2 := [S2.addr]) (fun b hb => by rw [List.mem_singleton.mp hb]; exact lt1) (fun b hb => by rw [List.mem_singleton.mp hb]; exact lt2))
      (Src.draws hh S1 N (Nat.ne_of_lt lt1) its1.toArray) (Src.draws hh S2 (N + 1) (by have q : S2.addr ≠ N + 1 := Nat.ne_of_lt (Nat.lt_succ_of_lt lt2); exact q) its2.toArray)
    have en : min its1.toArray.size its2.toArray.size = n := by rw [List.size_toArray, List.size_toArray, ← rv1.length, ← rv2.length]; exact hl
    rw [en] at Wk
    have sub : ∀ c, c ∉ [N + 4, N + 2, N + 3, N, N + 1] → c ∉ [N + 4, N + 3, N, N + 1] := fun c hc q => hc (by
      have e' : c = N + 4 ∨ c = N + 3 ∨ c = N ∨ c = N + 1 := by simpa using q
      rcases e' with z | z | z | z <;> simp [z])
    exact Wk.done s _ E ⟨hz, hTI, hTO, ⟨h1, har1⟩, ⟨h2, har2⟩⟩ fun h' tk hk => ⟨rfl, I.turnedL (t' := tk) (ch := [N + 4, N + 2, N + 3, N, N + 1]) (fun b ob hb q => hk b ob (sub b hb) q) hf⟩
  self := fun A n s Q E st h => wpAny_pyIter_zip st.1 h
theorem itr_zz {K : PySem.W.Frag} {Z : Hp} {ι : Nat → Addr} {n : Nat} {S1 S2 : Src} {xs ys : List V} {ds es : List D} (s1 : S1.here K Z xs) (s2 : S2.here K Z ys) (r1 : Rps K Z ι n ds xs) (r2 : Rps K Z ι n es ys) : ItR K (Izz K S1 S2) (zipL ds es) Z ι n := by
  intro i H' Z' ι' M' hz hi hn hr _
  have sH : S1.here K H' xs := here_sub (fun a o h => hr.sub _ _ (hz _ _ h)) s1
  have sK : S2.here K H' ys := here_sub (fun a o h => hr.sub _ _ (hz _ _ h)) s2
  refine ⟨fun hl => ⟨xs, ys, sH, sK, by rw [← r1.length, ← r2.length, ← zipL_len]; exact hl⟩, fun d hd => ?_⟩
  obtain ⟨d0, e0, h1, h2, rfl⟩ := zipL_get ds es i d hd
  obtain ⟨v, hv, rv⟩ := r1.get h1
  obtain ⟨u, hu, ru⟩ := r2.get h2
  refine ⟨⟨xs, ys, v, u, sH, sK, hv, hu⟩, fun x H2 hy => ?_⟩
  obtain ⟨T, x', y', rfl, hT, rfl, hx, hy⟩ := hy
  have ex : xs[i]? = some x' := hx _ sH
  rw [hv] at ex
  cases ex
  have ey : ys[i]? = some y' := hy _ sK
  rw [hu] at ey
  cases ey
  obtain ⟨q1, q2⟩ := hr.frozen (o := .tup [v, u]) hT
  refine ⟨_, q2, q1, .tup (.inl (.inl upd_same)) (.cons ?_ (.cons ?_ .nil))⟩
  · exact Rp.ext (Rp.mono hz hi hn _ _ rv) q2
  · exact Rp.ext (Rp.mono hz hi hn _ _ ru) q2
section
variable {X : Cx} {C : CT} {W : WX} {e e2 : Expr} {ga gb : GE} {p pos tpos : Pos} {elts : List Expr} {kk : Nat}
theorem qi_zip (hg : Gl X "zip") (hm : X.mg "zip" = none) (ha : QE X C W e ga) (hb : QE X C W e2 gb) (hs : starEach [e, e2] X.env = (false, eval e X.env) :: starEach [e2] X.env := by rfl) (hs2 : starEach [e2] X.env = (false, eval e2 X.env) :: starEach [] X.env := by rfl)
    (hpl : (backTo pos (starEach [e2] X.env)).any (·.1) = false := by rfl) : QI X C W (.Tuple elts kk tpos) (.Call (.Name "zip" p) [e, e2] [] pos) (gZip ga gb) := by
  obtain ⟨ta, pa, qa⟩ := ha
  obtain ⟨tb, pb, qb⟩ := hb
  refine ⟨fun σ H R => ta σ H fun v H1 => tb σ H1 fun u H2 => ∃ (S1 S2 : Src) (xs ys : List V), v = .ref S1.addr ∧ u = .ref S2.addr ∧ S1.here X.K H2 xs ∧ S2.here X.K H2 ys ∧ R (Izz X.K S1 S2) H2, ⟨fun pins s σ H R I h => ?_⟩,
    fun σ H Z ι Γ M Q sl hr h => qa σ H Z ι Γ M _ sl hr (Post.bind h fun x M1 v H1 Z1 ι1 e1 hr1 r1 h1 => qb σ H1 Z1 ι1 Γ M1 _ (sl.ext e1) hr1 (h1.bind fun y M2 u H2 Z2 ι2 e2 hr2 r2 h2 => ?_))⟩
  · refine Call_ (ld_blt I hg hm boot_zip (PyProof.Rows.callWith_type1 (thn ((pa_cons pa (pa_cons pb pa_nil hs2) hs).run pos pins s σ H (fun vs H1 => ∃ v u, vs = [v, u] ∧ ∃ (S1 S2 : Src) (xs ys : List V), v = .ref S1.addr ∧ u = .ref S2.addr ∧ S1.here X.K H1 xs ∧ S2.here X.K H1 ys ∧ R (Izz X.K S1 S2) H1) I ?_) fun us s1 hh => ?_) hs hpl))
    · have hmono : (fun x H1 => tb σ H1 fun y H2 => tNil σ H2 fun ys H3 => ∃ v u, x :: y :: ys = [v, u] ∧ ∃ (S1 S2 : Src) (xs zs : List V), v = .ref S1.addr ∧ u = .ref S2.addr ∧ S1.here X.K H3 xs ∧ S2.here X.K H3 zs ∧ R (Izz X.K S1 S2) H3) =
          fun (v : V) (H1 : Hp) => tb σ H1 fun u H2 => ∃ (S1 S2 : Src) (xs ys : List V), v = .ref S1.addr ∧ u = .ref S2.addr ∧ S1.here X.K H2 xs ∧ S2.here X.K H2 ys ∧ R (Izz X.K S1 S2) H2 := by
        funext x H1
        congr 1
        funext y H2
        apply propext
        constructor
        · rintro ⟨v, u, ev, q⟩
          cases ev
          exact q
        · intro q
          exact ⟨x, y, rfl, q⟩
      show ta σ H fun x H1 => tb σ H1 fun y H2 => tNil σ H2 fun ys H3 => ∃ v u, x :: y :: ys = [v, u] ∧ ∃ (S1 S2 : Src) (xs zs : List V), v = .ref S1.addr ∧ u = .ref S2.addr ∧ S1.here X.K H3 xs ∧ S2.here X.K H3 zs ∧ R (Izz X.K S1 S2) H3
      rw [hmono]
      exact h
    · obtain ⟨vs, H1, J, r1, v, u, rfl, S1, S2, xs, ys, rfl, rfl, hq1, hq2, q⟩ := hh
      obtain ⟨u1, u2, rfl, ru, ru2⟩ := Vals.two r1
      cases ru
      cases ru2
      obtain ⟨its1, rv1, har1⟩ := Src.inv J hq1
      obtain ⟨its2, rv2, har2⟩ := Src.inv J hq2
      refine zip_begins2 (S1.begins its1.toArray) (S2.begins its2.toArray) har1 har2 fun h' hz hTI hTO hi1 hi2 hsz hk => wpAny_pyIter_zip hz ?_
      have J2 : Inv X pins σ H1 { s1 with heap := h' } := J.kept (t' := s1.toks) hk
      refine ⟨s1.heap.objs.size + 4, [s1.heap.objs.size + 4, s1.heap.objs.size + 2, s1.heap.objs.size + 3, s1.heap.objs.size, s1.heap.objs.size + 1], _, _, H1, rfl, J2, turn_zz S1 S2 s1.heap.objs.size (Src.arr_lt har1) (Src.arr_lt har2), ⟨hz, hTI, ⟨_, _, hTO⟩, Src.start hi1, Src.start hi2⟩, fun b hb => ?_, q⟩
      have e' : b = s1.heap.objs.size + 4 ∨ b = s1.heap.objs.size + 2 ∨ b = s1.heap.objs.size + 3 ∨ b = s1.heap.objs.size ∨ b = s1.heap.objs.size + 1 := by simpa using hb
      have le : s1.heap.objs.size ≤ b := by
        rcases e' with z | z | z | z | z
        · rw [z]; exact Nat.le_add_right _ _
        · rw [z]; exact Nat.le_add_right _ _
        · rw [z]; exact Nat.le_add_right _ _
        · rw [z]; exact Nat.le_refl _
        · rw [z]; exact Nat.le_add_right _ _
      exact J.fpOk le (J.hok.fresh le)
  · obtain ⟨items, hd, h3⟩ := Post.of_opR (γ := D) (δ := V) h2
    unfold zipO at hd
    cases es : seqD x with
    | none => rw [es] at hd; cases hd
    | some ds =>
      cases et : seqD y with
      | none => rw [es, et] at hd; cases hd
      | some dt =>
        rw [es, et] at hd
        cases hd
        obtain ⟨S1, xs, rfl, hS1, q1⟩ := src_of hr2.sub (r1.ext e2) es
        obtain ⟨S2, ys, rfl, hS2, q2⟩ := src_of hr2.sub r2 et
        exact ⟨S1, S2, xs, ys, rfl, rfl, here_sub hr2.sub hS1, here_sub hr2.sub hS2, h3 _ H2 Z2 ι2 .refl hr2 (itr_zz hS1 hS2 q1 q2)⟩
end
end Bk

set_option Elab.async false
set_option linter.all false
set_option maxRecDepth 100000
set_option maxHeartbeats 2000000
namespace Bk
open PySem PySem.Spec PyProof.Rows L2
open PySem.W (kdx_alive)
/-! ### list(zip(a, b)): the zip's tuples stay, so each turn makes a new one -/
section
variable {prog : Program} {w : World} {A : Around} {E : Value → Shared → Prop} {s : Shared} {z TI TO i1 i2 T : Addr} {fp1 fp2 : List Addr} {n1 n2 i : Nat} {P1 P2 : Nat → Value → Prop} {St1 St2 : Nat → Heap → Prop} {f : Bool} {oT : Obj}
theorem zz_item {Q : Value → Shared → Prop} (S : ZipSep2 z TI TO i1 i2 fp1 fp2) (D1 : Draws prog w A i1 fp1 n1 P1 St1) (D2 : Draws prog w A i2 fp2 n2 P2 St2) (hz : IsZipHeld s.heap z TI TO T f) (hT : s.heap.get? T = some oT) (hTI : IsTupOf2 s.heap TI (.ref i1) (.ref i2)) (t1 : St1 i s.heap) (t2 : St2 i s.heap) (l1 : i < n1) (l2 : i < n2)
    (hQ : ∀ x1 x2 h' tk, P1 i x1 → P2 i x2 → IsZipHeld h' z TI TO T true → St1 (i + 1) h' → St2 (i + 1) h' → IsTupOf2 h' s.heap.objs.size x1 x2 → h'.objs.size = s.heap.objs.size + 1 → (∀ c o, c ≠ z → c ≠ i1 → c ≠ i2 → s.heap.get? c = some o → h'.get? c = some o) → Q (.ref s.heap.objs.size) { s with heap := h', toks := tk }) :
    wpAny (model prog w) A (Builtin.«zip.__next__» ⟨[.ref z], []⟩) (fun r s' => ∃ v, r = .done (.ret v) ∧ Q v s') E s := by
  obtain ⟨hp, gn, dr, tk0, os⟩ := s
  show wpAny _ _ (field (.ref z) 2 >>= _) _ _ _; refine wpAny_bind (wpAny_field hz rfl (x := .bool false) rfl ?_)
  show wpAny _ _ (field (.ref z) 3 >>= _) _ _ _; refine wpAny_bind (wpAny_field hz rfl (x := .ref TI) rfl ?_)
  refine wpAny_bind (wpAny_seqItems hTI rfl ?_); show wpAny _ _ (Builtin.SmallTypes.ownedTupleIsFree (.ref z) >>= _) _ _ _
  refine wpAny_bind (wpAny_tupleHeld_zip hz hT fun g0 zg0 sg0 => ?_); simp only [Bool.false_eq_true, if_false]; refine wpAny_bind ?_
  replace sg0 : Heap.SameBut z hp g0 := sg0
  rw [← Array.forIn_toList]; simp only [List.forIn_cons, List.forIn_nil]
  refine wpAny_bind (wpAny_bind (wpAny_holding ?_)); show wpAny _ _ (Builtin.SmallTypes.nextOf (.ref i1) >>= _) _ _ ⟨g0, gn, dr, tk0, os⟩
  refine wpAny_bind (D1.item i _ _ _ l1 (D1.over t1 sg0 S.zf1) fun x1 g1 k1 hx1 tn1 sg1 => wpAny_pure ?_)
  replace sg1 : Heap.SameBut i1 g0 g1 := sg1
  refine wpAny_pure ?_
  refine wpAny_bind (wpAny_bind (wpAny_holding ?_)); show wpAny _ _ (Builtin.SmallTypes.nextOf (.ref i2) >>= _) _ _ ⟨g1, gn, dr, k1, os⟩
  refine wpAny_bind (D2.item i _ _ _ l2 (D2.over (D2.over t2 sg0 S.zf2) sg1 S.sep1_2) fun x2 g2 k2 hx2 tn2 sg2 => wpAny_pure ?_)
  replace sg2 : Heap.SameBut i2 g1 g2 := sg2
  refine wpAny_pure (wpAny_pure ?_); show wpAny _ _ (newTuple [x1, x2] >>= _) _ _ _; refine wpAny_bind (wpAny_newTuple ?_)
  have sz : g2.objs.size = hp.objs.size := by rw [sg2.1, sg1.1, sg0.1]
  have zg2 : IsZipHeld g2 z TI TO T true := sg2.extBut _ _ S.zi2 (sg1.extBut _ _ S.zi1 zg0)
  have hk : ∀ c o, c ≠ z → c ≠ i1 → c ≠ i2 → hp.get? c = some o → g2.get? c = some o := fun c o c1 c2 c3 e => sg2.extBut _ _ c3 (sg1.extBut _ _ c2 (sg0.extBut _ _ c1 e))
  have q1 : St1 (i + 1) g2 := D1.over tn1 sg2 S.sep2_1
  refine wpAny_pure ⟨_, rfl, ?_⟩
  show Q (.ref g2.objs.size) _
  have hp2 : IsTupOf2 (g2.push { cls := .type "tuple", data := .seq #[x1, x2] }) g2.objs.size x1 x2 := Heap.get?_push_size _ rfl
  have sz2 : (g2.push { cls := .type "tuple", data := .seq #[x1, x2] }).objs.size = g2.objs.size + 1 := Heap.size_push ..
  rw [sz] at hp2 sz2 ⊢
  exact hQ x1 x2 _ k2 hx1 hx2 (Heap.get?_push_of_some _ zg2) (D1.frame _ _ _ q1 fun b _ o e => Heap.get?_push_of_some _ e) (D2.frame _ _ _ tn2 fun b _ o e => Heap.get?_push_of_some _ e) hp2 sz2 fun c o c1 c2 c3 e => Heap.get?_push_of_some _ (hk c o c1 c2 c3 e)
theorem zz_end {Q : Fin → Shared → Prop} (S : ZipSep2 z TI TO i1 i2 fp1 fp2) (D1 : Draws prog w A i1 fp1 n1 P1 St1) (D2 : Draws prog w A i2 fp2 n2 P2 St2) (hz : IsZipHeld s.heap z TI TO T f) (hT : s.heap.get? T = some oT) (hTI : IsTupOf2 s.heap TI (.ref i1) (.ref i2)) (t1 : St1 i s.heap) (t2 : St2 i s.heap) (l1 : i ≤ n1) (l2 : i ≤ n2) (hend : i = n1 ∨ i = n2)
    (hE : ∀ h' tk e, (∀ c o, c ≠ z → c ≠ i1 → c ≠ i2 → s.heap.get? c = some o → h'.get? c = some o) → (∃ o, h'.get? e = some o ∧ o.cls = .type "StopIteration") → E (.ref e) { s with heap := h', toks := tk }) :
    wpAny (model prog w) A (Builtin.«zip.__next__» ⟨[.ref z], []⟩) Q E s := by
  obtain ⟨hp, gn, dr, tk0, os⟩ := s
  show wpAny _ _ (field (.ref z) 2 >>= _) _ _ _; refine wpAny_bind (wpAny_field hz rfl (x := .bool false) rfl ?_)
  show wpAny _ _ (field (.ref z) 3 >>= _) _ _ _; refine wpAny_bind (wpAny_field hz rfl (x := .ref TI) rfl ?_)
  refine wpAny_bind (wpAny_seqItems hTI rfl ?_); show wpAny _ _ (Builtin.SmallTypes.ownedTupleIsFree (.ref z) >>= _) _ _ _
  refine wpAny_bind (wpAny_tupleHeld_zip hz hT fun g0 zg0 sg0 => ?_); simp only [Bool.false_eq_true, if_false]; refine wpAny_bind ?_
  replace sg0 : Heap.SameBut z hp g0 := sg0
  rw [← Array.forIn_toList]; simp only [List.forIn_cons, List.forIn_nil]
  refine wpAny_bind (wpAny_bind (wpAny_holding ?_)); show wpAny _ _ (Builtin.SmallTypes.nextOf (.ref i1) >>= _) _ _ ⟨g0, gn, dr, tk0, os⟩
  by_cases c : i < n1
  · refine wpAny_bind (D1.item i _ _ _ c (D1.over t1 sg0 S.zf1) fun x1 g1 k1 hx1 tn1 sg1 => wpAny_pure ?_)
    replace sg1 : Heap.SameBut i1 g0 g1 := sg1
    refine wpAny_pure ?_
    have c2 : i = n2 := by omega
    refine wpAny_bind (wpAny_bind (wpAny_holding ?_)); show wpAny _ _ (Builtin.SmallTypes.nextOf (.ref i2) >>= _) _ _ ⟨g1, gn, dr, k1, os⟩
    refine wpAny_bind (D2.done ⟨g1, gn, dr, k1, os⟩ _ _ (by rw [← c2]; exact D2.over (D2.over t2 sg0 S.zf2) sg1 S.sep1_2) fun q e hq he => ?_)
    replace hq : Heap.ExtBut i2 g1 q := hq
    exact hE q k1 e (fun c o cz c1 c2 x => hq _ _ c2 (sg1.extBut _ _ c1 (sg0.extBut _ _ cz x))) he
  · have c1 : i = n1 := by omega
    refine wpAny_bind (D1.done ⟨g0, gn, dr, tk0, os⟩ _ _ (by rw [← c1]; exact D1.over t1 sg0 S.zf1) fun q e hq he => ?_)
    replace hq : Heap.ExtBut i1 g0 q := hq
    exact hE q tk0 e (fun c o cz c1 _ x => hq _ _ c1 (sg0.extBut _ _ cz x)) he
/-- where a zip stands whose tuples are kept -/
def ZH (z TI TO : Addr) (no : List Addr) (h : Heap) : Prop := (IsZip h z TI TO .none ∧ ∃ a1 a2, IsTupOf2 h TO a1 a2) ∨ ∃ T f oT, IsZipHeld h z TI TO T f ∧ h.get? T = some oT ∧ T ∉ no
theorem zh_item {no : List Addr} {Q : Option Value → Shared → Prop} (S : ZipSep2 z TI TO i1 i2 fp1 fp2) (D1 : Draws prog w A.in1 i1 fp1 n1 P1 St1) (D2 : Draws prog w A.in1 i2 fp2 n2 P2 St2) (hz : ZH z TI TO no s.heap) (hn : z ∈ no ∧ i1 ∈ no ∧ i2 ∈ no) (hno : ∀ b ∈ no, b < s.heap.objs.size) (hTI : IsTupOf2 s.heap TI (.ref i1) (.ref i2)) (t1 : St1 i s.heap) (t2 : St2 i s.heap) (l1 : i < n1) (l2 : i < n2)
    (hQ : ∀ x1 x2 h' tk, P1 i x1 → P2 i x2 → ZH z TI TO no h' → St1 (i + 1) h' → St2 (i + 1) h' → IsTupOf2 h' s.heap.objs.size x1 x2 → h'.objs.size = s.heap.objs.size + 1 → (∀ c o, c ≠ z → c ≠ TO → c ≠ i1 → c ≠ i2 → s.heap.get? c = some o → h'.get? c = some o) → Q (some (.ref s.heap.objs.size)) { s with heap := h', toks := tk }) :
    wpAny (model prog w) A (pyNext (.ref z)) Q E s := by
  have fresh : s.heap.objs.size ∉ no := fun q => Nat.lt_irrefl _ (hno _ q)
  rcases hz with ⟨hz, a1, a2, hTO⟩ | ⟨T, f, oT, hz, hT, hTn⟩
  · exact wpAny_pyNext_zipD2_item S D1 D2 hz hTI hTO t1 t2 l1 l2 fun x1 x2 h' tk p1 p2 b1 b2 d1 d2 b5 b6 hk => hQ x1 x2 h' tk p1 p2 (.inr ⟨_, false, _, b1, b5, fresh⟩) d1 d2 b5 b6 hk
  · have hTy : s.TypeIs (.ref z) "zip" := ⟨_, hz, rfl⟩
    unfold pyNext
    refine wpAny_bind (wpAny_attempt (wpAny_callSpecial?_slot (name := Str.ofString "__next__") hTy F.slot_zip_next (wpAny_call_entry F.slot_zip_next hTy F.entry_zip_next
      (zz_item S D1 D2 hz hT hTI t1 t2 l1 l2 fun x1 x2 h' tk p1 p2 b1 d1 d2 b5 b6 hk => wpAny_pure (hQ x1 x2 h' tk p1 p2 (.inr ⟨T, true, oT, b1, hk T oT (fun q => hTn (q ▸ hn.1)) (fun q => hTn (q ▸ hn.2.1)) (fun q => hTn (q ▸ hn.2.2)) hT, hTn⟩) d1 d2 b5 b6 fun c o c1 _ c2 c3 e => hk c o c1 c2 c3 e)) (F.args_zip_next_1 _))))
theorem zh_end {no : List Addr} {Q : Option Value → Shared → Prop} (S : ZipSep2 z TI TO i1 i2 fp1 fp2) (D1 : Draws prog w A.in1 i1 fp1 n1 P1 St1) (D2 : Draws prog w A.in1 i2 fp2 n2 P2 St2) (hz : ZH z TI TO no s.heap) (hTI : IsTupOf2 s.heap TI (.ref i1) (.ref i2)) (t1 : St1 i s.heap) (t2 : St2 i s.heap) (l1 : i ≤ n1) (l2 : i ≤ n2) (hend : i = n1 ∨ i = n2)
    (hQ : ∀ h' tk, (∀ c o, c ≠ z → c ≠ TO → c ≠ i1 → c ≠ i2 → s.heap.get? c = some o → h'.get? c = some o) → Q none { s with heap := h', toks := tk }) : wpAny (model prog w) A (pyNext (.ref z)) Q E s := by
  rcases hz with ⟨hz, a1, a2, hTO⟩ | ⟨T, f, oT, hz, hT, hTn⟩
  · exact wpAny_pyNext_zipD2_end S D1 D2 hz hTI hTO t1 t2 l1 l2 hend hQ
  · have hTy : s.TypeIs (.ref z) "zip" := ⟨_, hz, rfl⟩
    unfold pyNext
    refine wpAny_bind (wpAny_attempt (wpAny_callSpecial?_slot (name := Str.ofString "__next__") hTy F.slot_zip_next (wpAny_call_entry F.slot_zip_next hTy F.entry_zip_next (zz_end S D1 D2 hz hT hTI t1 t2 l1 l2 hend fun h' tk e hk he => ?_) (F.args_zip_next_1 _))))
    obtain ⟨o, ho, hc⟩ := he
    exact wpAny_bind (wpAny_isInstance (T := "StopIteration") (b := true) ⟨o, ho, hc⟩ isSubtype_stop (wpAny_pure (hQ _ _ fun c o c1 _ c2 c3 e => hk c o c1 c2 c3 e)))
end
end Bk

set_option Elab.async false
set_option linter.all false
set_option maxRecDepth 100000
set_option maxHeartbeats 4000000
namespace Bk
open PySem PySem.Spec PyProof.Rows L2
/-- tuples laid one after the other -/
inductive Laid : Hp → List (V × V) → List Addr → Hp → Prop
  | nil (H : Hp) : Laid H [] [] H
  | snoc {H H1 : Hp} {ps : List (V × V)} {Ts : List Addr} {T : Addr} {x y : V} : Laid H ps Ts H1 → H1 T = none → Laid H (ps ++ [(x, y)]) (Ts ++ [T]) (upd H1 T (.tup [x, y]))
theorem zip_no_len : typeLookup (.type "zip") "__len__" = pure none := am_miss_of_fast (by decide +kernel)
theorem zip_no_hint : typeLookup (.type "zip") "__length_hint__" = pure none := am_miss_of_fast (by decide +kernel)
theorem zip_hint {prog : Program} {w : World} {A : Around} {E : Value → Shared → Prop} {s : Shared} {r : Addr} {Q : Bool → Shared → Prop} (hT : s.TypeIs (.ref r) "zip") (h : Q true s) : wpAny (model prog w) A (Builtin.List.listLengthHint (.ref r)) Q E s := by
  unfold Builtin.List.listLengthHint
  refine wpAny_bind (wpAny_specialOf hT zip_no_len ?_)
  refine wpAny_bind (wpAny_specialOf hT zip_no_hint ?_)
  exact wpAny_pure h
section
variable {X : Cx} {pins : List (Addr × Obj)} {σ : L2.St} {S1 S2 : Src} {N Sx : Nat} {its1 its2 : List Value} {xs ys : List V} {A : Around} {H0 : Hp} {R : Result → Shared → Prop}
abbrev zch (N Sx : Nat) : List Addr := [N + 4, N + 2, N + 3, N, N + 1, Sx]
theorem zl_loop (hh : A.handled = none) (rv1 : Vals xs its1) (rv2 : Vals ys its2) (lt1 : S1.addr < N) (lt2 : S2.addr < N) (hSx : N + 4 < Sx) (res : Value) (hlen : min xs.length ys.length ≤ sizeLine)
    (hR : ∀ (s' : Shared) (H' : Hp) (Ts : List Addr) (acc : Array Value) (c : Nat), Inv X pins σ H' s' → FpOk X pins H' Sx → Laid H0 (xs.zip ys) Ts H' → s'.heap.get? Sx = some { cls := .type "list", dict := none, data := .seq acc c, slots := #[] } → acc.toList = Ts.map Value.ref → R (.ok (.ret res)) s') :
    ∀ (k i : Nat) (s : Shared) (H : Hp) (c : Nat) (acc : Array Value) (Ts : List Addr), min xs.length ys.length - i = k → i ≤ min xs.length ys.length → Inv X pins σ H s → (∀ b ∈ zch N Sx, FpOk X pins H b) → ZH (N + 4) (N + 2) (N + 3) (zch N Sx) s.heap →
      IsTupOf2 s.heap (N + 2) (.ref N) (.ref (N + 1)) → S1.it s.heap N i → S2.it s.heap (N + 1) i → S1.arr s.heap its1.toArray → S2.arr s.heap its2.toArray → s.heap.get? Sx = some { cls := .type "list", dict := none, data := .seq acc c, slots := #[] } → acc.toList = Ts.map Value.ref → Ts.length = i →
      Laid H0 ((xs.zip ys).take i) Ts H → codeAny (model X.prog X.w) A (.builtin "list.extend.loop" ⟨[.ref Sx, .ref (N + 4), res], []⟩) R s := by
  have SS := zip_sep2 (N := N) (fp1 := [S1.addr]) (fp2 := [S2.addr]) (fun b hb => by rw [List.mem_singleton.mp hb]; exact lt1) (fun b hb => by rw [List.mem_singleton.mp hb]; exact lt2)
  have D1 := Src.draws (prog := X.prog) (w := X.w) (A := A.in1.in1) hh S1 N (Nat.ne_of_lt lt1) its1.toArray
  have D2 := Src.draws (prog := X.prog) (w := X.w) (A := A.in1.in1) hh S2 (N + 1) (by have q : S2.addr ≠ N + 1 := Nat.ne_of_lt (Nat.lt_succ_of_lt lt2); exact q) its2.toArray
  have len1 : its1.toArray.size = xs.length := by rw [List.size_toArray, ← rv1.length]
  have len2 : its2.toArray.size = ys.length := by rw [List.size_toArray, ← rv2.length]
  have far : ∀ {u : Nat}, u < N → ¬ (u = N + 4 ∨ u = N + 2 ∨ u = N + 3 ∨ u = N ∨ u = N + 1 ∨ u = Sx) := fun {u} a b => by omega
  have a1 : S1.addr ∉ zch N Sx := fun q => by
    have e' : S1.addr = N + 4 ∨ S1.addr = N + 2 ∨ S1.addr = N + 3 ∨ S1.addr = N ∨ S1.addr = N + 1 ∨ S1.addr = Sx := by simpa using q
    exact far lt1 e'
  have a2 : S2.addr ∉ zch N Sx := fun q => by
    have e' : S2.addr = N + 4 ∨ S2.addr = N + 2 ∨ S2.addr = N + 3 ∨ S2.addr = N ∨ S2.addr = N + 1 ∨ S2.addr = Sx := by simpa using q
    exact far lt2 e'
  have nz : Sx ≠ N + 4 ∧ Sx ≠ N + 2 ∧ Sx ≠ N + 3 ∧ Sx ≠ N ∧ Sx ≠ N + 1 := by omega
  intro k
  induction k with
  | zero =>
    intro i s H c acc Ts hk hi I hf hz hTI t1 t2 r1 r2 hS hacc hTs hL
    have ei : i = min xs.length ys.length := by omega
    refine codeAny_builtin PySem.F.entry_extend_loop ?_
    rw [Around.under_plainId PySem.F.plain_extend_loop _]
    show wpAny _ A.in1 (pyNext (.ref (N + 4)) >>= _) _ _ _
    refine wpAny_bind (zh_end SS D1 D2 hz hTI ⟨t1, r1⟩ ⟨t2, r2⟩ (by rw [len1]; omega) (by rw [len2]; omega) (by rw [len1, len2]; omega) fun h' tk hkp => ?_)
    refine wpAny_pure (hR _ H Ts acc c (I.turnedL (t' := tk) (ch := zch N Sx) (fun b o hb e => hkp b o (fun q => hb (by simp [q])) (fun q => hb (by simp [q])) (fun q => hb (by simp [q])) (fun q => hb (by simp [q])) e) hf) (hf Sx (by simp)) ?_ (hkp Sx _ nz.1 nz.2.2.1 nz.2.2.2.1 nz.2.2.2.2 hS) hacc)
    rw [List.take_of_length_le (by rw [List.length_zip]; omega)] at hL
    exact hL
  | succ k ih =>
    intro i s H c acc Ts hk hi I hf hz hTI t1 t2 r1 r2 hS hacc hTs hL
    have hlt : i < min xs.length ys.length := by omega
    have hsz : acc.size = i := by rw [← Array.length_toList, hacc, List.length_map, hTs]
    have l1 : i < xs.length := by omega
    have l2 : i < ys.length := by omega
    obtain ⟨u1, hu1, ru1⟩ := rv1.get (List.getElem?_eq_getElem l1)
    obtain ⟨u2, hu2, ru2⟩ := rv2.get (List.getElem?_eq_getElem l2)
    have hlive : ∀ b ∈ zch N Sx, b < s.heap.objs.size := fun b hb => by
      have e' : b = N + 4 ∨ b = N + 2 ∨ b = N + 3 ∨ b = N ∨ b = N + 1 ∨ b = Sx := by simpa using hb
      have hx : Sx < s.heap.objs.size := Heap.lt_size hS
      have h2 : ∀ {u v : Nat}, u < v → v < s.heap.objs.size → u < s.heap.objs.size := fun a b => Nat.lt_trans a b
      rcases e' with q | q | q | q | q | q <;> rw [q]
      · exact h2 hSx hx
      · exact h2 (Nat.lt_trans (by omega) hSx) hx
      · exact h2 (Nat.lt_trans (by omega) hSx) hx
      · exact h2 (Nat.lt_trans (by omega) hSx) hx
      · exact h2 (Nat.lt_trans (by omega) hSx) hx
      · exact hx
    refine codeAny_builtin PySem.F.entry_extend_loop ?_
    rw [Around.under_plainId PySem.F.plain_extend_loop _]
    show wpAny _ A.in1 (pyNext (.ref (N + 4)) >>= _) _ _ _
    refine wpAny_bind (zh_item SS D1 D2 hz ⟨by simp, by simp, by simp⟩ hlive hTI ⟨t1, r1⟩ ⟨t2, r2⟩ (by rw [len1]; omega) (by rw [len2]; omega) fun x1 x2 h' tk p1 p2 zh' ⟨t1', r1'⟩ ⟨t2', r2'⟩ hT hz' hkp => ?_)
    have ex1 : x1 = u1 := by
      have q : its1.toArray[i]? = some u1 := by simpa using hu1
      rw [p1] at q
      exact Option.some.inj q
    have ex2 : x2 = u2 := by
      have q : its2.toArray[i]? = some u2 := by simpa using hu2
      rw [p2] at q
      exact Option.some.inj q
    subst ex1 ex2
    have hS' : h'.get? Sx = _ := hkp Sx _ nz.1 nz.2.2.1 nz.2.2.2.1 nz.2.2.2.2 hS
    have up : ∀ b o, b ≠ Sx → h'.get? b = some o → (h'.update Sx (Obj.mapSeq (·.push (Value.ref s.heap.objs.size)))).get? b = some o := fun b o hb e => (Heap.get?_update_other _ _ (Ne.symm hb)).trans e
    have hSl : Sx < s.heap.objs.size := Heap.lt_size hS
    have neT : ∀ b ∈ zch N Sx, b ≠ s.heap.objs.size := fun b hb => Nat.ne_of_lt (hlive b hb)
    show wpAny _ A.in1 (updateSeq Sx (·.push (Value.ref s.heap.objs.size)) >>= _) _ _ _
    refine wpAny_bind ?_
    have hT2 : (h'.update Sx (Obj.mapSeq (·.push (Value.ref s.heap.objs.size)))).get? s.heap.objs.size = _ := up _ _ (Nat.ne_of_gt hSl) hT
    have hTn : H s.heap.objs.size = none := I.hok.fresh (Nat.le_refl _)
    have new : ObjOk X.prog X.w (upd H s.heap.objs.size (.tup [xs[i], ys[i]])) (h'.update Sx (Obj.mapSeq (·.push (Value.ref s.heap.objs.size)))) s.heap.objs.size (.tup [xs[i], ys[i]]) :=
      ⟨by show 2 ≤ sizeLine; decide, [x1, x2], .cons ru1 (.cons ru2 .nil), ⟨_, hT2, rfl, _, rfl⟩⟩
    have J := I.turnedNew (t' := tk) (ch := zch N Sx) (fun b o hb e => up b o (fun q => hb (by simp [q])) (hkp b o (fun q => hb (by simp [q])) (fun q => hb (by simp [q])) (fun q => hb (by simp [q])) (fun q => hb (by simp [q])) e)) hf (Nat.le_refl _) new
    have L2 : Laid H0 ((xs.zip ys).take (i + 1)) (Ts ++ [s.heap.objs.size]) (upd H s.heap.objs.size (.tup [xs[i], ys[i]])) := by
      have e : (xs.zip ys).take (i + 1) = (xs.zip ys).take i ++ [(xs[i], ys[i])] := by
        rw [List.take_add_one, List.getElem?_eq_getElem (by rw [List.length_zip]; omega), List.getElem_zip]
        rfl
      rw [e]
      exact .snoc hL hTn
    have zh2 : ZH (N + 4) (N + 2) (N + 3) (zch N Sx) (h'.update Sx (Obj.mapSeq (·.push (Value.ref s.heap.objs.size)))) := by
      rcases zh' with ⟨q, b1, b2, q2⟩ | ⟨T, f, oT, q, q2, q3⟩
      · exact .inl ⟨up _ _ nz.1.symm q, b1, b2, up _ _ nz.2.2.1.symm q2⟩
      · exact .inr ⟨T, f, oT, up _ _ nz.1.symm q, up _ _ (fun z => q3 (by simp [z])) q2, q3⟩
    refine wpAny_updateSeq hS' rfl (wpAny_pure ⟨plainId_quiet PySem.F.plain_extend_loop _, ih (i + 1) _ _ _ (acc.push (Value.ref s.heap.objs.size)) (Ts ++ [s.heap.objs.size]) (by omega) hlt J (fun b hb => ?_) zh2 (up _ _ nz.2.1.symm (hkp _ _ ?_ ?_ ?_ ?_ hTI)) (Src.it_at t1' fun o e => up _ _ nz.2.2.2.1.symm e) (Src.it_at t2' fun o e => up _ _ nz.2.2.2.2.symm e)
      ?_ ?_ (Heap.get?_update_self _ hS' rfl) (by rw [Array.toList_push, hacc, List.map_append]; rfl) (by rw [List.length_append, hTs]; rfl) L2⟩) (by rw [hsz]; omega) (by show (acc.push (Value.ref s.heap.objs.size)).size ≤ sizeLine + 1; rw [Array.size_push, hsz]; omega)
    · obtain ⟨f1, f2, f3, f4, f5, f6⟩ := hf b hb
      exact ⟨by rw [upd_ne (neT b hb)]; exact f1, f2, f3, f4, f5, f6⟩
    · show (N + 2 : Nat) ≠ N + 4; omega
    · show (N + 2 : Nat) ≠ N + 3; omega
    · show (N + 2 : Nat) ≠ N; omega
    · show (N + 2 : Nat) ≠ N + 1; omega
    · cases S1 with
      | l a => exact Heap.IsList.at r1' fun o e => up _ _ (fun q => a1 (by simp [Src.addr, q])) e
      | t a => exact Heap.IsTuple.at r1' fun o e => up _ _ (fun q => a1 (by simp [Src.addr, q])) e
    · cases S2 with
      | l a => exact Heap.IsList.at r2' fun o e => up _ _ (fun q => a2 (by simp [Src.addr, q])) e
      | t a => exact Heap.IsTuple.at r2' fun o e => up _ _ (fun q => a2 (by simp [Src.addr, q])) e
end
end Bk

set_option Elab.async false
set_option linter.all false
set_option maxRecDepth 100000
set_option maxHeartbeats 4000000
namespace Bk
open PySem PySem.Spec PyProof.Rows L2
theorem Laid.length {H H' : Hp} {ps : List (V × V)} {Ts : List Addr} (L : Laid H ps Ts H') : Ts.length = ps.length := by
  induction L with
  | nil => rfl
  | snoc _ _ ih => simp [ih]
section
variable {X : Cx} {pins : List (Addr × Obj)} {σ : L2.St} {S1 S2 : Src} {N : Nat} {its1 its2 : List Value} {xs ys : List V} {H : Hp}
/-- list(z) of a new zip z -/
theorem zl_call {s : Shared} {E : Value → Shared → Prop} {Q : VK} (hh : X.A.handled = none) (rv1 : Vals xs its1) (rv2 : Vals ys its2) (lt1 : S1.addr < N) (lt2 : S2.addr < N) (hlen : min xs.length ys.length ≤ sizeLine) (I : Inv X pins σ H s) (hf : ∀ b ∈ [N + 4, N + 2, N + 3, N, N + 1], FpOk X pins H b)
    (hz : IsZip s.heap (N + 4) (N + 2) (N + 3) .none) (hTI : IsTupOf2 s.heap (N + 2) (.ref N) (.ref (N + 1))) (hTO : ∃ a1 a2, IsTupOf2 s.heap (N + 3) a1 a2) (t1 : S1.it s.heap N 0) (t2 : S2.it s.heap (N + 1) 0) (r1 : S1.arr s.heap its1.toArray) (r2 : S2.arr s.heap its2.toArray)
    (hQ : ∀ (H' : Hp) (Ts : List Addr) (p : Addr), Laid H (xs.zip ys) Ts H' → H' p = none → Q (.ref p) (upd H' p (.lst (Ts.map V.ref)))) : wpAny (model X.prog X.w) X.A (call (.type "list") [.ref (N + 4)]) (EP X pins σ Q) E s := by
  refine callType_codes (Q₁ := fun obj s₁ => obj = .ref s.heap.objs.size ∧ s₁ = { s with heap := s.heap.push { cls := .type "list", data := .seq #[] } }) PySem.F.called_list (PySem.F.typeCall_list_1 _) PySem.F.entry_list_init (code_list_new _ ⟨rfl, rfl⟩) fun obj s₁ h₁ => ?_
  obtain ⟨rfl, rfl⟩ := h₁
  have hzl : N + 4 < s.heap.objs.size := Heap.lt_size hz
  have hS : (s.heap.push { cls := .type "list", data := .seq #[] }).get? s.heap.objs.size = some { cls := .type "list", data := .seq #[] } := Heap.get?_push_size _ rfl
  refine ⟨⟨_, hS, rfl⟩, PySem.F.args_list_init_2 _ _, ?_⟩
  have hSr : s.heap.objs.size ≠ N + 4 := Nat.ne_of_gt hzl
  have hSx : H s.heap.objs.size = none := I.hok.fresh (Nat.le_refl _)
  show wpAny _ _ (do let old ← Builtin.List.listItems (.ref s.heap.objs.size); Builtin.List.listUpdate (.ref s.heap.objs.size) (fun _ => #[]); letGo old.toList.reverse; Builtin.List.listExtendWith (.ref s.heap.objs.size) (.ref (N + 4)) .none) _ _ _
  refine wpAny_bind ?_; unfold Builtin.List.listItems; refine wpAny_bind (wpAny_seqItems hS rfl (wpAny_pure ?_))
  show wpAny _ _ (updateSeq s.heap.objs.size (fun _ => #[]) >>= fun _ => letGo (#[] : Array Value).toList.reverse >>= fun _ => Builtin.List.listExtendWith (.ref s.heap.objs.size) (.ref (N + 4)) .none) _ _ _
  refine wpAny_bind (wpAny_updateSeq hS rfl ?_)
  have hS2 := Heap.get?_update_self (Obj.mapSeq (fun _ => (#[] : Array Value))) hS rfl
  have o1 : ∀ b o, s.heap.get? b = some o → ((s.heap.push { cls := .type "list", data := .seq #[] }).update s.heap.objs.size (Obj.mapSeq (fun _ => (#[] : Array Value)))).get? b = some o := fun b o e => (Heap.get?_update_other _ _ (Nat.ne_of_gt (Heap.lt_size e))).trans (Heap.get?_push_of_some _ e)
  refine wpAny_bind (wpAny_letGo ?_)
  generalize (s.heap.push { cls := .type "list", data := .seq #[] }).update s.heap.objs.size (Obj.mapSeq (fun _ => (#[] : Array Value))) = g at hS2 o1
  unfold Builtin.List.listExtendWith
  have hT1 : Shared.TypeIs { s with heap := g } (.ref (N + 4)) "zip" := ⟨_, o1 _ _ hz, rfl⟩
  refine wpAny_bind (wpAny_typeOf (T := "zip") hT1 ?_)
  have h1 : Builtin.List.listSameRef (.ref s.heap.objs.size) (.ref (N + 4)) = false := by simp [Builtin.List.listSameRef, hSr]
  have h2 : (Value.type "zip" == Value.type "list") = false := by decide
  have h3 : (Value.type "zip" == Value.type "tuple") = false := by decide
  simp only [h1, h2, h3, Bool.or_false, Bool.false_eq_true, if_false]
  refine wpAny_bind (wpAny_pyIter_zip (o1 _ _ hz) ?_)
  refine wpAny_bind (wpAny_holding (zip_hint hT1 ?_))
  refine wpAny_ite_split (fun _ => ?_) (fun q => absurd rfl q)
  refine wpAny_bind (wpAny_rule ?_)
  refine wpAny_bind ?_
  show wpAny _ _ (updateSeq s.heap.objs.size (·.push .none) >>= fun _ => updateSeq s.heap.objs.size (·.pop)) _ _ _
  refine wpAny_bind (wpAny_updateSeq hS2 rfl ?_)
  have hS3 := Heap.get?_update_self (Obj.mapSeq (·.push Value.none)) hS2 rfl
  refine wpAny_updateSeq (hz := by seq_fits) hS3 rfl ?_
  have hS4 := Heap.get?_update_self (Obj.mapSeq (·.pop)) hS3 rfl
  have o2 : ∀ b o, s.heap.get? b = some o → ((g.update s.heap.objs.size (Obj.mapSeq (·.push Value.none))).update s.heap.objs.size (Obj.mapSeq (·.pop))).get? b = some o := fun b o e => (Heap.get?_update_other _ _ (Nat.ne_of_gt (Heap.lt_size e))).trans ((Heap.get?_update_other _ _ (Nat.ne_of_gt (Heap.lt_size e))).trans (o1 b o e))
  generalize (g.update s.heap.objs.size (Obj.mapSeq (·.push Value.none))).update s.heap.objs.size (Obj.mapSeq (·.pop)) = g2 at hS4 o2
  have I2 : Inv X pins σ H { s with heap := g2 } := I.kept (t' := s.toks) o2
  have fS : FpOk X pins H s.heap.objs.size := I.fpOk (Nat.le_refl _) hSx
  refine wpAny_pure ⟨plainId_quiet PySem.F.plain_extend_loop _, zl_loop (A := X.A.in1) (H0 := H) hh rv1 rv2 lt1 lt2 hzl .none hlen (fun s' H' Ts acc c I' f' L e ha => ?_) (min xs.length ys.length) 0 { s with heap := g2 } H _ #[] [] (Nat.sub_zero _) (Nat.zero_le _) I2 (fun b hb => ?_) (.inl ⟨o2 _ _ hz, ?_⟩) (o2 _ _ hTI) (Src.it_at t1 fun o e => o2 _ _ e) (Src.it_at t2 fun o e => o2 _ _ e) ?_ ?_ hS4 rfl rfl (.nil H)⟩
  · obtain ⟨f1, f2, f3, f4, f5, f6⟩ := f'
    have hl := L.length
    have new : ObjOk X.prog X.w (upd H' s.heap.objs.size (.lst (Ts.map V.ref))) s'.heap s.heap.objs.size (.lst (Ts.map V.ref)) := by
      refine ⟨by rw [List.length_map, hl, List.length_zip]; exact hlen, acc.toList, c, ?_, e⟩
      rw [ha]
      clear e ha L hl f1
      induction Ts with
      | nil => exact .nil
      | cons T Ts ih => exact .cons rfl ih
    refine ⟨rfl, .ref s.heap.objs.size, _, I'.step (g' := s'.gens) (t' := s'.toks) (d' := s'.drawn) (h' := s'.heap) (ch := [s.heap.objs.size]) (fun b hb => ?_) (fun b o _ _ hc q _ => q) (fun b o _ _ hc q _ => ⟨o.slots, q⟩) (fun b o hc q n => ?_) (fun b o hc q => ⟨o, q⟩) (fun b zs q => ?_) (fun b o u q => ?_) (fun b ps q => ⟨#[], ?_⟩) (fun m q => q) (fun b u q => ?_) I'.bare, rfl, hQ H' Ts _ L f1⟩
    · rw [List.mem_singleton.mp hb]; exact ⟨f4, f2, f5, f6⟩
    · rw [upd_ne (fun z => hc (by rw [z]; exact List.mem_singleton_self _))]; exact n
    · rw [upd_ne (ne_of_none q f1)]; exact q
    · rw [upd_ne (ne_of_none q f1)]; exact q
    · rw [upd_ne (ne_of_none q f1), q]; simp
    · by_cases hb : b = s.heap.objs.size
      · subst hb
        rw [upd_same] at q
        cases q
        exact new
      · rw [upd_ne hb] at q
        exact (I'.hok b u q).stay (fun _ _ _ z => z) (fun d z => by rw [upd_ne (ne_of_none z f1)]; exact z) fun d zs z => by rw [upd_ne (ne_of_none z f1)]; exact z
  · have e' : b = N + 4 ∨ b = N + 2 ∨ b = N + 3 ∨ b = N ∨ b = N + 1 ∨ b = s.heap.objs.size := by simpa using hb
    rcases e' with q | q | q | q | q | q
    · rw [q]; exact hf _ (by simp)
    · rw [q]; exact hf _ (by simp)
    · rw [q]; exact hf _ (by simp)
    · rw [q]; exact hf _ (by simp)
    · rw [q]; exact hf _ (by simp)
    · rw [q]; exact fS
  · obtain ⟨a1, a2, q⟩ := hTO; exact ⟨a1, a2, o2 _ _ q⟩
  · cases S1 with
    | l a => exact Heap.IsList.at r1 fun o e => o2 _ _ e
    | t a => exact Heap.IsTuple.at r1 fun o e => o2 _ _ e
  · cases S2 with
    | l a => exact Heap.IsList.at r2 fun o e => o2 _ _ e
    | t a => exact Heap.IsTuple.at r2 fun o e => o2 _ _ e
end
theorem Laid.read {K : PySem.W.Frag} {H H' : Hp} {ps : List (V × V)} {Ts : List Addr} (L : Laid H ps Ts H') : ∀ {dps : List (D × D)} {Z : Hp} {ι : Nat → Addr} {M : List MO}, HR K H Z ι M → dps.length = ps.length → (∀ (i : Nat) (dp : D × D) (vp : V × V), dps[i]? = some dp → ps[i]? = some vp → Rp K Z ι M.length dp.1 vp.1 ∧ Rp K Z ι M.length dp.2 vp.2) →
    ∃ Z', HR K H' Z' ι M ∧ Ext H Z ι M.length H' Z' ι M.length ∧ Rps K Z' ι M.length (dps.map fun dp => .tup [dp.1, dp.2]) (Ts.map V.ref) := by
  induction L with
  | nil =>
    intro dps Z ι M hr hl h
    have : dps = [] := List.length_eq_zero_iff.mp hl
    subst this
    exact ⟨Z, hr, .refl, .nil⟩
  | @snoc H1 ps Ts T x y L hT ih =>
    intro dps Z ι M hr hl h
    rcases List.eq_nil_or_concat dps with e | ⟨ds, d, e⟩
    · subst e
      simp at hl
    · rw [List.concat_eq_append] at e
      subst e
      have hl' : ds.length = ps.length := by simpa using hl
      obtain ⟨Z1, hr1, e1, r1⟩ := ih hr hl' fun i dp vp a b => h i dp vp (by rw [List.getElem?_append_left (List.getElem?_eq_some_iff.mp a).1]; exact a) (by rw [List.getElem?_append_left (List.getElem?_eq_some_iff.mp b).1]; exact b)
      obtain ⟨q1, q2⟩ := h ds.length d (x, y) (by simp) (by rw [hl']; simp)
      obtain ⟨p1, p2⟩ := hr1.frozen (o := .tup [x, y]) hT
      refine ⟨_, p1, e1.trans p2 hr1.ali, ?_⟩
      rw [List.map_append, List.map_append]
      exact (r1.ext p2).append (.cons (.tup (.inl (.inl upd_same)) (.cons ((q1.ext e1).ext p2) (.cons ((q2.ext e1).ext p2) .nil))) .nil)
theorem zipL_map : ∀ (ds es : List D), zipL ds es = (ds.zip es).map fun dp => .tup [dp.1, dp.2]
  | [], _ => by simp [zipL]
  | _ :: _, [] => by simp [zipL]
  | d :: ds, e :: es => by simp [zipL, zipL_map ds es]
def gLzip (own : Bool) (ga gb : GE) : GE := fun Γ M => (ga Γ M).bind fun x M1 => (gb Γ M1).bind fun y M2 => (opR (zipO x y) M2).bind fun ds M3 => if ds.length ≤ sizeLine then (if own = true then .ok (.ref M3.length) (M3 ++ [.lst ds]) else .ok (.lst ds) M3) else .bad
section
variable {X : Cx} {C : CT} {W : WX} {e e2 : Expr} {ga gb : GE} {p p2 pos pos2 : Pos}
theorem qe_lzip (own : Bool) (hc : X.calm = true) (hgl : Gl X "list") (hml : X.mg "list" = none) (hg : Gl X "zip") (hm : X.mg "zip" = none) (ha : QE X C W e ga) (hb : QE X C W e2 gb) (hs : starEach [e, e2] X.env = (false, eval e X.env) :: starEach [e2] X.env := by rfl) (hs2 : starEach [e2] X.env = (false, eval e2 X.env) :: starEach [] X.env := by rfl)
    (hpl : (backTo pos2 (starEach [e2] X.env)).any (·.1) = false := by rfl) (na : starEach [Expr.Call (.Name "zip" p2) [e, e2] [] pos2] X.env = (false, eval (Expr.Call (.Name "zip" p2) [e, e2] [] pos2) X.env) :: starEach [] X.env := by rfl) :
    QE X C W (.Call (.Name "list" p) [.Call (.Name "zip" p2) [e, e2] [] pos2] [] pos) (gLzip own ga gb) := by
  obtain ⟨ta, pa, qa⟩ := ha
  obtain ⟨tb, pb, qb⟩ := hb
  refine ⟨fun σ H Q => ta σ H fun v H1 => tb σ H1 fun u H2 => ∃ (S1 S2 : Src) (xs ys : List V), v = .ref S1.addr ∧ u = .ref S2.addr ∧ S1.here X.K H2 xs ∧ S2.here X.K H2 ys ∧ min xs.length ys.length ≤ sizeLine ∧ ∀ (H' : Hp) (Ts : List Addr) (q : Addr), Laid H2 (xs.zip ys) Ts H' → H' q = none → Q (.ref q) (upd H' q (.lst (Ts.map V.ref))), ⟨fun pins s σ H Q I h => ?_⟩,
    fun σ H Z ι Γ M Q sl hr h => qa σ H Z ι Γ M _ sl hr (Post.bind h fun x M1 v H1 Z1 ι1 e1 hr1 r1 h1 => qb σ H1 Z1 ι1 Γ M1 _ (sl.ext e1) hr1 (h1.bind fun y M2 u H2 Z2 ι2 e2 hr2 r2 h2 => ?_))⟩
  · refine Call_ (ld_blt I hgl hml boot_list (PyProof.Rows.callWith_type1 (args_cons (thn (Call_ (ld_blt I hg hm boot_zip (PyProof.Rows.callWith_type1 (thn ((pa_cons pa (pa_cons pb pa_nil hs2) hs).run pos2 pins s σ H (fun vs H1 => ∃ v u, vs = [v, u] ∧ ∃ (S1 S2 : Src) (xs ys : List V), v = .ref S1.addr ∧ u = .ref S2.addr ∧ S1.here X.K H1 xs ∧ S2.here X.K H1 ys ∧ min xs.length ys.length ≤ sizeLine ∧ ∀ (H' : Hp) (Ts : List Addr) (q : Addr), Laid H1 (xs.zip ys) Ts H' → H' q = none → Q (.ref q) (upd H' q (.lst (Ts.map V.ref)))) I ?_) fun us s1 hh => ?_) hs hpl)))
      fun z s1 (hz : ∃ (pins' : Unit) (N : Nat) (S1 S2 : Src) (xs ys : List V) (its1 its2 : List Value) (H1 : Hp), z = .ref (N + 4) ∧ Inv X pins σ H1 s1 ∧ Vals xs its1 ∧ Vals ys its2 ∧ S1.addr < N ∧ S2.addr < N ∧ min xs.length ys.length ≤ sizeLine ∧ (∀ b ∈ [N + 4, N + 2, N + 3, N, N + 1], FpOk X pins H1 b) ∧ IsZip s1.heap (N + 4) (N + 2) (N + 3) .none ∧ IsTupOf2 s1.heap (N + 2) (.ref N) (.ref (N + 1)) ∧ (∃ a1 a2, IsTupOf2 s1.heap (N + 3) a1 a2) ∧ S1.it s1.heap N 0 ∧ S2.it s1.heap (N + 1) 0 ∧ S1.arr s1.heap its1.toArray ∧ S2.arr s1.heap its2.toArray ∧
        ∀ (H' : Hp) (Ts : List Addr) (q : Addr), Laid H1 (xs.zip ys) Ts H' → H' q = none → Q (.ref q) (upd H' q (.lst (Ts.map V.ref)))) => args_nil ?_) na) na))
    · have hmono : (fun x H1 => tb σ H1 fun y H2 => tNil σ H2 fun ys H3 => ∃ v u, x :: y :: ys = [v, u] ∧ ∃ (S1 S2 : Src) (xs zs : List V), v = .ref S1.addr ∧ u = .ref S2.addr ∧ S1.here X.K H3 xs ∧ S2.here X.K H3 zs ∧ min xs.length zs.length ≤ sizeLine ∧ ∀ (H' : Hp) (Ts : List Addr) (q : Addr), Laid H3 (xs.zip zs) Ts H' → H' q = none → Q (.ref q) (upd H' q (.lst (Ts.map V.ref)))) =
          fun (v : V) (H1 : Hp) => tb σ H1 fun u H2 => ∃ (S1 S2 : Src) (xs ys : List V), v = .ref S1.addr ∧ u = .ref S2.addr ∧ S1.here X.K H2 xs ∧ S2.here X.K H2 ys ∧ min xs.length ys.length ≤ sizeLine ∧ ∀ (H' : Hp) (Ts : List Addr) (q : Addr), Laid H2 (xs.zip ys) Ts H' → H' q = none → Q (.ref q) (upd H' q (.lst (Ts.map V.ref))) := by
        funext x H1
        congr 1
        funext y H2
        apply propext
        constructor
        · rintro ⟨v, u, ev, q⟩
          cases ev
          exact q
        · intro q
          exact ⟨x, y, rfl, q⟩
      show ta σ H fun x H1 => tb σ H1 fun y H2 => tNil σ H2 fun ys H3 => ∃ v u, x :: y :: ys = [v, u] ∧ ∃ (S1 S2 : Src) (xs zs : List V), v = .ref S1.addr ∧ u = .ref S2.addr ∧ S1.here X.K H3 xs ∧ S2.here X.K H3 zs ∧ min xs.length zs.length ≤ sizeLine ∧ ∀ (H' : Hp) (Ts : List Addr) (q : Addr), Laid H3 (xs.zip zs) Ts H' → H' q = none → Q (.ref q) (upd H' q (.lst (Ts.map V.ref)))
      rw [hmono]
      exact h
    · obtain ⟨vs, H1, J, r1, v, u, rfl, S1, S2, xs, ys, rfl, rfl, hq1, hq2, hl, q⟩ := hh
      obtain ⟨u1, u2, rfl, ru, ru2⟩ := Vals.two r1
      cases ru
      cases ru2
      obtain ⟨its1, rv1, har1⟩ := Src.inv J hq1
      obtain ⟨its2, rv2, har2⟩ := Src.inv J hq2
      refine zip_begins2 (S1.begins its1.toArray) (S2.begins its2.toArray) har1 har2 fun h' hz hTI hTO hi1 hi2 hsz hk => ?_
      have J2 : Inv X pins σ H1 { s1 with heap := h' } := J.kept (t' := s1.toks) hk
      refine ⟨(), s1.heap.objs.size, S1, S2, xs, ys, its1, its2, H1, rfl, J2, rv1, rv2, Src.arr_lt har1, Src.arr_lt har2, hl, fun b hb => ?_, hz, hTI, ⟨_, _, hTO⟩, Src.start hi1, Src.start hi2, ?_, ?_, q⟩
      · have e' : b = s1.heap.objs.size + 4 ∨ b = s1.heap.objs.size + 2 ∨ b = s1.heap.objs.size + 3 ∨ b = s1.heap.objs.size ∨ b = s1.heap.objs.size + 1 := by simpa using hb
        have le : s1.heap.objs.size ≤ b := by
          rcases e' with z | z | z | z | z
          · rw [z]; exact Nat.le_add_right _ _
          · rw [z]; exact Nat.le_add_right _ _
          · rw [z]; exact Nat.le_add_right _ _
          · rw [z]; exact Nat.le_refl _
          · rw [z]; exact Nat.le_add_right _ _
        exact J.fpOk le (J.hok.fresh le)
      · cases S1 with
        | l a => exact Heap.IsList.at har1 fun o e => hk _ _ e
        | t a => exact Heap.IsTuple.at har1 fun o e => hk _ _ e
      · cases S2 with
        | l a => exact Heap.IsList.at har2 fun o e => hk _ _ e
        | t a => exact Heap.IsTuple.at har2 fun o e => hk _ _ e
    · obtain ⟨_, N, S1, S2, xs, ys, its1, its2, H1, rfl, J, rv1, rv2, lt1, lt2, hl, hf, hz, hTI, hTO, t1, t2, r1, r2, q⟩ := hz
      exact zl_call (J.ok.hd hc) rv1 rv2 lt1 lt2 hl J hf hz hTI hTO t1 t2 r1 r2 q
  · obtain ⟨items, M3, hd, h3⟩ : ∃ ds M3, opR (zipO x y) M2 = .ok ds M3 ∧ Post X C W (rpE X.K) σ H2 Z2 ι2 M2 (if ds.length ≤ sizeLine then (if own = true then .ok (.ref M3.length) (M3 ++ [.lst ds]) else .ok (.lst ds) M3) else .bad) Q := by
      cases ez : zipO x y with
      | none =>
        have h2' : Post X C W (rpE X.K) σ H2 Z2 ι2 M2 ((opR (zipO x y) M2).bind fun ds M3 => if ds.length ≤ sizeLine then (if own = true then .ok (.ref M3.length) (M3 ++ [.lst ds]) else .ok (.lst ds) M3) else .bad) Q := h2
        rw [ez] at h2'
        exact h2'.elim
      | some ds =>
        have h2' : Post X C W (rpE X.K) σ H2 Z2 ι2 M2 ((opR (zipO x y) M2).bind fun ds M3 => if ds.length ≤ sizeLine then (if own = true then .ok (.ref M3.length) (M3 ++ [.lst ds]) else .ok (.lst ds) M3) else .bad) Q := h2
        rw [ez] at h2'
        exact ⟨ds, M2, rfl, h2'⟩
    have e3 : M3 = M2 := opR_ok hd
    subst e3
    have hd' : zipO x y = some items := by
      cases ez : zipO x y with
      | none => rw [ez] at hd; cases hd
      | some ds => rw [ez] at hd; cases hd; rfl
    by_cases c : items.length ≤ sizeLine
    · rw [if_pos c] at h3
      unfold zipO at hd'
      cases es : seqD x with
      | none => rw [es] at hd'; cases hd'
      | some ds =>
        cases et : seqD y with
        | none => rw [es, et] at hd'; cases hd'
        | some dt =>
          rw [es, et] at hd'
          cases hd'
          obtain ⟨S1, xs, rfl, hS1, q1⟩ := src_of hr2.sub (r1.ext e2) es
          obtain ⟨S2, ys, rfl, hS2, q2⟩ := src_of hr2.sub r2 et
          have hl : min xs.length ys.length ≤ sizeLine := by rw [← q1.length, ← q2.length, ← zipL_len]; exact c
          refine ⟨S1, S2, xs, ys, rfl, rfl, here_sub hr2.sub hS1, here_sub hr2.sub hS2, hl, fun H' Ts q L hq => ?_⟩
          obtain ⟨Z3, hr3, e3, r3⟩ := L.read (dps := ds.zip dt) hr2 (by rw [List.length_zip, List.length_zip, q1.length, q2.length]) fun i dp vp a b => by
            rw [List.getElem?_zip_eq_some] at a b
            obtain ⟨v1, a1, a2⟩ := q1.get a.1
            obtain ⟨v2, b1, b2⟩ := q2.get a.2
            rw [b.1] at a1
            rw [b.2] at b1
            cases a1
            cases b1
            exact ⟨a2, b2⟩
          rw [← zipL_map] at r3
          by_cases ho : own = true
          · rw [if_pos ho] at h3
            obtain ⟨hr4, e4⟩ := hr3.owned hq r3
            have qq : Rp X.K Z3 (put ι2 M3.length q) (M3 ++ [MO.lst (zipL ds dt)]).length (.ref M3.length) (.ref (put ι2 M3.length q M3.length)) := .ref (by simp)
            rw [put_at] at qq
            exact h3 _ _ _ _ (e3.trans e4 hr3.ali) hr4 qq
          · rw [if_neg ho] at h3
            exact ((h3.shift e3 hr3).after).lst hr3 r3 q hq
    · rw [if_neg c] at h3
      exact h3.elim
end
end Bk

set_option Elab.async false
set_option linter.all false
set_option maxRecDepth 100000
set_option maxHeartbeats 2000000
namespace Bk
open PySem PySem.Spec PyProof.Rows L2
/-! ### a, b = x, y -/
def gPar2 (i j : Nat) (gs : GA) : GS := fun Γ M => (gs Γ M).thenS Γ fun ds M1 => match ds with
  | [d, e] => .nx ((Γ.set i (some d)).set j (some e)) M1
  | _ => .bad
def gPar3 (i j l : Nat) (gs : GA) : GS := fun Γ M => (gs Γ M).thenS Γ fun ds M1 => match ds with
  | [d, e, f] => .nx (((Γ.set i (some d)).set j (some e)).set l (some f)) M1
  | _ => .bad
section
variable {X : Cx} {C : CT} {W : WX} {gs : GA}
theorem qs_par2 (i j : Nat) {x y : Str} {a b : Expr} {px py pt pos : Pos} {kt k2 : Nat} {pt2 : Pos} (hc : X.calm = true) (hN : X.N.Nodup) (ha : QA X C W [a, b] gs) (hij : i ≠ j := by decide) (hi : X.N[i]? = some x := by rfl) (hj : X.N[j]? = some y := by rfl)
    (hx : X.env.scope.names.lookup x = some .local := by rfl) (hy : X.env.scope.names.lookup y = some .local := by rfl)
    (hw : swappedStores [.Tuple [.Name x px, .Name y py] kt pt] (.Tuple [a, b] k2 pt2) X.env = pure (some [x, y]) := by rfl)
    (hs : swapsWithSole [.Tuple [.Name x px, .Name y py] kt pt] (.Tuple [a, b] k2 pt2) pos.line X.env = pure false := by rfl) :
    QS X C W (.Assign [.Tuple [.Name x px, .Name y py] kt pt] (.Tuple [a, b] k2 pt2) pos) (gPar2 i j gs) := by
  obtain ⟨ta, pa, qa⟩ := ha
  refine ⟨_, ps_par hc hN hi hj hij hx hy pa hw hs, fun Dd σ H Z ι Γ M sl hr h => qa σ H Z ι Γ M _ sl hr (PostS.bind h sl fun ds M1 vs H1 Z1 ι1 e1 hr1 r1 h1 => ?_)⟩
  match ds, h1, r1 with
  | [d, e], h1, r1 =>
    obtain ⟨v, u, rfl, q1, q2⟩ := rps2 r1
    exact ⟨v, u, rfl, h1 _ H1 Z1 ι1 .refl hr1 (((sl.ext e1).set i q1).set j q2)⟩
end
@[simp] theorem u_gPar2 (i j : Nat) (gs : GA) (Γ : Env) (M : List MO) : gPar2 i j gs Γ M = (gs Γ M).thenS Γ fun ds M1 => (match ds with
  | [d, e] => .nx ((Γ.set i (some d)).set j (some e)) M1
  | _ => .bad) := Eq.trans rfl rfl
@[simp] theorem u_gPar3 (i j l : Nat) (gs : GA) (Γ : Env) (M : List MO) : gPar3 i j l gs Γ M = (gs Γ M).thenS Γ fun ds M1 => (match ds with
  | [d, e, f] => .nx (((Γ.set i (some d)).set j (some e)).set l (some f)) M1
  | _ => .bad) := Eq.trans rfl rfl
@[simp] theorem u_gLzip (own : Bool) (ga gb : GE) (Γ : Env) (M : List MO) : gLzip own ga gb Γ M = (ga Γ M).bind fun x M1 => (gb Γ M1).bind fun y M2 => (opR (zipO x y) M2).bind fun ds M3 => if ds.length ≤ sizeLine then (if own = true then .ok (.ref M3.length) (M3 ++ [.lst ds]) else .ok (.lst ds) M3) else .bad := Eq.trans rfl rfl
end Bk

set_option Elab.async false
set_option linter.all false
set_option maxRecDepth 100000
set_option maxHeartbeats 4000000
namespace Bk
open PySem PySem.Spec PyProof.Rows L2
/-! ### tuple * int, any count up to a thousand -/
theorem tuple_mul1 (l : Addr) (items : Array Value) (n : Nat) (dd : Option Addr) (sl : Array (Option Value)) (u : Tok) :
    Meets (Builtin.«tuple.__mul__» ⟨[.ref l, .int 1 u], []⟩) (fun _ R s => s.heap.get? l = some { cls := .type "tuple", dict := dd, data := .seq items n, slots := sl } ∧ R (.ok (.ret (Value.ref l))) s) :=
  .of_wp fun prog w A R s h => by
    obtain ⟨hp, g, d, tk, os⟩ := s
    obtain ⟨hl, h⟩ := h
    have f1 := AutoSeq1.idx_int
    have c0 : (decide ((1 : Int) < -(2 ^ 63)) || decide ((1 : Int) ≥ 2 ^ 63)) = false := by decide
    have c1 : (items.isEmpty || (1 : Int) == 1) = true := by simp
    wp_walk using wpAny_loadPart' hl
    repeat (first
      | (refine wpAny_ite_false (decide_eq_false (by rw [c0]; exact Bool.false_ne_true)) ?_; wp_walk using wpAny_loadPart' hl)
      | (refine wpAny_ite_true (decide_eq_true c1) ?_; wp_walk using wpAny_loadPart' hl))
    exact ⟨_, rfl, h⟩
theorem tuple_mul0 (l : Addr) (items : Array Value) (n : Nat) (dd : Option Addr) (sl : Array (Option Value)) (x : Int) (u : Tok) (c0 : (decide (x < -(2 ^ 63)) || decide (x ≥ 2 ^ 63)) = false) (c1 : (items.isEmpty || x == 1) = false) (c2 : (decide (x ≤ 0) || items.isEmpty) = true) :
    Meets (Builtin.«tuple.__mul__» ⟨[.ref l, .int x u], []⟩) (fun _ R s => s.heap.get? l = some { cls := .type "tuple", dict := dd, data := .seq items n, slots := sl } ∧
      R (.ok (.ret (Value.ref s.heap.objs.size))) { s with heap := s.heap.push { cls := Value.type "tuple", data := Data.seq #[] }, toks := s.toks }) :=
  .of_wp fun prog w A R s h => by
    obtain ⟨hp, g, d, tk, os⟩ := s
    obtain ⟨hl, h⟩ := h
    have f1 := AutoSeq1.idx_int
    wp_walk using wpAny_loadPart' hl
    repeat (first
      | (refine wpAny_ite_false (decide_eq_false (by rw [c0]; exact Bool.false_ne_true)) ?_; wp_walk using wpAny_loadPart' hl)
      | (refine wpAny_ite_false (decide_eq_false (by rw [c1]; exact Bool.false_ne_true)) ?_; wp_walk using wpAny_loadPart' hl)
      | (refine wpAny_ite_true (decide_eq_true c2) ?_; wp_walk using wpAny_loadPart' hl))
    exact ⟨_, rfl, h⟩
def rRepTA (K : PySem.W.Frag) : R2 := fun x y H Q => ∃ l k xs, x = .ref l ∧ y = .int k ∧ SqT K H l xs ∧ xs ≠ [] ∧ -1000 ≤ k ∧ k ≤ 1000 ∧ xs.length ≤ 1000 ∧ (k = 1 → Q (.ref l) H) ∧ (k ≠ 1 → ∀ p, H p = none → Q (.ref p) (upd H p (.tup (List.replicate k.toNat xs).flatten)))
section
variable {X : Cx}
theorem op_repTA : OpR X (binaryOp .Mult) (rRepTA X.K) := by
  intro pins s σ H x y v u Q I rx ry h
  obtain ⟨l, k, xs, rfl, rfl, hT, hne, h0, h1, hz, q1, q⟩ := h
  by_cases h2 : 2 ≤ k
  · exact op_repT pins s σ H _ _ v u Q I rx ry ⟨l, k, xs, rfl, rfl, hT, hne, h2, h1, hz, q (by omega)⟩
  cases rx
  obtain ⟨t, rfl⟩ := ry
  obtain ⟨its, r, ⟨⟨cls, dd, data, sl⟩, ho, hc, n, hd⟩, hs⟩ := I.tuple hT
  simp only at hc hd
  subst hc hd
  have hle : its.length = xs.length := r.length.symm
  have hn : its ≠ [] := fun e => hne (List.eq_nil_of_length_eq_zero (by rw [← hle, e]; rfl))
  have hi : its.toArray.isEmpty = false := by
    cases its with
    | nil => exact absurd rfl hn
    | cons a b => rfl
  by_cases e1 : k = 1
  · subst e1
    exact wpAny_binaryOp_repeat_ref (T := "tuple") (U := "int") (by decide) ⟨_, ho, rfl⟩ (fun s' => typeIs_int s' 1 t) noFill_tuple_mul F.fills_int_mul F.slot_int_rmul repeat_tuple F.slot_int_index.lookup
      (call_meets F.slot_int_rmul (typeIs_int s 1 t) F.entry_int_rmul (F.args_int_rmul_2 _ _) (int_rmul_tuple 1 t l its.toArray n dd sl) ⟨ho, rfl, ⟨_, ho, rfl⟩, call_meets F.slot_tuple_mul ⟨_, ho, rfl⟩ F.entry_tuple_mul (F.args_tuple_mul_2 _ _) (tuple_mul1 l its.toArray n dd sl t) ⟨ho, ⟨.ref l, H, I, rfl, q1 rfl⟩⟩⟩)
  · have c0 : (decide (k < -(2 ^ 63)) || decide (k ≥ 2 ^ 63)) = false := by
      rw [decide_eq_false (by omega), decide_eq_false (by omega)] <;> rfl
    have c1 : (its.toArray.isEmpty || k == 1) = false := by
      rw [hi, Bool.false_or]; exact beq_eq_false_iff_ne.mpr e1
    have c2 : (decide (k ≤ 0) || its.toArray.isEmpty) = true := by
      rw [hi, Bool.or_false]; exact decide_eq_true (by omega)
    have z : (List.replicate k.toNat xs).flatten = [] := by
      have : k.toNat = 0 := by omega
      rw [this]; rfl
    rw [z] at q
    refine wpAny_binaryOp_repeat_ref (T := "tuple") (U := "int") (by decide) ⟨_, ho, rfl⟩ (fun s' => typeIs_int s' k t) noFill_tuple_mul F.fills_int_mul F.slot_int_rmul repeat_tuple F.slot_int_index.lookup
      (call_meets F.slot_int_rmul (typeIs_int s k t) F.entry_int_rmul (F.args_int_rmul_2 _ _) (int_rmul_tuple k t l its.toArray n dd sl) ⟨ho, rfl, ⟨_, ho, rfl⟩, call_meets F.slot_tuple_mul ⟨_, ho, rfl⟩ F.entry_tuple_mul (F.args_tuple_mul_2 _ _) (tuple_mul0 l its.toArray n dd sl k t c0 c1 c2) ⟨ho, ?_⟩⟩)
    exact ⟨.ref s.heap.objs.size, _, I.laid (t' := s.toks) (o := .tup []) (fun b ob q => Heap.get?_push_of_some _ q) (Nat.le_refl _) ⟨by decide, [], .nil, IsTup.new _ _⟩, rfl, q e1 _ (I.hok.fresh (Nat.le_refl _))⟩
def dMulT (M : List MO) (x : D) (y : D) : Option D := match x, y with
  | .tup ds, .int k => if (decide (ds ≠ []) && decide (-1000 ≤ k) && decide (k ≤ 1000) && decide (ds.length ≤ 1000)) = true then some (.tup (List.replicate k.toNat ds).flatten) else none
  | x, y => dMulA M x y
theorem op_mulT : OpR X (binaryOp .Mult) (fun x y H Q => rMulA X.K x y H Q ∨ rRepTA X.K x y H Q) := op_mulL.or op_repTA
theorem ok_mulT : Ok2 X (fun x y H Q => rMulA X.K x y H Q ∨ rRepTA X.K x y H Q) dMulT := fun x y H Z ι M dx dy d Q hr rx ry e q => by
  unfold dMulT at e
  split at e
  · rename_i ds k
    split at e
    · rename_i c
      cases e
      simp only [Bool.and_eq_true, decide_eq_true_eq] at c
      obtain ⟨⟨⟨c1, c2⟩, c3⟩, c4⟩ := c
      cases ry
      cases rx with
      | tup s r =>
        have r' := r.rep k.toNat
        refine .inr ⟨_, k, _, rfl, rfl, subT hr.sub s, fun z => c1 ?_, c2, c3, by rw [← r.length]; exact c4, fun e1 => ?_, fun _ => ?_⟩
        · have := r.length
          rw [z] at this
          exact List.eq_nil_of_length_eq_zero this
        · subst e1
          refine q.now hr (.tup s ?_)
          simpa using r
        · exact q.tup hr r'
    · cases e
  · exact .inl (ok_mulL x y H Z ι M dx dy d Q hr rx ry e q)
end
@[simp] theorem e_mulT (M : List MO) (d : D) (ds : List D) (k : Int) (h1 : -1000 ≤ k) (h2 : k ≤ 1000) (h3 : ds.length < 1000) : dMulT M (.tup (d :: ds)) (.int k) = some (.tup (List.replicate k.toNat (d :: ds)).flatten) := by
  have : (d :: ds).length ≤ 1000 := by rw [List.length_cons]; omega
  simp only [dMulT]
  rw [if_pos]
  simp [h1, h2]
  omega
@[simp] theorem e_mulTi (M : List MO) (i : Int) (y : D) : dMulT M (.int i) y = dMulA M (.int i) y := Eq.trans rfl rfl
@[simp] theorem e_mulTl (M : List MO) (ds : List D) (y : D) : dMulT M (.lst ds) y = dMulA M (.lst ds) y := Eq.trans rfl rfl
theorem e_mulL (M : List MO) (ds : List D) (k : Int) (h1 : -(2 ^ 63) ≤ k) (h2 : k < 2 ^ 63) (h3 : ds.length * k.toNat ≤ sizeLine) : dMulA M (.lst ds) (.int k) = some (.lst (List.replicate k.toNat ds).flatten) := by
  show repI M (.lst ds) (.int k) = _
  simp only [repI, listD]
  rw [if_pos]
  simp only [Bool.and_eq_true, decide_eq_true_eq]
  exact ⟨⟨h2, h1⟩, h3⟩
end Bk

set_option Elab.async false
set_option linter.all false
set_option maxRecDepth 100000
set_option maxHeartbeats 2000000
namespace Bk
open PySem PySem.Spec PyProof.Rows L2
theorem lcL_cons {gg : GG} {ge : GE} {d y : D} {ds acc : List D} {Γ Γ1 : Env} {M M2 : List MO} (h1 : gg d Γ = some Γ1) (h2 : ge Γ1 M = .ok y M2) (q : acc.length < sizeLine) : gLcL gg gYes ge Γ (d :: ds) acc M = gLcL gg gYes ge Γ ds (acc ++ [y]) M2 := by
  simp [gLcL, h1, h2, q]
/-- a list made item by item -/
theorem lcL_run {α : Type} {gg : GG} {ge : GE} {Γ : Env} {M : List MO} (f : α → D) (g : α → D) : ∀ (xs : List α) (acc : List D), acc.length + xs.length ≤ sizeLine → (∀ x ∈ xs, ∃ Γ1, gg (f x) Γ = some Γ1 ∧ ge Γ1 M = .ok (g x) M) → gLcL gg gYes ge Γ (xs.map f) acc M = .ok (acc ++ xs.map g) M
  | [], acc, _, _ => by simp [gLcL]
  | x :: xs, acc, h, hf => by
    obtain ⟨Γ1, h1, h2⟩ := hf x (by simp)
    simp only [List.length_cons] at h
    have ih := lcL_run (gg := gg) (ge := ge) (Γ := Γ) (M := M) f g xs (acc ++ [g x]) (by simp; omega) fun e he => hf e (by simp [he])
    rw [List.map_cons, lcL_cons h1 h2 (by omega), ih]
    simp
end Bk

set_option Elab.async false
set_option linter.all false
set_option maxRecDepth 100000
set_option maxHeartbeats 2000000
namespace Bk
open PySem PySem.Spec PyProof.Rows L2
/-! ### objects of own classes: a cell of the store, its fields by name -/
def putD (f : Str) (d : D) : List (Str × D) → List (Str × D)
  | [] => [(f, d)]
  | (g, x) :: r => if g = f then (g, d) :: r else (g, x) :: putD f d r
section
variable {K : PySem.W.Frag} {H Z : Hp} {ι : Nat → Addr} {n : Nat}
end
section
variable {K : PySem.W.Frag} {H Z : Hp} {ι : Nat → Addr} {M : List MO}
end
/-! ### what the rules of objects compute -/
def gFld (nm f : Str) (ge : GE) : GE := fun Γ M => (ge Γ M).bind fun x M1 => match x with
  | .ref k => match M1[k]? with
    | some (.obj nm' fs) => if nm' = nm then opR (fs.lookup f) M1 else .bad
    | _ => .bad
  | _ => .bad
def gSetF (nm f : Str) (ge go : GE) : GS := fun Γ M => (ge Γ M).thenS Γ fun d M1 => (go Γ M1).thenS Γ fun x M2 => match x with
  | .ref k => match M2[k]? with
    | some (.obj nm' fs) => if nm' = nm ∧ fs.length < 1000 then .nx Γ (M2.set k (.obj nm (putD f d fs))) else .bad
    | _ => .bad
  | _ => .bad
def isObj (nm m : Str) (M : List MO) : D → Bool
  | .ref k => match M[k]? with
    | some (.obj nm' fs) => decide (nm' = nm) && (fs.lookup m).isNone
    | _ => false
  | _ => false
def gMeth (nm m : Str) (n : Nat) (F : List D → List MO → R D) (go : GE) (ga : GA) : GE := fun Γ M => (go Γ M).bind fun x M1 => if isObj nm m M1 x = true then (ga Γ M1).bind fun ds M2 => if ds.length + 1 = n then callF F (x :: ds) M2 else .bad else .bad
def newR (m : Nat) : D → List MO → R D
  | .non, M => .ok (.ref m) M
  | _, _ => .bad
def gNew (nm : Str) (n : Nat) (F : List D → List MO → R D) (ga : GA) : GE := fun Γ M => (ga Γ M).bind fun ds M1 => if ds.length + 1 = n then (callF F (.ref M1.length :: ds) (M1 ++ [.obj nm []])).bind (newR M1.length) else .bad
/-- a list in a field will not be changed any more -/
def gFzF (i : Nat) (f : Str) : GS := fun Γ M => match Γ[i]? with
  | some (some (.ref k)) => match M[k]? with
    | some (.obj nm fs) => match fs.lookup f with
      | some (.ref j) => match M[j]? with
        | some (.lst ds) => .nx Γ ((M.set j .dead).set k (.obj nm (putD f (.lst ds) fs)))
        | _ => .bad
      | _ => .bad
    | _ => .bad
  | _ => .bad
section
variable {X : Cx} {C : CT} {W : WX} {e o : Expr} {nm f m x : Str} {ge go : GE} {gs : GA} {pos apos pos' p : Pos} {C0 : Addr} {es : List Expr}
variable {k n : Nat} {fa : Addr} {fd : FuncData} {ps : List Str} {F : List D → List MO → R D} {pl : Sem Bool}
end
/-! ### how they are worked out -/
@[simp] theorem u_gFld (nm f : Str) (ge : GE) (Γ : Env) (M : List MO) : gFld nm f ge Γ M = ((ge Γ M).bind fun x M1 => match x with
  | .ref k => match M1[k]? with
    | some (.obj nm' fs) => if nm' = nm then opR (fs.lookup f) M1 else .bad
    | _ => .bad
  | _ => .bad) := Eq.trans rfl rfl
@[simp] theorem u_gSetF (nm f : Str) (ge go : GE) (Γ : Env) (M : List MO) : gSetF nm f ge go Γ M = ((ge Γ M).thenS Γ fun d M1 => (go Γ M1).thenS Γ fun x M2 => match x with
  | .ref k => match M2[k]? with
    | some (.obj nm' fs) => if nm' = nm ∧ fs.length < 1000 then .nx Γ (M2.set k (.obj nm (putD f d fs))) else .bad
    | _ => .bad
  | _ => .bad) := Eq.trans rfl rfl
@[simp] theorem u_isObj (nm m : Str) (M : List MO) (k : Nat) : isObj nm m M (.ref k) = (match M[k]? with
    | some (.obj nm' fs) => decide (nm' = nm) && (fs.lookup m).isNone
    | _ => false) := Eq.trans rfl rfl
@[simp] theorem u_gMeth (nm m : Str) (n : Nat) (F : List D → List MO → R D) (go : GE) (ga : GA) (Γ : Env) (M : List MO) : gMeth nm m n F go ga Γ M = (go Γ M).bind fun x M1 => if isObj nm m M1 x = true then (ga Γ M1).bind fun ds M2 => if ds.length + 1 = n then callF F (x :: ds) M2 else .bad else .bad := Eq.trans rfl rfl
@[simp] theorem u_newR (m : Nat) (M : List MO) : newR m .non M = .ok (.ref m) M := Eq.trans rfl rfl
@[simp] theorem u_gNew (nm : Str) (n : Nat) (F : List D → List MO → R D) (ga : GA) (Γ : Env) (M : List MO) : gNew nm n F ga Γ M = (ga Γ M).bind fun ds M1 => if ds.length + 1 = n then (callF F (.ref M1.length :: ds) (M1 ++ [.obj nm []])).bind (newR M1.length) else .bad := Eq.trans rfl rfl
@[simp] theorem u_gFzF (i : Nat) (f : Str) (Γ : Env) (M : List MO) : gFzF i f Γ M = (match Γ[i]? with
  | some (some (.ref k)) => match M[k]? with
    | some (.obj nm fs) => match fs.lookup f with
      | some (.ref j) => match M[j]? with
        | some (.lst ds) => .nx Γ ((M.set j .dead).set k (.obj nm (putD f (.lst ds) fs)))
        | _ => .bad
      | _ => .bad
    | _ => .bad
  | _ => .bad) := Eq.trans rfl rfl
@[simp] theorem blo_obj (m : Nat) (nm : Str) (fs : List (Str × D)) : belowO m (.obj nm fs) = belows m (fs.map (·.2)) := Eq.trans rfl rfl
end Bk

set_option Elab.async false
set_option linter.all false
set_option maxRecDepth 100000
set_option maxHeartbeats 2000000
namespace Bk
open PySem PySem.Spec PyProof.Rows L2
/-! ### range down by ones -/
def rngDn (lo : Int) : Nat → List D
  | 0 => []
  | n + 1 => .int lo :: rngDn (lo - 1) n
def rng3 : List D → Option (List D)
  | [.int i, .int j, .int c] => if (inR i && inR j && decide (c = -1)) = true then some (rngDn i (i - j).toNat) else none
  | _ => none
def gRng3 (ga : GA) : GI := fun Γ M => (ga Γ M).bind fun ds M1 => opR (rng3 ds) M1
def gRev (ge : GE) : GI := fun Γ M => (ge Γ M).bind fun d M1 => opR ((seqD d).map List.reverse) M1
def mReverse : MF0 := fun ds => some (ds.reverse, .non)
def items1 (M : List MO) : List D → Option (List D)
  | [d] => itemsD M d
  | _ => none
def gListO (ga : GA) : GE := fun Γ M => (ga Γ M).bind fun xs M1 => match items1 M1 xs with
  | some ds => .ok (.ref M1.length) (M1 ++ [.lst ds])
  | none => .bad
section
variable {X : Cx} {C : CT} {W : WX} {tg e a b c : Expr} {g ga : GE} {gs : GA} {pos p : Pos}
end
@[simp] theorem u_gRng3 (ga : GA) (Γ : Env) (M : List MO) : gRng3 ga Γ M = (ga Γ M).bind fun ds M1 => opR (rng3 ds) M1 := Eq.trans rfl rfl
@[simp] theorem u_gRev (ge : GE) (Γ : Env) (M : List MO) : gRev ge Γ M = (ge Γ M).bind fun d M1 => opR ((seqD d).map List.reverse) M1 := Eq.trans rfl rfl
@[simp] theorem u_gListO (ga : GA) (Γ : Env) (M : List MO) : gListO ga Γ M = ((ga Γ M).bind fun xs M1 => match items1 M1 xs with
  | some ds => .ok (.ref M1.length) (M1 ++ [.lst ds])
  | none => .bad) := Eq.trans rfl rfl
@[simp] theorem u_items1 (M : List MO) (d : D) : items1 M [d] = itemsD M d := Eq.trans rfl rfl
@[simp] theorem u_rng3 (i j : Int) : rng3 [.int i, .int j, .int (-1)] = if (inR i && inR j) = true then some (rngDn i (i - j).toNat) else none := by
  show (if (inR i && inR j && decide ((-1 : Int) = -1)) = true then _ else _) = _
  simp
@[simp] theorem u_reverse (ds : List D) : mReverse ds = some (ds.reverse, .non) := Eq.trans rfl rfl
end Bk

set_option Elab.async false
set_option linter.all false
set_option maxRecDepth 100000
set_option maxHeartbeats 2000000
namespace Bk
open PySem PySem.Spec PyProof.Rows L2
theorem units65 {k : Nat} {A : Around} (r : Room k A) : A.units + 65 < cLine := by have := r.un; omega
/-! ### t >= u -/
def intsL : List D → Option (List Int)
  | [] => some []
  | .int i :: ds => (intsL ds).map fun is => i :: is
  | _ => none
def geI (ns ms : List Int) : Bool := Ob.lexAt (fun j => decide (ns.getD j 0 = ms.getD j 0)) (fun j => decide (ms.getD j 0 ≤ ns.getD j 0)) (decide (ns.length ≥ ms.length)) 0 (min ns.length ms.length)
def dGeA (M : List MO) (x y : D) : Option D := match x, y with
  | .tup xs, .tup ys => match intsL xs, intsL ys with
    | some ns, some ms => some (.bl (geI ns ms))
    | _, _ => none
  | x, y => dGe M x y
section
variable {X : Cx}
end
/-! ### x in l, items of any depth -/
section
variable {X : Cx}
end
/-! ### l.index(x) -/
def dIndex (M : List MO) (x y : D) : Option D := match toP (deref M x), toP (deref M y) with
  | some (.list ps), some q => if (SeqAt.shaped (.list ps) && SeqAt.shaped q) = true then (ps.findIdx? fun z => PyData.eqv z q).map fun j => .int (j : Nat) else none
  | _, _ => none
def gIndex (go ge : GE) : GE := fun Γ M => (go Γ M).bind fun x M1 => if isListD M1 x = true then (ge Γ M1).bind fun y M2 => opR (dIndex M2 x y) M2 else .bad
section
variable {X : Cx} {C : CT} {W : WX}
theorem qe_index {o e : Expr} {go ge : GE} {pos apos : Pos} (hu : X.A.units + 65 < cLine) (ho : QE X C W o go) (he : QE X C W e ge)
    (hbase : attributeBase o "index" X.env (eval o X.env) = eval o X.env := by rfl) (hs : starEach [e] X.env = (false, eval e X.env) :: starEach [] X.env := by rfl)
    (hfew : ((backTo pos (starEach [e] X.env)).all (fun x => !x.1) && (backToKw pos (keywordEach [] X.env)).all (fun x => x.1.isSome) && decide ([e].length + ([] : List Keyword).length + (if ([] : List Keyword).isEmpty then 0 else 1) < 30)) = true := by rfl)
    (hline : (apos.endLine == pos.line) = true := by rfl) : QE X C W (.Call (.Attribute o "index" apos) [e] [] pos) (gIndex go ge) := by
  obtain ⟨ta, pa, qa⟩ := ho
  obtain ⟨tb, pb, qb⟩ := he
  refine ⟨_, pe_bm PySem.F.plainAttrs_list PySem.F.slot_list_index PySem.F.type_list_index (mt_indexD hu) pa (pa_cons pb pa_nil hs) hbase hfew hline hs rfl, fun σ H Z ι Γ M Q sl hr h => qa σ H Z ι Γ M _ sl hr (h.bind fun x M1 v H1 Z1 ι1 e1 hr1 r1 h1 => ?_)⟩
  by_cases c : isListD M1 x = true
  · rw [if_pos c] at h1
    refine ⟨isListD_run hr1 r1 c, qb σ H1 Z1 ι1 Γ M1 _ (sl.ext e1) hr1 (h1.bind fun y M2 u H2 Z2 ι2 e2 hr2 r2 h2 => ?_)⟩
    obtain ⟨d, hd, h3⟩ := Post.of_opR (γ := D) (δ := V) h2
    unfold dIndex at hd
    cases ea : toP (deref M2 x) with
    | none => rw [ea] at hd; cases hd
    | some p =>
      cases eb : toP (deref M2 y) with
      | none => rw [ea, eb] at hd; cases p <;> cases hd
      | some q =>
        rw [ea, eb] at hd
        cases p with
        | list ps =>
          simp only at hd
          by_cases z : (SeqAt.shaped (.list ps) && SeqAt.shaped q) = true
          · rw [if_pos z] at hd
            rw [Bool.and_eq_true] at z
            cases ej : ps.findIdx? (fun z => PyData.eqv z q) with
            | none => rw [ej] at hd; cases hd
            | some j =>
              rw [ej] at hd
              cases hd
              obtain ⟨hj, h5, h6⟩ := List.findIdx?_eq_some_iff_getElem.mp ej
              have dx := deref_dp hr2 (r1.ext e2) ea
              have dy := deref_dp hr2 r2 eb
              cases dx with
              | lst hs ha =>
                refine ⟨_, u, q, ps, j, ps[j], rfl, rfl, .lst hs ha, dy, z.1, z.2, List.getElem?_eq_getElem hj, h5, fun m z' hm hz => ?_, h3 _ H2 Z2 ι2 .refl hr2 (.int _)⟩
                obtain ⟨hm', rfl⟩ := List.getElem?_eq_some_iff.mp hz
                have := h6 m hm
                simpa using this
          · rw [if_neg z] at hd
            cases hd
        | _ => cases hd
  · rw [if_neg c] at h1
    exact h1.elim
end
@[simp] theorem u_gIndex (go ge : GE) (Γ : Env) (M : List MO) : gIndex go ge Γ M = (go Γ M).bind fun x M1 => if isListD M1 x = true then (ge Γ M1).bind fun y M2 => opR (dIndex M2 x y) M2 else .bad := Eq.trans rfl rfl
@[simp] theorem e_geA (M : List MO) (i j : Int) : dGeA M (.int i) (.int j) = some (.bl (decide (j ≤ i))) := Eq.trans rfl rfl
end Bk

set_option Elab.async false
set_option linter.all false
set_option maxRecDepth 100000
set_option maxHeartbeats 2000000
namespace Bk
open PySem PySem.Spec PyProof.Rows L2
/-! ### abs -/
def dAbs (_ : List MO) : D → Option D
  | .int i => some (.int (if i < 0 then -i else i))
  | _ => none
/-! ### sorted, ints -/
def insI (x : Int) : List Int → List Int
  | [] => [x]
  | y :: ys => if x ≤ y then x :: y :: ys else y :: insI x ys
def srtI : List Int → List Int
  | [] => []
  | x :: xs => insI x (srtI xs)
def dSortR := ofInts fun is => some (.lst ((srtI is).reverse.map D.int))
def mClear : MF0 := fun _ => some ([], .non)
/-- a method of a list that reads it, with one argument -/
def gRd1 (f : List MO → D → D → Option D) (go ge : GE) : GE := fun Γ M => (go Γ M).bind fun x M1 => if isListD M1 x = true then (ge Γ M1).bind fun y M2 => opR (f M2 x y) M2 else .bad
def dRevL (M : List MO) (x : D) : Option D := (listD M x).map fun ds => .lst ds.reverse
def gRevL (ge : GE) : GE := fun Γ M => (ge Γ M).bind fun x M1 => opR (dRevL M1 x) M1
def gSortR (ge : GE) : GE := fun Γ M => (ge Γ M).bind fun x M1 => opR (dSortR M1 x) M1
section
variable {X : Cx} {C : CT} {W : WX} {e o : Expr} {g ge go : GE}
end
@[simp] theorem u_gRd1 (f : List MO → D → D → Option D) (go ge : GE) (Γ : Env) (M : List MO) : gRd1 f go ge Γ M = (go Γ M).bind fun x M1 => if isListD M1 x = true then (ge Γ M1).bind fun y M2 => opR (f M2 x y) M2 else .bad := Eq.trans rfl rfl
@[simp] theorem u_gRevL (ge : GE) (Γ : Env) (M : List MO) : gRevL ge Γ M = (ge Γ M).bind fun x M1 => opR (dRevL M1 x) M1 := Eq.trans rfl rfl
@[simp] theorem u_gSortR (ge : GE) (Γ : Env) (M : List MO) : gSortR ge Γ M = (ge Γ M).bind fun x M1 => opR (dSortR M1 x) M1 := Eq.trans rfl rfl
@[simp] theorem e_abs (M : List MO) (i : Int) : dAbs M (.int i) = some (.int (if i < 0 then -i else i)) := Eq.trans rfl rfl
@[simp] theorem e_revL (M : List MO) (ds : List D) : dRevL M (.lst ds) = some (.lst ds.reverse) := Eq.trans rfl rfl
@[simp] theorem e_clear (ds : List D) : mClear ds = some ([], .non) := Eq.trans rfl rfl
end Bk

set_option Elab.async false
set_option linter.all false
set_option maxRecDepth 100000
set_option maxHeartbeats 2000000
namespace Bk
open PySem PySem.Spec PyProof.Rows L2
/-! ### defs that work on the caller's whole store: things within things go in and come back -/
def finW : RS → R D
  | .rt d M' => .ok d M'
  | .nx _ M' => .ok .non M'
  | .exc c d _ M' => .exc c d M'
  | _ => .bad
def runW (n : Nat) (g : GS) (ds : List D) (M : List MO) : R D := finW (g (ds.map some ++ List.replicate (n - ds.length) none) M)
def callW (F : List D → List MO → R D) (ds : List D) (M : List MO) : R D := F ds M
def gCallW (n : Nat) (F : List D → List MO → R D) (ga : GA) : GE := fun Γ M => (ga Γ M).bind fun ds M1 => if ds.length = n then callW F ds M1 else .bad
def gCallWK (n : Nat) (F : List D → List MO → R D) (is : List Nat) (ga gk : GA) : GE := fun Γ M => (ga Γ M).bind fun ds M1 => (gk Γ M1).bind fun es M2 => if (pick (ds ++ es) is).length = n then callW F (pick (ds ++ es) is) M2 else .bad
section
variable {K : PySem.W.Frag} {C : CT} {H Z : Hp} {ι : Nat → Addr} {M : List MO} {E : XK} {Q : VK}
theorem finW_run {X : Cx} {W : WX} {r : RS} (hW : ∀ c d σ H, E c d H → W c d σ H) (eK : X.K = K) (h : PostF K C E H Z ι M (finW r) Q) : PostS X C W H Z ι M r { nx := fun _ H' => Q .non H', rt := Q } := by
  subst eK
  cases r with
  | bad => exact h
  | bk Γ M' => exact h.elim
  | ct Γ M' => exact h.elim
  | nx Γ M' => exact fun σ' H' Z' ι' e hr sl => h .non H' Z' ι' e hr .non
  | rt d M' => exact fun v H' Z' ι' e hr r => h v H' Z' ι' e hr r
  | exc n d Γ M' => exact fun cls dd σ' H' Z' ι' e hr sl x => hW _ _ _ _ (h cls dd H' Z' ι' e hr x)
end
section
variable {P : Program} {w : World} {K : PySem.W.Frag} {mg : Str → Option Value} {base : Heap} {C : CT}
/-- a def whose store stays whole -/
theorem fqW_of {x qual : Str} {st : Stmt} {f : Addr} {fd : FuncData} {N ps : List Str} {k : Nat} {g : GS} (F : Fun K x qual st f fd) (S : FnScope N ps (defScope st))
    (hbody : ∀ (cdv : Value) (A : Around) (outer : List PySem.Env) (s : Shared) (H : Hp) (E : XK), Room k (A.deeper (envOfC qual (defScope st) s.heap.objs.size f cdv)) → A.guards = some [] →
      QSs (cxOf (L2.CX P w) P w K mg base N qual (defScope st) f cdv A outer s H E) C (fun cls d _ H => E cls d H) (defBody st) g) : FnQ P w K mg base C (k + 1) f fd ps (runW N.length g) := by
  obtain ⟨oc, od, kV, doc, pm, an, cdv, ct, osl, rfl, lk, hcd⟩ := F.ex
  refine ⟨fun A outer s H args us vs Q E ds Z ι M room hgu env0 hbind rvs hlen rds hr hpost => ?_⟩
  have hK : K.In s.heap := env0.mod.kin.keeps fun b o z => (env0.bs b o z).1
  have hlim : s.heap.NoLimit := env0.mod.nolimit.keeps fun b o z => (env0.bs b o z).1
  have kinds : ∀ y ∈ ps.zip us, (defScope st).names.lookup y.1 = some .local ∨ ((defScope st).names.lookup y.1 = some .cell ∧ ((cellsFrom (s.heap.objs.size + 1) (defScope st).names []).lookup y.1).isSome = true) := fun y hy => by
    rcases S.par y.1 (List.of_mem_zip (a := y.1) (b := y.2) hy).1 with z | z
    · exact .inl z
    · exact .inr ⟨z, PySem.W.cellsFrom_some _ _ _ (.inl z)⟩
  refine codeAny_call_function room.depth (hK _ _ lk) rfl S.co S.gen rfl (PySem.W.codeRec_of hK hcd) (hbind _ _ _ _ (wpAny_newFunctionEnv_cells S.kind kinds fun env he s1 ic => ?_))
  subst he
  refine ⟨hlim.keeps ic.toInCall.keep, codeAny_func ?_⟩
  obtain ⟨ts, pts, qts⟩ := hbody cdv A outer s H E (room.deeper _) hgu
  have J : Inv (cxOf (L2.CX P w) P w K mg base N qual (defScope st) f cdv A outer s H E) [] (L2.start N vs) H s1 := inv_start S room.hd env0 hlen rvs ic
  have lN : vs.length ≤ N.length := by
    have z := congrArg List.length S.pre
    rw [List.length_take] at z
    omega
  have hq := qts _ (L2.start N vs) H Z ι _ M (slots_start rds lN) hr (finW_run (E := E) (fun _ _ _ _ z => z) rfl hpost)
  refine wpAny_mono (pts.run [] s1 _ H _ J hq) (fun fl s' hs => ?_) fun _ _ hs => hs
  have ends : ∀ {σ' : L2.St} {H' : Hp} {v : V} {u : Value}, Inv (cxOf (L2.CX P w) P w K mg base N qual (defScope st) f cdv A outer s H E) [] σ' H' s' → RelV v u → Q v H' → CE outer P w H s Q u s' :=
    fun {σ' H' v u} J2 rv q => ⟨v, H', J2.os, J2.bare, J2.base, J2.hok, rv, q⟩
  cases fl with
  | ret u => exact let ⟨v, σ', H', J2, rv, q⟩ := hs; ends J2 rv q
  | next => exact let ⟨σ', H', J2, q⟩ := hs; ends (v := V.non) (u := Value.none) J2 rfl q
  | brk => exact let ⟨_, _, _, q⟩ := hs; q.elim
  | cont => exact let ⟨_, _, _, q⟩ := hs; q.elim
end
section
variable {X : Cx} {C : CT} {W : WX} {k : Nat} {f : Addr} {fd : FuncData} {ps : List Str} {F : List D → List MO → R D} {x : Str} {p pos : Pos} {e : Expr} {es : List Expr} {gs : GA}
theorem whole_post {σ : St} {H Z : Hp} {ι : Nat → Addr} {ds : List D} {vs : List V} {M : List MO} {Q : VK} (hr : HR X.K H Z ι M) (r : Rps X.K Z ι M.length ds vs) (hl : vs.length = ps.length) (h : Post X C W (rpE X.K) σ H Z ι M (callW F ds M) Q) : rCallQ X.K C ps F (WE W σ) vs H Q := by
  refine ⟨hl, ds, Z, ι, M, r, hr, ?_⟩
  have h' : Post X C W (rpE X.K) σ H Z ι M (F ds M) Q := h
  cases e : F ds M with
  | bad => rw [e] at h'; exact h'.elim
  | ok d M' => rw [e] at h'; exact h'
  | exc c d M' => rw [e] at h'; exact h'
theorem qe_callW {n : Nat} (F0 : FnQ X.prog X.w X.K X.mg X.base C k f fd ps F) (hr : Room k X.A) (hgu : X.A.guards = some []) (tk : Takes X W) (hg : Gl X x) (hm : X.mg x = some (.ref f)) (hk : PySem.W.keepIn X.K (.ref f) = true) (hb : Binds X.K fd ps []) (ha : QA X C W (e :: es) gs) (hn : n = ps.length := by rfl)
    (hdb : (x == ("__debug__" : Str)) = false := by decide) (he : starEach (e :: es) X.env = (false, eval e X.env) :: starEach es X.env := by rfl) (hpl : (backTo pos (starEach es X.env)).any (·.1) = false := by rfl) :
    QE X C W (.Call (.Name x p) (e :: es) [] pos) (gCallW n F gs) := by
  subst hn
  obtain ⟨ta, pa, qa⟩ := ha
  refine ⟨fun σ H Q => ta σ H fun vs H1 => rCallQ X.K C ps F (WE W σ) vs H1 Q, ⟨fun pins s σ H Q I h => wpAny_Call_Name_kw (ld_glob I hg hm ?_ hdb)⟩, fun σ H Z ι Γ M Q sl hr h => qa σ H Z ι Γ M _ sl hr (h.bind fun ds M1 vs H1 Z1 ι1 e1 hr1 r1 h1 => ?_)⟩
  · refine PySem.W.callWith_K (h₀ := X.base) I.ok.mod.kin hk (thn (pa.run pos pins s σ H _ I h) fun us s1 hh => ?_) he hpl
    obtain ⟨vs, H1, J, r, q⟩ := hh
    have hl : us.length = ps.length := r.length.symm.trans q.1
    have hbb := hb s1 us J.kIn (by rw [List.append_nil]; exact hl)
    rw [List.append_nil] at hbb
    exact ⟨J.kIn, run_call F0 hr hgu tk J hbb r q⟩
  · by_cases c : ds.length = ps.length
    · rw [if_pos c] at h1
      exact whole_post hr1 r1 (by rw [← r1.length]; exact c) h1
    · rw [if_neg c] at h1
      exact h1.elim
variable {kws : List Keyword} {gk : GA} {ks : List Str} {is : List Nat} {np : Nat}
end
@[simp] theorem u_gCallW (n : Nat) (F : List D → List MO → R D) (ga : GA) (Γ : Env) (M : List MO) : gCallW n F ga Γ M = (ga Γ M).bind fun ds M1 => if ds.length = n then callW F ds M1 else .bad := Eq.trans rfl rfl
@[simp] theorem u_gCallWK (n : Nat) (F : List D → List MO → R D) (is : List Nat) (ga gk : GA) (Γ : Env) (M : List MO) : gCallWK n F is ga gk Γ M = (ga Γ M).bind fun ds M1 => (gk Γ M1).bind fun es M2 => if (pick (ds ++ es) is).length = n then callW F (pick (ds ++ es) is) M2 else .bad := Eq.trans rfl rfl
@[simp] theorem fw_rt (d : D) (M : List MO) : finW (.rt d M) = .ok d M := Eq.trans rfl rfl
@[simp] theorem fw_nx (Γ : Env) (M : List MO) : finW (.nx Γ M) = .ok .non M := Eq.trans rfl rfl
@[simp] theorem fw_ex (c : Nat) (d : D) (Γ : Env) (M : List MO) : finW (.exc c d Γ M) = .exc c d M := Eq.trans rfl rfl
end Bk

set_option Elab.async false
set_option linter.all false
set_option maxRecDepth 100000
set_option maxHeartbeats 2000000
namespace Bk
open PySem PySem.Spec PyProof.Rows L2
/-! ### keys -/
mutual
/-- the key that a tree is -/
def keyD : D → Option NestedKey
  | .non => some .none
  | .int i => some (.num i)
  | .tup ds => (keysD ds).map .tup
  | .ptu ds => (keysD ds).map .tup
  | _ => none
def keysD : List D → Option (List NestedKey)
  | [] => some []
  | d :: ds => match keyD d, keysD ds with
    | some k, some ks => some (k :: ks)
    | _, _ => none
end
section
variable {K : PySem.W.Frag} {H Z : Hp} {ι : Nat → Addr} {n : Nat}
end
section
variable {X : Cx} {pins : List (Addr × Obj)} {σ : L2.St} {H : Hp} {s : Shared}
mutual
theorem KeyV.is (I : Inv X pins σ H s) : ∀ (k : NestedKey) (v : V) (u : Value), KeyV X.K H k v → RelV v u → NestedIs s.heap k u
  | .none, _, _, h, r => by
    cases h
    have r' : _ = Value.none := r
    rw [r']
    exact .none
  | .num i, _, _, h, r => by
    cases h
    obtain ⟨t, rfl⟩ := r
    exact .int i t
  | .text _, _, _, h, _ => by cases h
  | .tup ks, _, _, h, r => by
    cases h with
    | tup sq kv =>
      have r' : _ = Value.ref _ := r
      rw [r']
      obtain ⟨its, rv, ⟨o, ho, hc, m, hd⟩, _⟩ := I.tuple sq
      exact .tup ho hc hd (by simpa using KeyVs.is I ks _ _ kv rv)
theorem KeyVs.is (I : Inv X pins σ H s) : ∀ (ks : List NestedKey) (vs : List V) (us : List Value), KeyVs X.K H ks vs → Vals vs us → NestedAll s.heap ks us
  | [], _, _, h, r => by
    cases h
    cases r
    exact .nil
  | k :: ks, _, _, h, r => by
    cases h with
    | cons h1 h2 =>
      cases r with
      | cons r1 r2 => exact .cons (KeyV.is I k _ _ h1 r1) (KeyVs.is I ks _ _ h2 r2)
end
abbrev NK (X : Cx) := nestedKind X.prog X.w
/-- a dict as the library tells of it -/
theorem Ents.trip (I : Inv X pins σ H s) : ∀ {nks : List NestedKey} {ks vs : List V} {es : List DictEntry}, Ents X.K H nks ks vs es → AllRef ks →
    ∃ xs : List (NestedKey × Addr × Value), es = xs.map (entryOfKey (NK X)) ∧ xs.map (·.1) = nks ∧ (∀ x ∈ xs, (NK X).is s.heap x.1 x.2.1) ∧ xs.length = vs.length ∧ ∀ (i : Nat) (v : V), vs[i]? = some v → ∃ x, xs[i]? = some x ∧ RelV v x.2.2
  | _, _, _, _, .nil, _ => ⟨[], rfl, rfl, by simp, rfl, by simp⟩
  | _, _, _, _, .cons (k := k) (y := y) (ku := ku) (v := v) (u := u) (hs := hs) a ry d h r t, hr => by
    obtain ⟨xs, e1, e2, e3, e4, e5⟩ := Ents.trip I t fun x hx => hr x (List.mem_cons_of_mem _ hx)
    obtain ⟨b, rfl⟩ := hr y (List.mem_cons_self)
    obtain rfl : ku = Value.ref b := ry
    refine ⟨(k, b, u) :: xs, ?_, by simp [e2], fun x hx => ?_, by simp [e4], fun i w hw => ?_⟩
    · rw [List.map_cons, ← e1]
      congr 1
      show (⟨hs, .ref b, u⟩ : DictEntry) = ⟨k.hash X.w, .ref b, u⟩
      rw [h X.w]
    · rcases List.mem_cons.mp hx with rfl | hx
      · exact ⟨KeyV.is I k _ _ a rfl, d⟩
      · exact e3 x hx
    · cases i with
      | zero =>
        have : v = w := by simpa using hw
        subst this
        exact ⟨(k, b, u), rfl, r⟩
      | succ i =>
        obtain ⟨x, hx, rx⟩ := e5 i w (by simpa using hw)
        exact ⟨x, by simpa using hx, rx⟩
theorem ExD.of (I : Inv X pins σ H s) {a : Addr} {nks : List NestedKey} {ks vs : List V} (h : ExD X.K H a nks ks vs) (hrf : AllRef ks) :
    ∃ xs : List (NestedKey × Addr × Value), s.heap.DictOfH (NK X) a xs ∧ xs.map (·.1) = nks ∧ xs.length = vs.length ∧ ∀ (i : Nat) (v : V), vs[i]? = some v → ∃ x, xs[i]? = some x ∧ RelV v x.2.2 := by
  obtain ⟨es, ep, h1, h2, h3, h4, h5⟩ := h
  obtain ⟨xs, e1, e2, e3, e4, e5⟩ := Ents.trip I h5 hrf
  obtain ⟨⟨o, ho, hx, hd⟩, _, _⟩ := I.hok a _ h1
  exact ⟨xs, ⟨o, es, ep, ho, hx, hd, e1, e3, by rw [e2]; exact h4⟩, e2, e4, e5⟩
end
theorem Ents.keys {K : PySem.W.Frag} {Z : Hp} : ∀ {nks : List NestedKey} {ks vs : List V} {es : List DictEntry}, Ents K Z nks ks vs es → KeyVs K Z nks ks ∧ ∃ us, Vals ks us
  | _, _, _, _, .nil => ⟨.nil, [], .nil⟩
  | _, _, _, _, .cons (ku := ku) a ry d h r t => by
    obtain ⟨h1, us, h2⟩ := Ents.keys t
    exact ⟨.cons a h1, ku :: us, .cons ry h2⟩
theorem ExD.keys {X : Cx} {pins : List (Addr × Obj)} {σ : L2.St} {H : Hp} {s : Shared} (I : Inv X pins σ H s) {a : Addr} {nks nks' : List NestedKey} {ks vs : List V} (h : ExD X.K H a nks ks vs) (h' : KeyVs X.K H nks' ks) : nks = nks' := by
  obtain ⟨es, ep, h1, h2, h3, h4, h5⟩ := h
  obtain ⟨k1, us, k2⟩ := h5.keys
  exact NestedAll.inj _ _ _ (KeyVs.is I _ _ _ k1 k2) (KeyVs.is I _ _ _ h' k2)
def posK (k : NestedKey) : List NestedKey → Option Nat
  | [] => none
  | x :: xs => if x = k then some 0 else (posK k xs).map (· + 1)
/-! ### d[k] -/
def isTup : D → Bool
  | .tup _ => true
  | .ptu _ => true
  | _ => false
/-- the place of a key, and the value there -/
def lookD (ks vs : List D) (y : D) : Option (Option D) := match keysD ks, keyD y with
  | some nks, some k => if (ks.all isTup && isTup y && decide (k.depth ≤ 8)) = true then some ((posK k nks).bind fun i => vs[i]?) else none
  | _, _ => none
/-- a dict, frozen or ours -/
def dctD (M : List MO) : D → Option (List D × List D)
  | .dct ks vs => some (ks, vs)
  | .ref k => match M[k]? with
    | some (.dct ks vs) => some (ks, vs)
    | _ => none
  | _ => none
section
variable {X : Cx}
end
end Bk

set_option Elab.async false
set_option linter.all false
set_option maxRecDepth 100000
set_option maxHeartbeats 2000000
namespace Bk
open PySem PySem.Spec PyProof.Rows L2
/-! ### d[k] = v for a dict that is being made -/
section
variable {K : PySem.W.Frag} {Z Z' : Hp}
mutual
theorem KeyV.map (ht : ∀ (a : Addr) (xs : List V), SqT K Z a xs → SqT K Z' a xs) : ∀ (k : NestedKey) (v : V), KeyV K Z k v → KeyV K Z' k v
  | .none, _, h => by cases h; exact .non
  | .num i, _, h => by cases h; exact .int i
  | .text x, _, h => by cases h
  | .tup ks, _, h => by
    cases h with
    | tup s r => exact .tup (ht _ _ s) (KeyVs.map ht ks _ r)
theorem KeyVs.map (ht : ∀ (a : Addr) (xs : List V), SqT K Z a xs → SqT K Z' a xs) : ∀ (ks : List NestedKey) (vs : List V), KeyVs K Z ks vs → KeyVs K Z' ks vs
  | [], _, h => by cases h; exact .nil
  | k :: ks, _, h => by
    cases h with
    | cons r s => exact .cons (KeyV.map ht k _ r) (KeyVs.map ht ks _ s)
end
mutual
/-- no text in a key: its hash is the same in every world -/
theorem KeyV.free : ∀ (k : NestedKey) (v : V), KeyV K Z k v → ∀ w w' : World, k.hash w = k.hash w'
  | .none, _, _, _, _ => rfl
  | .num _, _, _, _, _ => rfl
  | .text _, _, h, _, _ => by cases h
  | .tup ks, _, h, w, w' => by
    cases h with
    | tup s r =>
      unfold NestedKey.hash
      rw [KeyVs.free ks _ r w w']
theorem KeyVs.free : ∀ (ks : List NestedKey) (vs : List V), KeyVs K Z ks vs → ∀ w w' : World, NestedKey.hashes w ks = NestedKey.hashes w' ks
  | [], _, _, _, _ => rfl
  | k :: ks, _, h, w, w' => by
    cases h with
    | cons r s =>
      unfold NestedKey.hashes
      rw [KeyV.free k _ r w w', KeyVs.free ks _ s w w']
end
theorem Ents.map (ht : ∀ (a : Addr) (xs : List V), SqT K Z a xs → SqT K Z' a xs) : ∀ {ks : List NestedKey} {kv vs : List V} {es : List DictEntry}, Ents K Z ks kv vs es → Ents K Z' ks kv vs es
  | _, _, _, _, .nil => .nil
  | _, _, _, _, .cons a y b c d e => .cons (KeyV.map ht _ _ a) y b c d (Ents.map ht e)
theorem Ents.snoc {k : NestedKey} {y : V} {ku : Value} {z : V} {r : Value} {hs : Int} (hk : KeyV K Z k y) (hy : RelV y ku) (hd : k.depth ≤ 8) (hh : ∀ w : World, hs = k.hash w) (hr : RelV z r) : ∀ {nks : List NestedKey} {ks vs : List V} {es : List DictEntry}, Ents K Z nks ks vs es →
    Ents K Z (nks ++ [k]) (ks ++ [y]) (vs ++ [z]) (es ++ [⟨hs, ku, r⟩])
  | _, _, _, _, .nil => .cons hk hy hd hh hr .nil
  | _, _, _, _, .cons a y b c d e => .cons a y b c d (Ents.snoc hk hy hd hh hr e)
end
section
variable {X : Cx} {pins : List (Addr × Obj)} {σ : L2.St} {H : Hp} {s : Shared}
end
end Bk

set_option Elab.async false
set_option linter.all false
set_option maxRecDepth 100000
set_option maxHeartbeats 2000000
namespace Bk
open PySem PySem.Spec PyProof.Rows L2
/-! ### {k: v for t in it}, keys nested tuples: the dict in the making is an object of its own -/
section
variable {X : Cx} {kx vx tg iter : Expr} {ifs : List Expr} {scope : Scope} {own : List (Str × Nat)} {pos : Pos} {wi : TI} {g : TG} {tt : TT} {tk tv : TE}
end
end Bk

set_option Elab.async false
set_option linter.all false
set_option maxRecDepth 100000
set_option maxHeartbeats 2000000
namespace Bk
open PySem PySem.Spec PyProof.Rows L2
/-! ### dict comprehensions, as trees -/
/-- d[k] = v -/
def putKV (ks vs : List D) (k v : D) : Option (List D × List D) := match keysD ks, keyD k with
  | some nks, some nk => if (isTup k && decide (nk.depth ≤ 8) && decide (vs.length < sizeLine)) = true then (match posK nk nks with
    | some i => some (ks, vs.set i v)
    | none => some (ks ++ [k], vs ++ [v])) else none
  | _, _ => none
def gDcL (gg : GG) (gt : GT) (gk gv : GE) (Γ : Env) : List D → List D → List D → List MO → R D
  | [], ks, vs, M => .ok (.dct ks vs) M
  | d :: ds, ks, vs, M => match gg d Γ with
    | none => .bad
    | some Γ1 => (gt Γ1 M).only fun b M1 => if b = true then (gk Γ1 M1).only fun k M2 => (gv Γ1 M2).only fun v M3 => match putKV ks vs k v with
        | some r => gDcL gg gt gk gv Γ ds r.1 r.2 M3
        | none => .bad
      else gDcL gg gt gk gv Γ ds ks vs M1
def gDc (gi : GI) (gg : GG) (gt : GT) (gk gv : GE) (own : List Nat) : GE := fun Γ M => (gi Γ M).bind fun ds M1 => gDcL gg gt gk gv (forget Γ own) ds [] [] M1
/-- a dict that is being made, as it stands -/
def DI (K : PySem.W.Frag) (H Z : Hp) (ι : Nat → Addr) (n : Nat) (p : Addr) (ks vs : List D) : Prop :=
  ∃ (es : Array DictEntry) (ep : Nat) (nks : List NestedKey) (kx xs : List V), H p = some (dnO p es ep) ∧ Ents K Z nks kx xs es.toList ∧ nks.Nodup ∧ Rps K Z ι n ks kx ∧ Rps K Z ι n vs xs ∧ keysD ks = some nks ∧ kx.length ≤ sizeLine ∧ kx.length = xs.length ∧ AllRef kx
theorem DI.ext {K : PySem.W.Frag} {H Z H1 Z1 : Hp} {ι ι1 : Nat → Addr} {n n1 : Nat} {p : Addr} {ks vs : List D} (h : DI K H Z ι n p ks vs) (od : Odd Z ι n p) (e : Ext H Z ι n H1 Z1 ι1 n1) : DI K H1 Z1 ι1 n1 p ks vs := by
  obtain ⟨es, ep, nks, kx, xs, h1, h2, h3, h4, h5, h6, h7, h8, h9⟩ := h
  exact ⟨es, ep, nks, kx, xs, (od.ext h1 e).2, h2.sub e.zz, h3, h4.ext e, h5.ext e, h6, h7, h8, h9⟩
section
variable {X : Cx} {C : CT} {W : WX}
end
end Bk

set_option Elab.async false
set_option linter.all false
set_option maxRecDepth 100000
set_option maxHeartbeats 2000000
namespace Bk
open PySem PySem.Spec PyProof.Rows L2
/-! ### for k in d -/
section
variable {P : Program} {w : World} {K : PySem.W.Frag} {tg : Expr} {d : Addr} {es : Array DictEntry} {ep : Nat} {kx : List V}
end
def dKeys : D → Option (List D)
  | .dct ks _ => some ks
  | _ => none
def gKeysI (ge : GE) : GI := fun Γ M => (ge Γ M).bind fun d M1 => opR (dKeys d) M1
@[simp] theorem u_gKeysI (ge : GE) (Γ : Env) (M : List MO) : gKeysI ge Γ M = (ge Γ M).bind fun d M1 => opR (dKeys d) M1 := Eq.trans rfl rfl
@[simp] theorem e_keys (ks vs : List D) : dKeys (.dct ks vs) = some ks := Eq.trans rfl rfl
end Bk

set_option Elab.async false
set_option linter.all false
set_option maxRecDepth 100000
set_option maxHeartbeats 2000000
namespace Bk
open PySem PySem.Spec PyProof.Rows L2
/-! ### len(d) -/
def dLenN (M : List MO) (x : D) : Option D := match dctD M x with
  | some p => some (.int (p.2.length : Nat))
  | none => dLen M x
@[simp] theorem e_lenN (M : List MO) (ks vs : List D) : dLenN M (.dct ks vs) = some (.int (vs.length : Nat)) := Eq.trans rfl rfl
end Bk

set_option Elab.async false
set_option linter.all false
set_option maxRecDepth 100000
set_option maxHeartbeats 2000000
namespace Bk
open PySem PySem.Spec PyProof.Rows L2
/-! ### for v in d.values() -/
section
variable {P : Program} {w : World} {K : PySem.W.Frag} {tg : Expr} {d : Addr} {es : Array DictEntry} {ep : Nat} {xs : List V}
end
def dVals : D → Option (List D)
  | .dct _ vs => some vs
  | _ => none
def gValsI (ge : GE) : GI := fun Γ M => (ge Γ M).bind fun d M1 => opR (dVals d) M1
@[simp] theorem u_gValsI (ge : GE) (Γ : Env) (M : List MO) : gValsI ge Γ M = (ge Γ M).bind fun d M1 => opR (dVals d) M1 := Eq.trans rfl rfl
@[simp] theorem e_vals (ks vs : List D) : dVals (.dct ks vs) = some vs := Eq.trans rfl rfl
end Bk

set_option Elab.async false
set_option linter.all false
set_option maxRecDepth 100000
set_option maxHeartbeats 2000000
namespace Bk
open PySem PySem.Spec PyProof.Rows L2
/-! ### for k, v in d.items() -/
section
variable {P : Program} {w : World} {K : PySem.W.Frag} {d : Addr} {es : Array DictEntry} {ep : Nat} {kx xs : List V}
end
def pairsD (ks vs : List D) : List D := (ks.zip vs).map fun p => .tup [p.1, p.2]
def dItems : D → Option (List D)
  | .dct ks vs => some (pairsD ks vs)
  | _ => none
def gItemsI (ge : GE) : GI := fun Γ M => (ge Γ M).bind fun d M1 => opR (dItems d) M1
@[simp] theorem u_gItemsI (ge : GE) (Γ : Env) (M : List MO) : gItemsI ge Γ M = (ge Γ M).bind fun d M1 => opR (dItems d) M1 := Eq.trans rfl rfl
@[simp] theorem e_items (ks vs : List D) : dItems (.dct ks vs) = some (pairsD ks vs) := Eq.trans rfl rfl
end Bk

set_option Elab.async false
set_option linter.all false
set_option maxRecDepth 100000
set_option maxHeartbeats 2000000
namespace Bk
open PySem PySem.Spec PyProof.Rows L2
/-! ### d.get(k, x) -/
def dGetN (M : List MO) (x y z : D) : Option D := match dctD M x with
  | some p => (lookD p.1 p.2 y).map fun o => o.getD z
  | none => none
def isDct (M : List MO) (d : D) : Bool := match dctD M d with
  | some p => p.1.all isTup
  | none => false
def gGetN (go gk gx : GE) : GE := fun Γ M => (go Γ M).bind fun x M1 => if isDct M1 x = true then (gk Γ M1).bind fun y M2 => (gx Γ M2).bind fun z M3 => opR (dGetN M3 x y z) M3 else .bad
@[simp] theorem u_gGetN (go gk gx : GE) (Γ : Env) (M : List MO) : gGetN go gk gx Γ M = (go Γ M).bind fun x M1 => if isDct M1 x = true then (gk Γ M1).bind fun y M2 => (gx Γ M2).bind fun z M3 => opR (dGetN M3 x y z) M3 else .bad := Eq.trans rfl rfl
end Bk

set_option Elab.async false
set_option linter.all false
set_option maxRecDepth 100000
set_option maxHeartbeats 4000000
namespace Bk
open PySem PySem.Spec PyProof.Rows L2
/-! ### {k: v for t in it for t1 in it1} -/
section
variable {prog : Program} {w : World} {A : Around} {R : Result → Shared → Prop} {s : Shared} {kx vx t0 i0 t1 i1 : Expr} {ifs0 ifs1 : List Expr} {scope : Scope} {pos : Pos} {it : Value} {D : Addr} {env : PySem.Env}
end
section
variable {X : Cx} {kx vx tg iter tg1 iter1 : Expr} {ifs ifs1 : List Expr} {scope : Scope} {own : List (Str × Nat)} {vs1 : List Nat} {pos : Pos} {wi wi1 : TI} {g g1 : TG} {tt tt1 : TT} {tk tv : TE}
end
end Bk

set_option Elab.async false
set_option linter.all false
set_option maxRecDepth 100000
set_option maxHeartbeats 4000000
namespace Bk
open PySem PySem.Spec PyProof.Rows L2
/-! ### {k: v for t in it for t1 in it1}, as trees -/
def gDcI (gg : GG) (gt : GT) (gk gv : GE) (Γ : Env) : List D → List D → List D → List MO → R (List D × List D)
  | [], ks, vs, M => .ok (ks, vs) M
  | d :: ds, ks, vs, M => match gg d Γ with
    | none => .bad
    | some Γ1 => (gt Γ1 M).only fun b M1 => if b = true then (gk Γ1 M1).only fun k M2 => (gv Γ1 M2).only fun v M3 => match putKV ks vs k v with
        | some r => gDcI gg gt gk gv Γ ds r.1 r.2 M3
        | none => .bad
      else gDcI gg gt gk gv Γ ds ks vs M1
def gDcO (gg : GG) (gt : GT) (gi1 : GI) (gg1 : GG) (gt1 : GT) (gk gv : GE) (vs1 : List Nat) (Γ : Env) : List D → List D → List D → List MO → R D
  | [], ks, vs, M => .ok (.dct ks vs) M
  | d :: ds, ks, vs, M => match gg d Γ with
    | none => .bad
    | some Γ1 => (gt Γ1 M).only fun b M1 => if b = true then (gi1 Γ1 M1).only fun ds1 M2 => (gDcI gg1 gt1 gk gv (forget Γ1 vs1) ds1 ks vs M2).only fun r M3 => gDcO gg gt gi1 gg1 gt1 gk gv vs1 Γ ds r.1 r.2 M3
      else gDcO gg gt gi1 gg1 gt1 gk gv vs1 Γ ds ks vs M1
def gDc2 (gi : GI) (gg : GG) (gt : GT) (gi1 : GI) (gg1 : GG) (gt1 : GT) (gk gv : GE) (own vs1 : List Nat) : GE := fun Γ M => (gi Γ M).bind fun ds M1 => gDcO gg gt gi1 gg1 gt1 gk gv vs1 (forget Γ own) ds [] [] M1
section
variable {X : Cx} {C : CT} {W : WX}
section
variable {kx vx tg iter tg1 iter1 : Expr} {ifs ifs1 : List Expr} {scope : Scope} {own : List (Str × Nat)} {pos spos py : Pos} {gi gi1 : GI} {gg gg1 : GG} {gt gt1 : GT} {gk gv : GE} {is is1 ixs vs1 : List Nat}
end
end
@[simp] theorem u_gDc2 (gi : GI) (gg : GG) (gt : GT) (gi1 : GI) (gg1 : GG) (gt1 : GT) (gk gv : GE) (own vs1 : List Nat) (Γ : Env) (M : List MO) : gDc2 gi gg gt gi1 gg1 gt1 gk gv own vs1 Γ M = (gi Γ M).bind fun ds M1 => gDcO gg gt gi1 gg1 gt1 gk gv vs1 (forget Γ own) ds [] [] M1 := Eq.trans rfl rfl
@[simp] theorem u_gDc (gi : GI) (gg : GG) (gt : GT) (gk gv : GE) (own : List Nat) (Γ : Env) (M : List MO) : gDc gi gg gt gk gv own Γ M = (gi Γ M).bind fun ds M1 => gDcL gg gt gk gv (forget Γ own) ds [] [] M1 := Eq.trans rfl rfl
end Bk

set_option Elab.async false
set_option linter.all false
set_option maxRecDepth 100000
set_option maxHeartbeats 4000000
namespace Bk
open PySem PySem.Spec PyProof.Rows L2
/-! ### sum(d.values()) -/
def gSumV (ge : GE) : GE := fun Γ M => (ge Γ M).bind fun d M1 => opR (match d with
  | .dct _ vs => (intsD vs).map fun is => .int is.sum
  | _ => none) M1
@[simp] theorem u_gSumV (ge : GE) (Γ : Env) (M : List MO) : gSumV ge Γ M = (ge Γ M).bind fun d M1 => opR (match d with
  | .dct _ vs => (intsD vs).map fun is => .int is.sum
  | _ => none) M1 := Eq.trans rfl rfl
end Bk

set_option Elab.async false
set_option linter.all false
set_option maxRecDepth 100000
set_option maxHeartbeats 4000000
namespace Bk
open PySem PySem.Spec PyProof.Rows L2
/-! ### a new thing of ours, from a thing that is neither frozen nor ours -/
section
variable {K : PySem.W.Frag} {H Z : Hp} {ι : Nat → Addr} {M : List MO} {p : Addr}
end
/-! ### dict displays -/
section
variable {X : Cx} {C : CT} {W : WX} {pos : Pos}
theorem pe_dnewN : PE X (.Dict [] [] pos) (fun _ H Q => ∀ p, H p = none → (p == sysModules) = false → Q (.ref p) (upd H p (dnO p #[] 0))) := ⟨fun pins s σ H Q I h => by
  have sm : (s.heap.objs.size == sysModules) = false := (dk_empty (P := X.prog) (w := X.w) (H := H) s.heap I.big).2.1
  have hnew : (s.heap.push { cls := .type "dict", data := .dict #[] }).get? s.heap.objs.size = some { cls := .type "dict", data := .dict #[] } := Heap.get?_push_size _ rfl
  refine wpAny_Dict_empty ⟨.ref s.heap.objs.size, _, I.laid (a := s.heap.objs.size) (o := dnO s.heap.objs.size #[] 0) (t' := s.toks) (fun _ _ q => Heap.get?_push_of_some _ q) (Nat.le_refl _) ?_, rfl, h _ (I.hok.fresh (Nat.le_refl _)) sm⟩
  exact ⟨⟨_, hnew, ⟨rfl, rfl, rfl⟩, rfl⟩, ⟨_, hnew⟩, fun h1 h2 ⟨u, a1, a2, a3⟩ hh => ⟨u, hh u a1, a2, a3⟩⟩⟩
def gDct0 : GE := fun _ M => .ok (.dct [] []) M
def gDct0O : GE := fun _ M => .ok (.ref M.length) (M ++ [.dct [] []])
def gDki0O : GE := fun _ M => .ok (.ref M.length) (M ++ [.dki []])
theorem qe_dct0 : QE X C W (.Dict [] [] pos) gDct0 := ⟨_, pe_dnewN, fun σ H Z ι Γ M Q sl hr h p hp hs => by
  obtain ⟨hr1, e1⟩ := hr.frozen (o := dnO p #[] 0) hp
  exact h _ _ _ ι e1 hr1 (.dct ⟨#[], 0, upd_same, hs, Nat.zero_le _, List.nodup_nil, .nil⟩ .nil .nil)⟩
def okKey (k : D) : Bool := isTup k && match keyD k with
  | some nk => decide (nk.depth ≤ 8)
  | none => false
def gDisp1 (ga gb : GE) : GE := fun Γ M => (ga Γ M).bind fun k M1 => (gb Γ M1).bind fun v M2 => if okKey k = true then .ok (.dct [k] [v]) M2 else .bad
def gDisp1O (ga gb : GE) : GE := fun Γ M => (ga Γ M).bind fun k M1 => (gb Γ M1).bind fun v M2 => if okKey k = true then .ok (.ref M2.length) (M2 ++ [.dct [k] [v]]) else .bad
@[simp] theorem u_gDct0 (Γ : Env) (M : List MO) : gDct0 Γ M = .ok (.dct [] []) M := Eq.trans rfl rfl
@[simp] theorem u_gDct0O (Γ : Env) (M : List MO) : gDct0O Γ M = .ok (.ref M.length) (M ++ [.dct [] []]) := Eq.trans rfl rfl
@[simp] theorem u_gDki0O (Γ : Env) (M : List MO) : gDki0O Γ M = .ok (.ref M.length) (M ++ [.dki []]) := Eq.trans rfl rfl
@[simp] theorem u_gDisp1 (ga gb : GE) (Γ : Env) (M : List MO) : gDisp1 ga gb Γ M = (ga Γ M).bind fun k M1 => (gb Γ M1).bind fun v M2 => if okKey k = true then .ok (.dct [k] [v]) M2 else .bad := Eq.trans rfl rfl
@[simp] theorem u_gDisp1O (ga gb : GE) (Γ : Env) (M : List MO) : gDisp1O ga gb Γ M = (ga Γ M).bind fun k M1 => (gb Γ M1).bind fun v M2 => if okKey k = true then .ok (.ref M2.length) (M2 ++ [.dct [k] [v]]) else .bad := Eq.trans rfl rfl
end
end Bk

set_option Elab.async false
set_option linter.all false
set_option maxRecDepth 100000
set_option maxHeartbeats 4000000
namespace Bk
open PySem PySem.Spec PyProof.Rows L2
/-! ### tuples that are known to have no dict -/
section
variable {X : Cx} {C : CT} {W : WX} {pos : Pos}
def gTup0P : GE := fun _ M => .ok (.ptu []) M
theorem After.ptu {H Z : Hp} {ι : Nat → Addr} {M : List MO} {ds : List D} {Q : VK} {xs : List V} (h : After X H Z ι M (.ptu ds) Q) (hr : HR X.K H Z ι M) (r : Rps X.K Z ι M.length ds xs) : ∀ (p : Addr) (o : Obj), H p = none → o.dict = none → Q (.ref p) (upd H p (.frz o (.tup xs))) := fun p o hp ho => by
  obtain ⟨h1, e1⟩ := hr.frozen (o := .frz o (.tup xs)) hp
  exact h _ _ _ e1 h1 (.ptu ⟨o, upd_same, ho⟩ (r.ext e1))
end
/-! ### sorted, pairs of ints -/
def duoD (p : Int × Int) : D := .tup [.int p.1, .int p.2]
def pairsOf : List D → Option (List (Int × Int))
  | [] => some []
  | .tup [.int a, .int b] :: ds => (pairsOf ds).map ((a, b) :: ·)
  | _ => none
@[simp] theorem pairsOf_map (ps : List (Int × Int)) : pairsOf (ps.map duoD) = some ps := by
  induction ps with
  | nil => rfl
  | cons p ps ih => simp [pairsOf, duoD] at ih ⊢; exact ih
section
variable {X : Cx}
end
@[simp] theorem u_gTup0P (Γ : Env) (M : List MO) : gTup0P Γ M = .ok (.ptu []) M := Eq.trans rfl rfl
end Bk

set_option Elab.async false
set_option linter.all false
set_option maxRecDepth 100000
set_option maxHeartbeats 4000000
namespace Bk
open PySem PySem.Spec PyProof.Rows L2
/-! ### dicts of ours with whole numbers as keys -/
def kiGet : List (Int × D) → Int → Option D
  | [], _ => none
  | p :: r, i => if p.1 = i then some p.2 else kiGet r i
def kiHas : List (Int × D) → Int → Bool
  | [], _ => false
  | p :: r, i => decide (p.1 = i) || kiHas r i
def kiRep : List (Int × D) → Int → D → List (Int × D)
  | [], _, _ => []
  | p :: r, i, d => (if p.1 = i then (p.1, d) else p) :: kiRep r i d
def kiPut (kvs : List (Int × D)) (i : Int) (d : D) : List (Int × D) := if kiHas kvs i = true then kiRep kvs i d else kvs ++ [(i, d)]
/-- the entries as they stand -/
inductive KiR (K : PySem.W.Frag) (Z : Hp) (ι : Nat → Addr) (n : Nat) : List (Int × D) → List (L2.Key × V) → Prop
  | nil : KiR K Z ι n [] []
  | cons {i : Int} {d : D} {v : V} {ks : List (Int × D)} {gs : List (L2.Key × V)} : Rp K Z ι n d v → KiR K Z ι n ks gs → KiR K Z ι n ((i, d) :: ks) ((Sum.inl i, v) :: gs)
section
variable {K : PySem.W.Frag} {Z : Hp} {ι : Nat → Addr} {n : Nat}
theorem KiR.of : ∀ {ks : List (Int × D)} {gs : List (L2.Key × V)}, gs.map (·.1) = ks.map (fun p => Sum.inl p.1) → Rps K Z ι n (ks.map (·.2)) (gs.map (·.2)) → KiR K Z ι n ks gs
  | [], [], _, _ => .nil
  | [], g :: gs, h, _ => by simp at h
  | k :: ks, [], h, _ => by simp at h
  | (i, d) :: ks, (j, v) :: gs, h, r => by
    simp only [List.map_cons, List.cons.injEq] at h
    obtain ⟨rfl, h2⟩ := h
    simp only [List.map_cons] at r
    cases r with
    | cons r1 r2 => exact .cons r1 (KiR.of h2 r2)
theorem KiR.back : ∀ {ks : List (Int × D)} {gs : List (L2.Key × V)}, KiR K Z ι n ks gs → gs.map (·.1) = ks.map (fun p => Sum.inl p.1) ∧ Rps K Z ι n (ks.map (·.2)) (gs.map (·.2)) ∧ Rps K Z ι n (ks.map fun p => .int p.1) (gs.map fun p => kV p.1) ∧ ks.length = gs.length
  | _, _, .nil => ⟨rfl, .nil, .nil, rfl⟩
  | _, _, .cons r s => by
    obtain ⟨a, b, c, d⟩ := s.back
    exact ⟨by simp [a], .cons r b, .cons (.int _) c, by simp [d]⟩
theorem KiR.get (i : Int) : ∀ {ks : List (Int × D)} {gs : List (L2.Key × V)}, KiR K Z ι n ks gs → (match kiGet ks i with
    | some d => ∃ v, valV gs (Sum.inl i) = some v ∧ Rp K Z ι n d v
    | none => valV gs (Sum.inl i) = none)
  | _, _, .nil => rfl
  | _, _, .cons (i := j) (d := d) (v := v) r s => by
    by_cases e : j = i
    · subst e
      simp only [kiGet, if_true]
      exact ⟨v, valV_pos rfl, r⟩
    · have ne : ¬ ((Sum.inl j : L2.Key) = Sum.inl i) := fun z => e (Sum.inl.inj z)
      simp only [kiGet, if_neg e]
      have ih := s.get i
      rw [valV_neg (p := ((Sum.inl j : L2.Key), v)) ne]
      exact ih
theorem KiR.has (i : Int) : ∀ {ks : List (Int × D)} {gs : List (L2.Key × V)}, KiR K Z ι n ks gs → (gs.any fun kv => decide (kv.1 = Sum.inl i)) = kiHas ks i
  | _, _, .nil => rfl
  | _, _, .cons (i := j) r s => by
    rw [List.any_cons, s.has i]
    have : (decide ((Sum.inl j : L2.Key) = Sum.inl i)) = decide (j = i) := by
      rw [decide_eq_decide]
      exact ⟨fun z => Sum.inl.inj z, fun z => by rw [z]⟩
    rw [this]
    rfl
theorem KiR.rep (i : Int) {d : D} {v : V} (rv : Rp K Z ι n d v) : ∀ {ks : List (Int × D)} {gs : List (L2.Key × V)}, KiR K Z ι n ks gs → KiR K Z ι n (kiRep ks i d) (gs.map fun kv => if kv.1 = Sum.inl i then (kv.1, v) else kv)
  | _, _, .nil => .nil
  | _, _, .cons (i := j) (v := w) r s => by
    have ih := s.rep i rv
    by_cases e : j = i
    · subst e
      simp only [kiRep, List.map_cons, if_true]
      exact .cons rv ih
    · have ne : ¬ ((Sum.inl j : L2.Key) = Sum.inl i) := fun z => e (Sum.inl.inj z)
      simp only [kiRep, List.map_cons, if_neg e, if_neg ne]
      exact .cons r ih
theorem KiR.snoc {i : Int} {d : D} {v : V} (rv : Rp K Z ι n d v) : ∀ {ks : List (Int × D)} {gs : List (L2.Key × V)}, KiR K Z ι n ks gs → KiR K Z ι n (ks ++ [(i, d)]) (gs ++ [(Sum.inl i, v)])
  | _, _, .nil => .cons rv .nil
  | _, _, .cons r s => .cons r (s.snoc rv)
theorem KiR.put (i : Int) {d : D} {v : V} (rv : Rp K Z ι n d v) {ks : List (Int × D)} {gs : List (L2.Key × V)} (h : KiR K Z ι n ks gs) : KiR K Z ι n (kiPut ks i d) (putK gs (Sum.inl i) v) := by
  unfold kiPut putK
  rw [h.has i]
  by_cases c : kiHas ks i = true
  · rw [if_pos c, if_pos c]
    exact h.rep i rv
  · rw [if_neg c, if_neg c]
    exact h.snoc rv
def kiMerge (kvs more : List (Int × D)) : List (Int × D) := more.foldl (fun acc p => kiPut acc p.1 p.2) kvs
theorem KiR.mono {Z' : Hp} {ι' : Nat → Addr} {n' : Nat} (hz : Sub Z Z') (hi : ∀ k, k < n → ι' k = ι k) (hn : n ≤ n') : ∀ {ks : List (Int × D)} {gs : List (L2.Key × V)}, KiR K Z ι n ks gs → KiR K Z' ι' n' ks gs
  | _, _, .nil => .nil
  | _, _, .cons r s => .cons (Rp.mono hz hi hn _ _ r) (s.mono hz hi hn)
end
/-! ### dict(t), t a tuple of pairs -/
section
variable {X : Cx}
end
end Bk

set_option Elab.async false
set_option linter.all false
set_option maxRecDepth 100000
set_option maxHeartbeats 4000000
namespace Bk
open PySem PySem.Spec PyProof.Rows L2
/-! ### dict(t) as a dict of ours -/
def kiOf : List D → Option (List (Int × D))
  | [] => some []
  | .tup [.int i, d] :: ds => (kiOf ds).map ((i, d) :: ·)
  | _ => none
@[simp] theorem kiOf_map (ps : List (Int × D)) : kiOf (ps.map fun p => .tup [.int p.1, p.2]) = some ps := by
  induction ps with
  | nil => rfl
  | cons p ps ih => simp [kiOf, ih]
def gDictT (ge : GE) : GE := fun Γ M => (ge Γ M).bind fun x M1 => match x with
  | .ptu ds => match kiOf ds with
    | some kvs => .ok (.ref M1.length) (M1 ++ [.dki (kiMerge [] kvs)])
    | none => .bad
  | _ => .bad
def gGetK (go gk gx : GE) : GE := fun Γ M => (go Γ M).bind fun x M1 => match x with
  | .ref k => match M1[k]? with
    | some (.dki _) => (gk Γ M1).bind fun y M2 => (gx Γ M2).bind fun z M3 => match y, M3[k]? with
      | .int i, some (.dki kvs) => .ok ((kiGet kvs i).getD z) M3
      | _, _ => .bad
    | _ => .bad
  | _ => .bad
section
variable {X : Cx} {C : CT} {W : WX}
/-! ### d[k] = v -/
theorem PSet.or {t t' : TSet} (h : PSet X t) (h' : PSet X t') : PSet X (fun o i v H Q => t o i v H Q ∨ t' o i v H Q) := by
  intro pins s σ H o i v ov iv u Q I ro ri rv q
  rcases q with q | q
  · exact h pins s σ H o i v ov iv u Q I ro ri rv q
  · exact h' pins s σ H o i v ov iv u Q I ro ri rv q
def setX (M : List MO) (o i v : D) : Option (List MO) := match o with
  | .ref k => match M[k]? with
    | some (.dct ks vs) => (putKV ks vs i v).bind fun r => if ks.all isTup = true then some (M.set k (.dct r.1 r.2)) else none
    | some (.dki kvs) => match i with
      | .int j => if kvs.length < sizeLine then some (M.set k (.dki (kiPut kvs j v))) else none
      | _ => none
    | _ => setR M o i v
  | _ => none
def gSetX (ge go gi : GE) : GS := fun Γ M => (ge Γ M).thenS Γ fun v M1 => (go Γ M1).thenS Γ fun o M2 => (gi Γ M2).thenS Γ fun i M3 => match setX M3 o i v with
  | some M4 => .nx Γ M4
  | none => .bad
end
end Bk

set_option Elab.async false
set_option linter.all false
set_option maxRecDepth 100000
set_option maxHeartbeats 4000000
namespace Bk
open PySem PySem.Spec PyProof.Rows L2
/-! ### methods on the whole store -/
def gMethW (nm m : Str) (n : Nat) (F : List D → List MO → R D) (go : GE) (ga : GA) : GE := fun Γ M => (go Γ M).bind fun x M1 => if isObj nm m M1 x = true then (ga Γ M1).bind fun ds M2 => if ds.length + 1 = n then callW F (x :: ds) M2 else .bad else .bad
section
variable {X : Cx} {C : CT} {W : WX} {e o : Expr} {nm f m x : Str} {ge go : GE} {gs : GA} {pos apos pos' p : Pos} {C0 : Addr} {es : List Expr}
variable {k n : Nat} {fa : Addr} {fd : FuncData} {ps : List Str} {F : List D → List MO → R D} {pl : Sem Bool}
end
@[simp] theorem u_gMethW (nm m : Str) (n : Nat) (F : List D → List MO → R D) (go : GE) (ga : GA) (Γ : Env) (M : List MO) : gMethW nm m n F go ga Γ M = (go Γ M).bind fun x M1 => if isObj nm m M1 x = true then (ga Γ M1).bind fun ds M2 => if ds.length + 1 = n then callW F (x :: ds) M2 else .bad else .bad := Eq.trans rfl rfl
/-! ### for k, v in d.items() of a dict of ours with whole numbers as keys; it is not used any more -/
def gItemsK (ge : GE) : GI := fun Γ M => (ge Γ M).bind fun x M1 => match x with
  | .ref k => match M1[k]? with
    | some (.dki kvs) => .ok (kvs.map fun p => .tup [.int p.1, p.2]) (M1.set k .dead)
    | _ => .bad
  | _ => .bad
@[simp] theorem u_gItemsK (ge : GE) (Γ : Env) (M : List MO) : gItemsK ge Γ M = (ge Γ M).bind fun x M1 => match x with
  | .ref k => match M1[k]? with
    | some (.dki kvs) => .ok (kvs.map fun p => .tup [.int p.1, p.2]) (M1.set k .dead)
    | _ => .bad
  | _ => .bad := Eq.trans rfl rfl
@[simp] theorem u_gDictT (ge : GE) (Γ : Env) (M : List MO) : gDictT ge Γ M = (ge Γ M).bind fun x M1 => match x with
  | .ptu ds => match kiOf ds with
    | some kvs => .ok (.ref M1.length) (M1 ++ [.dki (kiMerge [] kvs)])
    | none => .bad
  | _ => .bad := Eq.trans rfl rfl
@[simp] theorem u_gGetK (go gk gx : GE) (Γ : Env) (M : List MO) : gGetK go gk gx Γ M = (go Γ M).bind fun x M1 => match x with
  | .ref k => match M1[k]? with
    | some (.dki _) => (gk Γ M1).bind fun y M2 => (gx Γ M2).bind fun z M3 => match y, M3[k]? with
      | .int i, some (.dki kvs) => .ok ((kiGet kvs i).getD z) M3
      | _, _ => .bad
    | _ => .bad
  | _ => .bad := Eq.trans rfl rfl
@[simp] theorem u_gSetX (ge go gi : GE) (Γ : Env) (M : List MO) : gSetX ge go gi Γ M = (ge Γ M).thenS Γ fun v M1 => (go Γ M1).thenS Γ fun o M2 => (gi Γ M2).thenS Γ fun i M3 => match setX M3 o i v with
  | some M4 => .nx Γ M4
  | none => .bad := Eq.trans rfl rfl
end Bk

set_option Elab.async false
set_option linter.all false
set_option maxRecDepth 100000
set_option maxHeartbeats 4000000
namespace Bk
open PySem PySem.Spec PyProof.Rows L2
@[simp] theorem rr_ptu (m : Nat) (M : List MO) (ds : List D) : retR m M (.ptu ds) = if belows m ds = true then .ok (.ptu ds) (M.take m) else .bad := Eq.trans rfl rfl
@[simp] theorem rr_dct (m : Nat) (M : List MO) (ks vs : List D) : retR m M (.dct ks vs) = if (belows m ks && belows m vs) = true then .ok (.dct ks vs) (M.take m) else .bad := Eq.trans rfl rfl
@[simp] theorem bl_ptu (m : Nat) (ds : List D) : below m (.ptu ds) = belows m ds := Eq.trans rfl rfl
@[simp] theorem bl_dct (m : Nat) (ks vs : List D) : below m (.dct ks vs) = (belows m ks && belows m vs) := Eq.trans rfl rfl
@[simp] theorem blo_dct (m : Nat) (ks vs : List D) : belowO m (.dct ks vs) = (belows m ks && belows m vs) := Eq.trans rfl rfl
@[simp] theorem blo_dki (m : Nat) (kvs : List (Int × D)) : belowO m (.dki kvs) = belows m (kvs.map (·.2)) := Eq.trans rfl rfl
@[simp] theorem it_ptu (M : List MO) (ds : List D) : itemsD M (.ptu ds) = some ds := Eq.trans rfl rfl
@[simp] theorem e_lenNd (M : List MO) (ks vs : List D) : dLenN M (.dct ks vs) = some (.int (vs.length : Nat)) := Eq.trans rfl rfl
@[simp] theorem dn_dct (M : List MO) (ks vs : List D) : dctD M (.dct ks vs) = some (ks, vs) := Eq.trans rfl rfl
@[simp] theorem u_runW (n : Nat) (g : GS) (ds : List D) (M : List MO) : runW n g ds M = finW (g (ds.map some ++ List.replicate (n - ds.length) none) M) := Eq.trans rfl rfl
@[simp] theorem u_callW (F : List D → List MO → R D) (ds : List D) (M : List MO) : callW F ds M = F ds M := Eq.trans rfl rfl
@[simp] theorem seqD_p (ds : List D) : seqD (.ptu ds) = some ds := Eq.trans rfl rfl
end Bk

set_option Elab.async false
set_option linter.all false
set_option maxRecDepth 100000
set_option maxHeartbeats 4000000
namespace Bk
open PySem PySem.Spec PyProof.Rows L2
/-! ### a, b = a list -/
def gToL (gs : GGs) : GG := fun d Γ => match d with
  | .lst ds => gs ds Γ
  | _ => none
section
variable {X : Cx} {es : List Expr} {gs : GGs} {is : List Nat} {pos : Pos}
end
@[simp] theorem u_gToL (gs : GGs) (ds : List D) (Γ : Env) : gToL gs (.lst ds) Γ = gs ds Γ := Eq.trans rfl rfl
end Bk

set_option Elab.async false
set_option linter.all false
set_option maxRecDepth 100000
set_option maxHeartbeats 4000000
namespace Bk
open PySem PySem.Spec PyProof.Rows L2
/-! ### {"a": "b", "c": "d"}[e] -/
def gStrM (a b c d : Str) (ge : GE) : GE := fun Γ M => (ge Γ M).bind fun x M1 => match x with
  | .str s => if s = a then .ok (.str b) M1 else if s = c then .ok (.str d) M1 else .bad
  | _ => .bad
section
variable {X : Cx} {C : CT} {W : WX} {e : Expr} {ge : GE} {pos dp p1 p2 p3 p4 : Pos}
@[simp] theorem u_gStrM (a b c d : Str) (ge : GE) (Γ : Env) (M : List MO) : gStrM a b c d ge Γ M = (ge Γ M).bind fun x M1 => match x with
  | .str s => if s = a then .ok (.str b) M1 else if s = c then .ok (.str d) M1 else .bad
  | _ => .bad := Eq.trans rfl rfl
end
end Bk

set_option Elab.async false
set_option linter.all false
set_option maxRecDepth 100000
set_option maxHeartbeats 2000000
namespace Bk
open PySem PySem.Spec PyProof.Rows L2
/-! ### t < u, t > u of tuples of ints; sorted of a list of them -/
def dLtA (M : List MO) (x y : D) : Option D := match x, y with
  | .tup xs, .tup ys => match intsL xs, intsL ys with
    | some ns, some ms => some (.bl (decide (ns < ms)))
    | _, _ => none
  | x, y => dLt M x y
def dGtA (M : List MO) (x y : D) : Option D := match x, y with
  | .tup xs, .tup ys => match intsL xs, intsL ys with
    | some ns, some ms => some (.bl (decide (ms < ns)))
    | _, _ => none
  | x, y => dGt M x y
section
variable {X : Cx}
end
@[simp] theorem e_ltA_i (M : List MO) (i j : Int) : dLtA M (.int i) (.int j) = some (.bl (decide (i < j))) := Eq.trans rfl rfl
@[simp] theorem e_gtA_i (M : List MO) (i j : Int) : dGtA M (.int i) (.int j) = some (.bl (decide (j < i))) := Eq.trans rfl rfl
/-! sorted -/
abbrev tupI (is : List Int) : D := .tup (is.map D.int)
def rowsL : List D → Option (List (List Int))
  | [] => some []
  | .tup xs :: ds => match intsL xs with
    | some is => (rowsL ds).map fun rs => is :: rs
    | none => none
  | _ => none
def leR (p q : List Int) : Bool := decide (p ≤ q)
def srtR (rs : List (List Int)) : List (List Int) := rs.mergeSort leR
def srtOk (rs : List (List Int)) : Bool := decide (rs.length ≤ 1) || rs.all fun r => decide (r ≠ [])
section
variable {X : Cx}
end
end Bk

set_option Elab.async false
set_option linter.all false
set_option maxRecDepth 100000
set_option maxHeartbeats 2000000
namespace Bk
open PySem PySem.Spec PyProof.Rows L2
/-! ### sum of a tuple of ints -/
def dSumT (M : List MO) (d : D) : Option D := match d with
  | .tup xs => (intsL xs).map fun is => .int is.sum
  | d => dSum M d
section
variable {X : Cx}
end
@[simp] theorem e_sumT_l (M : List MO) (l : List D) : dSumT M (.lst l) = dSum M (.lst l) := Eq.trans rfl rfl
@[simp] theorem e_sumT_r (M : List MO) (k : Nat) : dSumT M (.ref k) = dSum M (.ref k) := Eq.trans rfl rfl
end Bk

set_option Elab.async false
set_option linter.all false
set_option maxRecDepth 100000
set_option maxHeartbeats 2000000
namespace Bk
open PySem PySem.Spec PyProof.Rows L2
/-! ### a chain of three comparisons, as a test -/
def gChain3 (f f' f'' : List MO → D → D → Option D) (ga gb gc gd : GE) : GE := fun Γ M => (ga Γ M).bind fun x M1 => (gb Γ M1).bind fun y M2 => (opR (f M2 x y) M2).bind fun k M3 => match k with
  | .bl c => if c = true then (gc Γ M3).bind fun z M4 => (opR (f' M4 y z) M4).bind fun k' M5 => match k' with
      | .bl c' => if c' = true then (gd Γ M5).bind fun w M6 => opR (f'' M6 z w) M6 else .ok (.bl false) M5
      | _ => .bad
    else .ok (.bl false) M3
  | _ => .bad
@[simp] theorem u_gChain3 (f f' f'' : List MO → D → D → Option D) (ga gb gc gd : GE) (Γ : Env) (M : List MO) : gChain3 f f' f'' ga gb gc gd Γ M = ((ga Γ M).bind fun x M1 => (gb Γ M1).bind fun y M2 => (opR (f M2 x y) M2).bind fun k M3 => match k with
  | .bl c => if c = true then (gc Γ M3).bind fun z M4 => (opR (f' M4 y z) M4).bind fun k' M5 => match k' with
      | .bl c' => if c' = true then (gd Γ M5).bind fun w M6 => opR (f'' M6 z w) M6 else .ok (.bl false) M5
      | _ => .bad
    else .ok (.bl false) M3
  | _ => .bad) := Eq.trans rfl rfl
section
variable {X : Cx} {C : CT} {W : WX}
variable {a b c d : Expr} {ga gb gc gd : GE} {pos : Pos} {f f' f'' : List MO → D → D → Option D}
end
end Bk

set_option Elab.async false
set_option linter.all false
set_option maxRecDepth 100000
set_option maxHeartbeats 2000000
namespace Bk
open PySem PySem.Spec PyProof.Rows L2 HT
/-! ### t[::-1] of a tuple -/
section
variable {prog : Program} {w : World} {A : Around} {E : Value → Shared → Prop} {s : Shared}
end
def dRevA (M : List MO) (x : D) : Option D := match x with
  | .tup ds => some (.tup ds.reverse)
  | x => dRevL M x
def gRevA (ge : GE) : GE := fun Γ M => (ge Γ M).bind fun x M1 => opR (dRevA M1 x) M1
@[simp] theorem u_gRevA (ge : GE) (Γ : Env) (M : List MO) : gRevA ge Γ M = (ge Γ M).bind fun x M1 => opR (dRevA M1 x) M1 := Eq.trans rfl rfl
@[simp] theorem e_revAt (M : List MO) (ds : List D) : dRevA M (.tup ds) = some (.tup ds.reverse) := Eq.trans rfl rfl
@[simp] theorem e_revAl (M : List MO) (ds : List D) : dRevA M (.lst ds) = some (.lst ds.reverse) := Eq.trans rfl rfl
section
variable {X : Cx} {C : CT} {W : WX} {e : Expr} {g : GE}
end
end Bk

set_option Elab.async false
set_option linter.all false
set_option maxRecDepth 100000
set_option maxHeartbeats 2000000
namespace Bk
open PySem PySem.Spec PyProof.Rows L2
/-! ### the lists within a list are left as they are from now on -/
def frz1 : D → List MO → Option (D × List MO)
  | .ref k, M => match M[k]? with
    | some (.lst es) => some (.lst es, M.set k .dead)
    | _ => none
  | d, M => some (d, M)
def frzI : List D → List MO → Option (List D × List MO)
  | [], M => some ([], M)
  | d :: ds, M => (frz1 d M).bind fun p => (frzI ds p.2).map fun q => (p.1 :: q.1, q.2)
def gFzI (i : Nat) : GS := fun Γ M => match Γ[i]? with
  | some (some (.lst ds)) => match frzI ds M with
    | some p => .nx (Γ.set i (some (.lst p.1))) p.2
    | none => .bad
  | _ => .bad
@[simp] theorem u_gFzI (i : Nat) (Γ : Env) (M : List MO) : gFzI i Γ M = (match Γ[i]? with
  | some (some (.lst ds)) => match frzI ds M with
    | some p => .nx (Γ.set i (some (.lst p.1))) p.2
    | none => .bad
  | _ => .bad) := Eq.trans rfl rfl
section
variable {K : PySem.W.Frag} {H Z : Hp} {ι : Nat → Addr} {M M' : List MO}
end
section
variable {X : Cx} {C : CT} {W : WX} {st : Stmt} {g : GS}
end
end Bk

set_option Elab.async false
set_option linter.all false
set_option maxRecDepth 100000
set_option maxHeartbeats 2000000
namespace Bk
open PySem PySem.Spec PyProof.Rows L2
/-! ### xs * k as a list of ours -/
def repO (ds : Option (List D)) (y : D) (M : List MO) : R D := match ds, y with
  | some ds, .int k => if (decide (k < 2 ^ 63) && decide (-(2 ^ 63) ≤ k) && decide (ds.length * k.toNat ≤ sizeLine)) = true then .ok (.ref M.length) (M ++ [.lst (List.replicate k.toNat ds).flatten]) else .bad
  | _, _ => .bad
def gRepO (ga gb : GE) : GE := fun Γ M => (ga Γ M).bind fun x M1 => (gb Γ M1).bind fun y M2 => repO (listD M2 x) y M2
@[simp] theorem u_gRepO (ga gb : GE) (Γ : Env) (M : List MO) : gRepO ga gb Γ M = ((ga Γ M).bind fun x M1 => (gb Γ M1).bind fun y M2 => repO (listD M2 x) y M2) := Eq.trans rfl rfl
section
variable {X : Cx} {C : CT} {W : WX} {a b : Expr} {ga gb : GE} {pos : Pos}
end
end Bk

set_option Elab.async false
set_option linter.all false
set_option maxRecDepth 100000
set_option maxHeartbeats 4000000
namespace Bk
open PySem PySem.Spec PyProof.Rows L2 Srt SrtO SrtR
/-! ### sorted(t, reverse=True) of a tuple of ints -/
section
variable {prog : Program} {w : World} {A : Around} {E : Value → Shared → Prop} {s : Shared}
end
section
variable {X : Cx}
end
def dSortRT (M : List MO) : D → Option D
  | .tup ds => (intsD ds).map fun is => .lst ((srtI is).reverse.map D.int)
  | x => dSortR M x
def gSortRT (ge : GE) : GE := fun Γ M => (ge Γ M).bind fun x M1 => opR (dSortRT M1 x) M1
@[simp] theorem u_gSortRT (ge : GE) (Γ : Env) (M : List MO) : gSortRT ge Γ M = (ge Γ M).bind fun x M1 => opR (dSortRT M1 x) M1 := Eq.trans rfl rfl
section
variable {X : Cx} {C : CT} {W : WX} {e : Expr} {g : GE}
end
end Bk

set_option Elab.async false
set_option linter.all false
set_option maxRecDepth 100000
set_option maxHeartbeats 2000000
namespace Bk
open PySem PySem.Spec PyProof.Rows L2
/-! ### a list of ours that comes back from a call, and will not be changed -/
def fzD (d : D) (M : List MO) : R D := match d with
  | .ref k => match M[k]? with
    | some (.lst ds) => .ok (.lst ds) (M.set k .dead)
    | _ => .bad
  | d => .ok d M
def gFzE (ge : GE) : GE := fun Γ M => (ge Γ M).bind fzD
@[simp] theorem u_gFzE (ge : GE) (Γ : Env) (M : List MO) : gFzE ge Γ M = (ge Γ M).bind fzD := Eq.trans rfl rfl
section
variable {X : Cx} {C : CT} {W : WX} {e : Expr} {ge : GE}
end
end Bk

set_option Elab.async false
set_option linter.all false
set_option maxRecDepth 100000
set_option maxHeartbeats 2000000
namespace Bk
open PySem PySem.Spec PyProof.Rows L2
/-! ### a loop over a list of ours, read anew at each turn -/
def gForN (gg : GG) (body : GS) (k : Nat) : Nat → Nat → GS
  | 0, _ => gBad
  | n + 1, i => fun Γ M => match M[k]? with
    | some (.lst ds) => match ds[i]? with
      | some d => optS (gg d Γ) fun Γ1 => (body Γ1 M).turn (gForN gg body k n (i + 1))
      | none => .nx Γ M
    | _ => .bad
def gForO (ge : GE) (gg : GG) (body : GS) (n : Nat) : GS := fun Γ M => (ge Γ M).thenS Γ fun d M1 => match d with
  | .ref k => gForN gg body k n 0 Γ M1
  | _ => .bad
@[simp] theorem u_gForO (ge : GE) (gg : GG) (body : GS) (n : Nat) (Γ : Env) (M : List MO) : gForO ge gg body n Γ M = ((ge Γ M).thenS Γ fun d M1 => match d with
  | .ref k => gForN gg body k n 0 Γ M1
  | _ => .bad) := Eq.trans rfl rfl
section
variable {X : Cx} {C : CT} {W : WX} {tg : Expr} {ge : GE} {gg : GG} {g : GS} {pos : Pos}
/-! ### a slice as a list of ours -/
def slO (ds : Option (List D)) (lo hi : Option Int) (M : List MO) : R D := match ds with
  | some ds => .ok (.ref M.length) (M ++ [.lst (cutD ds lo hi)])
  | none => .bad
def gSlO (ge : GE) (lo hi : GO) : GE := fun Γ M => (ge Γ M).bind fun x M1 => (lo Γ M1).bind fun a M2 => (hi Γ M2).bind fun b M3 => slO (listD M3 x) a b M3
@[simp] theorem u_gSlO (ge : GE) (lo hi : GO) (Γ : Env) (M : List MO) : gSlO ge lo hi Γ M = ((ge Γ M).bind fun x M1 => (lo Γ M1).bind fun a M2 => (hi Γ M2).bind fun b M3 => slO (listD M3 x) a b M3) := Eq.trans rfl rfl
@[simp] theorem slO_some (ds : List D) (lo hi : Option Int) (M : List MO) : slO (some ds) lo hi M = .ok (.ref M.length) (M ++ [.lst (cutD ds lo hi)]) := Eq.trans rfl rfl
end
end Bk

set_option Elab.async false
set_option linter.all false
set_option maxRecDepth 100000
set_option maxHeartbeats 4000000
namespace Bk
open PySem PySem.Spec PyProof.Rows L2
/-! ### sets of tuples of ints: sorted(set(xs)) -/
/-- each row once -/
def uniqR : List (List Int) → List (List Int)
  | [] => []
  | r :: rs => if r ∈ rs then uniqR rs else r :: uniqR rs
section
variable {prog : Program} {w : World} {A : Around} {E : Value → Shared → Prop} {s : Shared}
variable {a : Addr} {L : List (Addr × List Int)} {es : Array (Int × Value)} {ep : Nat} {t : SetTable}
end
end Bk

set_option Elab.async false
set_option linter.all false
set_option maxRecDepth 100000
set_option maxHeartbeats 4000000
namespace Bk
open PySem PySem.Spec PyProof.Rows L2
/-! ### sorted(set(xs)), the rule -/
section
variable {X : Cx}
end
/-! what the layer says -/
def dSortS (M : List MO) (d : D) : Option D := ((listD M d).bind rowsL).bind fun rs => if (decide (rs.length < 64) && srtOk (uniqR rs)) = true then some (.lst ((srtR (uniqR rs)).map tupI)) else none
def gSortS (ge : GE) : GE := fun Γ M => (ge Γ M).bind fun d M1 => opR (dSortS M1 d) M1
@[simp] theorem u_gSortS (ge : GE) (Γ : Env) (M : List MO) : gSortS ge Γ M = ((ge Γ M).bind fun d M1 => opR (dSortS M1 d) M1) := Eq.trans rfl rfl
section
variable {X : Cx} {C : CT} {W : WX} {a : Expr} {ge : GE} {p p2 pos q : Pos}
end
end Bk

set_option Elab.async false
set_option linter.all false
set_option maxRecDepth 100000
set_option maxHeartbeats 4000000
namespace Bk
open PySem PySem.Spec PyProof.Rows L2 PpSet
/-! ### a set comprehension of tuples of ints, and how many they are -/
section
variable {X : Cx} {pins : List (Addr × Obj)} {σ : St} {H : Hp} {s : Shared}
end
end Bk

set_option Elab.async false
set_option linter.all false
set_option maxRecDepth 100000
set_option maxHeartbeats 4000000
namespace Bk
open PySem PySem.Spec PyProof.Rows L2 PpSet
/-! ### len({e for x in xs if ..}), e a tuple of ints -/
def rowD : D → Option (List Int)
  | .tup xs => intsL xs
  | _ => none
def gScL (gg : GG) (gt : GT) (ge : GE) (Γ0 : Env) : List D → List (List Int) → List MO → R (List (List Int))
  | [], rs, M => .ok rs M
  | d :: ds, rs, M => match gg d Γ0 with
    | none => .bad
    | some Γ1 => (gt Γ1 M).only fun k M1 => if k = true then (ge Γ1 M1).only fun y M2 => match rowD y with
        | some r => if rs.length + 1 < 64 then gScL gg gt ge Γ0 ds (rs ++ [r]) M2 else .bad
        | none => .bad
      else gScL gg gt ge Γ0 ds rs M1
def gLenSc (gi : GI) (gg : GG) (gt : GT) (ge : GE) (vs : List Nat) : GE := fun Γ M => (gi Γ M).bind fun ds M1 => (gScL gg gt ge (forget Γ vs) ds [] M1).bind fun rs M2 => .ok (.int ((uniqR rs).length : Nat)) M2
@[simp] theorem u_gLenSc (gi : GI) (gg : GG) (gt : GT) (ge : GE) (vs : List Nat) (Γ : Env) (M : List MO) : gLenSc gi gg gt ge vs Γ M = ((gi Γ M).bind fun ds M1 => (gScL gg gt ge (forget Γ vs) ds [] M1).bind fun rs M2 => .ok (.int ((uniqR rs).length : Nat)) M2) := Eq.trans rfl rfl
@[simp] theorem scL_nil (gg : GG) (gt : GT) (ge : GE) (Γ0 : Env) (rs : List (List Int)) (M : List MO) : gScL gg gt ge Γ0 [] rs M = .ok rs M := by simp [gScL]
section
variable {X : Cx} {C : CT} {W : WX}
variable {elt tg iter : Expr} {ifs : List Expr} {scope : Scope} {own : List (Str × Nat)} {p q pos : Pos} {gi : GI} {gg : GG} {gt : GT} {ge : GE} {is ixs : List Nat}
end
end Bk

set_option Elab.async false
set_option linter.all false
set_option maxRecDepth 100000
set_option maxHeartbeats 4000000
namespace Bk
open PySem PySem.Spec PyProof.Rows L2
/-! ### attributes stored at once, objects whose fields are ours, keys of a dict of ours, defs that call themselves -/
section
variable {X : Cx} {C : CT} {W : WX} {e o : Expr} {es : List Expr} {nm f m x : Str} {ge go : GE} {gs : GA} {pos apos pos' p : Pos} {C0 : Addr}
abbrev HHs := List D → Env → List MO → Option (List MO)
def gSetFs (ge : GE) (hs : HHs) : GS := fun Γ M => (ge Γ M).thenS Γ fun d M1 => match d with
  | .tup ds => match hs ds Γ M1 with
    | some M2 => .nx Γ M2
    | none => .bad
  | _ => .bad
/-! C(e, ..), the fields may be ours -/
def gNewW (nm : Str) (n : Nat) (F : List D → List MO → R D) (ga : GA) : GE := fun Γ M => (ga Γ M).bind fun ds M1 => if ds.length + 1 = n then (callW F (.ref M1.length :: ds) (M1 ++ [.obj nm []])).bind (newR M1.length) else .bad
variable {k n : Nat} {fa : Addr} {fd : FuncData} {ps : List Str} {F : List D → List MO → R D}
end
/-! a key that is not in a dict -/
section
variable {X : Cx}
end
@[simp] theorem u_gSetFs (ge : GE) (hs : HHs) (Γ : Env) (M : List MO) : gSetFs ge hs Γ M = ((ge Γ M).thenS Γ fun d M1 => match d with
  | .tup ds => match hs ds Γ M1 with
    | some M2 => .nx Γ M2
    | none => .bad
  | _ => .bad) := Eq.trans rfl rfl
@[simp] theorem u_gNewW (nm : Str) (n : Nat) (F : List D → List MO → R D) (ga : GA) (Γ : Env) (M : List MO) : gNewW nm n F ga Γ M = ((ga Γ M).bind fun ds M1 => if ds.length + 1 = n then (callW F (.ref M1.length :: ds) (M1 ++ [.obj nm []])).bind (newR M1.length) else .bad) := Eq.trans rfl rfl
end Bk

set_option Elab.async false
set_option linter.all false
set_option maxRecDepth 100000
set_option maxHeartbeats 4000000
namespace Bk
open PySem PySem.Spec PyProof.Rows L2
/-! ### len(set(xs)) of tuples of ints -/
def dLenSet (M : List MO) (d : D) : Option D := ((listD M d).bind rowsL).bind fun rs => if rs.length < 64 then some (.int ((uniqR rs).length : Nat)) else none
def gLenSet (ge : GE) : GE := fun Γ M => (ge Γ M).bind fun d M1 => opR (dLenSet M1 d) M1
@[simp] theorem u_gLenSet (ge : GE) (Γ : Env) (M : List MO) : gLenSet ge Γ M = ((ge Γ M).bind fun d M1 => opR (dLenSet M1 d) M1) := Eq.trans rfl rfl
section
variable {X : Cx} {C : CT} {W : WX} {a : Expr} {ge : GE} {p p2 pos q : Pos}
end
end Bk

set_option Elab.async false
set_option linter.all false
set_option maxRecDepth 100000
set_option maxHeartbeats 4000000
namespace Bk
open PySem PySem.Spec PyProof.Rows L2
open PySem.Sem (wp)
/-! ### zip(.., strict=True) of two iterators, its step -/
section
variable {prog : Program} {w : World} {A : Around} {E : Value → Shared → Prop} {s : Shared} {z TI TO i1 i2 : Addr} {fp1 fp2 : List Addr} {n1 n2 n i : Nat} {P1 P2 P : Nat → Value → Prop} {St1 St2 St : Nat → Heap → Prop} {a1 a2 : Value}
end
end Bk

set_option Elab.async false
set_option linter.all false
set_option maxRecDepth 100000
set_option maxHeartbeats 4000000
namespace Bk
open PySem PySem.Spec PyProof.Rows L2
open PySem.Sem (wp)
/-! ### enumerate(zip(.., .., strict=True), k) -/
section
variable {prog : Program} {w : World} {A : Around} {E : Value → Shared → Prop} {s : Shared} {z TI TO i1 i2 : Addr} {fp1 fp2 : List Addr} {n1 n2 n i : Nat} {P1 P2 P : Nat → Value → Prop} {St1 St2 St : Nat → Heap → Prop} {a1 a2 : Value}
end
end Bk

set_option Elab.async false
set_option linter.all false
set_option maxRecDepth 100000
set_option maxHeartbeats 4000000
namespace Bk
open PySem PySem.Spec PyProof.Rows L2
/-! ### enumerate(zip(.., .., strict=True), k), the rule -/
end Bk

set_option Elab.async false
set_option linter.all false
set_option maxRecDepth 100000
set_option maxHeartbeats 4000000
namespace Bk
open PySem PySem.Spec PyProof.Rows L2
/-! ### for i, (a, b) in enumerate(zip(.., .., strict=True), k) -/
def enumZO (x y : D) (k : Int) : Option (List D) := match seqD x, seqD y with
  | some ds, some es => if (decide (ds.length = es.length) && decide (-(2 ^ 63) ≤ k) && decide (k < 2 ^ 63)) = true then some (enumL k (zipL ds es)) else none
  | _, _ => none
def gEnumZ (ga gb : GE) (k : Int) : GI := fun Γ M => (ga Γ M).bind fun x M1 => (gb Γ M1).bind fun y M2 => opR (enumZO x y k) M2
@[simp] theorem u_gEnumZ (ga gb : GE) (k : Int) (Γ : Env) (M : List MO) : gEnumZ ga gb k Γ M = (ga Γ M).bind fun x M1 => (gb Γ M1).bind fun y M2 => opR (enumZO x y k) M2 := Eq.trans rfl rfl
section
open PySem.Sem (wp)
variable {prog : Program} {w : World} {A : Around} {E : Value → Shared → Prop} {s : Shared} {z TI TO : Addr} {f0 : Value} {f : Bool}
end
section
variable {X : Cx} {C : CT} {W : WX} {e e2 : Expr} {ga gb : GE} {p p2 pos zpos tpos cp kp ip : Pos} {elts : List Expr} {kk j j2 : Nat} {k : Int}
end
end Bk

set_option Elab.async false
set_option linter.all false
set_option maxRecDepth 100000
set_option maxHeartbeats 4000000
namespace Bk
open PySem PySem.Spec PyProof.Rows L2
/-! ### for a, b in zip(.., .., strict=True) -/
section
variable {prog : Program} {w : World} {A : Around} {E : Value → Shared → Prop} {s : Shared} {z TI TO i1 i2 : Addr} {fp1 fp2 : List Addr} {n1 n2 n i : Nat} {P1 P2 P : Nat → Value → Prop} {St1 St2 St : Nat → Heap → Prop} {a1 a2 : Value}
end
def zipSO (x y : D) : Option (List D) := match seqD x, seqD y with
  | some ds, some es => if ds.length = es.length then some (zipL ds es) else none
  | _, _ => none
def gZipS (ga gb : GE) : GI := fun Γ M => (ga Γ M).bind fun x M1 => (gb Γ M1).bind fun y M2 => opR (zipSO x y) M2
@[simp] theorem u_gZipS (ga gb : GE) (Γ : Env) (M : List MO) : gZipS ga gb Γ M = (ga Γ M).bind fun x M1 => (gb Γ M1).bind fun y M2 => opR (zipSO x y) M2 := Eq.trans rfl rfl
section
variable {X : Cx} {C : CT} {W : WX} {e e2 : Expr} {ga gb : GE} {p2 zpos tpos cp kp : Pos} {elts : List Expr} {kk j : Nat}
end
end Bk

set_option Elab.async false
set_option linter.all false
set_option maxRecDepth 100000
set_option maxHeartbeats 2000000
namespace Bk
open PySem PySem.Spec PyProof.Rows L2
/-! ### errors: classes of the program over ValueError, each with one attribute -/
def errOk (B : Addr) (kd : ClassData) (ar : Array (Option Value)) : Bool := match kd.mro, ar.toList with
  | .ref B2 :: tl, [_, _, _, _, some (.builtin nw), _] => B2 == B && nw == "ValueError.__new__" && !kd.hasDel && kd.hasDict && PySem.HandSPX.refsVE tl
  | _, _ => false
theorem errOk_cls {K : PySem.W.Frag} {B : Addr} {dd : Option Addr} {kd : ClassData} {ar : Array (Option Value)} (ho : K.lookup B = some ⟨.type "type", dd, .cls kd, ar⟩) (q : errOk B kd ar = true) : ∃ nm qn N bs tl sn sub ab col dd k0 k1 k2 k3 k5,
    K.lookup B = some (excClassObj nm qn B N bs tl true sn sub ab col dd k0 k1 k2 k3 k5 "ValueError.__new__") ∧ PySem.HandSPX.refsVE tl = true := by
  unfold errOk at q
  split at q
  · rename_i B2 tl k0 k1 k2 k3 nw k5 hm hs
    simp only [Bool.and_eq_true, beq_iff_eq, Bool.not_eq_true'] at q
    obtain ⟨⟨⟨⟨rfl, rfl⟩, hdel⟩, hdi⟩, hrf⟩ := q
    obtain ⟨nm, bs, mro, ns, qn, hd, sn, sub, ab, col, del⟩ := kd
    dsimp only at hm hdel hdi
    subst hm hdel hdi
    obtain ⟨l⟩ := ar
    simp only at hs
    subst hs
    exact ⟨nm, qn, ns, bs, tl, sn, sub, ab, col, dd, k0, k1, k2, k3, k5, ho, hrf⟩
  · cases q
/-- a class of errors: at B, its attribute f, its maker at fI -/
structure XC (K : PySem.W.Frag) (B fI : Addr) (f : Str) (fd : FuncData) (st : Stmt) (qual : Str) : Prop where
  ok : OexC K B
  xf : XfC K B
  no : PySem.W.findIn K (.ref B) f = some none
  ini : PySem.W.findIn K (.ref B) "__init__" = some (some (.ref fI))
  typ : PySem.W.typeIn K (.ref fI) = some (.type "function")
  fn : Fun K "__init__" qual st fI fd
  bi : Binds K fd ["self", f] []
/-- what the maker does -/
def spI (B : Addr) (f : Str) : Sp := fun vs H Q _ => ∃ (a : Addr) (y : V), vs = [.ref a, y] ∧ H a = some (exo a B none) ∧ ∀ dx, H dx = none → dx ≠ a → Q .non (upd (upd H dx (exd dx [(f, y)])) a (exo a B (some dx)))
theorem maker_ok {P : Program} {w : World} {K : PySem.W.Frag} {mg : Str → Option Value} {base : Heap} {B fI : Addr} {f qual : Str} {fd : FuncData} {st : Stmt} {p1 p2 p3 p4 : Pos} (I : XC K B fI f fd st qual) (S : FnScope ["self", f] ["self", f] (defScope st))
    (hb : defBody st = [.Assign [.Attribute (.Name "self" p1) f p2] (.Name f p3) p4]) (hd : (f == ("__debug__" : Str)) = false) (hcd : (f == ("__classdict__" : Str)) = false) (vs1 : Vis (defScope st) "self") (vs2 : Vis (defScope st) f)
    (hsw : ∀ env : PySem.Env, swapsWith (.Name f p3) (some (.Attribute (.Name "self" p1) f p2)) p4.line env = pure false) : FnOk P w K mg base CX0 1 fI fd ["self", f] (spI B f) := by
  obtain ⟨oc, od, kV, doc, pm, an, cdv, ct, osl, rfl, lk, hcode⟩ := I.fn.ex
  refine fn_of (k := 0) (N := ["self", f]) lk hcode S (fun vs H Q E h => ?_) fun A outer s H vs Q E hr h => ?_
  · obtain ⟨a, y, e, _⟩ := h
    rw [e]
    rfl
  · obtain ⟨a, y, e, ea, q⟩ := h
    subst e
    rw [hb]
    have pv : PE (cxOf CX0 P w K mg base ["self", f] qual (defScope st) fI cdv A outer s H E) (.Name f p3) (tVar 1) := pe_var rfl vs2 hd hcd
    have pself : PE (cxOf CX0 P w K mg base ["self", f] qual (defScope st) fI cdv A outer s H E) (.Name "self" p1) (tVar 0) := pe_var rfl vs1 (by decide) (by decide)
    refine ⟨_, pss_one (ps_ost pself pv (hsw _)), ?_⟩
    exact ⟨y, rfl, .ref a, rfl, a, B, rfl, I.ok, I.no, .inl ⟨ea, fun dx n ne => q dx n ne⟩⟩
section
variable {X : Cx} {C : CT} {W : WX} {B fI : Addr} {f x qual : Str} {fd : FuncData} {st : Stmt} {e : Expr} {ge : GE} {p pos pos1 : Pos}
/-- an error is raised -/
def gRaise (c : Nat) (ge : GE) : GS := fun Γ M => (ge Γ M).thenS Γ fun d M1 => .exc c d Γ M1
theorem qs_raise {c : Nat} (I : XC X.K B fI f fd st qual) (F1 : FnOk X.prog X.w X.K X.mg X.base CX0 1 fI fd ["self", f] (spI B f)) (hr : Room 2 X.A) (hc : X.calm = true) (tk : Takes X W) (hg : Gl X x) (hm : X.mg x = some (.ref B)) (hat : C.at_ c = B) (hnm : C.nm c = f)
    (he : QE X C W e ge) (hdb : (x == ("__debug__" : Str)) = false := by decide) (hs : starEach [e] X.env = (false, eval e X.env) :: starEach [] X.env := by rfl) (hpl : (backTo pos1 (starEach [] X.env)).any (·.1) = false := by rfl) :
    QS X C W (.Raise (some (.Call (.Name x p) [e] [] pos1)) none pos) (gRaise c ge) := by
  obtain ⟨te, pe, qe⟩ := he
  have mk := pmk_oex (pos := pos1) (p := p) (dvs := []) I.ok I.ini I.typ F1 hr I.bi .nil pass0 hg hm (pa_cons pe pa_nil hs) hdb hs hpl
  refine ⟨_, ps_raise hc tk mk, fun Dd σ H Z ι Γ M sl hR h => ?_⟩
  refine qe σ H Z ι Γ M _ sl hR (PostS.bind (rp1 := rpE X.K) h sl fun d M1 v H1 Z1 ι1 e1 hr1 r1 h1 => ?_)
  refine ⟨by show 1 ≤ 1000; decide, fun a ha => ⟨a, v, rfl, upd_same, fun dx hdx ne => ⟨rfl, dx, [(f, v)], upd_same, ?_, ?_, ?_⟩⟩⟩
  · rw [upd_ne ne]
    exact upd_same
  · rw [upd_ne ne] at hdx
    exact hdx
  · have hx : H1 dx = none := by
      rw [upd_ne ne] at hdx
      exact hdx
    have eq : upd (del (upd (upd (upd H1 a (exo a B none)) dx (exd dx [(f, v)])) a (exo a B (some dx))) a) dx (.xd [(f, v)]) = upd H1 dx (.xd [(f, v)]) := by
      funext b
      by_cases h1 : b = dx
      · rw [h1, upd_same, upd_same]
      · rw [upd_ne h1, upd_ne h1]
        by_cases h2 : b = a
        · rw [h2, del_same, ha]
        · rw [del_ne h2, upd_ne h2, upd_ne h1, upd_ne h2]
    rw [eq]
    obtain ⟨hr2, ex⟩ := hr1.frozen (o := .xd [(f, v)]) hx
    exact h1 (.ref B) (some dx) σ _ _ ι1 ex hr2 ((sl.ext e1).ext ex) ⟨by rw [hat], dx, v, rfl, by rw [hnm]; exact upd_same, r1.ext ex⟩
end
@[simp] theorem u_gRaise (c : Nat) (ge : GE) (Γ : Env) (M : List MO) : gRaise c ge Γ M = (ge Γ M).thenS Γ fun d M1 => .exc c d Γ M1 := rfl

/-! ### try -/
theorem Slots.unset {K : PySem.W.Frag} {Z : Hp} {ι : Nat → Addr} {n i : Nat} {Γ : Env} {σ : St} (s : Slots K Z ι n Γ σ) (o : Option V) : Slots K Z ι n (Γ.set i none) (σ.set i o) := by
  refine ⟨by rw [List.length_set, List.length_set]; exact s.1, fun j d h => ?_⟩
  by_cases hj : i = j
  · subst hj
    have lt : i < Γ.length := by
      have := (List.getElem?_eq_some_iff.mp h).1
      rw [List.length_set] at this
      exact this
    rw [List.getElem?_set_self lt] at h
    cases h
  · rw [List.getElem?_set_ne hj] at h ⊢
    exact s.2 j d h
/-- a clause: which classes it takes, the slot of its name, what it does with the error's attribute -/
structure Hd where
  is : Nat → Bool
  slot : Option Nat
  run : D → GS
def RS.noExc (r : RS) : RS := match r with
  | .exc _ _ _ _ => .bad
  | r => r
def RS.unset (i : Nat) (r : RS) : RS := match r with
  | .nx Γ M => .nx (Γ.set i none) M
  | .bk Γ M => .bk (Γ.set i none) M
  | .ct Γ M => .ct (Γ.set i none) M
  | r => r
def pickH : List Hd → Nat → D → GS
  | [], c, d => fun Γ M => .exc c d Γ M
  | h :: r, c, d => fun Γ M => if h.is c = true then (match h.slot with
      | none => (h.run d Γ M).noExc
      | some i => if i < Γ.length then ((h.run d (Γ.set i none) M).noExc).unset i else .bad) else pickH r c d Γ M
def RS.caught (m : Nat) (hs : List Hd) (r : RS) : RS := match r with
  | .exc c d Γ M => if c < m then pickH hs c d Γ M else .bad
  | r => r
def gTry (m : Nat) (body : GS) (hs : List Hd) : GS := fun Γ M => (body Γ M).caught m hs

/-- the suite of a clause without a name -/
def QOnly (X : Cx) (C : CT) (sts : List Stmt) (g : GS) : Prop := ∀ (a : Addr) (oe : Obj) (pn : List (Addr × Obj)), QSs (X.suite a ((a, oe) :: pn)) C noW sts g
/-- the suite of a clause 'as n' for the class k -/
def QAs (X : Cx) (C : CT) (k i : Nat) (sts : List Stmt) (g : D → GS) : Prop := ∀ (a : Addr) (oe : Obj) (cls : Value) (dd : Option Addr) (pn : List (Addr × Obj)), Zc cls dd oe → (∃ vs, oe.data = .fields vs) →
  ∃ ts, PSs (X.suite a ((a, oe) :: pn)) sts ts ∧ ∀ (Dd : Ends) (σ : L2.St) (H Z : Hp) (ι : Nat → Addr) (Γ : Env) (M : List MO) (d : D), σ[i]? = some (some (.ref a)) → Γ[i]? = some none → ExcR X.K C H Z ι M.length k d cls dd → Slots X.K Z ι M.length Γ σ → HR X.K H Z ι M →
    PostS X C noW H Z ι M (g d Γ M) Dd → ts Dd σ H
/-- readings of the suites -/
abbrev TSx := Addr → Value → Option Addr → TS
def tOnly (X : Cx) (C : CT) (g : D → GS) : TSx := fun _ cls dd Dd σ H => ∃ (Z : Hp) (ι : Nat → Addr) (Γ : Env) (M : List MO) (c : Nat) (d : D), ExcR X.K C H Z ι M.length c d cls dd ∧ Slots X.K Z ι M.length Γ σ ∧ HR X.K H Z ι M ∧ PostS X C noW H Z ι M (g d Γ M) Dd
def tAs (X : Cx) (C : CT) (k i : Nat) (g : D → GS) : TSx := fun a cls dd Dd σ H => ∃ (Z : Hp) (ι : Nat → Addr) (Γ : Env) (M : List MO) (d : D), σ[i]? = some (some (.ref a)) ∧ Γ[i]? = some none ∧ ExcR X.K C H Z ι M.length k d cls dd ∧ Slots X.K Z ι M.length Γ σ ∧ HR X.K H Z ι M ∧ PostS X C noW H Z ι M (g d Γ M) Dd
def endsU (i : Nat) (Dd : Ends) : Ends := { nx := fun σ H => Dd.nx (σ.set i none) H, rt := Dd.rt, bk := fun σ H => Dd.bk (σ.set i none) H, ct := fun σ H => Dd.ct (σ.set i none) H }
/-- what the clauses wish of an error of the body -/
def wHd (K : PySem.W.Frag) (Wo : WX) (Dd : Ends) : List (Value × Option Nat × TSx) → WX
  | [] => Wo
  | (c, none, ts) :: r => fun cls d σ H => ∃ b, PySem.W.exmOne K cls c = some b ∧ (b = true → ∀ a, H a = none → ts a cls d Dd σ H) ∧ (b = false → wHd K Wo Dd r cls d σ H)
  | (c, some i, ts) :: r => fun cls d σ H => ∃ b, PySem.W.exmOne K cls c = some b ∧ (b = true → ∀ a, H a = none → ts a cls d (endsU i Dd) (σ.set i (some (.ref a))) H) ∧ (b = false → wHd K Wo Dd r cls d σ H)
inductive HdK (X : Cx) : List ExceptHandler → List (Value × Option Nat × TSx) → Prop
  | nil : HdK X [] []
  | only {x : Str} {c : Value} {ts : TSx} {b0 : Stmt} {su : List Stmt} {np po : Pos} {hds : List ExceptHandler} {l : List (Value × Option Nat × TSx)} (hc : Names X x c)
      (hsu : ∀ (a : Addr) (oe : Obj) (cls : Value) (d : Option Addr) (pn : List (Addr × Obj)), Zc cls d oe → (∃ us, oe.data = .fields us) → PSs (X.suite a ((a, oe) :: pn)) (b0 :: su) (ts a cls d)) (r : HdK X hds l) :
      HdK X (.ExceptHandler (some (.Name x np)) none (b0 :: su) po :: hds) ((c, none, ts) :: l)
  | as {x n : Str} {i : Nat} {c : Value} {ts : TSx} {b0 : Stmt} {su : List Stmt} {np po : Pos} {hds : List ExceptHandler} {l : List (Value × Option Nat × TSx)} (hc : Names X x c) (hN : X.N.Nodup) (hi : X.N[i]? = some n) (hln : X.env.kindOf n = some .local)
      (hsu : ∀ (a : Addr) (oe : Obj) (cls : Value) (d : Option Addr) (pn : List (Addr × Obj)), Zc cls d oe → (∃ us, oe.data = .fields us) → PSs (X.suite a ((a, oe) :: pn)) (b0 :: su) (ts a cls d)) (r : HdK X hds l) :
      HdK X (.ExceptHandler (some (.Name x np)) (some n) (b0 :: su) po :: hds) ((c, some i, ts) :: l)
section
variable {X : Cx} {body : List Stmt} {h0 : ExceptHandler} {hds : List ExceptHandler} {l : List (Value × Option Nat × TSx)} {pos : Pos} {tb : WX → TS} {Wo : WX}
/-- try with any clauses, named or not -/
theorem ps_tryK (hs : X.stack = X.env :: X.outer) (hf : X.env.frame = some X.env.locals) (tk : Takes X Wo)
    (hb : ∀ (W : WX) (pn : List (Addr × Obj)) (xe : Value → Shared → Prop), Takes (X.tr pn xe) W → PassesOwn (model X.prog X.w) X.A X.env xe → PSs (X.tr pn xe) body (tb W))
    (hh : HdK X (h0 :: hds) l) : PS X (.Try body (h0 :: hds) [] [] pos) (fun Dd σ H => tb (wHd X.K Wo Dd l) Dd σ H) := by
  refine ⟨fun pi s σ H Dd I h => ?_⟩
  have okX := I.ok
  have frm : X.A.frames = some (X.env :: X.outer) := by rw [okX.frames, hs]
  refine wpAny_Try_except ?_
  refine wpAny_mono ((hb (wHd X.K Wo Dd l) (X.pn ++ pi) (fun e s₁ => wpAny (model X.prog X.w) X.A (noteFrame e X.env) (fun _ s₂ => wpAny (model X.prog X.w) X.A (setFlight e none) (fun _ s₃ =>
    wpAny (model X.prog X.w) X.A (handleBy e X.env (h0 :: hds)) (SP X pi Dd) X.xe s₃) X.xe s₂) X.xe s₁) (fun u s' xx => ?_) PassesOwn.looking).run [] s σ H Dd (I.toTry _) h) (fun fl s1 hsp => ?_) (fun e s1 he => he)
  · obtain ⟨a, B, sI, pi2, σ2, H2, cls, dd, rfl, J0, nb, up, sky, na, os, ag, w⟩ := xx
    have J : Inv X pi σ2 H2 sI := J0.ofTry okX
    have sky2 : Sky B (X.env :: X.outer) a (Zc cls dd) X.env.locals s'.heap := by rw [← hs]; exact sky
    show wpAny (model X.prog X.w) X.A (noteFrame (.ref a) X.env) _ _ _
    refine Sky.land Zc.steady frm hf sky2 fun h3 f3 u3 => ?_
    have J3 : Inv X pi σ2 H2 { s' with heap := h3 } := J.landed nb f3.1 (up.trans u3) os ag
    obtain ⟨oe3, vs3, he3, hz3, hd3⟩ := f3.there
    have notF : ∀ {hp : Heap} {ob : Obj} {us : Array Value}, hp.FunFrames B (X.env :: X.outer) → hp.get? a = some ob → ob.data = .fields us → a ∉ frs (X.env :: X.outer) := fun {hp ob us} ff e1 e2 hm => by
      obtain ⟨_, ob2, e3, hnf⟩ := ff.mem hm
      rw [e1] at e3
      cases e3
      exact hnf _ e2
    have nfr := notF f3.2.2.1 he3 hd3
    have nL : a ≠ X.env.locals := fun z => nfr (List.mem_filterMap.mpr ⟨X.env, List.mem_cons_self, by rw [hf, z]⟩)
    have nF : a ∉ X.fs := fun hm => by
      obtain ⟨en, hen, qe⟩ := List.mem_filterMap.mp hm
      exact nfr (List.mem_filterMap.mpr ⟨en, List.mem_cons_of_mem _ hen, qe⟩)
    have S3 := J3.suite he3 hd3 na nL nF
    have look : ∀ {c : Value} {b : Bool}, PySem.W.exmOne X.K cls c = some b → ∀ {Q : Bool → Shared → Prop} {E : Value → Shared → Prop}, True := fun _ => trivial
    have go : ∀ {hk : List ExceptHandler} {lk : List (Value × Option Nat × TSx)}, HdK X hk lk → wHd X.K Wo Dd lk cls dd σ2 H2 →
        wpAny (model X.prog X.w) X.A (handleBy (.ref a) X.env hk) (SP X pi Dd) X.xe { s' with heap := h3 } := by
      intro hk lk K0
      induction K0 with
      | nil =>
        intro w
        refine wpAny_handleBy_nil ?_
        obtain ⟨k1, k2, k3, oe, us, T, oT, ts2, hea, hza, hda, h1a, hra⟩ := id f3
        unfold PySem.passOn
        refine wpAny_bind (wpAny_field hea hda h1a ?_)
        rw [if_neg (show ¬ ((Value.ref T == Value.none) = true) from by simp)]
        have fin : wpAny (model X.prog X.w) X.A (setFlight (.ref a) X.env.frame) (fun _ s4 => wpAny (model X.prog X.w) X.A (throw (.ref a) : Sem Flow) (SP X pi Dd) X.xe s4) X.xe { s' with heap := h3 } := by
          rw [hf]
          refine HandSPX.setFlight_upZ f3 fun h4 g4 u4 => wpAny_throw (tk _ _ ?_)
          exact ⟨a, B, sI, pi, σ2, H2, cls, dd, rfl, J, nb, (up.trans u3).trans u4, .inr (.inr (by rw [hs]; exact g4)), na, os, ag, w⟩
        first
          | exact wpAny_bind (wpAny_pure (wpAny_bind fin))
          | exact wpAny_bind fin
      | @only x c ts b0 su np po hk2 l2 hc hsu r ih =>
        intro w
        obtain ⟨b, hb1, hyes, hno⟩ := w
        refine wpAny_handleBy_cons (codeAny_handlers_test ?_) (by intro q; cases q)
        have LT : PySem.W.Looks (model X.prog X.w) h3 (typeOf (.ref a)) cls := fun A2 Q2 E2 s2 k2 q2 => wpAny_typeOf_ref (k2 _ _ he3) (by rw [hz3.1]; exact q2)
        have LM := PySem.W.exm_one (M := model X.prog X.w) (J3.kIn) LT hb1
        have test : ∀ {Q E : Value → Shared → Prop}, Q c { s' with heap := h3 } → wpAny (model X.prog X.w) (X.A.mark (some (.ref a))) (eval (.Name x np) X.env) Q E { s' with heap := h3 } := fun {Q E} q => by
          obtain ⟨hg, hdbg, hm | ⟨hm, hv, hnn⟩⟩ := hc
          · exact ld_glob (X := X.suite a ((a, oe3) :: (X.pn ++ pi))) S3 hg hm q hdbg
          · exact ld_blt (X := X.suite a ((a, oe3) :: (X.pn ++ pi))) S3 hg hm hv q hnn hdbg
        refine test (LM.here ?_)
        cases b with
        | true =>
          refine codeAny_handlers_suite ?_
          refine HandSPX.lands_againZ f3 fun h4 f4 u4 => ?_
          have J4 : Inv X pi σ2 H2 { s' with heap := h4 } := J.landed nb f4.1 ((up.trans u3).trans u4) os ag
          obtain ⟨oe4, vs4, he4, hz4, hd4⟩ := f4.there
          have S4 := J4.suite he4 hd4 na nL nF
          refine wpAny_mono ((hsu a oe4 cls dd (X.pn ++ pi) hz4 ⟨_, hd4⟩).run [] _ _ H2 _ S4 (hyes rfl a na)) (fun fl s6 q6 => ?_) (fun _ _ z => False.elim z)
          cases fl with
          | next => exact let ⟨_, _, S6, q⟩ := q6; ⟨_, _, S6.unsuite okX, q⟩
          | brk => exact let ⟨_, _, S6, q⟩ := q6; ⟨_, _, S6.unsuite okX, q⟩
          | cont => exact let ⟨_, _, S6, q⟩ := q6; ⟨_, _, S6.unsuite okX, q⟩
          | ret u => exact let ⟨_, _, _, S6, r6, q⟩ := q6; ⟨_, _, _, S6.unsuite okX, r6, q⟩
        | false =>
          show wpAny _ X.A (handleBy (.ref a) X.env hk2) _ _ _
          exact ih (hno rfl)
      | @as x n i c ts b0 su np po hk2 l2 hc hN hi hln hsu r ih =>
        intro w
        obtain ⟨b, hb1, hyes, hno⟩ := w
        have vis : Loc X.env.scope n := .inl hln
        refine wpAny_handleBy_cons (codeAny_handlers_test ?_) (by intro q; cases q)
        have LT : PySem.W.Looks (model X.prog X.w) h3 (typeOf (.ref a)) cls := fun A2 Q2 E2 s2 k2 q2 => wpAny_typeOf_ref (k2 _ _ he3) (by rw [hz3.1]; exact q2)
        have LM := PySem.W.exm_one (M := model X.prog X.w) (J3.kIn) LT hb1
        have test : ∀ {Q E : Value → Shared → Prop}, Q c { s' with heap := h3 } → wpAny (model X.prog X.w) (X.A.mark (some (.ref a))) (eval (.Name x np) X.env) Q E { s' with heap := h3 } := fun {Q E} q => by
          obtain ⟨hg, hdbg, hm | ⟨hm, hv, hnn⟩⟩ := hc
          · exact ld_glob (X := X.suite a ((a, oe3) :: (X.pn ++ pi))) S3 hg hm q hdbg
          · exact ld_blt (X := X.suite a ((a, oe3) :: (X.pn ++ pi))) S3 hg hm hv q hnn hdbg
        refine test (LM.here ?_)
        cases b with
        | true =>
          refine codeAny_handlers_suite_as ?_
          refine HandSPX.lands_againZ f3 fun h4 f4 u4 => ?_
          have J4 : Inv X pi σ2 H2 { s' with heap := h4 } := J.landed nb f4.1 ((up.trans u3).trans u4) os ag
          obtain ⟨oe4, vs4, he4, hz4, hd4⟩ := f4.there
          have S4 := J4.suite he4 hd4 na nL nF
          refine store_ok (X := X.suite a ((a, oe4) :: (X.pn ++ pi))) (v := .ref a) S4 hN hi vis rfl (fun s5 S5 => ?_) (.inr hln)
          refine wpAny_mono ((hsu a oe4 cls dd (X.pn ++ pi) hz4 ⟨_, hd4⟩).run [] s5 _ H2 _ S5 (hyes rfl a na)) (fun fl s6 q6 => ?_) (fun _ _ z => False.elim z)
          have shut : ∀ {σ6 : L2.St} {H6 : Hp} {Q : Shared → Prop}, Inv (X.suite a ((a, oe4) :: (X.pn ++ pi))) [] σ6 H6 s6 → (∀ s7, Inv X pi (σ6.set i none) H6 s7 → Q s7) →
              wpAny (model X.prog X.w) X.A (do bindName X.env n .none; unbindBehindTheSuite X.env n po) (fun _ s7 => Q s7) X.xe s6 := fun {σ6 H6 Q} S6 hq => gone_ok (S6.unsuite okX) hN hi hln hq
          cases fl with
          | next => exact let ⟨_, _, S6, q⟩ := q6; shut S6 fun _ J7 => ⟨_, _, J7, q⟩
          | brk => exact let ⟨_, _, S6, q⟩ := q6; shut S6 fun _ J7 => ⟨_, _, J7, q⟩
          | cont => exact let ⟨_, _, S6, q⟩ := q6; shut S6 fun _ J7 => ⟨_, _, J7, q⟩
          | ret u => exact let ⟨_, _, _, S6, r6, q⟩ := q6; shut S6 fun _ J7 => ⟨_, _, _, J7, r6, q⟩
        | false =>
          show wpAny _ X.A (handleBy (.ref a) X.env hk2) _ _ _
          exact ih (hno rfl)
    exact go hh w
  · cases fl with
    | next => exact let ⟨_, _, J2, q⟩ := hsp; wpAny_execs_nil ⟨_, _, J2.ofTry okX, q⟩
    | brk => exact let ⟨_, _, J2, q⟩ := hsp; ⟨_, _, J2.ofTry okX, q⟩
    | cont => exact let ⟨_, _, J2, q⟩ := hsp; ⟨_, _, J2.ofTry okX, q⟩
    | ret u => exact let ⟨_, _, _, J2, r, q⟩ := hsp; ⟨_, _, _, J2.ofTry okX, r, q⟩
end
end Bk

set_option Elab.async false
set_option linter.all false
set_option maxRecDepth 100000
set_option maxHeartbeats 2000000
namespace Bk
open PySem PySem.Spec PyProof.Rows L2
/-! ### try: the rule, and the readings of an error's attribute -/
section
variable {X : Cx} {C : CT} {W : WX} {H Z H1 Z1 : Hp} {ι ι1 : Nat → Addr} {M M1 : List MO} {Dd : Ends}
theorem ExcR.ext {n n' c : Nat} {d : D} {cls : Value} {dd : Option Addr} (x : ExcR X.K C H Z ι n c d cls dd) (e : Ext H Z ι n H1 Z1 ι1 n') : ExcR X.K C H1 Z1 ι1 n' c d cls dd := by
  obtain ⟨x1, a, v, x2, x3, x4⟩ := x
  exact ⟨x1, a, v, x2, e.zz _ _ x3, x4.ext e⟩
theorem PSs.weak {st : List Stmt} {t t' : TS} (h : PSs X st t) (hw : ∀ D σ H, t' D σ H → t D σ H) : PSs X st t' := ⟨fun pi s σ H D I q => h.run pi s σ H D I (hw D σ H q)⟩
theorem PostS.noExc {r : RS} (h : PostS X C W H Z ι M r.noExc Dd) : PostS X C noW H Z ι M r Dd := by
  cases r with
  | exc c d Γ M' => exact False.elim h
  | nx Γ M' => exact h
  | bk Γ M' => exact h
  | ct Γ M' => exact h
  | rt d M' => exact h
  | bad => exact h
theorem PostS.unset {r : RS} {i : Nat} (h : PostS X C W H Z ι M (r.unset i) Dd) : PostS X C W H Z ι M r (endsU i Dd) := by
  cases r with
  | nx Γ M' => exact fun σ' H' Z' ι' e hr sl => h _ H' Z' ι' e hr (sl.unset none)
  | bk Γ M' => exact fun σ' H' Z' ι' e hr sl => h _ H' Z' ι' e hr (sl.unset none)
  | ct Γ M' => exact fun σ' H' Z' ι' e hr sl => h _ H' Z' ι' e hr (sl.unset none)
  | rt d M' => exact h
  | exc c d Γ M' => exact h
  | bad => exact h
end
/-- the clauses, as they are computed -/
inductive HdQ (X : Cx) (C : CT) (m : Nat) : List ExceptHandler → List Hd → Prop
  | nil : HdQ X C m [] []
  | only {x : Str} {c : Value} {b0 : Stmt} {su : List Stmt} {np po : Pos} {hds : List ExceptHandler} {hs : List Hd} {is : Nat → Bool} {g : GS} (hc : Names X x c) (ht : ∀ k, k < m → PySem.W.exmOne X.K (.ref (C.at_ k)) c = some (is k))
      (hq : QOnly X C (b0 :: su) g) (r : HdQ X C m hds hs) : HdQ X C m (.ExceptHandler (some (.Name x np)) none (b0 :: su) po :: hds) (⟨is, none, fun _ => g⟩ :: hs)
  | as {x n : Str} {i k : Nat} {c : Value} {b0 : Stmt} {su : List Stmt} {np po : Pos} {hds : List ExceptHandler} {hs : List Hd} {g : D → GS} (hc : Names X x c) (hN : X.N.Nodup) (hi : X.N[i]? = some n) (hln : X.env.kindOf n = some .local)
      (ht : ∀ j, j < m → PySem.W.exmOne X.K (.ref (C.at_ j)) c = some (decide (j = k))) (hq : QAs X C k i (b0 :: su) g) (r : HdQ X C m hds hs) :
      HdQ X C m (.ExceptHandler (some (.Name x np)) (some n) (b0 :: su) po :: hds) (⟨fun j => decide (j = k), some i, g⟩ :: hs)
theorem HdQ.toK {X : Cx} {C : CT} {m : Nat} {hds : List ExceptHandler} {hs : List Hd} (h : HdQ X C m hds hs) : ∃ l, HdK X hds l ∧ ∀ (Wo : WX) (Dd : Ends) (H Z : Hp) (ι : Nat → Addr) (Γ : Env) (M : List MO) (σ : L2.St) (cls : Value) (dd : Option Addr) (c : Nat) (d : D),
    c < m → ExcR X.K C H Z ι M.length c d cls dd → Slots X.K Z ι M.length Γ σ → HR X.K H Z ι M → PostS X C Wo H Z ι M (pickH hs c d Γ M) Dd → wHd X.K Wo Dd l cls dd σ H := by
  induction h with
  | nil => exact ⟨[], .nil, fun Wo Dd H Z ι Γ M σ cls dd c d hcm x sl hr h => h cls dd σ H Z ι .refl hr sl x⟩
  | @only x c0 b0 su np po hds hs is g hc ht hq r ih =>
    obtain ⟨l, hk, hw⟩ := ih
    refine ⟨(c0, none, tOnly X C fun _ => g) :: l, .only hc (fun a oe cls dd pn _ _ => ?_) hk, fun Wo Dd H Z ι Γ M σ cls dd c d hcm x sl hr h => ?_⟩
    · obtain ⟨ts, ps, qs⟩ := hq a oe pn
      refine PSs.weak ps fun D σ H q => ?_
      obtain ⟨Z, ι, Γ, M, c, d, x, sl, hr, h⟩ := q
      exact qs D σ H Z ι Γ M sl hr h
    · refine ⟨is c, by rw [x.1]; exact ht c hcm, fun hb a ha => ?_, fun hb => ?_⟩
      · have h2 : PostS X C Wo H Z ι M (if is c = true then (g Γ M).noExc else pickH hs c d Γ M) Dd := h
        rw [if_pos hb] at h2
        exact ⟨Z, ι, Γ, M, c, d, x, sl, hr, h2.noExc⟩
      · have h2 : PostS X C Wo H Z ι M (if is c = true then (g Γ M).noExc else pickH hs c d Γ M) Dd := h
        rw [if_neg (by rw [hb]; decide)] at h2
        exact hw Wo Dd H Z ι Γ M σ cls dd c d hcm x sl hr h2
  | @as x n i k c0 b0 su np po hds hs g hc hN hi hln ht hq r ih =>
    obtain ⟨l, hk, hw⟩ := ih
    refine ⟨(c0, some i, tAs X C k i g) :: l, .as hc hN hi hln (fun a oe cls dd pn hz hf => ?_) hk, fun Wo Dd H Z ι Γ M σ cls dd c d hcm x sl hr h => ?_⟩
    · obtain ⟨ts, ps, qs⟩ := hq a oe cls dd pn hz hf
      refine PSs.weak ps fun D σ H q => ?_
      obtain ⟨Z, ι, Γ, M, d, e1, e2, x, sl, hr, h⟩ := q
      exact qs D σ H Z ι Γ M d e1 e2 x sl hr h
    · refine ⟨decide (c = k), by rw [x.1]; exact ht c hcm, fun hb a ha => ?_, fun hb => ?_⟩
      · have h2 : PostS X C Wo H Z ι M (if decide (c = k) = true then (if i < Γ.length then ((g d (Γ.set i none) M).noExc).unset i else .bad) else pickH hs c d Γ M) Dd := h
        rw [if_pos hb] at h2
        have ck : c = k := of_decide_eq_true hb
        subst ck
        by_cases li : i < Γ.length
        · rw [if_pos li] at h2
          exact ⟨Z, ι, Γ.set i none, M, d, List.getElem?_set_self (by rw [← sl.1]; exact li), List.getElem?_set_self li, x, sl.unset _, hr, h2.unset.noExc⟩
        · rw [if_neg li] at h2
          exact h2.elim
      · have h2 : PostS X C Wo H Z ι M (if decide (c = k) = true then (if i < Γ.length then ((g d (Γ.set i none) M).noExc).unset i else .bad) else pickH hs c d Γ M) Dd := h
        rw [if_neg (by rw [hb]; decide)] at h2
        exact hw Wo Dd H Z ι Γ M σ cls dd c d hcm x sl hr h2
section
variable {X : Cx} {C : CT} {W : WX}
/-! expressions in a suite that read the error's attribute -/
variable {k i : Nat} {e e1 e2 : Expr} {es : List Expr} {g ga gb : D → GE} {gs : D → GA} {gt : D → GT} {pos np : Pos}
/-! suites -/
end
@[simp] theorem u_gTry (m : Nat) (b : GS) (hs : List Hd) (Γ : Env) (M : List MO) : gTry m b hs Γ M = (b Γ M).caught m hs := rfl
@[simp] theorem u_cExc (m : Nat) (hs : List Hd) (c : Nat) (d : D) (Γ : Env) (M : List MO) : (RS.exc c d Γ M).caught m hs = if c < m then pickH hs c d Γ M else .bad := rfl
@[simp] theorem u_cNx (m : Nat) (hs : List Hd) (Γ : Env) (M : List MO) : (RS.nx Γ M).caught m hs = .nx Γ M := rfl
@[simp] theorem u_cRt (m : Nat) (hs : List Hd) (d : D) (M : List MO) : (RS.rt d M).caught m hs = .rt d M := rfl
@[simp] theorem u_pickNil (c : Nat) (d : D) (Γ : Env) (M : List MO) : pickH [] c d Γ M = .exc c d Γ M := rfl
@[simp] theorem u_pickO (is : Nat → Bool) (g : D → GS) (r : List Hd) (c : Nat) (d : D) (Γ : Env) (M : List MO) : pickH (⟨is, none, g⟩ :: r) c d Γ M = if is c = true then (g d Γ M).noExc else pickH r c d Γ M := rfl
@[simp] theorem u_pickA (is : Nat → Bool) (i : Nat) (g : D → GS) (r : List Hd) (c : Nat) (d : D) (Γ : Env) (M : List MO) : pickH (⟨is, some i, g⟩ :: r) c d Γ M = if is c = true then (if i < Γ.length then ((g d (Γ.set i none) M).noExc).unset i else .bad) else pickH r c d Γ M := rfl
@[simp] theorem u_noNx (Γ : Env) (M : List MO) : (RS.nx Γ M).noExc = .nx Γ M := rfl
@[simp] theorem u_noRt (d : D) (M : List MO) : (RS.rt d M).noExc = .rt d M := rfl
@[simp] theorem u_unNx (i : Nat) (Γ : Env) (M : List MO) : (RS.nx Γ M).unset i = .nx (Γ.set i none) M := rfl
@[simp] theorem u_unRt (i : Nat) (d : D) (M : List MO) : (RS.rt d M).unset i = .rt d M := rfl
end Bk

set_option Elab.async false
set_option linter.all false
set_option maxRecDepth 100000
set_option maxHeartbeats 2000000
namespace Bk
open PySem PySem.Spec PyProof.Rows L2
/-! ### xs + ys as a list of ours; len(set(xs)) of ints -/
def gAddO (ga gb : GE) : GE := fun Γ M => (ga Γ M).bind fun x M1 => (gb Γ M1).bind fun y M2 => match listD M2 x, listD M2 y with
  | some a, some b => if a.length + b.length ≤ sizeLine then .ok (.ref M2.length) (M2 ++ [.lst (a ++ b)]) else .bad
  | _, _ => .bad
@[simp] theorem u_gAddO (ga gb : GE) (Γ : Env) (M : List MO) : gAddO ga gb Γ M = ((ga Γ M).bind fun x M1 => (gb Γ M1).bind fun y M2 => match listD M2 x, listD M2 y with
  | some a, some b => if a.length + b.length ≤ sizeLine then .ok (.ref M2.length) (M2 ++ [.lst (a ++ b)]) else .bad
  | _, _ => .bad) := Eq.trans rfl rfl
section
variable {X : Cx} {C : CT} {W : WX} {a b : Expr} {ga gb : GE} {pos : Pos}
end
def dupI (ns : List Int) : List Int := PyProof.Rows.firstMet (fun i => ns.getD i 0) ns.length
def dLenSetI (M : List MO) (d : D) : Option D := ((listD M d).bind intsD).bind fun ns => if ns.length < 1000 then some (.int ((dupI ns).length : Nat)) else none
def gLenSetI (ge : GE) : GE := fun Γ M => (ge Γ M).bind fun d M1 => opR (dLenSetI M1 d) M1
@[simp] theorem u_gLenSetI (ge : GE) (Γ : Env) (M : List MO) : gLenSetI ge Γ M = ((ge Γ M).bind fun d M1 => opR (dLenSetI M1 d) M1) := Eq.trans rfl rfl
section
variable {X : Cx} {C : CT} {W : WX} {a : Expr} {ge : GE} {p p2 pos q : Pos}
end
end Bk

set_option Elab.async false
set_option linter.all false
set_option maxRecDepth 100000
set_option maxHeartbeats 2000000
namespace Bk
open PySem PySem.Spec PyProof.Rows L2
/-! ### a loop over enumerate(xs), xs a list of ours (read anew at each turn) or a frozen one -/
def gForEN (gg : GG) (body : GS) (k : Nat) : Nat → Nat → GS
  | 0, _ => gBad
  | n + 1, i => fun Γ M => match M[k]? with
    | some (.lst ds) => match ds[i]? with
      | some d => optS (gg (.tup [.int (0 + (i : Nat)), d]) Γ) fun Γ1 => (body Γ1 M).turn (gForEN gg body k n (i + 1))
      | none => if ds.length = i then .nx Γ M else .bad
    | _ => .bad
def gForE (ge : GE) (gg : GG) (body : GS) (n : Nat) : GS := fun Γ M => (ge Γ M).thenS Γ fun d M1 => match d with
  | .ref k => gForEN gg body k n 0 Γ M1
  | d => match seqD d with
    | some ds => gForL gg body (enumL 0 ds) Γ M1
    | none => .bad
@[simp] theorem u_gForE (ge : GE) (gg : GG) (body : GS) (n : Nat) (Γ : Env) (M : List MO) : gForE ge gg body n Γ M = ((ge Γ M).thenS Γ fun d M1 => match d with
  | .ref k => gForEN gg body k n 0 Γ M1
  | d => match seqD d with
    | some ds => gForL gg body (enumL 0 ds) Γ M1
    | none => .bad) := Eq.trans rfl rfl
section
variable {X : Cx} {C : CT} {W : WX} {e : Expr} {ge : GE} {gg : GG} {g : GS} {p pos tpos pos2 : Pos} {elts : List Expr} {kk : Nat}
end
end Bk

set_option Elab.async false
set_option linter.all false
set_option maxRecDepth 100000
set_option maxHeartbeats 2000000
namespace Bk
open PySem PySem.Spec PyProof.Rows L2
/-! ### a comprehension over a list of ours (read anew at each turn) or a frozen one -/
def gLcB (ge : GE) (gg : GG) (gt : GT) (gel : GE) (own : List Nat) : GE := fun Γ M => (ge Γ M).bind fun d M1 => match d with
  | .ref k => match M1[k]? with
    | some (.lst ds) => (gLcL gg gt gel (forget Γ own) ds [] M1).bind fun acc M2 => .ok (.lst acc) M2
    | _ => .bad
  | d => match seqD d with
    | some ds => (gLcL gg gt gel (forget Γ own) ds [] M1).bind fun acc M2 => .ok (.lst acc) M2
    | none => .bad
@[simp] theorem u_gLcB (ge : GE) (gg : GG) (gt : GT) (gel : GE) (own : List Nat) (Γ : Env) (M : List MO) : gLcB ge gg gt gel own Γ M = (ge Γ M).bind fun d M1 => match d with
  | .ref k => match M1[k]? with
    | some (.lst ds) => (gLcL gg gt gel (forget Γ own) ds [] M1).bind fun acc M2 => .ok (.lst acc) M2
    | _ => .bad
  | d => match seqD d with
    | some ds => (gLcL gg gt gel (forget Γ own) ds [] M1).bind fun acc M2 => .ok (.lst acc) M2
    | none => .bad := Eq.trans rfl rfl
section
variable {X : Cx} {C : CT} {W : WX} {elt tg iter : Expr} {ifs : List Expr} {scope : Scope} {own : List (Str × Nat)} {pos : Pos} {gi : GE} {gg : GG} {gt : GT} {ge : GE} {is ixs : List Nat}
end
end Bk

set_option Elab.async false
set_option linter.all false
set_option maxRecDepth 100000
set_option maxHeartbeats 2000000
namespace Bk
open PySem PySem.Spec PyProof.Rows L2
/-! ### max of a list of tuples of whole numbers -/
def maxR (r : List Int) (rs : List (List Int)) : List Int := rs.foldl (fun a y => if a < y then y else a) r
def dMaxT (M : List MO) (d : D) : Option D := ((listD M d).bind rowsL).bind fun rs => match rs with
  | [] => none
  | r :: rs => some (tupI (maxR r rs))
section
variable {X : Cx}
def dMaxB (M : List MO) (d : D) : Option D := match dMax M d with
  | some r => some r
  | none => dMaxT M d
end
@[simp] theorem e_maxB_i (M : List MO) {is : List Int} (h : is ≠ []) : dMaxB M (.lst (is.map D.int)) = some (.int (maxI is)) := by
  have : dMax M (.lst (is.map D.int)) = some (.int (maxI is)) := by
    simp only [dMax, ofInts, listD, Option.bind_some, intsD_map, if_neg h]
  simp only [dMaxB, this]
end Bk

set_option Elab.async false
set_option linter.all false
set_option maxRecDepth 100000
set_option maxHeartbeats 2000000
namespace Bk
open PySem PySem.Spec PyProof.Rows L2
/-! ### walks over lists of ours that stay as they are while they are walked, and over frozen ones -/
abbrev Wt := List (Nat × List D)
def wOk (w : Wt) (M : List MO) : Prop := ∀ p ∈ w, M[p.1]? = some (.lst p.2)
theorem wOk_nil (M : List MO) : wOk [] M := fun _ h => absurd h (by simp)
abbrev GJ := Env → List MO → R (List D × Wt)
def srcW (M : List MO) : D → Option (List D × Wt)
  | .lst ds => some (ds, [])
  | .tup ds => some (ds, [])
  | .ptu ds => some (ds, [])
  | .ref k => match M[k]? with
    | some (.lst ds) => some (ds, [(k, ds)])
    | _ => none
  | _ => none
@[simp] theorem srcW_lst (M : List MO) (ds : List D) : srcW M (.lst ds) = some (ds, []) := Eq.trans rfl rfl
@[simp] theorem srcW_tup (M : List MO) (ds : List D) : srcW M (.tup ds) = some (ds, []) := Eq.trans rfl rfl
@[simp] theorem srcW_ptu (M : List MO) (ds : List D) : srcW M (.ptu ds) = some (ds, []) := Eq.trans rfl rfl
def SrcOk (K : PySem.W.Frag) (S : Src) (ds : List D) (w : Wt) (Z : Hp) (ι : Nat → Addr) (n : Nat) : Prop :=
  ∀ (H' Z' : Hp) (ι' : Nat → Addr) (M' : List MO), Sub Z Z' → (∀ k, k < n → ι' k = ι k) → n ≤ M'.length → HR K H' Z' ι' M' → wOk w M' → ∃ xs, S.here K H' xs ∧ Rps K Z' ι' M'.length ds xs
theorem SrcOk.mono {K : PySem.W.Frag} {S : Src} {ds : List D} {w : Wt} {Z Z1 : Hp} {ι ι1 : Nat → Addr} {n n1 : Nat} (h : SrcOk K S ds w Z ι n) (hz : Sub Z Z1) (hi : ∀ k, k < n → ι1 k = ι k) (hn : n ≤ n1) : SrcOk K S ds w Z1 ι1 n1 :=
  fun H' Z' ι' M' a b c d e => h H' Z' ι' M' (fun x o q => a _ _ (hz _ _ q)) (fun k hk => (b k (Nat.lt_of_lt_of_le hk hn)).trans (hi k hk)) (Nat.le_trans hn c) d e
section
variable {K : PySem.W.Frag} {Z : Hp} {ι : Nat → Addr} {n : Nat} {S S1 S2 : Src} {ds es : List D} {w w' : Wt}
end
def gSeqJ (ge : GE) : GJ := fun Γ M => (ge Γ M).bind fun d M1 => opR (srcW M1 d) M1
def gEnumJ (ge : GE) : GJ := fun Γ M => (ge Γ M).bind fun d M1 => opR ((srcW M1 d).map fun p => (enumL 0 p.1, p.2)) M1
def gEnumKJ (ge gk : GE) : GJ := fun Γ M => (ge Γ M).bind fun d M1 => (gk Γ M1).bind fun k M2 => match k with
  | .int k => if decide (-(2 ^ 63) ≤ k) && decide (k < 2 ^ 63) then opR ((srcW M2 d).map fun p => (enumL k p.1, p.2)) M2 else .bad
  | _ => .bad
def zipW (M : List MO) (x y : D) : Option (List D × Wt) := match srcW M x, srcW M y with
  | some p, some q => some (zipL p.1 q.1, p.2 ++ q.2)
  | _, _ => none
def gZipJ (ga gb : GE) : GJ := fun Γ M => (ga Γ M).bind fun x M1 => (gb Γ M1).bind fun y M2 => opR (zipW M2 x y) M2
@[simp] theorem u_gSeqJ (ge : GE) (Γ : Env) (M : List MO) : gSeqJ ge Γ M = (ge Γ M).bind fun d M1 => opR (srcW M1 d) M1 := Eq.trans rfl rfl
@[simp] theorem u_gEnumJ (ge : GE) (Γ : Env) (M : List MO) : gEnumJ ge Γ M = (ge Γ M).bind fun d M1 => opR ((srcW M1 d).map fun p => (enumL 0 p.1, p.2)) M1 := Eq.trans rfl rfl
@[simp] theorem u_gEnumKJ (ge gk : GE) (Γ : Env) (M : List MO) : gEnumKJ ge gk Γ M = (ge Γ M).bind fun d M1 => (gk Γ M1).bind fun k M2 => match k with
  | .int k => if decide (-(2 ^ 63) ≤ k) && decide (k < 2 ^ 63) then opR ((srcW M2 d).map fun p => (enumL k p.1, p.2)) M2 else .bad
  | _ => .bad := Eq.trans rfl rfl
@[simp] theorem u_gZipJ (ga gb : GE) (Γ : Env) (M : List MO) : gZipJ ga gb Γ M = (ga Γ M).bind fun x M1 => (gb Γ M1).bind fun y M2 => opR (zipW M2 x y) M2 := Eq.trans rfl rfl
section
variable {X : Cx} {C : CT} {W : WX} {e e2 : Expr} {ge ga gb gk : GE} {p pos tpos : Pos} {elts : List Expr} {kk : Nat}
end
/-! the loop -/
open Classical in
noncomputable def chkW (w : Wt) (M : List MO) (r : RS) : RS := if wOk w M then r else .bad
theorem chkW_t {w : Wt} {M : List MO} {r : RS} (h : wOk w M) : chkW w M r = r := by unfold chkW; rw [if_pos h]
noncomputable def gForW (gg : GG) (body : GS) (w : Wt) : List D → GS
  | [] => fun Γ M => chkW w M (.nx Γ M)
  | d :: ds => fun Γ M => chkW w M (optS (gg d Γ) fun Γ1 => (body Γ1 M).turn (gForW gg body w ds))
noncomputable def gForJ (gj : GJ) (gg : GG) (body : GS) : GS := fun Γ M => (gj Γ M).thenS Γ fun iw M1 => gForW gg body iw.2 iw.1 Γ M1
@[simp] theorem u_gForJ (gj : GJ) (gg : GG) (body : GS) (Γ : Env) (M : List MO) : gForJ gj gg body Γ M = (gj Γ M).thenS Γ fun iw M1 => gForW gg body iw.2 iw.1 Γ M1 := Eq.trans rfl rfl
@[simp] theorem forW_nil (gg : GG) (body : GS) (ds : List D) (Γ : Env) (M : List MO) : gForW gg body [] ds Γ M = gForL gg body ds Γ M := by
  suffices h : gForW gg body [] ds = gForL gg body ds by rw [h]
  induction ds with
  | nil => funext Γ M; exact chkW_t (wOk_nil M)
  | cons d ds ih =>
    funext Γ M
    show chkW [] M (optS (gg d Γ) fun Γ1 => (body Γ1 M).turn (gForW gg body [] ds)) = _
    rw [chkW_t (wOk_nil M), ih]
    rfl
section
variable {X : Cx} {C : CT} {W : WX} {tg : Expr} {gg : GG} {g : GS} {pos : Pos}
end
/-! the comprehension: what is within changes nothing -/
def gLcJ (gj : GJ) (gg : GG) (gt : GT) (gel : GE) (own : List Nat) : GE := fun Γ M => (gj Γ M).bind fun iw M1 => (gLcL gg gt gel (forget Γ own) iw.1 [] M1).bind fun acc M2 => .ok (.lst acc) M2
@[simp] theorem u_gLcJ (gj : GJ) (gg : GG) (gt : GT) (gel : GE) (own : List Nat) (Γ : Env) (M : List MO) : gLcJ gj gg gt gel own Γ M = (gj Γ M).bind fun iw M1 => (gLcL gg gt gel (forget Γ own) iw.1 [] M1).bind fun acc M2 => .ok (.lst acc) M2 := Eq.trans rfl rfl
section
variable {X : Cx} {C : CT} {W : WX} {elt tg iter : Expr} {ifs : List Expr} {scope : Scope} {own : List (Str × Nat)} {pos : Pos} {gj : GJ} {gg : GG} {gt : GT} {ge : GE} {is ixs : List Nat}
end
end Bk

set_option Elab.async false
set_option linter.all false
set_option maxRecDepth 100000
set_option maxHeartbeats 2000000
namespace Bk
open PySem PySem.Spec PyProof.Rows L2
/-! ### xs == [] and xs != [], whatever xs holds -/
section
variable {X : Cx}
end
/-! ### == of data that holds lists of ours at any depth -/
section
variable {K : PySem.W.Frag} {H Z : Hp} {ι : Nat → Addr} {M : List MO}
end
section
variable {X : Cx}
end
/-! ### a comprehension over a list of ours that stays as it is, looked at at each turn -/
open Classical in
noncomputable def chkR {α : Type} (w : Wt) (M : List MO) (r : R α) : R α := if wOk w M then r else .bad
theorem chkR_t {α : Type} {w : Wt} {M : List MO} {r : R α} (h : wOk w M) : chkR w M r = r := by unfold chkR; rw [if_pos h]
noncomputable def gLcLW (gg : GG) (gt : GT) (ge : GE) (Γ : Env) (w : Wt) : List D → List D → List MO → R (List D)
  | [], acc => fun M => chkR w M (.ok acc M)
  | d :: ds, acc => fun M => chkR w M (match gg d Γ with
    | none => .bad
    | some Γ1 => (gt Γ1 M).only fun k M1 => if k = true then (ge Γ1 M1).only fun y M2 => if acc.length < sizeLine then gLcLW gg gt ge Γ w ds (acc ++ [y]) M2 else .bad
        else gLcLW gg gt ge Γ w ds acc M1)
@[simp] theorem lcLW_nil (gg : GG) (gt : GT) (ge : GE) (Γ : Env) (ds acc : List D) (M : List MO) : gLcLW gg gt ge Γ [] ds acc M = gLcL gg gt ge Γ ds acc M := by
  suffices h : ∀ (ds acc : List D) (M : List MO), gLcLW gg gt ge Γ [] ds acc M = gLcL gg gt ge Γ ds acc M from h ds acc M
  intro ds
  induction ds with
  | nil => intro acc M; exact chkR_t (wOk_nil M)
  | cons d ds ih =>
    intro acc M
    refine (chkR_t (wOk_nil M)).trans ?_
    unfold gLcL
    cases gg d Γ with
    | none => rfl
    | some Γ1 => simp only [ih]
noncomputable def gLcK (gj : GJ) (gg : GG) (gt : GT) (gel : GE) (own : List Nat) : GE := fun Γ M => (gj Γ M).bind fun iw M1 => (gLcLW gg gt gel (forget Γ own) iw.2 iw.1 [] M1).bind fun acc M2 => .ok (.lst acc) M2
@[simp] theorem u_gLcK (gj : GJ) (gg : GG) (gt : GT) (gel : GE) (own : List Nat) (Γ : Env) (M : List MO) : gLcK gj gg gt gel own Γ M = (gj Γ M).bind fun iw M1 => (gLcLW gg gt gel (forget Γ own) iw.2 iw.1 [] M1).bind fun acc M2 => .ok (.lst acc) M2 := Eq.trans rfl rfl
section
variable {X : Cx} {C : CT} {W : WX}
end
section
variable {X : Cx} {C : CT} {W : WX} {elt tg iter : Expr} {ifs : List Expr} {scope : Scope} {own : List (Str × Nat)} {pos : Pos} {gj : GJ} {gg : GG} {gt : GT} {ge : GE} {is ixs : List Nat}
end
end Bk

set_option Elab.async false
set_option linter.all false
set_option maxRecDepth 100000
set_option maxHeartbeats 4000000
namespace Bk
open PySem PySem.Spec PyProof.Rows L2
/-! ### C(k = v, ..), the fields may be ours -/
def gNewWK (nm : Str) (n : Nat) (F : List D → List MO → R D) (is : List Nat) (gk : GA) : GE := fun Γ M => (gk Γ M).bind fun ds M1 => if (pick (.ref M1.length :: ds) is).length = n then (callW F (pick (.ref M1.length :: ds) is) (M1 ++ [.obj nm []])).bind (newR M1.length) else .bad
section
variable {X : Cx} {C : CT} {W : WX} {nm x : Str} {pos p : Pos} {C0 : Addr} {k n : Nat} {fa : Addr} {fd : FuncData} {ps : List Str} {F : List D → List MO → R D} {kws : List Keyword} {gk : GA} {ks : List Str} {is : List Nat}
end
/-! ### list(range(a, b, -1)) -/
def gRg3L (gs : GA) : GE := fun Γ M => (gs Γ M).bind fun ds M1 => match rng3 ds with
  | some xs => if xs.length ≤ 2 ^ 24 then .ok (.lst xs) M1 else .bad
  | none => .bad
section
variable {X : Cx} {C : CT} {W : WX} {a b c : Expr} {gs : GA} {ta : TA} {p pos p2 pos2 : Pos}
end
@[simp] theorem u_gRg3L (gs : GA) (Γ : Env) (M : List MO) : gRg3L gs Γ M = ((gs Γ M).bind fun ds M1 => match rng3 ds with
  | some xs => if xs.length ≤ 2 ^ 24 then .ok (.lst xs) M1 else .bad
  | none => .bad) := Eq.trans rfl rfl
@[simp] theorem u_gNewWK (nm : Str) (n : Nat) (F : List D → List MO → R D) (is : List Nat) (gk : GA) (Γ : Env) (M : List MO) : gNewWK nm n F is gk Γ M = ((gk Γ M).bind fun ds M1 => if (pick (.ref M1.length :: ds) is).length = n then (callW F (pick (.ref M1.length :: ds) is) (M1 ++ [.obj nm []])).bind (newR M1.length) else .bad) := Eq.trans rfl rfl
end Bk

set_option Elab.async false
set_option linter.all false
set_option maxRecDepth 100000
set_option maxHeartbeats 2000000
namespace Bk
open PySem PySem.Spec PyProof.Rows L2
/-! ### min of a tuple of whole numbers -/
section
variable {X : Cx}
end
end Bk

set_option Elab.async false
set_option linter.all false
set_option maxRecDepth 100000
set_option maxHeartbeats 2000000
namespace Bk
open PySem PySem.Spec PyProof.Rows L2
/-! ### isinstance(x, C) of an object of the class itself -/
def gIsC (nm : Str) (ge : GE) : GE := fun Γ M => (ge Γ M).bind fun x M1 => match x with
  | .ref k => match M1[k]? with
    | some (.obj nm' _) => if nm' = nm then .ok (.bl true) M1 else .bad
    | _ => .bad
  | _ => .bad
@[simp] theorem u_gIsC (nm : Str) (ge : GE) (Γ : Env) (M : List MO) : gIsC nm ge Γ M = ((ge Γ M).bind fun x M1 => match x with
  | .ref k => match M1[k]? with
    | some (.obj nm' _) => if nm' = nm then .ok (.bl true) M1 else .bad
    | _ => .bad
  | _ => .bad) := Eq.trans rfl rfl
section
variable {X : Cx} {C : CT} {W : WX} {e : Expr} {ga : GE} {p pos q : Pos} {C0 : Addr} {nm TN : Str}
end
end Bk

set_option Elab.async false
set_option linter.all false
set_option maxRecDepth 100000
set_option maxHeartbeats 4000000
namespace Bk
open PySem PySem.Spec PyProof.Rows L2
/-! ### d.setdefault(k, x), keys that are tuples -/
def setdX (M : List MO) (x y z : D) : Option (D × List MO) := match x with
  | .ref k => match M[k]? with
    | some (.dct ks vs) => match keysD ks, keyD y with
      | some nks, some nk => if (ks.all isTup && isTup y && decide (nk.depth ≤ 8) && decide (vs.length < sizeLine)) = true then (match posK nk nks with
        | some i => (vs[i]?).map fun w => (w, M)
        | none => some (z, M.set k (.dct (ks ++ [y]) (vs ++ [z])))) else none
      | _, _ => none
    | _ => none
  | _ => none
def isDctR (M : List MO) (x : D) : Bool := match x with
  | .ref k => match M[k]? with
    | some (.dct _ _) => true
    | _ => false
  | _ => false
def gSetd (go gk gx : GE) : GE := fun Γ M => (go Γ M).bind fun x M1 => if isDctR M1 x = true then (gk Γ M1).bind fun y M2 => (gx Γ M2).bind fun z M3 => match setdX M3 x y z with
  | some r => .ok r.1 r.2
  | none => .bad else .bad
@[simp] theorem u_gSetd (go gk gx : GE) (Γ : Env) (M : List MO) : gSetd go gk gx Γ M = ((go Γ M).bind fun x M1 => if isDctR M1 x = true then (gk Γ M1).bind fun y M2 => (gx Γ M2).bind fun z M3 => match setdX M3 x y z with
  | some r => .ok r.1 r.2
  | none => .bad else .bad) := Eq.trans rfl rfl
end Bk

set_option Elab.async false
set_option linter.all false
set_option maxRecDepth 100000
set_option maxHeartbeats 4000000
namespace Bk
open PySem PySem.Spec PyProof.Rows L2
/-! ### for i, x in enumerate(xs, start=k) -/
section
variable {X : Cx} {C : CT} {W : WX} {e : Expr} {ge : GE} {p pos tpos cp kp : Pos} {elts : List Expr} {kk j : Nat} {k : Int}
end
end Bk

set_option Elab.async false
set_option linter.all false
set_option maxRecDepth 100000
set_option maxHeartbeats 2000000
namespace Bk
open PySem PySem.Spec PyProof.Rows L2
/-! ### y = [.. for x in xs], xs a list of ours that stays as it is, or a frozen one -/
section
variable {X : Cx} {C : CT} {W : WX} {elt tg iter : Expr} {ifs : List Expr} {scope : Scope} {own : List (Str × Nat)} {pos spos py : Pos} {gj : GJ} {gg : GG} {gt : GT} {ge : GE} {is ixs : List Nat}
end
end Bk

set_option Elab.async false
set_option linter.all false
set_option maxRecDepth 100000
set_option maxHeartbeats 2000000
namespace Bk
open PySem PySem.Spec PyProof.Rows L2
/-! ### max of a tuple of whole numbers -/
section
variable {X : Cx}
end
end Bk

set_option Elab.async false
set_option linter.all false
set_option maxRecDepth 100000
set_option maxHeartbeats 4000000
namespace Bk
open PySem PySem.Spec PyProof.Rows L2
/-! ### tuples that are known to have no dict: displays, (x,) + t, t.count(k) of ints -/
section
variable {X : Cx} {C : CT} {W : WX} {pos : Pos}
def gTupP (gs : GA) : GE := fun Γ M => (gs Γ M).bind fun ds M1 => if ds.length ≤ sizeLine then .ok (.ptu ds) M1 else .bad
@[simp] theorem u_gTupP (gs : GA) (Γ : Env) (M : List MO) : gTupP gs Γ M = (gs Γ M).bind fun ds M1 => if ds.length ≤ sizeLine then .ok (.ptu ds) M1 else .bad := Eq.trans rfl rfl
/-! t + u, t not empty -/
def dAddP (M : List MO) (x y : D) : Option D := match x, y with
  | .ptu (a :: as), .ptu b => if (a :: as).length + b.length ≤ sizeLine then some (.ptu ((a :: as) ++ b)) else none
  | _, _ => none
@[simp] theorem e_addP (M : List MO) (a : D) (as b : List D) : dAddP M (.ptu (a :: as)) (.ptu b) = if (a :: as).length + b.length ≤ sizeLine then some (.ptu ((a :: as) ++ b)) else none := Eq.trans rfl rfl
/-! t.count(k) -/
def gCntP (go ge : GE) : GE := fun Γ M => (go Γ M).bind fun x M1 => match x with
  | .ptu ds => (ge Γ M1).bind fun y M2 => opR (match intsD ds, y with
    | some is, .int k => some (D.int (is.count k : Nat))
    | _, _ => none) M2
  | _ => .bad
@[simp] theorem u_gCntP (go ge : GE) (Γ : Env) (M : List MO) : gCntP go ge Γ M = ((go Γ M).bind fun x M1 => match x with
  | .ptu ds => (ge Γ M1).bind fun y M2 => opR (match intsD ds, y with
    | some is, .int k => some (D.int (is.count k : Nat))
    | _, _ => none) M2
  | _ => .bad) := Eq.trans rfl rfl
/-! such a tuple as any tuple -/
def wkD : D → D
  | .ptu ds => .tup ds
  | d => d
@[simp] theorem wkD_p (ds : List D) : wkD (.ptu ds) = .tup ds := Eq.trans rfl rfl
@[simp] theorem wkD_t (ds : List D) : wkD (.tup ds) = .tup ds := Eq.trans rfl rfl
@[simp] theorem wkD_l (ds : List D) : wkD (.lst ds) = .lst ds := Eq.trans rfl rfl
@[simp] theorem wkD_r (k : Nat) : wkD (.ref k) = .ref k := Eq.trans rfl rfl
@[simp] theorem wkD_i (k : Int) : wkD (.int k) = .int k := Eq.trans rfl rfl
def gWk (ge : GE) : GE := fun Γ M => (ge Γ M).bind fun x M1 => .ok (wkD x) M1
@[simp] theorem u_gWk (ge : GE) (Γ : Env) (M : List MO) : gWk ge Γ M = (ge Γ M).bind fun x M1 => .ok (wkD x) M1 := Eq.trans rfl rfl
end
end Bk

set_option Elab.async false
set_option linter.all false
set_option maxRecDepth 100000
set_option maxHeartbeats 4000000
namespace Bk
open PySem PySem.Spec PyProof.Rows L2
/-! a key in a dict -/
section
variable {X : Cx}
end
end Bk

set_option Elab.async false
set_option linter.all false
set_option maxRecDepth 100000
set_option maxHeartbeats 4000000
namespace Bk
open PySem PySem.Spec PyProof.Rows L2 PpSet
/-! ### sorted({e for x in xs if ..}), e an int -/
section
variable {X : Cx} {pins : List (Addr × Obj)} {σ : St} {H : Hp} {s : Shared}
end
def sciD : D → Option Int
  | .int i => some i
  | _ => none
def insU (rs : List Int) (r : Int) : List Int := if r ∈ rs then rs else rs ++ [r]
def gScI (gg : GG) (gt : GT) (ge : GE) (Γ0 : Env) : List D → List Int → List MO → R (List Int)
  | [], rs, M => .ok rs M
  | d :: ds, rs, M => match gg d Γ0 with
    | none => .bad
    | some Γ1 => (gt Γ1 M).only fun k M1 => if k = true then (ge Γ1 M1).only fun y M2 => match sciD y with
        | some r => if rs.length + 1 < 64 then gScI gg gt ge Γ0 ds (insU rs r) M2 else .bad
        | none => .bad
      else gScI gg gt ge Γ0 ds rs M1
def gSortSc (gi : GI) (gg : GG) (gt : GT) (ge : GE) (vs : List Nat) : GE := fun Γ M => (gi Γ M).bind fun ds M1 => (gScI gg gt ge (forget Γ vs) ds [] M1).bind fun rs M2 => .ok (.lst ((srtI rs).map D.int)) M2
@[simp] theorem u_gSortSc (gi : GI) (gg : GG) (gt : GT) (ge : GE) (vs : List Nat) (Γ : Env) (M : List MO) : gSortSc gi gg gt ge vs Γ M = ((gi Γ M).bind fun ds M1 => (gScI gg gt ge (forget Γ vs) ds [] M1).bind fun rs M2 => .ok (.lst ((srtI rs).map D.int)) M2) := Eq.trans rfl rfl
@[simp] theorem scI_nil (gg : GG) (gt : GT) (ge : GE) (Γ0 : Env) (rs : List Int) (M : List MO) : gScI gg gt ge Γ0 [] rs M = .ok rs M := by simp [gScI]
section
variable {X : Cx} {C : CT} {W : WX}
variable {elt tg iter : Expr} {ifs : List Expr} {scope : Scope} {own : List (Str × Nat)} {p q pos : Pos} {gi : GI} {gg : GG} {gt : GT} {ge : GE} {is ixs : List Nat}
end
end Bk

set_option Elab.async false
set_option linter.all false
set_option maxRecDepth 100000
set_option maxHeartbeats 2000000
namespace Bk
open PySem PySem.Spec PyProof.Rows L2
/-! ### lambdas: made, called in the def that got one -/
section
variable {K : PySem.W.Frag} {H Z : Hp} {ι : Nat → Addr} {M : List MO}
/-- one of ours is another thing of the same reading -/
theorem HR.recast (h : HR K H Z ι M) {j : Nat} {o : MO} {ho : HO} (hj : M[j]? = some o) (hd : o ≠ .dead) (new : OR K (upd H (ι j) ho) Z ι M.length o (ι j)) :
    HR K (upd H (ι j) ho) Z ι M ∧ Ext H Z ι M.length (upd H (ι j) ho) Z ι M.length := by
  have lt : j < M.length := (List.getElem?_eq_some_iff.mp hj).1
  have zj : Z (ι j) = none := h.sep j _ hj hd
  have far : ∀ {k : Nat} {u : MO}, k ≠ j → M[k]? = some u → u ≠ .dead → ι k ≠ ι j := fun {k u} hk e d z => hk (h.inj k j u _ e hj d hd z)
  refine ⟨⟨fun a u e => ?_, fun k hk => ?_, h.sep, h.inj, fun k u e => ?_, h.ded⟩, fun _ _ e => e, fun _ _ => rfl, fun a u e z => ?_, fun k h1 h2 => absurd h2 (Nat.not_lt.mpr h1), Nat.le_refl _, fun _ _ e => .inl e⟩
  · rw [upd_ne (ne_of_none e zj)]
    exact h.sub _ _ e
  · by_cases e : ι k = ι j
    · exact ⟨_, by rw [e, upd_same]⟩
    · rw [upd_ne e]
      exact h.ali k hk
  · by_cases hk : k = j
    · subst hk
      rw [hj] at e
      cases e
      exact new
    · by_cases du : u = .dead
      · subst du
        trivial
      · exact OR.mono (fun _ _ z => z) (fun _ _ => rfl) (Nat.le_refl _) (fun o z => by rw [upd_ne (far hk e du)]; exact z) (h.obj k u e)
  · rw [upd_ne (z j lt)]
    exact e
end
theorem upd_swap {H : Hp} {a b : Addr} {o u : HO} (h : a ≠ b) : upd (upd H a o) b u = upd (upd H b u) a o := by
  funext x
  by_cases h1 : x = a
  · subst h1
    rw [upd_ne h, upd_same, upd_same]
  · by_cases h2 : x = b
    · subst h2
      rw [upd_same, upd_ne h1, upd_same]
    · rw [upd_ne h2, upd_ne h1, upd_ne h1, upd_ne h2]
/-- a lambda is made: k, where the maker's table lies in the store -/
def gLam (k : Nat) (nm : Str) (l : LSy) (cl : List (Str × Addr)) : GE := fun _ M => match M[k]? with
  | some (.tab nm') => if nm' = nm then .ok (.lam l cl) M else .bad
  | _ => .bad
def tLamQ (K : PySem.W.Frag) (k : Nat) (nm : Str) (l : LSy) (cl : List (Str × Addr)) : TE := fun _ H Q => ∃ (Z : Hp) (ι : Nat → Addr) (M : List MO), HR K H Z ι M ∧ M[k]? = some (.tab nm) ∧
  ∀ (f : Addr) (H' Z' : Hp), Ext H Z ι M.length H' Z' ι M.length → HR K H' Z' ι M → Rp K Z' ι M.length (.lam l cl) (.ref f) → Q (.ref f) H'
section
variable {X : Cx} {C : CT} {W : WX} {pins : List (Addr × Obj)} {σ : L2.St} {H : Hp} {s : Shared}
theorem laid_lam {l : LSy} {cl : List (Str × Addr)} {c' : Addr} {o : Obj} {t' : Nat} {pm ct : Value} (I : Inv X pins σ H s) (ho : o = PySem.W.kla_obj "<lambda>" (l.qual ++ "<lambda>") l.params l.body l.scope (cloFrom cl l.scope.names []) pm c' ct) :
    Inv X pins σ (upd H s.heap.objs.size (LamO s.heap.objs.size l cl c')) { s with heap := s.heap.push o, toks := t' } := by
  subst ho
  refine I.laid (fun b u q => Heap.get?_push_of_some _ q) (Nat.le_refl _) ?_
  have at_ : (s.heap.push (PySem.W.kla_obj "<lambda>" (l.qual ++ "<lambda>") l.params l.body l.scope (cloFrom cl l.scope.names []) pm c' ct)).get? s.heap.objs.size = some (PySem.W.kla_obj "<lambda>" (l.qual ++ "<lambda>") l.params l.body l.scope (cloFrom cl l.scope.names []) pm c' ct) := Heap.get?_push_size _ rfl
  exact ⟨⟨pm, ct, at_⟩, ⟨_, at_⟩, fun h1 h2 ⟨p1, c1, z⟩ st => ⟨p1, c1, st _ z⟩⟩
theorem pe_lam {l : LSy} {k : Nat} {nm : Str} {c P : Addr} {pos : Pos} (ht : PySem.W.tabIn X.K nm = some (c, P)) (TB : LamX.TabB X.base X.mg c P) (hcode : X.env.code = .ref c) (hq : X.env.qual = nm ++ ".<locals>.") (hl : l.qual = X.env.qual) (L : LamX.LamS X.env.scope l.scope) (hdef : defaultsOf l.params X.env = ([], [])) :
    PE X (.Lambda l.params l.body l.scope pos) (tLamQ X.K k nm l X.env.cells) := by
  refine ⟨fun pins s σ H Q I h => ?_⟩
  obtain ⟨Z, ι, M, hr, hk, h⟩ := h
  obtain ⟨⟨c1, hc1⟩, ps, hP, tri, codes⟩ := hr.obj k _ hk
  have eP : P = ι k := by
    have z := ht.symm.trans hc1
    exact (Prod.mk.inj (Option.some.inj z)).2
  subst eP
  have free := L.has I.ok
  have bP : s.heap.BuiltinsAt X.mg (ι k) := TB.bm.keeps I.bk
  have hP' : s.heap.get? (ι k) = some { cls := .none, data := .fields ps } := I.hok (ι k) _ hP
  refine PySem.W.kla_eval hdef ?_
  cases hc : codeAmong pos ps.toList with
  | none =>
    refine PySem.W.kla_makeFunction (mg := X.mg) (c := c) (P := ι k) (ps := ps) (closure_ok free) I.ok.glob (I.mod.glob.keeps I.bk) hcode (TB.code.keeps I.bk) hP' tri hc TB.gP bP fun c' ctv h' tk hx hge hlt hrec htb => ?_
    obtain ⟨c2, oc, vs, t, e2, hoc, hd, hv⟩ := hrec
    cases e2
    have nC : H c' = none := I.hok.fresh hge
    have ne : ι k ≠ c' := ne_of_none hP nC
    have I1 := LamX.inv_table (t' := tk) (more := #[rawInt pos.line, rawInt pos.col, .ref c']) (h' := h') I hP (fun b o hb q => hx b o hb q) htb hge ⟨oc, vs, t, hoc, hd, hv⟩
    rw [upd_swap ne] at I1
    obtain ⟨hr1, x1⟩ := hr.frozen (o := LamX.CodeO c' (X.env.qual ++ "<lambda>")) nC
    have eL : (ps ++ #[rawInt pos.line, rawInt pos.col, .ref c']).toList = ps.toList ++ [rawInt pos.line, rawInt pos.col, .ref c'] := by simp
    obtain ⟨hr2, x2⟩ := hr1.recast (ho := .tbl (ps ++ #[rawInt pos.line, rawInt pos.col, .ref c'])) hk (by simp) (show OR X.K _ _ ι M.length (.tab nm) (ι k) from by
      refine ⟨⟨c1, hc1⟩, _, upd_same, by rw [eL]; exact PySem.TriplesOk_snoc _ _ _ _ tri, fun p' cv hcv => ?_⟩
      rw [eL] at hcv
      rcases LamX.among_app _ tri hcv with z | z
      · obtain ⟨c0, q1, q2⟩ := codes p' cv z
        exact ⟨c0, q1, x1.zz _ _ q2⟩
      · exact ⟨c', z, by rw [hq]; exact upd_same⟩)
    have I2 := laid_lam (t' := tk) (l := l) (cl := X.env.cells) (c' := c') (pm := (X.mg "__name__").getD .none) (ct := ctv) I1 (by rw [hl])
    obtain ⟨hr3, x3⟩ := hr2.frozen (o := LamO h'.objs.size l X.env.cells c') (I1.hok.fresh (Nat.le_refl _))
    have zc : upd Z c' (LamX.CodeO c' (X.env.qual ++ "<lambda>")) c' = some (LamX.CodeO c' (X.env.qual ++ "<lambda>")) := upd_same
    refine ⟨.ref h'.objs.size, _, I2, rfl, h _ _ _ ((x1.trans x2 hr1.ali).trans x3 hr2.ali) hr3 (.lam upd_same ?_)⟩
    rw [hl]
    exact x3.zz _ _ zc
  | some cv =>
    obtain ⟨c', ec, hco⟩ := codes pos cv hc
    subst ec
    refine PySem.W.kla_makeFunctionHit (mg := X.mg) (c := c) (P := ι k) (ps := ps) (closure_ok free) I.ok.glob (I.mod.glob.keeps I.bk) hcode (TB.code.keeps I.bk) hP' tri hc bP fun ctv h' tk hx hsz => ?_
    have I1 : Inv X pins σ H { s with heap := h', toks := tk } := I.kept hx
    have I2 := laid_lam (t' := tk) (l := l) (cl := X.env.cells) (c' := c') (pm := (X.mg "__name__").getD .none) (ct := ctv) I1 (by rw [hl])
    obtain ⟨hr3, x3⟩ := hr.frozen (o := LamO h'.objs.size l X.env.cells c') (I1.hok.fresh (Nat.le_refl _))
    refine ⟨.ref h'.objs.size, _, I2, rfl, h _ _ _ x3 hr3 (.lam upd_same ?_)⟩
    rw [hl, hq]
    exact x3.zz _ _ hco
theorem qe_lam {l : LSy} {k : Nat} {nm : Str} {c P : Addr} {pos : Pos} {cl : List (Str × Addr)} (ht : PySem.W.tabIn X.K nm = some (c, P)) (TB : LamX.TabB X.base X.mg c P) (hcode : X.env.code = .ref c) (hq : X.env.qual = nm ++ ".<locals>.") (hl : l.qual = X.env.qual) (hcl : X.env.cells = cl) (L : LamX.LamS X.env.scope l.scope) (hdef : defaultsOf l.params X.env = ([], [])) :
    QE X C W (.Lambda l.params l.body l.scope pos) (gLam k nm l cl) := by
  subst hcl
  refine ⟨_, pe_lam (k := k) ht TB hcode hq hl L hdef, fun σ H Z ι Γ M Q sl hr h => ?_⟩
  unfold gLam at h
  cases e : M[k]? with
  | none => rw [e] at h; exact h.elim
  | some u =>
    rw [e] at h
    cases u with
    | tab nm' =>
      simp only at h
      by_cases c : nm' = nm
      · rw [if_pos c] at h
        subst c
        exact ⟨Z, ι, M, hr, e, fun f H' Z' x hr' r => h _ H' Z' ι x hr' r⟩
      · rw [if_neg c] at h
        exact h.elim
    | _ => exact h.elim
/-- the call x() in the def that got the lambda: its frame is entered from the maker's state s -/
theorem pe_actQ {CXg : CXT} {Eg : XK} {Ng : List Str} {qg : Str} {sg : Scope} {g : Addr} {cdg : Value} {l : LSy} {k i : Nat} {a : Str} {pn : List (Addr × Obj)} {xe : Value → Shared → Prop} {V : WX} {tb : XK → TE} {p1 p2 : Pos}
    (I : Inv X pins σ H s) (L : LamX.LamS X.env.scope l.scope) (hl : l.qual = X.env.qual) (hbind : ∀ (q : Str) (cs : List (Str × Addr)) (pm cv ct : Value), bindArgs (PySem.W.kla_fn "<lambda>" q l.params l.body l.scope cs pm cv ct) ⟨[], []⟩ = pure [])
    (tk : Takes ((cxOf (L2.CX X.prog X.w) X.prog X.w X.K X.mg X.base Ng qg sg g cdg X.A X.stack s H Eg).tr pn xe) V) (hr : Room (k + 1) (X.A.deeper (envOfC qg sg s.heap.objs.size g cdg)))
    (hbody : ∀ (B : Around) (outer : List PySem.Env) (s1 : Shared) (H1 : Hp) (E : XK) (f c' : Addr), Room k (B.deeper (LamX.lamEnv X l.scope s1.heap.objs.size f c')) → B.guards = some [] → PE (LamX.lamCx X B outer s1 H1 E l.scope f c') l.body (tb E)) (hgu : X.A.guards = some [])
    (hN : Ng[i]? = some a) (hv : Vis sg a) (hd : (a == ("__debug__" : Str)) = false := by decide) (hcd : (a == ("__classdict__" : Str)) = false := by decide) :
    PE ((cxOf (L2.CX X.prog X.w) X.prog X.w X.K X.mg X.base Ng qg sg g cdg X.A X.stack s H Eg).tr pn xe) (.Call (.Name a p1) [] [] p2)
      (fun σ1 H1 Q => ∃ f c' : Addr, σ1[i]? = some (some (.ref f)) ∧ H1 f = some (LamO f l X.env.cells c') ∧ H1 c' = some (LamX.CodeO c' (l.qual ++ "<lambda>")) ∧ tb (WE V σ1) σ H1 Q) := by
  refine ⟨fun pins1 s0 σ1 H1 Q J h => ?_⟩
  obtain ⟨f, c', hs, hf, hc, hb⟩ := h
  refine wpAny_Call_Name_kw (thn ((pe_var (pos := p1) (i := i) hN hv hd hcd).run pins1 s0 σ1 H1 (fun v H2 => v = .ref f ∧ H2 = H1) J ⟨.ref f, hs, rfl, rfl⟩) fun u s1 ⟨v, H2, J1, r1, q1⟩ => ?_)
  obtain ⟨ev, eH⟩ := q1
  subst ev
  rw [eH] at J1
  obtain rfl : u = Value.ref f := r1
  obtain ⟨⟨pm, ct, of1⟩, _, _⟩ := J1.hok f _ hf
  obtain ⟨⟨oc, vs, t, hoc, hdc, hvc⟩, _, _⟩ := J1.hok c' _ hc
  rw [hl] at of1 hvc
  refine PySem.W.callWith_F0 ⟨_, _, _, _, of1⟩ ?_
  have un1 : Un (frs X.stack) [] H H1 s.heap s1.heap := J1.base
  have run : codeAny (model X.prog X.w) (X.A.deeper (envOfC qg sg s.heap.objs.size g cdg)) (.call (.ref f) ⟨[], []⟩) (CR (L2.CX X.prog X.w) (envOfC qg sg s.heap.objs.size g cdg :: X.stack) X.prog X.w H1 s1 Q (WE V σ1)) s1 := by
    refine PySem.W.kla_callFunE hr.depth of1 rfl L.co L.gen rfl ⟨c', oc, vs, t, rfl, hoc, hdc, hvc⟩ ?_
    rw [hbind]
    refine wpAny_pure (wpAny_newFunctionEnv (fun y hy => (L.own y hy).2) (fun y hy => absurd hy (by simp)) (fun h2 hns hsb => ⟨J1.nolimit.fresh _ hsb, ?_⟩) L.kind)
    show codeAny _ _ (.expr l.body (LamX.lamEnv X l.scope s1.heap.objs.size f c')) _ _
    have keep : ∀ b o, s1.heap.get? b = some o → h2.get? b = some o := fun b o q => hsb.extBut b o (Nat.ne_of_lt (Heap.lt_size q)) (Heap.get?_push_of_some _ q)
    have J2 : Inv (LamX.lamCx X (X.A.deeper (envOfC qg sg s.heap.objs.size g cdg)) (envOfC qg sg s.heap.objs.size g cdg :: X.stack) s1 H1 (WE V σ1) l.scope f c') [] σ H1 { s1 with heap := h2, toks := s1.toks + ([] : List (Str × Value)).length } :=
      LamX.lam_start2 I L J1.env0 hr.hd un1 hns keep
    refine PySem.W.kla_codeExpr (wpAny_mono ((hbody _ _ s1 H1 _ f c' (hr.deeper _) hgu).run [] _ _ H1 Q J2 hb) (fun v s' q => ?_) fun _ _ q => q)
    obtain ⟨w', H', J3, rv, q⟩ := q
    exact ⟨w', H', J3.os, J3.bare, J3.base, J3.hok, rv, q⟩
  have out := passAt tk σ1
  refine wpAny_call (codeAny_mono run fun r s' q => ?_)
  cases r with
  | error e => exact out pins1 H1 s1 e s' J1 q
  | ok fl =>
    cases fl with
    | ret u => exact J1.after q
    | next => exact q.elim
    | brk => exact q.elim
    | cont => exact q.elim
end
@[simp] theorem u_gLam (k : Nat) (nm : Str) (l : LSy) (cl : List (Str × Addr)) (Γ : Env) (M : List MO) : gLam k nm l cl Γ M = (match M[k]? with
  | some (.tab nm') => if nm' = nm then .ok (.lam l cl) M else .bad
  | _ => .bad) := Eq.trans rfl rfl
end Bk

set_option Elab.async false
set_option linter.all false
set_option maxRecDepth 100000
set_option maxHeartbeats 4000000
namespace Bk
open PySem PySem.Spec PySem.Calls PyProof.Rows L2
/-! ### a caught error as data: isinstance, its attribute -/
section
variable {pg : Program} {wd : World} {Ar : Around} {E : Value → Shared → Prop} {K : PySem.W.Frag} {x B : Addr} {ob : Obj} {od : Option Obj}
theorem found_class (c : ExcC K B) : PySem.W.findObj K B od "__class__" = some (.bind (.builtin "getset_descriptor.__get__") (.builtin "object.__class__")) := by
  obtain ⟨cd, hc, _⟩ := PySem.W.any_some c.hd
  unfold PySem.W.findObj
  rw [hc, Option.bind_some, c.ha, Option.bind_some]
  simp [c.hn, c.ht]
theorem exc_class {st : Shared} {Q : Option Value → Shared → Prop} (c : ExcC K B) (inK : K.In st.heap) (J : PySem.W.InstAt st.heap x ob B od) (q : Q (some (.ref B)) { st with toks := st.toks + 1 }) : wpAny (model pg wd) Ar (getAttr? (.ref x) "__class__") Q E st := by
  obtain ⟨hp, ge, dr, tt, oz⟩ := st
  have T0 := J.type (M := model pg wd)
  have T1 := PySem.W.looks_findIn (M := model pg wd) inK c.hg
  have T2 := PySem.W.looks_findIn (M := model pg wd) inK c.hk
  have T3 := PySem.W.looks_find (M := model pg wd) inK J (found_class c)
  have under : PySem.W.Looks (model pg wd) hp (isInstance (.ref x) (.type "BaseException")) true := T0.andThen (PySem.W.looks_subIn inK c.hs)
  have no1 : (Value.builtin "BaseException.__getattribute__" == Value.builtin "object.__getattribute__") = false := by decide +kernel
  have no2 : (onTheHeap (Value.ref B) && Value.builtin "BaseException.__getattribute__" == Value.builtin "object.__getattribute__") = false := by rw [no1]; rfl
  have no3 : (false && onTheHeap (Value.builtin "BaseException.__getattribute__")) = false := rfl
  unfold getAttr? getAttrBy? getAttrBy
  refine wpAny_bind (wpAny_mkText (wpAny_bind (wpAny_attempt (wpAny_holding (wpAny_bind (T0.at (wpAny_bind (T1.at ?_))))))))
  show wpAny _ _ (if (onTheHeap (Value.ref B) && Value.builtin "BaseException.__getattribute__" == Value.builtin "object.__getattribute__") = true then _ else _) _ _ _
  rw [no2, if_neg Bool.false_ne_true]
  unfold getAttrByItsOwn hookBefore
  refine wpAny_bind ?_
  rw [if_pos (show onTheHeap (Value.ref B) = true from rfl)]
  refine T2.at ?_
  refine wpAny_bind (wpAny_attempt (wpAny_holding ?_))
  unfold callGetattribute
  rw [no3, if_neg Bool.false_ne_true]
  unfold boundAndCalled
  rw [PySem.F.excAttr_ValueError.ga.bind (.ref x)]
  refine wpAny_bind (wpAny_pure ?_)
  show wpAny _ _ (call (.builtin "BaseException.__getattribute__") [.ref x, .str "__class__" tt]) _ _ _
  refine wpAny_call (codeAny_call_builtin PySem.F.excAttr_ValueError.ga.plain PySem.F.entry_bexc_ga ?_)
  refine @PySem.W.check_slot (model pg wd) _ _ ⟨hp, ge, dr, tt + 1, oz⟩ "BaseException.__getattribute__" "BaseException" "__getattribute__" (.ref x) [.str "__class__" tt] [] _ (by decide +kernel) (by decide +kernel) under (PySem.F.args_bexc_ga (.ref x) (.str "__class__" tt)) ?_
  unfold Builtin.«object.__getattribute__»
  refine wpAny_bind (wpAny_of_eq (a := ((Value.ref x : Value), [Value.str "__class__" tt])) (by first | rfl | (simp only [slotArgs]; rfl)) ?_)
  refine wpAny_bind (wpAny_pure (wpAny_bind (T0.at (wpAny_bind (T3.at ?_)))))
  show wpAny _ _ (holding [Value.builtin "object.__class__"] (call (.builtin "getset_descriptor.__get__") [.builtin "object.__class__", .ref x, .ref B]) >>= ret) _ _ _
  refine wpAny_bind (wpAny_holding (wpAny_call (PySem.W.class_get (s := ⟨hp, ge, dr, tt + 1, oz⟩) (ox := ob) (od := od) inK J c.hm ?_)))
  refine wpAny_pure ?_
  show wpAny _ _ (handedOut (.ref B)) _ _ _
  rw [PySem.W.handedOut_of (v := .ref B) rfl]
  first
    | exact wpAny_pure (wpAny_pure q)
    | exact wpAny_pure q
    | exact wpAny_pure (wpAny_bind (wpAny_pure (wpAny_pure q)))
theorem kitx_err (c : ExcC K B) : PySem.W.KitX K (.ref x) (.ref B) (fun h => ∃ od, PySem.W.InstAt h x ob B od) where
  ty := fun _ _ _ J => let ⟨_, J⟩ := J; J.type
  it := fun _ _ inK _ => by
    obtain ⟨cd, hc, _⟩ := PySem.W.any_some c.hd
    unfold PySem.W.clsIn at hc
    split at hc
    · rename_i c1 d1 e1 f1 ho
      intro A' Q' E' s' k q
      unfold isType loadHead
      exact wpAny_bind (wpAny_loadPart (k _ _ (inK _ _ ho)) (wpAny_pure q))
    · cases hc
  ne := fun h tp dd its n sl inK htp => by
    obtain ⟨cd, hc, _⟩ := PySem.W.any_some c.hd
    refine Bool.eq_false_iff.mpr fun q => ?_
    have e : B = tp := Value.ref.inj (beq_iff_eq.mp q)
    subst e
    unfold PySem.W.clsIn at hc
    split at hc
    · rename_i c1 d1 e1 f1 ho
      have z := (inK _ _ ho).symm.trans htp
      cases z
    · cases hc
  ca := fun inK J q => let ⟨_, J⟩ := J; exc_class c inK J q
end
def gAtV (i : Nat) (a dx : Addr) (f : Str) : GE := fun Γ M => match Γ[i]? with
  | some (some (.exv a' dx' f' d)) => if a' = a ∧ dx' = dx ∧ f' = f then .ok d M else .bad
  | _ => .bad
section
variable {X : Cx} {C : CT} {a B dx : Addr} {oe : Obj} {pn : List (Addr × Obj)}
/-- isinstance(e, c): c a class of the program's or of Python's -/
def rIsV (K : PySem.W.Frag) (B a dx : Addr) : List V → Hp → VK → Prop := fun xs H Q => ∃ (c : V) (cv : Value) (b : Bool) (fs : List (Str × V)), xs = [.ref a, c] ∧ (∀ u, RelV c u → u = cv) ∧ PySem.W.kitOne K (.ref B) cv = some b ∧ H dx = some (.xd fs) ∧ Q (.bl b) H
theorem inst_at {pins : List (Addr × Obj)} {σ : L2.St} {H : Hp} {s : Shared} {fs : List (Str × V)} (I : Inv (X.suite a ((a, oe) :: pn)) pins σ H s) (hz : Zc (.ref B) (some dx) oe) (hf : ∃ vs, oe.data = .fields vs) (hx : H dx = some (.xd fs)) : ∃ od, PySem.W.InstAt s.heap a oe B od := by
  obtain ⟨hget, _⟩ := I.pin (a, oe) (List.mem_append.mpr (.inl List.mem_cons_self))
  obtain ⟨vs, hv⟩ := hf
  obtain ⟨o, ho⟩ : ∃ o, s.heap.get? dx = some o := by
    obtain ⟨mA, hns, _⟩ := (show ObjOk X.prog X.w H s.heap dx (.xd fs) from I.hok dx _ hx)
    obtain ⟨o, ho, _⟩ := lookIn_ns hns
    exact ⟨o, ho⟩
  obtain ⟨oc, od, oda, osl⟩ := oe
  obtain ⟨h1, h2⟩ := hz
  dsimp only at h1 h2 hv
  subst h1 h2 hv
  exact ⟨some o, hget, rfl, rfl, ho⟩
theorem call_isV (c : ExcC X.K B) (hz : Zc (.ref B) (some dx) oe) (hf : ∃ vs, oe.data = .fields vs) : CallR (X.suite a ((a, oe) :: pn)) (.builtin "isinstance") (rIsV X.K B a dx) := by
  intro pins s σ H xs us Q I r h
  obtain ⟨k, cv, b, fs, rfl, hcv, e, hx, q⟩ := h
  obtain ⟨u1, u2, rfl, ru1, ru2⟩ := vals2 r
  cases ru1
  have ec := hcv _ ru2
  subst ec
  exact PySem.W.kia_one (kitx_err c) I.kIn (inst_at I hz hf hx) e (fun z => nomatch z) fun tk => ⟨.bl b, H, I.kept (t' := tk) fun _ _ z => z, rfl, q⟩
end
end Bk

set_option Elab.async false
set_option linter.all false
set_option maxRecDepth 100000
set_option maxHeartbeats 4000000
namespace Bk
open PySem PySem.Spec PyProof.Rows L2
/-! ### suites that look at the caught error; defs that call what they get -/
section
variable {X : Cx} {C : CT} {W : WX} {a B dx : Addr} {oe : Obj} {pn : List (Addr × Obj)} {p pos ep np : Pos} {en : Str}
/-- names of classes of the program, evaluated -/
def PNm (X : Cx) (es : List Expr) (cs : List Addr) : Prop := ∃ t, PA X es t ∧ ∀ (σ : L2.St) (H : Hp) (Q : List V → Hp → Prop), Q (cs.map V.ref) H → t σ H Q
theorem pnm_nil : PNm X [] [] := ⟨_, pa_nil, fun _ _ _ h => h⟩
theorem pnm_cons {TN : Str} {K0 : Addr} {q : Pos} {es : List Expr} {cs : List Addr} (hT : Gl X TN) (hmT : X.mg TN = some (.ref K0)) (r : PNm X es cs) (hd : (TN == ("__debug__" : Str)) = false := by decide)
    (hs : starEach (.Name TN q :: es) X.env = (false, eval (.Name TN q) X.env) :: starEach es X.env := by rfl) : PNm X (.Name TN q :: es) (K0 :: cs) := by
  obtain ⟨t, pt, qt⟩ := r
  exact ⟨_, pa_cons (pe_glob (v := .ref K0) hT hmT rfl hd) pt hs, fun σ H Q h => qt σ H _ h⟩
end
/-- the error's dict is the one that the clause knows -/
def gIsV2 (i : Nat) (a dx : Addr) (b : Bool) : GE := fun Γ M => match Γ[i]? with
  | some (some (.exv a' dx' _ _)) => if a' = a ∧ dx' = dx then .ok (.bl b) M else .bad
  | _ => .bad
section
variable {X : Cx} {C : CT} {W : WX} {a B dx : Addr} {oe : Obj} {pn : List (Addr × Obj)} {p pos ep np : Pos} {en : Str}
theorem exv_read2 {i : Nat} {b : Bool} {σ : L2.St} {H Z : Hp} {ι : Nat → Addr} {Γ : Env} {M : List MO} {Q : VK} (sl : Slots X.K Z ι M.length Γ σ) (h : Post X C W (rpE X.K) σ H Z ι M (gIsV2 i a dx b Γ M) Q) :
    ∃ (f : Str) (v : V), σ[i]? = some (some (.ref a)) ∧ Z dx = some (.xd [(f, v)]) ∧ Post X C W (rpE X.K) σ H Z ι M (.ok (.bl b) M) Q := by
  unfold gIsV2 at h
  cases e : Γ[i]? with
  | none => rw [e] at h; exact h.elim
  | some o =>
    cases o with
    | none => rw [e] at h; exact h.elim
    | some d =>
      rw [e] at h
      cases d with
      | exv a' dx' f' d' =>
        simp only at h
        by_cases c : a' = a ∧ dx' = dx
        · rw [if_pos c] at h
          obtain ⟨rfl, rfl⟩ := c
          obtain ⟨v, h1, h2⟩ := sl.2 i _ e
          cases h2 with
          | exv q w => exact ⟨f', _, h1, q, h⟩
        · rw [if_neg c] at h
          exact h.elim
      | _ => exact h.elim
/-- isinstance(e, K), K a class of the program -/
theorem qe_isV {i : Nat} {TN : Str} {K0 : Addr} {b : Bool} {q : Pos} (c : ExcC X.K B) (hz : Zc (.ref B) (some dx) oe) (hf : ∃ vs, oe.data = .fields vs) (hN : X.N[i]? = some en) (hv : Vis X.env.scope en) (hk : PySem.W.kitOne X.K (.ref B) (.ref K0) = some b) (hg : Gl X "isinstance") (hm : X.mg "isinstance" = none)
    (hT : Gl X TN) (hmT : X.mg TN = some (.ref K0)) (hd : (TN == ("__debug__" : Str)) = false := by decide) (hd2 : (en == ("__debug__" : Str)) = false := by decide) (hcd : (en == ("__classdict__" : Str)) = false := by decide)
    (he : starEach [Expr.Name en ep, Expr.Name TN q] X.env = (false, eval (Expr.Name en ep) X.env) :: starEach [Expr.Name TN q] X.env := by rfl) (he2 : starEach [Expr.Name TN q] X.env = (false, eval (Expr.Name TN q) X.env) :: starEach [] X.env := by rfl) (hpl : (backTo pos (starEach [Expr.Name TN q] X.env)).any (·.1) = false := by rfl) :
    QE (X.suite a ((a, oe) :: pn)) C W (.Call (.Name "isinstance" p) [.Name en ep, .Name TN q] [] pos) (gIsV2 i a dx b) := by
  refine ⟨_, pe_callB (X := X.suite a ((a, oe) :: pn)) (call_isV c hz hf) hg hm (by decide +kernel) (pa_cons (pe_var (X := X.suite a ((a, oe) :: pn)) hN hv hd2 hcd) (pa_cons (pe_glob (X := X.suite a ((a, oe) :: pn)) (v := .ref K0) hT hmT rfl hd) pa_nil he2) he) (he := he) (hpl := hpl), fun σ H Z ι Γ M Q sl hr h => ?_⟩
  obtain ⟨f, v, h1, h2, h3⟩ := exv_read2 (X := X.suite a ((a, oe) :: pn)) sl h
  exact ⟨.ref a, h1, .ref K0, .ref K0, b, _, rfl, fun u r => r, hk, hr.sub _ _ h2, h3 (.bl b) H Z ι .refl hr (.bl b)⟩
/-- isinstance(e, T), T a class of Python's -/
theorem qe_isVB {i : Nat} {TN : Str} {T : String} {b : Bool} {q : Pos} (c : ExcC X.K B) (hz : Zc (.ref B) (some dx) oe) (hf : ∃ vs, oe.data = .fields vs) (hN : X.N[i]? = some en) (hv : Vis X.env.scope en) (hk : PySem.W.kitOne X.K (.ref B) (.type T) = some b) (hg : Gl X "isinstance") (hm : X.mg "isinstance" = none)
    (hT : Gl X TN) (hmT : X.mg TN = none) (hvT : bootBuiltins TN = some (.type T)) (hn : TN ≠ "__name__" := by decide) (hd : (TN == ("__debug__" : Str)) = false := by decide) (hd2 : (en == ("__debug__" : Str)) = false := by decide) (hcd : (en == ("__classdict__" : Str)) = false := by decide)
    (he : starEach [Expr.Name en ep, Expr.Name TN q] X.env = (false, eval (Expr.Name en ep) X.env) :: starEach [Expr.Name TN q] X.env := by rfl) (he2 : starEach [Expr.Name TN q] X.env = (false, eval (Expr.Name TN q) X.env) :: starEach [] X.env := by rfl) (hpl : (backTo pos (starEach [Expr.Name TN q] X.env)).any (·.1) = false := by rfl) :
    QE (X.suite a ((a, oe) :: pn)) C W (.Call (.Name "isinstance" p) [.Name en ep, .Name TN q] [] pos) (gIsV2 i a dx b) := by
  refine ⟨_, pe_callB (X := X.suite a ((a, oe) :: pn)) (call_isV c hz hf) hg hm (by decide +kernel) (pa_cons (pe_var (X := X.suite a ((a, oe) :: pn)) hN hv hd2 hcd) (pa_cons (pe_bltn (X := X.suite a ((a, oe) :: pn)) (v := .ty T) hT hmT hvT rfl hn hd) pa_nil he2) he) (he := he) (hpl := hpl), fun σ H Z ι Γ M Q sl hr h => ?_⟩
  obtain ⟨f, v, h1, h2, h3⟩ := exv_read2 (X := X.suite a ((a, oe) :: pn)) sl h
  exact ⟨.ref a, h1, .ty T, .type T, b, _, rfl, fun u r => r, hk, hr.sub _ _ h2, h3 (.bl b) H Z ι .refl hr (.bl b)⟩
/-- isinstance(e, (K1, K2, ..)) -/
def rIsVT (K : PySem.W.Frag) (B a dx : Addr) (cs : List Addr) (b : Bool) : List V → Hp → VK → Prop := fun xs H Q => ∃ (tp : Addr) (fs : List (Str × V)), xs = [.ref a, .ref tp] ∧ H tp = some (.tup (cs.map V.ref)) ∧ H dx = some (.xd fs) ∧ Q (.bl b) H
theorem refs_all : ∀ {cs : List Addr} {ws : List Value}, Vals (cs.map V.ref) ws → ws = cs.map Value.ref
  | [], _, h => by cases h; rfl
  | c :: cs, _, h => by
    cases h with
    | cons r t =>
      have z := refs_all t
      cases r
      rw [z]
      rfl
theorem call_isVT {cs : List Addr} {b : Bool} (c : ExcC X.K B) (hz : Zc (.ref B) (some dx) oe) (hf : ∃ vs, oe.data = .fields vs) (hk : PySem.W.kitAny X.K (.ref B) (cs.map Value.ref) = some b) : CallR (X.suite a ((a, oe) :: pn)) (.builtin "isinstance") (rIsVT X.K B a dx cs b) := by
  intro pins s σ H xs us Q I r h
  obtain ⟨tp, fs, rfl, hT, hx, q⟩ := h
  obtain ⟨u1, u2, rfl, ru1, ru2⟩ := vals2 r
  cases ru1
  cases (show u2 = Value.ref tp from ru2)
  obtain ⟨_, its, rv, o, h1, h2, n, h3⟩ := (show ObjOk X.prog X.w H s.heap tp (.tup (cs.map V.ref)) from I.hok tp _ hT)
  have e3 := refs_all rv
  subst e3
  obtain ⟨oc, od, dt, ol⟩ := o
  simp only at h2 h3
  subst h2 h3
  exact PySem.W.kia_tup (kitx_err c) I.kIn (inst_at I hz hf hx) h1 hk (fun z => nomatch z) fun tk => ⟨.bl b, H, I.kept (t' := tk) fun _ _ z => z, rfl, q⟩
theorem qe_isVT {i n : Nat} {es : List Expr} {cs : List Addr} {b : Bool} {q : Pos} (c : ExcC X.K B) (hz : Zc (.ref B) (some dx) oe) (hf : ∃ vs, oe.data = .fields vs) (hN : X.N[i]? = some en) (hv : Vis X.env.scope en) (hk : PySem.W.kitAny X.K (.ref B) (cs.map Value.ref) = some b) (hg : Gl X "isinstance") (hm : X.mg "isinstance" = none)
    (ht : PNm (X.suite a ((a, oe) :: pn)) es cs) (hl : cs.length ≤ 1000) (hd2 : (en == ("__debug__" : Str)) = false := by decide) (hcd : (en == ("__classdict__" : Str)) = false := by decide)
    (he : starEach [Expr.Name en ep, Expr.Tuple es n q] X.env = (false, eval (Expr.Name en ep) X.env) :: starEach [Expr.Tuple es n q] X.env := by rfl) (he2 : starEach [Expr.Tuple es n q] X.env = (false, eval (Expr.Tuple es n q) X.env) :: starEach [] X.env := by rfl) (hpl : (backTo pos (starEach [Expr.Tuple es n q] X.env)).any (·.1) = false := by rfl) :
    QE (X.suite a ((a, oe) :: pn)) C W (.Call (.Name "isinstance" p) [.Name en ep, .Tuple es n q] [] pos) (gIsV2 i a dx b) := by
  obtain ⟨tt, pt, qt⟩ := ht
  refine ⟨_, pe_callB (X := X.suite a ((a, oe) :: pn)) (call_isVT c hz hf hk) hg hm (by decide +kernel) (pa_cons (pe_var (X := X.suite a ((a, oe) :: pn)) hN hv hd2 hcd) (pa_cons (pe_tup pt) pa_nil he2) he) (he := he) (hpl := hpl), fun σ H Z ι Γ M Q sl hr h => ?_⟩
  obtain ⟨f, v, h1, h2, h3⟩ := exv_read2 (X := X.suite a ((a, oe) :: pn)) sl h
  refine ⟨.ref a, h1, qt σ H _ ⟨by rw [List.length_map]; exact Nat.le_trans hl (by decide), fun tp hp => ?_⟩⟩
  obtain ⟨hr2, x2⟩ := hr.frozen (o := .tup (cs.map V.ref)) hp
  exact ⟨tp, _, rfl, upd_same, hr2.sub _ _ (x2.zz _ _ h2), h3 (.bl b) _ _ ι x2 hr2 (.bl b)⟩
/-- e.f -/
theorem qe_atV {i : Nat} {f : Str} (T : XfC X.K B) (no : PySem.W.findIn X.K (.ref B) f = some none) (hz : Zc (.ref B) (some dx) oe) (hf : ∃ vs, oe.data = .fields vs) (hN : X.N[i]? = some en) (hv : Vis X.env.scope en)
    (hd2 : (en == ("__debug__" : Str)) = false := by decide) (hcd : (en == ("__classdict__" : Str)) = false := by decide) (hb : attributeBase (.Name en np) f X.env (eval (.Name en np) X.env) = eval (.Name en np) X.env := by rfl) :
    QE (X.suite a ((a, oe) :: pn)) C W (.Attribute (.Name en np) f pos) (gAtV i a dx f) := by
  refine ⟨_, pe_xf T no hz hf (pe_var (X := X.suite a ((a, oe) :: pn)) hN hv hd2 hcd) hb, fun σ H Z ι Γ M Q sl hr h => ?_⟩
  unfold gAtV at h
  cases e : Γ[i]? with
  | none => rw [e] at h; exact h.elim
  | some o =>
    cases o with
    | none => rw [e] at h; exact h.elim
    | some d =>
      rw [e] at h
      cases d with
      | exv a' dx' f' d' =>
        simp only at h
        by_cases c : a' = a ∧ dx' = dx ∧ f' = f
        · rw [if_pos c] at h
          obtain ⟨rfl, rfl, rfl⟩ := c
          obtain ⟨v, h1, h2⟩ := sl.2 i _ e
          cases h2 with
          | exv q w => exact ⟨.ref a', h1, rfl, rfl, dx', [(f', _)], _, rfl, hr.sub _ _ q, by simp [List.lookup], h _ H Z ι .refl hr w⟩
        · rw [if_neg c] at h
          exact h.elim
      | _ => exact h.elim
end
/-! clauses -/
/-- what holds for all addresses alike -/
noncomputable def allA (f : Addr → Addr → RS) : RS := open Classical in if ∀ a b, f a b = f 0 0 then f 0 0 else .bad
theorem allA_eq {f : Addr → Addr → RS} {r : RS} (h : ∀ a b, f a b = r) : allA f = r := by
  unfold allA
  rw [if_pos fun a b => (h a b).trans (h 0 0).symm]
  exact h 0 0
@[simp] theorem allA_c (r : RS) : allA (fun _ _ => r) = r := allA_eq fun _ _ => rfl
theorem allA_at {f : Addr → Addr → RS} (a b : Addr) (h : allA f ≠ .bad) : allA f = f a b := by
  unfold allA at h ⊢
  split at h
  · rename_i q
    rw [if_pos q, q a b]
  · exact absurd rfl h
structure Hd2 where
  is : Nat → Bool
  slot : Option Nat
  run : Nat → Addr → Addr → GS
noncomputable def pickH2 (nms : Nat → Str) : List Hd2 → Nat → D → GS
  | [], c, d => fun Γ M => .exc c d Γ M
  | h :: r, c, d => fun Γ M => if h.is c = true then (match h.slot with
      | none => (h.run c 0 0 Γ M).noExc
      | some i => if i < Γ.length then allA fun a dx => ((h.run c a dx (Γ.set i (some (.exv a dx (nms c) d))) M).noExc).unset i else .bad) else pickH2 nms r c d Γ M
noncomputable def RS.caught2 (m : Nat) (nms : Nat → Str) (hs : List Hd2) (r : RS) : RS := match r with
  | .exc c d Γ M => if c < m then pickH2 nms hs c d Γ M else .bad
  | r => r
/-- the suite of a clause 'as n', for any class that it takes -/
def QSv (X : Cx) (C : CT) (m : Nat) (is : Nat → Bool) (sts : List Stmt) (gA : Nat → Addr → Addr → GS) : Prop := ∀ (a : Addr) (oe : Obj) (c : Nat) (dx : Addr) (pn : List (Addr × Obj)), c < m → is c = true → Zc (.ref (C.at_ c)) (some dx) oe → (∃ vs, oe.data = .fields vs) → QSs (X.suite a ((a, oe) :: pn)) C noW sts (gA c a dx)
def tAsV (X : Cx) (C : CT) (m i : Nat) (is : Nat → Bool) (nms : Nat → Str) (gA : Nat → Addr → Addr → GS) : TSx := fun a cls dd Dd σ H => ∃ (Z : Hp) (ι : Nat → Addr) (Γ : Env) (M : List MO) (c : Nat) (dx : Addr) (d : D), c < m ∧ is c = true ∧ cls = .ref (C.at_ c) ∧ dd = some dx ∧
  Slots X.K Z ι M.length (Γ.set i (some (.exv a dx (nms c) d))) σ ∧ HR X.K H Z ι M ∧ PostS X C noW H Z ι M (gA c a dx (Γ.set i (some (.exv a dx (nms c) d))) M) Dd
inductive HdV (X : Cx) (C : CT) (m : Nat) : List ExceptHandler → List Hd2 → Prop
  | nil : HdV X C m [] []
  | only {x : Str} {c : Value} {b0 : Stmt} {su : List Stmt} {np po : Pos} {hds : List ExceptHandler} {hs : List Hd2} {is : Nat → Bool} {g : GS} (hc : Names X x c) (ht : ∀ k, k < m → PySem.W.exmOne X.K (.ref (C.at_ k)) c = some (is k))
      (hq : QOnly X C (b0 :: su) g) (r : HdV X C m hds hs) : HdV X C m (.ExceptHandler (some (.Name x np)) none (b0 :: su) po :: hds) (⟨is, none, fun _ _ _ => g⟩ :: hs)
  | as {x n : Str} {i : Nat} {c : Value} {b0 : Stmt} {su : List Stmt} {np po : Pos} {hds : List ExceptHandler} {hs : List Hd2} {is : Nat → Bool} {gA : Nat → Addr → Addr → GS} (hc : Names X x c) (hN : X.N.Nodup) (hi : X.N[i]? = some n) (hln : X.env.kindOf n = some .local)
      (ht : ∀ k, k < m → PySem.W.exmOne X.K (.ref (C.at_ k)) c = some (is k)) (hq : QSv X C m is (b0 :: su) gA) (r : HdV X C m hds hs) :
      HdV X C m (.ExceptHandler (some (.Name x np)) (some n) (b0 :: su) po :: hds) (⟨is, some i, gA⟩ :: hs)
theorem PostS.bad_no {X : Cx} {C : CT} {W : WX} {H Z : Hp} {ι : Nat → Addr} {M : List MO} {r : RS} {Dd : Ends} (h : PostS X C W H Z ι M r Dd) : r ≠ .bad := fun e => by
  subst e
  exact h
theorem HdV.toK {X : Cx} {C : CT} {m : Nat} {nms : Nat → Str} {hds : List ExceptHandler} {hs : List Hd2} (hn : ∀ k, k < m → C.nm k = nms k) (h : HdV X C m hds hs) : ∃ l, HdK X hds l ∧ ∀ (Wo : WX) (Dd : Ends) (H Z : Hp) (ι : Nat → Addr) (Γ : Env) (M : List MO) (σ : L2.St) (cls : Value) (dd : Option Addr) (c : Nat) (d : D),
    c < m → ExcR X.K C H Z ι M.length c d cls dd → Slots X.K Z ι M.length Γ σ → HR X.K H Z ι M → PostS X C Wo H Z ι M (pickH2 nms hs c d Γ M) Dd → wHd X.K Wo Dd l cls dd σ H := by
  induction h with
  | nil => exact ⟨[], .nil, fun Wo Dd H Z ι Γ M σ cls dd c d hcm x sl hr h => h cls dd σ H Z ι .refl hr sl x⟩
  | @only x c0 b0 su np po hds hs is g hc ht hq r ih =>
    obtain ⟨l, hk, hw⟩ := ih
    refine ⟨(c0, none, tOnly X C fun _ => g) :: l, .only hc (fun a oe cls dd pn _ _ => ?_) hk, fun Wo Dd H Z ι Γ M σ cls dd c d hcm x sl hr h => ?_⟩
    · obtain ⟨ts, ps, qs⟩ := hq a oe pn
      refine PSs.weak ps fun D σ H q => ?_
      obtain ⟨Z, ι, Γ, M, c, d, x, sl, hr, h⟩ := q
      exact qs D σ H Z ι Γ M sl hr h
    · refine ⟨is c, by rw [x.1]; exact ht c hcm, fun hb a ha => ?_, fun hb => ?_⟩
      · have h2 : PostS X C Wo H Z ι M (if is c = true then (g Γ M).noExc else pickH2 nms hs c d Γ M) Dd := h
        rw [if_pos hb] at h2
        exact ⟨Z, ι, Γ, M, c, d, x, sl, hr, h2.noExc⟩
      · have h2 : PostS X C Wo H Z ι M (if is c = true then (g Γ M).noExc else pickH2 nms hs c d Γ M) Dd := h
        rw [if_neg (by rw [hb]; decide)] at h2
        exact hw Wo Dd H Z ι Γ M σ cls dd c d hcm x sl hr h2
  | @as x n i c0 b0 su np po hds hs is gA hc hN hi hln ht hq r ih =>
    obtain ⟨l, hk, hw⟩ := ih
    refine ⟨(c0, some i, tAsV X C m i is nms gA) :: l, .as hc hN hi hln (fun a oe cls dd pn hz hf => ⟨fun pi s σ H D I q => ?_⟩) hk, fun Wo Dd H Z ι Γ M σ cls dd c d hcm x sl hr h => ?_⟩
    · obtain ⟨Z, ι, Γ, M, c, dx, d, h1, h2, rfl, rfl, sl, hr, h⟩ := q
      obtain ⟨ts, ps, qs⟩ := hq a oe c dx pn h1 h2 hz hf
      exact ps.run pi s σ H D I (qs D σ H Z ι _ M sl hr h)
    · refine ⟨is c, by rw [x.1]; exact ht c hcm, fun hb a ha => ?_, fun hb => ?_⟩
      · have h2 : PostS X C Wo H Z ι M (if is c = true then (if i < Γ.length then allA fun a dx => ((gA c a dx (Γ.set i (some (.exv a dx (nms c) d))) M).noExc).unset i else .bad) else pickH2 nms hs c d Γ M) Dd := h
        rw [if_pos hb] at h2
        obtain ⟨x1, dx, v, x2, x3, x4⟩ := x
        rw [hn c hcm] at x3
        by_cases li : i < Γ.length
        · rw [if_pos li] at h2
          have q := allA_at a dx h2.bad_no
          rw [q] at h2
          exact ⟨Z, ι, Γ, M, c, dx, d, hcm, hb, x1, x2, sl.set i (.exv x3 x4), hr, h2.unset.noExc⟩
        · rw [if_neg li] at h2
          exact h2.elim
      · have h2 : PostS X C Wo H Z ι M (if is c = true then (if i < Γ.length then allA fun a dx => ((gA c a dx (Γ.set i (some (.exv a dx (nms c) d))) M).noExc).unset i else .bad) else pickH2 nms hs c d Γ M) Dd := h
        rw [if_neg (by rw [hb]; decide)] at h2
        exact hw Wo Dd H Z ι Γ M σ cls dd c d hcm x sl hr h2
/-! defs that call what they get, in a try at their head -/
noncomputable def gAskB (m : Nat) (nms : Nat → Str) (hs : List Hd2) (g2 : GS) (t : List MO → R D) : GS := fun Γ M => ((gExpr (fun _ M => t M) Γ M).caught2 m nms hs).next g2
noncomputable def frA (n m : Nat) (nms : Nat → Str) (hs : List Hd2) (g2 : GS) (t : List MO → R D) (M : List MO) : R D := finW (gAskB m nms hs g2 t (List.replicate n none) M)
/-- the def at f calls its only parameter a: computed by Fr from the meaning of that call -/
structure AskQ (P : Program) (w : World) (K : PySem.W.Frag) (mg : Str → Option Value) (base : Heap) (C : CT) (k : Nat) (f : Addr) (N : List Str) (qual : Str) (sc : Scope) (a : Str) (Fr : (List MO → R D) → List MO → R D) : Prop where
  run : ∀ (A : Around) (outer : List PySem.Env) (s : Shared) (H : Hp) (u : Addr) (Q : VK) (E : XK) (Z : Hp) (ι : Nat → Addr) (M : List MO) (t : List MO → R D), Room k A → A.guards = some [] → Env0 P w K mg base A outer s H → HR K H Z ι M →
    (∀ (cdv : Value) (V : WX) (pn : List (Addr × Obj)) (xe : Value → Shared → Prop) (p1 p2 : Pos), Takes ((cxOf (L2.CX P w) P w K mg base N qual sc f cdv A outer s H E).tr pn xe) V →
      PE ((cxOf (L2.CX P w) P w K mg base N qual sc f cdv A outer s H E).tr pn xe) (.Call (.Name a p1) [] [] p2) (fun σ H' Q' => σ[0]? = some (some (.ref u)) ∧ H' = H ∧ Post (cxOf (L2.CX P w) P w K mg base N qual sc f cdv A outer s H E) C V (rpE K) σ H Z ι M (t M) Q')) →
    PostF K C E H Z ι M (Fr t M) Q → codeAny (model P w) A (.call (.ref f) ⟨[.ref u], []⟩) (CR (L2.CX P w) outer P w H s Q E) s
section
variable {P : Program} {w : World} {K : PySem.W.Frag} {mg : Str → Option Value} {base : Heap} {C : CT}
theorem ask_of {x qual : Str} {st : Stmt} {f : Addr} {fd : FuncData} {N : List Str} {a : Str} {k m : Nat} {nms : Nat → Str} {h0 : ExceptHandler} {hds : List ExceptHandler} {hl : List Hd2} {rest : List Stmt} {g2 : GS} {p1 p2 p3 p4 : Pos} (F : Fun K x qual st f fd) (S : FnScope N [a] (defScope st)) (bi : Binds K fd [a] [])
    (hst : defBody st = .Try [.Expr (.Call (.Name a p1) [] [] p2) p3] (h0 :: hds) [] [] p4 :: rest) (hn : ∀ j, j < m → C.nm j = nms j)
    (hh : ∀ (cdv : Value) (A : Around) (outer : List PySem.Env) (s : Shared) (H : Hp) (E : XK), Room k (A.deeper (envOfC qual (defScope st) s.heap.objs.size f cdv)) → A.guards = some [] → HdV (cxOf (L2.CX P w) P w K mg base N qual (defScope st) f cdv A outer s H E) C m (h0 :: hds) hl)
    (hrest : ∀ (cdv : Value) (A : Around) (outer : List PySem.Env) (s : Shared) (H : Hp) (E : XK), Room k (A.deeper (envOfC qual (defScope st) s.heap.objs.size f cdv)) → A.guards = some [] → QSs (cxOf (L2.CX P w) P w K mg base N qual (defScope st) f cdv A outer s H E) C (fun cls d _ H => E cls d H) rest g2)
    (hsw : ∀ env : PySem.Env, swapsWith (.Call (.Name a p1) [] [] p2) none p3.line env = pure false := by intro _; rfl) :
    AskQ P w K mg base C (k + 1) f N qual (defScope st) a (frA N.length m nms hl g2) := by
  obtain ⟨oc, od, kV, doc, pm, an, cdv, ct, osl, rfl, lk, hcd⟩ := F.ex
  refine ⟨fun A outer s H u Q E Z ι M t room hgu env0 hr act hpost => ?_⟩
  have hK : K.In s.heap := env0.mod.kin.keeps fun b o z => (env0.bs b o z).1
  have hlim : s.heap.NoLimit := env0.mod.nolimit.keeps fun b o z => (env0.bs b o z).1
  have hbind := bi s [.ref u] hK rfl
  have kinds : ∀ y ∈ [a].zip [Value.ref u], (defScope st).names.lookup y.1 = some .local ∨ ((defScope st).names.lookup y.1 = some .cell ∧ ((cellsFrom (s.heap.objs.size + 1) (defScope st).names []).lookup y.1).isSome = true) := fun y hy => by
    rcases S.par y.1 (List.of_mem_zip (a := y.1) (b := y.2) hy).1 with z | z
    · exact .inl z
    · exact .inr ⟨z, PySem.W.cellsFrom_some _ _ _ (.inl z)⟩
  refine codeAny_call_function room.depth (hK _ _ lk) rfl S.co S.gen rfl (PySem.W.codeRec_of hK hcd) (hbind _ _ _ _ (wpAny_newFunctionEnv_cells S.kind kinds fun env he s1 ic => ?_))
  subst he
  refine ⟨hlim.keeps ic.toInCall.keep, codeAny_func ?_⟩
  have room' := room.deeper (envOfC qual (defScope st) s.heap.objs.size f cdv)
  obtain ⟨lk2, hk2, hw2⟩ := (hh cdv A outer s H E room' hgu).toK hn
  obtain ⟨tr, pr, qr⟩ := hrest cdv A outer s H E room' hgu
  have tk0 : Takes (cxOf (L2.CX P w) P w K mg base N qual (defScope st) f cdv A outer s H E) (fun cls d _ H => E cls d H) := takes_of rfl rfl rfl rfl
  have J : Inv (cxOf (L2.CX P w) P w K mg base N qual (defScope st) f cdv A outer s H E) [] (L2.start N [V.ref u]) H s1 := inv_start S room.hd env0 rfl (.cons rfl .nil) ic
  have lN : 1 ≤ N.length := by
    have z := congrArg List.length S.pre
    rw [List.length_take] at z
    simp at z
    omega
  have slot0 : (L2.start N [V.ref u])[0]? = some (some (V.ref u)) := by
    unfold L2.start
    rfl
  have sl0 : ∀ {Z1 : Hp} {ι1 : Nat → Addr} {n1 : Nat}, Slots K Z1 ι1 n1 (List.replicate N.length none) (L2.start N [V.ref u]) := fun {Z1 ι1 n1} => by
    refine ⟨by unfold L2.start; simp; omega, fun i d h => ?_⟩
    rw [List.getElem?_replicate] at h
    split at h <;> cases h
  have pt := ps_tryK (X := cxOf (L2.CX P w) P w K mg base N qual (defScope st) f cdv A outer s H E) (Wo := fun cls d _ H => E cls d H) (pos := p4)
    (tb := fun V Dd σ H' => σ[0]? = some (some (.ref u)) ∧ H' = H ∧ Post (cxOf (L2.CX P w) P w K mg base N qual (defScope st) f cdv A outer s H E) C V (rpE K) σ H Z ι M (t M) (fun _ H'' => Dd.nx σ H'')) rfl rfl tk0
    (fun V pn xe tk _ => pss_one (ps_expr (act cdv V pn xe p1 p2 tk) (hsw _))) hk2
  have body := pss_cons pt pr
  rw [← hst] at body
  have hp2 := finW_run (X := cxOf (L2.CX P w) P w K mg base N qual (defScope st) f cdv A outer s H E) (W := fun cls d _ H => E cls d H) (E := E) (fun _ _ _ _ z => z) rfl hpost
  refine wpAny_mono (body.run [] s1 (L2.start N [V.ref u]) H { nx := fun _ H' => Q .non H', rt := Q } J ?_) (fun fl s' hs => ?_) fun _ _ hs => hs
  · refine ⟨slot0, rfl, ?_⟩
    dsimp only [gAskB, gExpr] at hp2
    cases et : t M with
    | bad => rw [et] at hp2; exact hp2.elim
    | ok d M1 =>
      rw [et] at hp2
      intro b H' Z' ι' e hr' r
      have h3 : PostS (cxOf (L2.CX P w) P w K mg base N qual (defScope st) f cdv A outer s H E) C (fun cls d _ H => E cls d H) H Z ι M (g2 (List.replicate N.length none) M1) { nx := fun _ H' => Q .non H', rt := Q } := hp2
      exact qr _ _ H' Z' ι' _ M1 sl0 hr' (h3.shift e hr')
    | exc c d M1 =>
      rw [et] at hp2
      intro cls dd H' Z' ι' e hr' xr
      have h3 : PostS (cxOf (L2.CX P w) P w K mg base N qual (defScope st) f cdv A outer s H E) C (fun cls d _ H => E cls d H) H Z ι M (((if c < m then pickH2 nms hl c d (List.replicate N.length none) M1 else .bad)).next g2) { nx := fun _ H' => Q .non H', rt := Q } := hp2
      by_cases hc : c < m
      · rw [if_pos hc] at h3
        have h4 := PostS.next (nx := fun σ2 H2 => tr { nx := fun _ H' => Q .non H', rt := Q } σ2 H2) (h3.shift e hr') fun Γ1 M2 σ1 H1 Z1 ι1 e1 hr1 sl1 h1 => qr _ σ1 H1 Z1 ι1 Γ1 M2 sl1 hr1 h1
        exact hw2 _ _ H' Z' ι' _ M1 _ cls dd c d hc xr sl0 hr' h4
      · rw [if_neg hc] at h3
        exact h3.elim
  · have ends : ∀ {σ' : L2.St} {H' : Hp} {v : V} {u : Value}, Inv (cxOf (L2.CX P w) P w K mg base N qual (defScope st) f cdv A outer s H E) [] σ' H' s' → RelV v u → Q v H' → CE outer P w H s Q u s' :=
      fun {σ' H' v u} J2 rv q => ⟨v, H', J2.os, J2.bare, J2.base, J2.hok, rv, q⟩
    cases fl with
    | ret u => exact let ⟨v, σ', H', J2, rv, q⟩ := hs; ends J2 rv q
    | next => exact let ⟨σ', H', J2, q⟩ := hs; ends (v := V.non) (u := Value.none) J2 rfl q
    | brk => exact let ⟨_, _, _, q⟩ := hs; q.elim
    | cont => exact let ⟨_, _, _, q⟩ := hs; q.elim
end
end Bk

set_option Elab.async false
set_option linter.all false
set_option maxRecDepth 100000
set_option maxHeartbeats 4000000
namespace Bk
open PySem PySem.Spec PyProof.Rows L2
/-! ### a lambda handed to a def that calls it; lists of lambdas walked -/
/-- the words of a lambda, and what its body computes in the maker's names -/
abbrev LTab := List (LSy × GE)
noncomputable def askOf (tb : LTab) (cl : List (Str × Addr)) : D → Option GE
  | .lam l cl' => match tb[l.ix]? with
    | some (l', g) => open Classical in if l = l' ∧ cl' = cl then some g else none
    | none => none
  | _ => none
noncomputable def gAsk (tb : LTab) (cl : List (Str × Addr)) (Fr : (List MO → R D) → List MO → R D) (ga : GE) : GE := fun Γ M => (ga Γ M).bind fun x M1 => match askOf tb cl x with
  | some g => Fr (fun M2 => g Γ M2) M1
  | none => .bad
noncomputable def gAskB2 (tb : LTab) (cl : List (Str × Addr)) (Fr : (List MO → R D) → List MO → R D) (own : List Nat) (i : Nat) : GE := fun Γ M => match Γ[i]? with
  | some (some d) => match askOf tb cl d with
    | some g => Fr (fun M2 => g (forget Γ own) M2) M
    | none => .bad
  | _ => .bad
theorem askOf_some {tb : LTab} {cl : List (Str × Addr)} {d : D} {g : GE} (h : askOf tb cl d = some g) : ∃ l, d = .lam l cl ∧ (l, g) ∈ tb := by
  unfold askOf at h
  split at h
  · rename_i l cl'
    split at h
    · rename_i l' g' e
      split at h
      · rename_i q
        obtain ⟨rfl, rfl⟩ := q
        cases h
        exact ⟨l, rfl, List.mem_of_getElem? e⟩
      · cases h
    · cases h
  · cases h
theorem askOf_at {tb : LTab} {cl : List (Str × Addr)} {l : LSy} {g : GE} (h : tb[l.ix]? = some (l, g)) : askOf tb cl (.lam l cl) = some g := by
  unfold askOf
  simp [h]
/-- the body of l computes g -/
structure QLam (X : Cx) (C : CT) (k : Nat) (l : LSy) (g : GE) : Prop where
  sc : LamX.LamS X.env.scope l.scope
  q : l.qual = X.env.qual
  bind : ∀ (q : Str) (cs : List (Str × Addr)) (pm cv ct : Value), bindArgs (PySem.W.kla_fn "<lambda>" q l.params l.body l.scope cs pm cv ct) ⟨[], []⟩ = pure []
  body : ∀ (B : Around) (outer : List PySem.Env) (s1 : Shared) (H1 : Hp) (E : XK) (f c' : Addr), Room k (B.deeper (LamX.lamEnv X l.scope s1.heap.objs.size f c')) → B.guards = some [] → QE (LamX.lamCx X B outer s1 H1 E l.scope f c') C (fun cls d _ H => E cls d H) l.body g
def QTab (X : Cx) (C : CT) (k : Nat) (tb : LTab) : Prop := ∀ p ∈ tb, QLam X C k p.1 p.2
theorem qtab_nil {X : Cx} {C : CT} {k : Nat} : QTab X C k [] := fun _ h => nomatch h
theorem qtab_cons {X : Cx} {C : CT} {k : Nat} {l : LSy} {g : GE} {tb : LTab} (h : QLam X C k l g) (r : QTab X C k tb) : QTab X C k ((l, g) :: tb) := fun p hp => by
  rcases List.mem_cons.mp hp with e | e
  · rw [e]; exact h
  · exact r p e
section
variable {X : Cx} {C : CT} {W : WX} {pins : List (Addr × Obj)} {σ : L2.St} {H : Hp} {s : Shared} {k k' : Nat} {f : Addr} {N : List Str} {qual : Str} {sc : Scope} {a : Str} {Fr : (List MO → R D) → List MO → R D}
theorem ask_code (I : Inv X pins σ H s) (AQ : AskQ X.prog X.w X.K X.mg X.base C k f N qual sc a Fr) (hr : Room k X.A) (hr2 : Room (k' + 2) X.A) (hgu : X.A.guards = some []) {l : LSy} {g : GE} (ql : QLam X C k' l g) {u : Addr} {Q : VK} {E : XK} {Z : Hp} {ι : Nat → Addr} {Γ : Bk.Env} {M : List MO} (hR : HR X.K H Z ι M) (sl : Slots X.K Z ι M.length Γ σ)
    (r : Rp X.K Z ι M.length (.lam l X.env.cells) (.ref u)) (hN : N[0]? = some a) (hv : Vis sc a) (hp : PostF X.K C E H Z ι M (Fr (fun M2 => g Γ M2) M) Q) (hd : (a == ("__debug__" : Str)) = false) (hcd : (a == ("__classdict__" : Str)) = false) :
    codeAny (model X.prog X.w) X.A (.call (.ref f) ⟨[.ref u], []⟩) (CR (L2.CX X.prog X.w) X.stack X.prog X.w H s Q E) s := by
  refine AQ.run X.A X.stack s H u Q E Z ι M (fun M2 => g Γ M2) hr hgu I.env0 hR (fun cdv V pn xe p1 p2 tk => ?_) hp
  have act := pe_actQ (CXg := L2.CX X.prog X.w) (l := l) (k := k') (i := 0) (p1 := p1) (p2 := p2) (tb := fun E' σ' H' Q' => ∃ (Z : Hp) (ι : Nat → Addr) (Γ : Bk.Env) (M : List MO), Slots X.K Z ι M.length Γ σ' ∧ HR X.K H' Z ι M ∧ Post X C (fun cls d _ H => E' cls d H) (rpE X.K) σ' H' Z ι M (g Γ M) Q') I ql.sc ql.q ql.bind tk (hr2.deeper _)
    (fun B outer s1 H1 E' f1 c1 rm gu => by
      obtain ⟨te, pe, qe⟩ := ql.body B outer s1 H1 E' f1 c1 rm gu
      exact ⟨fun pins1 s2 σ2 H2 Q2 I2 h => pe.run pins1 s2 σ2 H2 Q2 I2 (let ⟨Z, ι, Γ, M, h1, h2, h3⟩ := h; qe σ2 H2 Z ι Γ M Q2 h1 h2 (h3.blk rfl))⟩) hgu hN hv hd hcd
  refine ⟨fun pins1 s2 σ2 H2 Q2 I2 h => act.run pins1 s2 σ2 H2 Q2 I2 ?_⟩
  obtain ⟨h1, h2, h3⟩ := h
  subst h2
  cases r with
  | @lam l1 cl1 a1 c1 z1 z2 =>
    refine ⟨u, c1, h1, hR.sub _ _ z1, hR.sub _ _ z2, Z, ι, Γ, M, sl, hR, ?_⟩
    cases eg : g Γ M with
    | bad => rw [eg] at h3; exact h3.elim
    | ok d M' => rw [eg] at h3; exact h3
    | exc c d M' => rw [eg] at h3; exact h3
/-- what an element of a comprehension asks of the maker's state when the comprehension began -/
def TEown (own : List Nat) (σ : L2.St) (te : TE) : TE := fun σ2 H2 Q => wipe σ2 own = wipe σ own ∧ te σ2 H2 Q
/-- [elt for tg in iter if ..], its elements read with what the maker's names hold -/
theorem lc_coreM {σ : L2.St} {H : Hp} {Q : VK} {elt tg iter : Expr} {ifs : List Expr} {scope : Scope} {own : List (Str × Nat)} {pos pos' : Pos} {wi : TI} {g : TG} {tt : TT} {te : TE} {use : Option (Value → Sem Unit)} {Qf : Value → Shared → Prop} (hc : X.calm = true) (hN : X.N.Nodup) (I : Inv X pins σ H s) (hi : PI X tg iter wi)
    (ok : BlkOk X.N X.env.scope scope own) (hg : Blk X scope fun Y => PG Y tg g) (ht : Blk X scope fun Y => PTs Y ifs tt)
    (he : ∀ (s3 : Shared) (H3 : Hp) (c3 : Addr) (cl : List (Str × Addr)) (fp : List Addr), Inv X pins σ H3 s3 → (∀ b ∈ fp, (b ∈ X.ex ∨ X.s_0.heap.objs.size ≤ b) ∧ b ≠ X.env.locals ∧ (∀ x c, X.env.cells.lookup x = some c → c ≠ b) ∧ ∀ p ∈ X.pn ++ pins, p.1 ≠ b) → PE (X.blk s3 H3 scope (compEnvC scope cl c3 X.env) fp) elt (TEown (own.map (·.2)) σ te))
    (hs : ∀ x, foldedSetIterable iter X.env x = pure x) (h : tLc wi g tt te (own.map (·.2)) σ H Q)
    (hR : ∀ D c s' m H', Inv X pins σ H' s' → Q (.ref D) H' → s'.heap.Ns c m → FpOk X pins H' c → compPost (model X.prog X.w) X.A X.xe use Qf (.ref D) c (.ok .next) s') :
    wpAny (model X.prog X.w) X.A (comprehension (.ListComp elt [⟨tg, iter, ifs, 0⟩] scope pos) scope X.env pos' (newList []) false (eval iter X.env) use) Qf X.xe s := by
  have frees : ∀ y ∈ scope.names, y.2 = .free → ∃ c, X.env.cells.lookup y.1 = some c := fun y hy q => (ok.free y hy q).elim (fun z => I.ok.has _ (.inl z)) fun z => I.ok.has _ (.inr z)
  refine wpAny_comprehension_free (use := use) rfl hs (closure_ok frees) ok.kind (fun y hy q => by rw [ok.uniq y hy, q]) (thn (hi.run pins s σ H _ I h) fun xv s1 hx => thn hx fun itv s2 hw2 => ?_)
  obtain ⟨it, fp, tn, J, H2, eit, I2, T, st2, f2, q2⟩ := hw2
  subst eit
  refine wpAny_newObj_type (newEnv_comp ?_) (by show 0 ≤ sizeLine; decide)
  generalize hDz : s2.heap.objs.size = D
  have freeD : H2 D = none := I2.hok.fresh (Nat.le_of_eq hDz)
  obtain ⟨W0, ⟨m0, w0⟩, step⟩ := q2 D freeD
  generalize hs3 : ({ s2 with heap := s2.heap.push { cls := .type "list", data := .seq ([] : List Value).toArray } } : Shared) = s3
  have hp3 : s3.heap = s2.heap.push { cls := .type "list", data := .seq ([] : List Value).toArray } := by rw [← hs3]
  have I3 : Inv X pins σ (upd H2 D (.lst [])) s3 := by
    rw [← hs3]
    refine I2.laid (t' := s2.toks) (fun b o q => Heap.get?_push_of_some _ q) (Nat.le_of_eq hDz) ⟨Nat.zero_le _, [], 0, .nil, ?_⟩
    rw [← hDz]
    exact Heap.get?_push_size _ rfl
  have lowFp : ∀ b ∈ fp, b < s2.heap.objs.size := fun b hb => let ⟨o, q, _⟩ := T.obj _ _ st2 b hb; Heap.lt_size q
  have fp3 : ∀ b ∈ fp, FpOk X pins (upd H2 D (.lst [])) b ∧ b < s3.heap.objs.size := fun b hb => by
    have lo := lowFp b hb
    refine ⟨⟨?_, (f2 b hb).2⟩, by rw [hp3, Heap.size_push]; exact Nat.lt_succ_of_lt lo⟩
    rw [upd_ne (by rw [← hDz]; exact Nat.ne_of_lt lo)]
    exact (f2 b hb).1
  have st3 : tn 0 s3.heap := T.keep _ _ _ st2 fun b _ o q => by rw [hp3]; exact Heap.get?_push_of_some _ q
  have I4 := block_start I3 ok hN fp3
  have chk : ∀ b ∈ fp, (b ∈ X.ex ∨ X.s_0.heap.objs.size ≤ b) ∧ b ≠ X.env.locals ∧ (∀ x c, X.env.cells.lookup x = some c → c ≠ b) ∧ ∀ p ∈ X.pn ++ pins, p.1 ≠ b := fun b hb => ⟨(fp3 b hb).1.2.2.2.1, (fp3 b hb).1.2.1, (fp3 b hb).1.2.2.2.2.1, (fp3 b hb).1.2.2.2.2.2⟩
  have rg := hg s3 (upd H2 D (.lst [])) s3.heap.objs.size (cellsFrom (s3.heap.objs.size + 1) scope.names (cloFrom X.env.cells scope.names [])) fp
  have rt := ht s3 (upd H2 D (.lst [])) s3.heap.objs.size (cellsFrom (s3.heap.objs.size + 1) scope.names (cloFrom X.env.cells scope.names [])) fp
  have re := he s3 (upd H2 D (.lst [])) s3.heap.objs.size (cellsFrom (s3.heap.objs.size + 1) scope.names (cloFrom X.env.cells scope.names [])) fp I3 chk
  have off3 : ∀ b ∈ fp, (upd H2 D (.lst [])) b = none := fun b hb => (fp3 b hb).1.1
  show codeAny _ _ (.compStart (.ListComp elt [⟨tg, iter, ifs, 0⟩] scope pos) 0 (.ref it) (.ref D) (compEnvC scope (cellsFrom (s3.heap.objs.size + 1) scope.names (cloFrom X.env.cells scope.names [])) s3.heap.objs.size X.env)) (compPost (model X.prog X.w) X.A X.xe use Qf (.ref D) s3.heap.objs.size) { s3 with heap := pushCells (s3.heap.push { cls := .type "dict", data := .dict #[] }) scope.names }
  generalize hcv : compEnvC scope (cellsFrom (s3.heap.objs.size + 1) scope.names (cloFrom X.env.cells scope.names [])) s3.heap.objs.size X.env = cv at I4 rg rt re ⊢
  have locC : cv.locals = s3.heap.objs.size := by subst hcv; rfl
  generalize hH3 : upd H2 D (.lst []) = H3 at I3 I4 rg rt re w0 off3 fp3
  generalize hs4 : ({ s3 with heap := pushCells (s3.heap.push { cls := .type "dict", data := .dict #[] }) scope.names } : Shared) = s4 at I4 ⊢
  have st4 : tn 0 s4.heap := T.keep _ _ _ st3 fun b _ o q => by rw [← hs4]; exact pushCells_keeps _ _ _ _ (Heap.get?_push_of_some _ q)
  have stays : ∀ {σ' : L2.St} {H' : Hp} {s' : Shared}, Inv (X.blk s3 H3 scope cv fp) [] σ' H' s' → (∀ b ∈ fp, H' b = none) → ∀ b ∈ fp, FpOk (X.blk s3 H3 scope cv fp) [] H' b := fun {σ' H' s'} I' hn b hb =>
    ⟨hn b hb, (I'.ok.exf b hb).1, I'.ok.exfs b hb, .inl hb, fun x c q => (I'.ok.exf b hb).2 x c q, fun p hp => absurd (show p ∈ ([] : List (Addr × Obj)) ++ [] from hp) (by simp)⟩
  have turns : codeAny (model X.prog X.w) X.A (.compLoop (.ListComp elt [⟨tg, iter, ifs, 0⟩] scope pos) 0 (.ref it) (.ref D) cv) (compPost (model X.prog X.w) X.A X.xe use Qf (.ref D) s3.heap.objs.size) s4 := by
    refine compLoop_any (fun n s' => ∃ i H', Inv (X.blk s3 H3 scope cv fp) [] (wipe σ (own.map (·.2))) H' s' ∧ tn i s'.heap ∧ (∀ b ∈ fp, H' b = none) ∧ W0 i n H') ?_ m0 ⟨0, H3, I4, st4, off3, w0⟩
    rintro n s5 ⟨i, H5, I5, st5, off5, w5⟩
    rcases step i n H5 w5 with ⟨stop, done⟩ | ⟨go, Nx, hNx, one⟩
    · refine thnF (T.done (X.blk s3 H3 scope cv fp) rfl rfl rfl hc i [] s5 _ H5 (fun _ _ => False) I5 (stays I5 off5) st5 stop) fun r s6 ⟨er, I6⟩ => ?_
      subst er
      have I7 : Inv X pins σ H5 s6 := I3.call' (ch := fp) I6.os I6.base I6.hok I6.bare chk
      have freeC : H5 s3.heap.objs.size = none := by
        have z : H5 cv.locals = none := I6.free
        rw [locC] at z
        exact z
      obtain ⟨m, hn, _⟩ := I6.loc
      have hn : s6.heap.Ns cv.locals m := hn
      rw [locC] at hn
      exact hR D s3.heap.objs.size s6 m H5 I7 done hn (I3.fpOk (Nat.le_refl _) freeC)
    · refine thnF (T.item (X.blk s3 H3 scope cv fp) rfl rfl rfl hc i [] s5 _ H5 (fun _ _ => False) I5 (stays I5 off5) st5 go) fun r s6 ⟨u, er, hit⟩ => ?_
      subst er
      refine thnF hit fun _ s7 ⟨x, H7, I7, r7, y7, st7, off7⟩ => ?_
      have I7p := I7.pinned (stays I7 off7) (T.obj _ _ st7)
      refine thnF (rg.run _ s7 _ H7 x u _ I7p r7 (one x H7 y7)) fun _ s8 ⟨σ8, H8, I8, hw8, k8⟩ => ?_
      refine thnF (rt.run _ s8 σ8 H8 _ I8 k8) fun b s9 ⟨H9, I9, k9⟩ => ?_
      have next : ∀ {s' : Shared} {H' : Hp}, Inv (X.blk s3 H3 scope cv fp) ([] ++ pinsAt fp s7.heap) σ8 H' s' → Nx H' → ∃ m, m < n ∧ ∃ i H', Inv (X.blk s3 H3 scope cv fp) [] (wipe σ (own.map (·.2))) H' s' ∧ tn i s'.heap ∧ (∀ b ∈ fp, H' b = none) ∧ W0 i m H' := fun {s' H'} I' nx => by
        obtain ⟨m', lt', w'⟩ := hNx H' nx
        have held : ∀ b ∈ fp, ∀ o, s7.heap.get? b = some o → s'.heap.get? b = some o ∧ H' b = none := fun b hb o q =>
          let z := I'.pin (b, o) (List.mem_append_right _ (List.mem_append_right _ (mem_pinsAt hb q)))
          ⟨z.1, z.2.1⟩
        have len8 : (wipe σ (own.map (·.2))).length = σ8.length := by rw [← hw8, wipe_length]
        refine ⟨m', lt', i + 1, H', (I'.unpinned (pins := [])).weak len8 (fun j v q => ?_), T.keep _ _ _ st7 fun b hb o q => (held b hb o q).1, fun b hb => ?_, w'⟩
        · rw [← hw8] at q
          exact (wipe_some q).1
        · obtain ⟨o, q, _⟩ := T.obj _ _ st7 b hb
          exact (held b hb o q).2
      cases b with
      | false =>
        simp only [Bool.false_eq_true, if_false] at k9 ⊢
        exact next I9 k9
      | true =>
        simp only [if_true] at k9 ⊢
        refine thnF (re.run _ s9 σ8 H9 _ I9 ⟨hw8, k9⟩) fun z s10 ⟨yv, H10, I10, r10, acc, hD10, hz10, nx⟩ => ?_
        exact app_ok (X := X.blk s3 H3 scope cv fp) I10 hD10 hz10 r10 fun s11 I11 => next I11 nx
  exact codeAny_compStart_list turns (T.self X.A 0 _ _ _ st4 turns)
theorem slots_maker {K : PySem.W.Frag} {Z : Hp} {ι : Nat → Addr} {n : Nat} {Γ : Bk.Env} {σ σ2 : L2.St} {own : List Nat} (sl : Slots K Z ι n Γ σ2) (hw : wipe σ2 own = wipe σ own) : Slots K Z ι n (forget Γ own) σ := by
  have s2 := slots_wipe own sl
  rw [hw] at s2
  refine ⟨by rw [s2.1, wipe_length], fun i d h => ?_⟩
  obtain ⟨v, h1, h2⟩ := s2.2 i d h
  exact ⟨v, (wipe_some h1).1, h2⟩
/-- [f(x) for x in lambdas] -/
theorem qe_lcAsk {tb : LTab} {cl : List (Str × Addr)} {x y : Str} {p pos yp ep : Pos} {tg iter : Expr} {ifs : List Expr} {scope : Scope} {own : List (Str × Nat)} {gi : GI} {gg : GG} {gt : GT} {is ixs : List Nat} {i : Nat} (AQ : AskQ X.prog X.w X.K X.mg X.base C k f N qual sc a Fr) (hr : Room k X.A) (hr2 : Room (k' + 2) X.A) (hgu : X.A.guards = some [])
    (hc : X.calm = true) (hNd : X.N.Nodup) (hi : QI X C W tg iter gi) (ok : BlkOk X.N X.env.scope scope own) (hg : Blk X scope fun Y => QG Y tg gg is) (ht : Blk X scope fun Y => QTs Y C noW ifs gt) (hcl : X.env.cells = cl) (htb : QTab X C k' tb)
    (hgl : Blk X scope fun Y => Gl Y x) (hm : X.mg x = some (.ref f)) (hk : PySem.W.keepIn X.K (.ref f) = true) (hy : X.N[i]? = some y) (hvy : Blk X scope fun Y => Vis Y.env.scope y) (hN : N[0]? = some a) (hv : Vis sc a)
    (hix : ixs = own.map (·.2) := by rfl) (hsub : ∀ i ∈ is, i ∈ own.map (·.2) := by decide) (hs : ∀ x, foldedSetIterable iter X.env x = pure x := by intro _; rfl)
    (hdb : (x == ("__debug__" : Str)) = false := by decide) (hdy : (y == ("__debug__" : Str)) = false := by decide) (hcy : (y == ("__classdict__" : Str)) = false := by decide) (hd : (a == ("__debug__" : Str)) = false := by decide) (hcd : (a == ("__classdict__" : Str)) = false := by decide)
    (he : Blk X scope fun Y => starEach [Expr.Name y yp] Y.env = (false, eval (Expr.Name y yp) Y.env) :: starEach [] Y.env := by intro _ _ _ _ _; rfl) (hpl : Blk X scope fun Y => (backTo ep (starEach [] Y.env)).any (·.1) = false := by intro _ _ _ _ _; rfl) :
    QE X C W (.ListComp (.Call (.Name x p) [.Name y yp] [] ep) [⟨tg, iter, ifs, 0⟩] scope pos) (gLc gi gg gt (gAskB2 tb cl Fr ixs i) ixs) := by
  subst hix hcl
  obtain ⟨wi, pi, qi⟩ := hi
  have rd := lc_read (C := C) (W := W) (gg := gg) (gt := gt) (ge := gAskB2 tb X.env.cells Fr (own.map fun p => p.2) i) (fin := fun acc M2 => .ok (.lst acc) M2) qi hsub fun σ H0 Z0 ι0 M0 p Q acc accV M H Z ι h0 e hr od hp ra h => fin_z h0 e hr od hp ra h
  refine ⟨_, ⟨fun pins s σ H Q I h => ?_⟩, rd⟩
  rw [eval_ListComp]
  refine lc_coreM hc hNd I pi ok (blk_g hg) (blk_t ht) (fun s3 H3 c3 cl3 fp I3 chk => ⟨fun pins2 s2 σ2 H2 Q2 I2 h2 => ?_⟩) hs h fun D C0 s' m H' I' q hn ff => ⟨m, hn, fun h'' sb => ?_⟩
  · obtain ⟨hw, Z, ι, Γ, M, sl, hR, hp⟩ := h2
    refine wpAny_Call_Name_kw (ld_glob I2 (hgl s3 H3 c3 cl3 fp) hm ?_ hdb)
    unfold gAskB2 at hp
    cases eΓ : Γ[i]? with
    | none => rw [eΓ] at hp; exact hp.elim
    | some o =>
      cases o with
      | none => rw [eΓ] at hp; exact hp.elim
      | some d =>
        rw [eΓ] at hp
        simp only at hp
        cases eo : askOf tb X.env.cells d with
        | none => rw [eo] at hp; exact hp.elim
        | some g =>
          rw [eo] at hp
          obtain ⟨l, rfl, hmem⟩ := askOf_some eo
          obtain ⟨v, hv1, hv2⟩ := sl.2 i _ eΓ
          obtain ⟨u, eu⟩ : ∃ u, v = .ref u := by
            cases hv2
            exact ⟨_, rfl⟩
          subst eu
          have pas := pa_cons (pe_var (X := X.blk s3 H3 scope (compEnvC scope cl3 c3 X.env) fp) (pos := yp) hy (hvy s3 H3 c3 cl3 fp) hdy hcy) pa_nil (he s3 H3 c3 cl3 fp)
          refine PySem.W.callWith_K (h₀ := X.base) I2.ok.mod.kin hk (thn (pas.run ep pins2 s2 σ2 H2 (fun vs H1 => vs = [.ref u] ∧ H1 = H2) I2 ⟨.ref u, hv1, rfl, rfl⟩) fun us s4 hh => ?_) (he s3 H3 c3 cl3 fp) (hpl s3 H3 c3 cl3 fp)
          obtain ⟨vs, H4, J, r, rfl, rfl⟩ := hh
          cases r with
          | cons r0 rr =>
            cases rr
            cases r0
            have IM : Inv X pins σ H4 s4 := I3.call' (ch := fp) J.os J.base J.hok J.bare chk
            refine ⟨J.kIn, wpAny_call (codeAny_mono (ask_code (E := WE noW σ2) (Q := Q2) IM AQ hr hr2 hgu (htb _ hmem) hR (slots_maker sl hw) hv2 hN hv ?_ hd hcd) fun r s' hq => ?_)⟩
            · have h2 : Post X C noW (rpE X.K) σ2 H4 Z ι M (Fr (fun M2 => g (forget Γ (own.map (·.2))) M2) M) Q2 := hp
              cases eF : Fr (fun M2 => g (forget Γ (own.map (·.2))) M2) M with
              | bad => rw [eF] at h2; exact h2.elim
              | ok d M' => rw [eF] at h2; exact h2
              | exc c d M' => rw [eF] at h2; exact h2
            · cases r with
              | error e => exact passAt (takes_no (X := X.blk s3 H3 scope (compEnvC scope cl3 c3 X.env) fp)) σ2 pins2 H4 s4 e s' J hq
              | ok fl =>
                cases fl with
                | ret u => exact J.after hq
                | next => exact hq.elim
                | brk => exact hq.elim
                | cont => exact hq.elim
  · obtain ⟨f0, f1, f2, f3, f4, f5⟩ := ff
    exact ⟨.ref D, H', I'.turned (t' := s'.toks) (fun b o hb e => (sb.2 b hb).trans e) f0 f1 f3 f4 f5, rfl, q⟩
end
@[simp] theorem u_gAsk (tb : LTab) (cl : List (Str × Addr)) (Fr : (List MO → R D) → List MO → R D) (ga : GE) (Γ : Bk.Env) (M : List MO) : gAsk tb cl Fr ga Γ M = ((ga Γ M).bind fun x M1 => match askOf tb cl x with
  | some g => Fr (fun M2 => g Γ M2) M1
  | none => .bad) := Eq.trans rfl rfl
end Bk

set_option Elab.async false
set_option linter.all false
set_option maxRecDepth 100000
set_option maxHeartbeats 2000000
namespace Bk
open PySem PySem.Spec PyProof.Rows L2
/-! ### the law's own call, where defs make lambdas -/
/-- makers: each with its name, its code object, its table -/
abbrev Mkr := Str × Addr × Addr
theorem nodup_at {α : Type} : ∀ {l : List α} {i j : Nat}, l.Nodup → (hi : i < l.length) → (hj : j < l.length) → l[i] = l[j] → i = j
  | [], i, _, _, hi, _, _ => absurd hi (Nat.not_lt_zero _)
  | a :: l, 0, 0, _, _, _, _ => rfl
  | a :: l, 0, j + 1, h, hi, hj, e => by
    have hj' : j < l.length := by simpa using hj
    have e' : a = l[j] := e
    exact absurd (by rw [e']; exact List.getElem_mem hj') (List.nodup_cons.mp h).1
  | a :: l, i + 1, 0, h, hi, hj, e => by
    have hi' : i < l.length := by simpa using hi
    have e' : l[i] = a := e
    exact absurd (by rw [← e']; exact List.getElem_mem hi') (List.nodup_cons.mp h).1
  | a :: l, i + 1, j + 1, h, hi, hj, e => by
    have hi' : i < l.length := by simpa using hi
    have hj' : j < l.length := by simpa using hj
    have q := nodup_at (List.nodup_cons.mp h).2 hi' hj' e
    rw [q]
theorem law_qT {P : Program} {w : World} {K : PySem.W.Frag} {mg mb : Str → Option Value} {C : CT} {k : Nat} {fa a : Addr} {ms : List Mkr} {fd : FuncData} {x : Str} {F : List D → List MO → R D} {s₁ : Shared} {vs : List Value} {ns : List Int}
    (KX : K.In s₁.heap) (hns : s₁.heap.Ns mainGlobals mg) (hb : s₁.heap.Ns builtinsNs mb) (hbb : ∀ x : Str, x ≠ "__name__" → mb x = bootBuiltins x) (hlim : s₁.heap.NoLimit) (hg : s₁.gens = #[])
    (hT : ∀ p ∈ ms, s₁.heap.get? p.2.2 = some { cls := .none, data := .fields #[] }) (hK : ∀ p ∈ ms, K.lookup p.2.2 = none) (hC : ∀ p ∈ ms, PySem.W.CodeHd s₁.heap p.2.1 p.2.2) (hI : ∀ p ∈ ms, PySem.W.tabIn K p.1 = some (p.2.1, p.2.2)) (hnd : (ms.map (·.2.2)).Nodup)
    (hbm : ∃ (bm : Addr) (ob : Obj), mg "__builtins__" = some (.ref bm) ∧ bm ≠ builtinsNs ∧ s₁.heap.get? bm = some ob ∧ ob.cls = .type "module" ∧ ob.dict = some builtinsNs ∧ ob.data = .plain)
    (ha : s₁.heap.get? a = some { cls := .type "list", data := .seq vs.toArray }) (hi : IntsAre vs ns) (hl : ns.length ≤ sizeLine) (hr : Room k callerA)
    (hF : ∀ base : Heap, K.In base → base.Ns mainGlobals mg → (∀ p ∈ ms, LamX.TabB base mg p.2.1 p.2.2) → FnQ P w K mg base C k fa fd [x] F) (hbind : ∀ (s : Shared) (u : Value), BindsTo s fd ⟨[u], []⟩ [(x, u)]) (hlaw : ∃ M', F [.lst (ns.map D.int)] (ms.map fun p => .tab p.1) = .ok (.bl true) M') :
    codeAny (model P w) callerA (.call (.ref fa) ⟨[.ref a], []⟩) (fun r s' => r = .ok (.ret (.bool true)) ∧ OldK s₁.heap s'.heap ∧ s'.os = s₁.os ∧ AllBare s'.gens) s₁ := by
  have hvals := vals_ints hi
  have hlen := hi.length
  have tabs : ∀ b, b ∈ ms.map (·.2.2) → s₁.heap.get? b = some { cls := .none, data := .fields #[] } := fun b hb => by
    obtain ⟨p, hp, e⟩ := List.mem_map.mp hb
    rw [← e]
    exact hT p hp
  have notA : a ∉ ms.map (·.2.2) := fun z => by
    have q := tabs a z
    rw [ha] at q
    cases (show Data.seq vs.toArray _ = Data.fields #[] from congrArg Obj.data (Option.some.inj q))
  have inT : ∀ p ∈ ms, p.2.2 ∈ ms.map (·.2.2) := fun p hp => List.mem_map.mpr ⟨p, hp, rfl⟩
  have main : ∀ H Z : Hp, (∀ b, b ∈ ms.map (·.2.2) → H b = some (.tbl #[]) ∧ Z b = none) → (∀ b, b ∉ ms.map (·.2.2) → H b = Z b) → (∀ b u, Z b = some u → ∃ o xs, u = .frz o (.lst xs)) → ExL K Z a (ns.map V.int) → HOk P w H s₁.heap → (∀ b, Z b ≠ none → b = a) → (Z a ≠ none → K.lookup a = none) →
      codeAny (model P w) callerA (.call (.ref fa) ⟨[.ref a], []⟩) (fun r s' => r = .ok (.ret (.bool true)) ∧ OldK s₁.heap s'.heap ∧ s'.os = s₁.os ∧ AllBare s'.gens) s₁ := by
    intro H Z hH hZ only seq hok alone apart
    have sub : Sub Z H := fun b o e => by
      by_cases hb : b ∈ ms.map (·.2.2)
      · rw [(hH b hb).2] at e
        cases e
      · rw [hZ b hb]
        exact e
    have zero : ∀ b, H b ≠ none → b = a ∨ b ∈ ms.map (·.2.2) := fun b z => by
      by_cases hb : b ∈ ms.map (·.2.2)
      · exact .inr hb
      · rw [hZ b hb] at z
        exact .inl (alone b z)
    have free : ∀ {b : Addr} {o : Obj}, s₁.heap.get? b = some o → (∀ us n, o.data ≠ .seq us n) → o.data ≠ .fields #[] → H b = none := fun {b o} e h1 h2 => by
      refine Classical.byContradiction fun z => ?_
      rcases zero b z with q | q
      · rw [q, ha] at e
        cases e
        exact h1 _ _ rfl
      · rw [tabs b q] at e
        cases e
        exact h2 rfl
    have freeD : ∀ {b : Addr} {o : Obj} {es : Array DictEntry} {ep : Nat}, s₁.heap.get? b = some o → o.data = .dict es ep → H b = none := fun {b o es ep} e d =>
      free e (fun us n z => by rw [d] at z; cases z) fun z => by rw [d] at z; cases z
    have stays : ∀ {b : Addr} {m : Str → Option Value}, s₁.heap.Ns b m → (hidT s₁.heap H).Ns b m := fun {b m} z =>
      let ⟨o, es, ep, e, d, r⟩ := z
      ⟨o, es, ep, hidT_get e (freeD e d), d, r⟩
    have kin : K.In (hidT s₁.heap H) := fun b o e => hidT_get (KX b o e) (by
      refine Classical.byContradiction fun z => ?_
      by_cases hb : b ∈ ms.map (·.2.2)
      · obtain ⟨p, hp, q⟩ := List.mem_map.mp hb
        rw [← q, hK p hp] at e
        cases e
      · rw [hZ b hb] at z
        have eb : b = a := alone b z
        subst eb
        rw [apart z] at e
        cases e)
    have hmod : Mod K mg (hidT s₁.heap H) := ⟨kin, stays hns, ⟨mb, stays hb, hbb⟩, let ⟨m, h1, h2⟩ := hlim; ⟨m, stays h1, h2⟩⟩
    have TB : ∀ p ∈ ms, LamX.TabB (hidT s₁.heap H) mg p.2.1 p.2.2 := fun p hp => by
      have tp := hT p hp
      refine ⟨?_, ?_, fun z => ?_⟩
      · obtain ⟨o, us, file, tf, flags, tg, inF, text, tt, e1, r1, r2, r3, r4, r5, r6, r7, r8, dist⟩ := hC p hp
        refine ⟨o, us, file, tf, flags, tg, inF, text, tt, hidT_get e1 (free e1 (fun vs n z => ?_) fun z => ?_), r1, r2, r3, r4, r5, r6, r7, r8, dist⟩
        · rw [r2] at z
          cases z
        · rw [r2] at z
          cases z
          simp at r3
      · obtain ⟨bm, ob, b1, b2, b3, b4, b5, b6⟩ := hbm
        have offG : bm ≠ mainGlobals := fun q => by
          obtain ⟨o, es, ep, e, hd, _⟩ := hns
          rw [q, e] at b3
          cases b3
          rw [hd] at b6
          cases b6
        have offP : bm ≠ p.2.2 := fun q => by
          rw [q, tp] at b3
          cases b3
          cases b6
        refine ⟨bm, ob, b1, b2, offG, offP, hidT_get b3 (free b3 (fun vs n z => ?_) fun z => ?_), b4, b5, b6⟩
        · rw [b6] at z
          cases z
        · rw [b6] at z
          cases z
      · obtain ⟨o, es, ep, e, hd, _⟩ := hns
        rw [z, tp] at e
        cases e
        cases hd
    have env0 : Env0 P w K mg (hidT s₁.heap H) callerA [] s₁ H :=
      ⟨rfl, hmod, fun b o e => of_hidT e, Nat.le_of_eq (hidT_size _ _), trivial, fun b z => absurd (show b ∈ ([] : List Addr) from z) (by simp), hok, AllBare.of_eq hg⟩
    have at_ : ∀ {j : Nat} {o : MO}, (ms.map fun p => MO.tab p.1)[j]? = some o → ∃ p, ms[j]? = some p ∧ o = .tab p.1 := fun {j o} e => by
      rw [List.getElem?_map] at e
      cases q : ms[j]? with
      | none => rw [q] at e; cases e
      | some p => rw [q] at e; exact ⟨p, rfl, (Option.some.inj e).symm⟩
    have ιat : ∀ {j : Nat} {p : Mkr}, ms[j]? = some p → (ms.map (·.2.2)).getD j 0 = p.2.2 := fun {j p} e => by
      rw [List.getD_eq_getElem?_getD, List.getElem?_map, e]
      rfl
    have hr0 : HR K H Z (fun j => (ms.map (·.2.2)).getD j 0) (ms.map fun p => .tab p.1) := by
      refine ⟨sub, fun j hj => ?_, fun j o e _ => ?_, fun i j o u e1 e2 _ _ e => ?_, fun j o e => ?_, fun j e => ?_⟩
      · rw [List.length_map] at hj
        have q : ms[j]? = some ms[j] := List.getElem?_eq_getElem hj
        show ∃ o, H ((ms.map (·.2.2)).getD j 0) = some o
        rw [ιat q]
        exact ⟨_, (hH _ (inT _ (List.getElem_mem hj))).1⟩
      · obtain ⟨p, q, rfl⟩ := at_ e
        show Z ((ms.map (·.2.2)).getD j 0) = none
        rw [ιat q]
        exact (hH _ (inT _ (List.mem_of_getElem? q))).2
      · obtain ⟨p, q1, rfl⟩ := at_ e1
        obtain ⟨r, q2, rfl⟩ := at_ e2
        have e : (ms.map (·.2.2)).getD i 0 = (ms.map (·.2.2)).getD j 0 := e
        have li : i < (ms.map (·.2.2)).length := by rw [List.length_map]; exact (List.getElem?_eq_some_iff.mp q1).1
        have lj : j < (ms.map (·.2.2)).length := by rw [List.length_map]; exact (List.getElem?_eq_some_iff.mp q2).1
        rw [List.getD_eq_getElem?_getD, List.getD_eq_getElem?_getD, List.getElem?_eq_getElem li, List.getElem?_eq_getElem lj] at e
        exact nodup_at hnd li lj e
      · obtain ⟨p, q, rfl⟩ := at_ e
        show TabZ K H Z p.1 ((ms.map (·.2.2)).getD j 0)
        rw [ιat q]
        have hp := List.mem_of_getElem? q
        exact ⟨⟨_, hI p hp⟩, #[], (hH _ (inT p hp)).1, True.intro, fun pos cv hc => by
          have z : codeAmong pos [] = some cv := hc
          simp [codeAmong] at z⟩
      · obtain ⟨p, _, z⟩ := at_ e
        cases z
    obtain ⟨M', hl2⟩ := hlaw
    refine codeAny_mono ((hF _ kin (stays hns) TB).run callerA [] s₁ H ⟨[.ref a], []⟩ [.ref a] [.ref a] (fun v _ => v = .bl true) (fun _ _ _ => False) [.lst (ns.map D.int)] Z _ _ hr rfl env0 (hbind s₁ (.ref a)) (.cons rfl .nil) rfl
      (.cons (.lst seq (rps_ints ns)) .nil) hr0 ?_) fun r s' h => ?_
    · rw [hl2]
      intro v H' Z' ι' _ _ rv
      cases rv
      rfl
    · cases r with
      | error e => exact absurd h no_cx
      | ok fl =>
        cases fl with
        | next => exact h.elim
        | brk => exact h.elim
        | cont => exact h.elim
        | ret u =>
          obtain ⟨v, H', os, bare, un, hok', rv, q⟩ := h
          obtain rfl : v = .bl true := q
          obtain rfl : u = Value.bool true := rv
          have kept : ∀ b o, b ∉ ms.map (·.2.2) → s₁.heap.get? b = some o → s'.heap.get? b = some o := fun b o nb e => by
            cases hb2 : H b with
            | none => exact un.keep b o e hb2 (fun z => absurd (show b ∈ ([] : List Addr) from z) (by simp)) (by simp)
            | some u =>
              have z := hZ b nb
              rw [hb2] at z
              obtain ⟨ob, xs, rfl⟩ := only b u z.symm
              have e1 := (hok b _ hb2).1
              have e2 := (hok' b _ (un.frzs b ob _ hb2)).1
              rw [e] at e1
              cases e1
              exact e2
          have more : ∀ p ∈ ms, ∃ ps : Array Value, s'.heap.get? p.2.2 = some { cls := .none, data := .fields ps } := fun p hp => by
            obtain ⟨ps, z⟩ := un.tbls p.2.2 #[] (hH _ (inT p hp)).1
            exact ⟨_, hok' p.2.2 _ z⟩
          refine ⟨rfl, ⟨fun b o e => ?_, fun b o e => ?_⟩, os, bare⟩
          · by_cases hb : b ∈ ms.map (·.2.2)
            · obtain ⟨p, hp, ep⟩ := List.mem_map.mp hb
              obtain ⟨ps, hm⟩ := more p hp
              rw [← ep] at e ⊢
              rw [hT p hp] at e
              cases e
              exact .inr (.inl ⟨((hC p hp).tab (hT p hp)).isCodeTable, rfl, #[], ps, rfl, by rw [Array.empty_append]; exact hm⟩)
            · exact .inl (kept b o hb e)
          · by_cases hb : b ∈ ms.map (·.2.2)
            · obtain ⟨p, hp, ep⟩ := List.mem_map.mp hb
              obtain ⟨ps, hm⟩ := more p hp
              rw [← ep]
              exact ⟨_, hm⟩
            · exact ⟨o, kept b o hb e⟩
  cases hk : K.lookup a with
  | some o =>
    have e := KX a o hk
    rw [ha] at e
    cases e
    refine main (fun b => if b ∈ ms.map (·.2.2) then some (.tbl #[]) else none) (fun _ => none) (fun b hb => ⟨if_pos hb, rfl⟩) (fun b hb => if_neg hb) (fun b u z => absurd z (by simp)) (.inr ⟨vs.toArray, _, hk, by rw [List.size_toArray, hlen]; exact hl, by simpa using hvals⟩) (fun b u z => ?_) (fun b z => absurd rfl z) fun z => absurd rfl z
    by_cases hb : b ∈ ms.map (·.2.2)
    · cases ((if_pos hb).symm.trans z : some (HO.tbl #[]) = some u)
      exact tabs b hb
    · cases ((if_neg hb).symm.trans z : (none : Option HO) = some u)
  | none =>
    refine main (fun b => if b ∈ ms.map (·.2.2) then some (.tbl #[]) else if b = a then some (.frz { cls := .type "list", data := .seq vs.toArray } (.lst (ns.map V.int))) else none)
      (fun b => if b = a then some (.frz { cls := .type "list", data := .seq vs.toArray } (.lst (ns.map V.int))) else none) (fun b hb => ⟨if_pos hb, if_neg fun e => notA (by rw [← e]; exact hb)⟩) (fun b hb => if_neg hb) (fun b u z => ?_) (.inl (.inr ⟨_, if_pos rfl⟩)) (fun b u z => ?_) (fun b z => Classical.byContradiction fun hb => z (if_neg hb)) fun _ => hk
    · by_cases hb : b = a
      · cases ((if_pos hb).symm.trans z : some _ = some u)
        exact ⟨_, _, rfl⟩
      · cases ((if_neg hb).symm.trans z : (none : Option HO) = some u)
    · by_cases hb : b ∈ ms.map (·.2.2)
      · cases ((if_pos hb).symm.trans z : some (HO.tbl #[]) = some u)
        exact tabs b hb
      · have z1 := (if_neg hb).symm.trans z
        by_cases hb2 : b = a
        · cases ((if_pos hb2).symm.trans z1 : some _ = some u)
          subst hb2
          exact ⟨ha, by rw [List.length_map]; exact hl, vs, _, hvals, ha⟩
        · cases ((if_neg hb2).symm.trans z1 : (none : Option HO) = some u)
/-- what k_head leaves, where defs make lambdas -/
theorem walk_qT {l : PySem.W.OpenLaw} {n k : Nat} {q : Program} {loose : List Str} {XP : (Str → Option Value) → Heap → Prop} {YP : World → Heap → Prop} {d : DefRec} {K : Params → PySem.W.Frag} {x : Str} {nms : List Str} {F : List D → List MO → R D}
    (hn : l.most = some n) (hn2 : n ≤ sizeLine) (hdf : d.params.defaults = []) (hr : Room k callerA) (hY : ∀ (w : World) (h : Heap), YP w h → (K w.params).In h)
    (hF : ∀ (w : World) (mg : Str → Option Value) (fa : Addr) (h : Heap), YP w h → (K w.params).In h → h.Ns mainGlobals mg → mg d.name = some (.ref fa) →
      ∃ (fd : FuncData) (C : CT) (ms : List Mkr), ms.map (·.1) = nms ∧ (∀ p ∈ ms, h.get? p.2.2 = some { cls := .none, data := .fields #[] } ∧ (K w.params).lookup p.2.2 = none ∧ PySem.W.CodeHd h p.2.1 p.2.2 ∧ PySem.W.tabIn (K w.params) p.1 = some (p.2.1, p.2.2)) ∧ (ms.map (·.2.2)).Nodup ∧
        (∀ (s : Shared) (u : Value), BindsTo s fd ⟨[u], []⟩ [(x, u)]) ∧ ∀ base : Heap, (K w.params).In base → base.Ns mainGlobals mg → (∀ p ∈ ms, LamX.TabB base mg p.2.1 p.2.2) → FnQ l.prog w (K w.params) mg base C k fa fd [x] F)
    (hlaw : ∀ ns : List Int, ns.length ≤ n → ∃ M', F [.lst (ns.map D.int)] (nms.map fun nm => .tab nm) = .ok (.bl true) M') :
    PySem.W.WalkO q loose XP YP l.row.toRowW d [] (fun f vs => PySem.call f vs) := by
  refine Att.attach_call hn hdf fun w s₀ s₁ mg mb fa o pm cd doc a vs ns G Y ho hd hcd hmg hobj hints hlen hg => ?_
  have kx := hY w _ Y
  obtain ⟨fd, C, ms, e1, hm, hnd, hb, hF'⟩ := hF w mg fa _ Y kx G.T.g hmg
  refine law_qT kx G.T.g G.T.b G.T.builtins G.T.nolimit hg (fun p hp => (hm p hp).1) (fun p hp => (hm p hp).2.1) (fun p hp => (hm p hp).2.2.1) (fun p hp => (hm p hp).2.2.2) hnd G.T.bmain hobj hints (Nat.le_trans hlen hn2) hr hF' hb ?_
  have z := hlaw ns hlen
  rw [← e1, List.map_map] at z
  exact z
end Bk

set_option Elab.async false
set_option linter.all false
set_option maxRecDepth 100000
set_option maxHeartbeats 2000000
namespace Bk
open PySem PySem.Spec PyProof.Rows L2
/-! ### makers of lambdas: defs whose body is read with its own cells; words for the printed part -/
noncomputable def allF {β : Type} (f : List (Str × Addr) → R β) : R β := open Classical in if ∀ a, f a = f [] then f [] else .bad
theorem allF_eq {β : Type} {f : List (Str × Addr) → R β} {r : R β} (h : ∀ a, f a = r) : allF f = r := by
  unfold allF
  rw [if_pos fun a => (h a).trans (h []).symm]
  exact h []
theorem allF_at {β : Type} {f : List (Str × Addr) → R β} (a : List (Str × Addr)) (h : allF f ≠ .bad) : allF f = f a := by
  unfold allF at h ⊢
  split at h
  · rename_i q
    rw [if_pos q, q a]
  · exact absurd rfl h
theorem tab_code {K : PySem.W.Frag} {nm : Str} {f c P : Addr} {oc : Value} {od : Option Addr} {fd : FuncData} {sl : Array (Option Value)} (ha : PySem.W.nsIn K mainGlobals nm = some (some (.ref f))) (lk : K.lookup f = some ⟨oc, od, .func fd, sl⟩) (ht : PySem.W.tabIn K nm = some (c, P)) : fd.code = .ref c := by
  unfold PySem.W.tabIn at ht
  rw [ha] at ht
  simp only [lk] at ht
  split at ht
  · rename_i c' e
    split at ht
    · split at ht
      · cases ht
        exact e
      · cases ht
    · cases ht
  · cases ht
theorem tab_of3 {K : PySem.W.Frag} {nm : Str} {f c P : Addr} {oc xc : Value} {od xd : Option Addr} {fd : FuncData} {sl xl : Array (Option Value)} {vs : Array Value} (ha : PySem.W.nsIn K mainGlobals nm = some (some (.ref f))) (lk : K.lookup f = some ⟨oc, od, .func fd, sl⟩) (hc : fd.code = .ref c) (lc : K.lookup c = some ⟨xc, xd, .fields vs, xl⟩) (hv : vs[11]? = some (.ref P)) : PySem.W.tabIn K nm = some (c, P) := by
  unfold PySem.W.tabIn
  rw [ha]
  simp only [lk, hc, lc, hv]
section
variable {P : Program} {w : World} {K : PySem.W.Frag} {mg : Str → Option Value} {base : Heap} {C : CT}
/-- THE RULE for a def that makes lambdas -/
theorem fqWM_of {x qual nm : Str} {st : Stmt} {f c T : Addr} {fd : FuncData} {N ps : List Str} {k : Nat} {g : List (Str × Addr) → GS} (F : Fun K x qual st f fd) (S : FnScope N ps (defScope st)) (ha : PySem.W.nsIn K mainGlobals nm = some (some (.ref f))) (ht : PySem.W.tabIn K nm = some (c, T))
    (hbody : ∀ (A : Around) (outer : List PySem.Env) (s : Shared) (H : Hp) (E : XK), Room k (A.deeper (envOfC qual (defScope st) s.heap.objs.size f (.ref c))) → A.guards = some [] →
      QSs (cxOf (L2.CX P w) P w K mg base N qual (defScope st) f (.ref c) A outer s H E) C (fun cls d _ H => E cls d H) (defBody st) (g (cxOf (L2.CX P w) P w K mg base N qual (defScope st) f (.ref c) A outer s H E).env.cells)) : FnQ P w K mg base C (k + 1) f fd ps (fun ds M => allF fun cl => runW N.length (g cl) ds M) := by
  obtain ⟨oc, od, kV, doc, pm, an, cdv, ct, osl, rfl, lk, hcd⟩ := F.ex
  have ec : cdv = .ref c := by
    have z := tab_code ha lk ht
    exact z
  subst ec
  refine ⟨fun A outer s H args us vs Q E ds Z ι M room hgu env0 hbind rvs hlen rds hr hpost => ?_⟩
  have nb : (allF fun cl => runW N.length (g cl) ds M) ≠ .bad := fun z => by
    rw [z] at hpost
    exact hpost
  rw [allF_at (cxOf (L2.CX P w) P w K mg base N qual (defScope st) f (.ref c) A outer s H E).env.cells nb] at hpost
  have hK : K.In s.heap := env0.mod.kin.keeps fun b o z => (env0.bs b o z).1
  have hlim : s.heap.NoLimit := env0.mod.nolimit.keeps fun b o z => (env0.bs b o z).1
  have kinds : ∀ y ∈ ps.zip us, (defScope st).names.lookup y.1 = some .local ∨ ((defScope st).names.lookup y.1 = some .cell ∧ ((cellsFrom (s.heap.objs.size + 1) (defScope st).names []).lookup y.1).isSome = true) := fun y hy => by
    rcases S.par y.1 (List.of_mem_zip (a := y.1) (b := y.2) hy).1 with z | z
    · exact .inl z
    · exact .inr ⟨z, PySem.W.cellsFrom_some _ _ _ (.inl z)⟩
  refine codeAny_call_function room.depth (hK _ _ lk) rfl S.co S.gen rfl (PySem.W.codeRec_of hK hcd) (hbind _ _ _ _ (wpAny_newFunctionEnv_cells S.kind kinds fun env he s1 ic => ?_))
  subst he
  refine ⟨hlim.keeps ic.toInCall.keep, codeAny_func ?_⟩
  obtain ⟨ts, pts, qts⟩ := hbody A outer s H E (room.deeper _) hgu
  have J : Inv (cxOf (L2.CX P w) P w K mg base N qual (defScope st) f (.ref c) A outer s H E) [] (L2.start N vs) H s1 := inv_start S room.hd env0 hlen rvs ic
  have lN : vs.length ≤ N.length := by
    have z := congrArg List.length S.pre
    rw [List.length_take] at z
    omega
  have hq := qts _ (L2.start N vs) H Z ι _ M (slots_start rds lN) hr (finW_run (E := E) (fun _ _ _ _ z => z) rfl hpost)
  refine wpAny_mono (pts.run [] s1 _ H _ J hq) (fun fl s' hs => ?_) fun _ _ hs => hs
  have ends : ∀ {σ' : L2.St} {H' : Hp} {v : V} {u : Value}, Inv (cxOf (L2.CX P w) P w K mg base N qual (defScope st) f (.ref c) A outer s H E) [] σ' H' s' → RelV v u → Q v H' → CE outer P w H s Q u s' :=
    fun {σ' H' v u} J2 rv q => ⟨v, H', J2.os, J2.bare, J2.base, J2.hok, rv, q⟩
  cases fl with
  | ret u => exact let ⟨v, σ', H', J2, rv, q⟩ := hs; ends J2 rv q
  | next => exact let ⟨σ', H', J2, q⟩ := hs; ends (v := V.non) (u := Value.none) J2 rfl q
  | brk => exact let ⟨_, _, _, q⟩ := hs; q.elim
  | cont => exact let ⟨_, _, _, q⟩ := hs; q.elim
theorem AskQ.mono {j k : Nat} {f : Addr} {N : List Str} {qual : Str} {sc : Scope} {a : Str} {Fr : (List MO → R D) → List MO → R D} (x : AskQ P w K mg base C j f N qual sc a Fr) (h : j ≤ k) : AskQ P w K mg base C k f N qual sc a Fr :=
  ⟨fun A outer s H u Q E Z ι M t hr => x.run A outer s H u Q E Z ι M t (hr.mono h)⟩
end
/-! isinstance of classes, from the except clauses' facts -/
section
variable {K : PySem.W.Frag}
theorem kit_exm {A B : Addr} {b : Bool} (h : PySem.W.exmOne K (.ref A) (.ref B) = some b) (hs : PySem.W.exmOne K (.ref A) (.ref A) = some true) : PySem.W.kitOne K (.ref A) (.ref B) = some b := by
  by_cases e : A = B
  · subst e
    rw [h] at hs
    cases hs
    unfold PySem.W.kitOne
    rw [if_pos (beq_self_eq_true _)]
  · unfold PySem.W.kitOne
    rw [if_neg (by
      intro z
      exact e (Value.ref.inj (beq_iff_eq.mp z)))]
    unfold PySem.W.exmOne at h
    split at h
    · exact h
    · cases h
theorem kit_bt {A : Addr} {T : String} {b : Bool} (hm : PySem.W.kitMeta T = true) (h : PySem.W.subIn K (.ref A) (.type T) = some b) : PySem.W.kitOne K (.ref A) (.type T) = some b := by
  unfold PySem.W.kitOne
  rw [if_neg (by intro z; cases (beq_iff_eq.mp z))]
  unfold PySem.W.kitCls
  simp only [hm, if_true, h]
theorem kitAny_or {t c : Value} {cs : List Value} {b d : Bool} (h : PySem.W.kitOne K t c = some b) (r : PySem.W.kitAny K t cs = some d) : PySem.W.kitAny K t (c :: cs) = some (b || d) := by
  unfold PySem.W.kitAny
  rw [h]
  cases b with
  | true => rfl
  | false => exact r
end
/-! a piece of syntax by its place -/
def subE : Expr → Nat → Expr
  | .Call _ as _ _, i => as.getD i (.Constant .none default default)
  | .List es _, i => es.getD i (.Constant .none default default)
  | .Tuple es _ _, i => es.getD i (.Constant .none default default)
  | .Compare a _ bs _, i => if i = 0 then a else bs.getD (i - 1) (.Constant .none default default)
  | .BoolOp _ es _, i => es.getD i (.Constant .none default default)
  | .UnaryOp _ e _, _ => e
  | .BinOp a _ b _, i => if i = 0 then a else b
  | .IfExp a b c _, i => if i = 0 then a else if i = 1 then b else c
  | .Subscript a b _, i => if i = 0 then a else b
  | e, _ => e
def subS : Stmt → Expr
  | .Assign _ e _ => e
  | .Expr e _ => e
  | .Return (some e) _ => e
  | .If e _ _ _ => e
  | .While e _ _ _ => e
  | .For _ e _ _ _ => e
  | _ => .Constant .none default default
def atB (l : List Stmt) (i : Nat) : Stmt := l.getD i (.Pass ⟨0, 0, 0, 0⟩)
def lamOf (i : Nat) (q : Str) : Expr → LSy
  | .Lambda ps b sc _ => ⟨i, q, ps, b, sc⟩
  | _ => ⟨i, q, default, .Constant .none default default, default⟩
end Bk

set_option Elab.async false
set_option linter.all false
set_option maxRecDepth 100000
set_option maxHeartbeats 2000000
namespace Bk
open PySem PySem.Spec PyProof.Rows L2
/-! ### l.count(x) of data of any kind -/
def rCountD (K : PySem.W.Frag) : V → List V → Hp → VK → Prop := fun x xs H Q => ∃ (a : Addr) (y : V) (d : PyData) (ds : List PyData), x = V.ref a ∧ xs = [y] ∧ Dp K H (V.ref a) (.list ds) ∧ Dp K H y d ∧
  SeqAt.shaped (.list ds) = true ∧ SeqAt.shaped d = true ∧ Q (.int (ds.countP fun z => PyData.eqv z d : Nat)) H
section
variable {X : Cx} {C : CT} {W : WX}
theorem mt_lcountD (hu : X.A.units + 65 < cLine) : MtR X "list.count" (rCountD X.K) := by
  intro pins s σ H x xs v us Q I rx rxs h
  obtain ⟨a, y, d, ds, rfl, rfl, hl, hy, sl, sd, q⟩ := h
  cases rx
  cases rxs with
  | cons ry rt =>
    rename_i uy ut
    cases rt
    obtain ⟨bs, r1⟩ := Dp.reads I d y uy hy ry
    have hxs : PyData.canLayAll0 ds = true := SeqAt.canLay_of_shaped sl
    have hroom : X.A.units + 1 + min (PyData.depthAll ds) d.depth < cLine := room_in_shaped sd hu
    cases hl with
    | lst hs ha =>
      obtain ⟨its, rv, ⟨⟨cls, dd, data, sls⟩, n, ho, hc, hdn, hdt⟩, hlen⟩ := I.list hs
      simp only at hc hdt
      subst hc hdt
      obtain ⟨as, h4⟩ := Dp.readsAll I ds _ its ha rv
      have hmap : its.map (SeqAt.readOf s.heap) = ds := SeqAt.readsAll_map ds its as hxs h4
      refine call_meets PySem.F.slot_list_count ⟨_, ho, rfl⟩ PySem.F.entry_list_count (PySem.F.args_list_count_2 _ _)
        (SeqAt.list_countAt a its.toArray n dd sls uy (fun u => PyData.eqv (SeqAt.readOf s.heap u) d)) ⟨ho, SeqAt.items_eqAt (vs := its.toArray) (show ReadsAll s.heap its.toArray.toList ds as from h4) r1 hxs (SeqAt.canLay_of_shaped sd) hroom, ?_⟩
      have ec : its.toArray.toList.countP (fun u => PyData.eqv (SeqAt.readOf s.heap u) d) = ds.countP fun z => PyData.eqv z d := by
        rw [← hmap, List.countP_map]
        rfl
      refine ⟨.int (ds.countP fun z => PyData.eqv z d : Nat), H, I.tok _, ⟨s.toks, ?_⟩, q⟩
      show Value.int _ s.toks = _
      rw [ec]
def dCntD (M : List MO) (x y : D) : Option D := match toP (deref M x), toP (deref M y) with
  | some (.list ps), some q => if (SeqAt.shaped (.list ps) && SeqAt.shaped q) = true then some (.int (ps.countP fun z => PyData.eqv z q : Nat)) else none
  | _, _ => none
theorem qe_countD {o e : Expr} {go ge : GE} {pos apos : Pos} (hu : X.A.units + 65 < cLine) (ho : QE X C W o go) (he : QE X C W e ge)
    (hbase : attributeBase o "count" X.env (eval o X.env) = eval o X.env := by rfl) (hs : starEach [e] X.env = (false, eval e X.env) :: starEach [] X.env := by rfl)
    (hfew : ((backTo pos (starEach [e] X.env)).all (fun x => !x.1) && (backToKw pos (keywordEach [] X.env)).all (fun x => x.1.isSome) && decide ([e].length + ([] : List Keyword).length + (if ([] : List Keyword).isEmpty then 0 else 1) < 30)) = true := by rfl)
    (hline : (apos.endLine == pos.line) = true := by rfl) : QE X C W (.Call (.Attribute o "count" apos) [e] [] pos) (gRd1 dCntD go ge) := by
  obtain ⟨ta, pa, qa⟩ := ho
  obtain ⟨tb, pb, qb⟩ := he
  refine ⟨_, pe_bm PySem.F.plainAttrs_list PySem.F.slot_list_count PySem.F.type_list_count (mt_lcountD hu) pa (pa_cons pb pa_nil hs) hbase hfew hline hs rfl, fun σ H Z ι Γ M Q sl hr h => qa σ H Z ι Γ M _ sl hr (h.bind fun x M1 v H1 Z1 ι1 e1 hr1 r1 h1 => ?_)⟩
  by_cases c : isListD M1 x = true
  · rw [if_pos c] at h1
    refine ⟨isListD_run hr1 r1 c, qb σ H1 Z1 ι1 Γ M1 _ (sl.ext e1) hr1 (h1.bind fun y M2 u H2 Z2 ι2 e2 hr2 r2 h2 => ?_)⟩
    obtain ⟨d, hd, h3⟩ := Post.of_opR (γ := D) (δ := V) h2
    unfold dCntD at hd
    cases ea : toP (deref M2 x) with
    | none => rw [ea] at hd; cases hd
    | some p =>
      cases eb : toP (deref M2 y) with
      | none => rw [ea, eb] at hd; cases p <;> cases hd
      | some q =>
        rw [ea, eb] at hd
        cases p with
        | list ps =>
          simp only at hd
          by_cases z : (SeqAt.shaped (.list ps) && SeqAt.shaped q) = true
          · rw [if_pos z] at hd
            rw [Bool.and_eq_true] at z
            cases hd
            have dx := deref_dp hr2 (r1.ext e2) ea
            have dy := deref_dp hr2 r2 eb
            cases dx with
            | lst hs ha => exact ⟨_, u, q, ps, rfl, rfl, .lst hs ha, dy, z.1, z.2, h3 _ H2 Z2 ι2 .refl hr2 (.int _)⟩
          · rw [if_neg z] at hd
            cases hd
        | _ => cases hd
  · rw [if_neg c] at h1
    exact h1.elim
end
end Bk

set_option Elab.async false
set_option linter.all false
set_option maxRecDepth 100000
set_option maxHeartbeats 2000000
namespace Bk
open PySem PySem.Spec PyProof.Rows L2
/-! ### a text times a number -/
def strRep (x : Str) (n : Int) : Str := if n < 1 then Str.empty else if (n == 1 || x.length == 0) = true then x else ⟨(List.replicate n.toNat x.cps).foldl (· ++ ·) #[]⟩
def rMulS : R2 := fun x y H Q => ∃ (s : Str) (n : Int), x = .str s ∧ y = .int n ∧ 0 ≤ n ∧ n ≤ 1000 ∧ s.length ≤ 1000 ∧ Q (.str (strRep s n)) H
section
variable {X : Cx}
theorem op_mulS : OpR X (binaryOp .Mult) rMulS := by
  intro pins s σ H x y v u Q I rx ry h
  obtain ⟨i, n, rfl, rfl, h0, h1, h2, q⟩ := h
  obtain ⟨t, rfl⟩ := rx
  obtain ⟨t', rfl⟩ := ry
  have hsl := sizeLine_eq
  refine P.mul_str (by
    rw [decide_eq_false (by omega), decide_eq_false (by omega)]; rfl) (fun a _ => ?_) (fun a _ => ?_) ?_
  · have z : (i.length : Int) * n ≤ 1000 * 1000 := Int.mul_le_mul (by omega) h1 h0 (by omega)
    have : (i.length : Int) ≤ (2 ^ 63 - 1) / n := (Int.le_ediv_iff_mul_le (by omega)).mpr (by omega)
    omega
  · have z : i.length * n.toNat ≤ 1000 * 1000 := Nat.mul_le_mul h2 (by omega)
    show decide (i.length * n.toNat > sizeLine) = false
    rw [decide_eq_false (by omega)]
  · unfold strRep at q
    by_cases a : n < 1
    · rw [if_pos a] at q ⊢
      exact ⟨by decide, .str _, H, I.tok _, ⟨_, rfl⟩, q⟩
    · rw [if_neg a] at q ⊢
      by_cases b : (n == 1 || i.length == 0) = true
      · rw [if_pos b] at q ⊢
        exact ⟨.str _, H, I, ⟨_, rfl⟩, q⟩
      · rw [if_neg b] at q ⊢
        have z : i.length * n.toNat ≤ 1000 * 1000 := Nat.mul_le_mul h2 (by omega)
        exact ⟨fits_reps (by
          show decide (i.length * n.toNat > sizeLine) = false
          rw [decide_eq_false (by omega)]), .str _, H, I.tok _, ⟨_, rfl⟩, q⟩
def dMulS (M : List MO) (x y : D) : Option D := match x, y with
  | .str s, .int k => if (decide (0 ≤ k) && decide (k ≤ 1000) && decide (s.length ≤ 1000)) = true then some (.str (strRep s k)) else none
  | _, _ => none
theorem ok_mulS : Ok2 X rMulS dMulS := fun x y H Z ι M dx dy d Q hr rx ry e q => by
  unfold dMulS at e
  split at e
  · rename_i s k
    split at e
    · rename_i c
      cases e
      simp only [Bool.and_eq_true, decide_eq_true_eq] at c
      obtain ⟨⟨c1, c2⟩, c3⟩ := c
      cases rx
      cases ry
      exact ⟨s, k, rfl, rfl, c1, c2, c3, q.now hr (.str _)⟩
    · cases e
  · cases e
end
theorem e_mulS (M : List MO) (s : Str) (k : Int) (h0 : 0 ≤ k) (h1 : k ≤ 1000) (h2 : s.length ≤ 1000) : dMulS M (.str s) (.int k) = some (.str (strRep s k)) := by
  show (if (decide (0 ≤ k) && decide (k ≤ 1000) && decide (s.length ≤ 1000)) = true then some (D.str (strRep s k)) else none) = _
  rw [if_pos (by simp [h0, h1, h2])]
end Bk

set_option Elab.async false
set_option linter.all false
set_option maxRecDepth 100000
set_option maxHeartbeats 2000000
namespace Bk
open PySem PySem.Spec PyProof.Rows L2
/-! ### a dict of one entry, its key an int or a text: data that is not looked into -/
def gDcx (k : Key) (gb : GE) : GE := fun Γ M => (gb Γ M).bind fun v M2 => .ok (.dcx k v) M2
section
variable {X : Cx} {C : CT} {W : WX} {pos : Pos}
theorem dcx_read {ve : Expr} {gb : GE} {tk tb : TE} {k : Key} (hk : ∀ (σ : St) (H : Hp) (Q : VK), Q (kV k) H → tk σ H Q) (qb : Rd1 X C W gb tb) : Rd1 X C W (gDcx k gb) (tDisp [(tk, tb)]) := by
  intro σ H Z ι Γ M Q sl hr h p hp
  have od0 : Odd Z ι M.length p := .new hr hp
  have hr0 : HR X.K (upd H p (.dK [])) Z ι M := hr.odd od0
  have x0 : Ext H Z ι M.length (upd H p (.dK [])) Z ι M.length := Ext.touch .refl hp
  have h : Post X C W (rpE X.K) σ H Z ι M ((gb Γ M).bind fun v M2 => .ok (.dcx k v) M2) Q := h
  refine hk σ _ _ ?_
  refine qb σ _ Z ι Γ M _ sl hr0 ?_
  cases eb : gb Γ M with
  | bad => rw [eb] at h; exact h.elim
  | exc c d M' =>
    rw [eb] at h
    exact Post.shift (r := (.exc c d M' : R D)) (rp := rpE X.K) (Q := Q) h x0 hr0
  | ok v M2 =>
    rw [eb] at h
    intro z H2 Z2 ι2 e2 hr2 r2
    have e02 := x0.trans e2 hr0.ali
    obtain ⟨od2, hp2⟩ := od0.ext upd_same e2
    show H2 p = some (.dK []) ∧ _
    refine ⟨hp2, [(k, z)], rfl, by simp, ?_⟩
    have em : mergeK [] [(k, z)] = [(k, z)] := rfl
    rw [em]
    have s1 : Sub Z2 (upd Z2 p (.dK [(k, z)])) := fun a u q => by rw [upd_ne (ne_of_none q od2.z)]; exact q
    have hr1 : HR X.K (upd H2 p (.dK [(k, z)])) Z2 ι2 M2 := hr2.odd od2
    exact h _ _ _ ι2 ((e02.touch hp).adoptZ od2.z hp) (hr1.adoptZ od2 upd_same) (.dcx upd_same (Rp.mono s1 (fun _ _ => rfl) (Nat.le_refl _) _ _ r2))
theorem qe_dcxI {ve : Expr} {gb : GE} {i : Int} {j : Nat} {kp : Pos} (hb : QE X C W ve gb) : QE X C W (.Dict [some (.Constant (.int i) j kp)] [ve] pos) (gDcx (.inl i) gb) := by
  obtain ⟨tb, pb, qb⟩ := hb
  exact ⟨_, pe_disp (pps_cons pe_int pb pps_nil) rfl rfl (by simp) (by simp), dcx_read (ve := ve) (fun σ H Q q => q) qb⟩
end
@[simp] theorem u_gDcx (k : Key) (gb : GE) (Γ : Env) (M : List MO) : gDcx k gb Γ M = (gb Γ M).bind fun v M2 => .ok (.dcx k v) M2 := Eq.trans rfl rfl
end Bk

set_option Elab.async false
set_option linter.all false
set_option maxRecDepth 100000
namespace My
open PySem PySem.Spec PyProof.Rows L2 Bk
noncomputable section
/-! ### the text -/
def topS (i : Nat) : Stmt := PySem.Challenge.pw_breakrows_k05_invalid_arguments_of_calen.main.body.getD i (.Pass ⟨0, 0, 0, 0⟩)
abbrev s_is_integer : Stmt := topS 14
theorem sc_is_integer : FnScope ["value"] ["value"] (defScope s_is_integer) := ⟨rfl, rfl, rfl, by decide +kernel, rfl, by decide +kernel, by decide +kernel⟩
abbrev s_is_at_least : Stmt := topS 15
theorem sc_is_at_least : FnScope ["value", "low"] ["value", "low"] (defScope s_is_at_least) := ⟨rfl, rfl, rfl, by decide +kernel, rfl, by decide +kernel, by decide +kernel⟩
abbrev s_is_between : Stmt := topS 16
theorem sc_is_between : FnScope ["value", "low", "high"] ["value", "low", "high"] (defScope s_is_between) := ⟨rfl, rfl, rfl, by decide +kernel, rfl, by decide +kernel, by decide +kernel⟩
abbrev s_is_day : Stmt := topS 17
theorem sc_is_day : FnScope ["value", "day"] ["value", "day"] (defScope s_is_day) := ⟨rfl, rfl, rfl, by decide +kernel, rfl, by decide +kernel, by decide +kernel⟩
abbrev s_are_numbers : Stmt := topS 18
theorem sc_are_numbers : FnScope ["value", "entry"] ["value"] (defScope s_are_numbers) := ⟨rfl, rfl, rfl, by decide +kernel, rfl, by decide +kernel, by decide +kernel⟩
abbrev s_require_calendar : Stmt := topS 19
theorem sc_require_calendar : FnScope ["calendar", "index", "entry"] ["calendar"] (defScope s_require_calendar) := ⟨rfl, rfl, rfl, by decide +kernel, rfl, by decide +kernel, by decide +kernel⟩
abbrev s_require_row : Stmt := topS 20
theorem sc_require_row : FnScope ["calendar", "row", "index", "entry"] ["calendar", "row"] (defScope s_require_row) := ⟨rfl, rfl, rfl, by decide +kernel, rfl, by decide +kernel, by decide +kernel⟩
abbrev s_away_on : Stmt := topS 21
theorem sc_away_on : FnScope ["calendar", "numbers", "day", "found", "owned", "back", "number"] ["calendar", "numbers", "day"] (defScope s_away_on) := ⟨rfl, rfl, rfl, by decide +kernel, rfl, by decide +kernel, by decide +kernel⟩
abbrev s_first_over : Stmt := topS 22
theorem sc_first_over : FnScope ["calendar", "numbers", "day", "owned", "back", "breaking"] ["calendar", "numbers"] (defScope s_first_over) := ⟨rfl, rfl, rfl, by decide +kernel, rfl, by decide +kernel, by decide +kernel⟩
abbrev s_require_past : Stmt := topS 23
theorem sc_require_past : FnScope ["calendar", "past", "day"] ["calendar", "past"] (defScope s_require_past) := ⟨rfl, rfl, rfl, by decide +kernel, rfl, by decide +kernel, by decide +kernel⟩
abbrev s_require_holidays : Stmt := topS 25
theorem sc_require_holidays : FnScope ["days", "holidays", "index", "day"] ["days", "holidays"] (defScope s_require_holidays) := ⟨rfl, rfl, rfl, by decide +kernel, rfl, by decide +kernel, by decide +kernel⟩
abbrev s_back_day : Stmt := topS 26
theorem sc_back_day : FnScope ["day", "repair", "days", "holidays"] ["day", "repair", "days", "holidays"] (defScope s_back_day) := ⟨rfl, rfl, rfl, by decide +kernel, rfl, by decide +kernel, by decide +kernel⟩
abbrev s_steady : Stmt := topS 27
theorem sc_steady : FnScope ["pieces", "repair", "days", "holidays", "day"] ["pieces", "repair", "days", "holidays"] (defScope s_steady) := ⟨rfl, rfl, rfl, by decide +kernel, rfl, by decide +kernel, by decide +kernel⟩
abbrev s_with_pieces : Stmt := topS 28
theorem sc_with_pieces : FnScope ["calendar", "first", "last", "pieces", "changed", "day", "owned", "back"] ["calendar", "first", "last", "pieces"] (defScope s_with_pieces) := ⟨rfl, rfl, rfl, by decide +kernel, rfl, by decide +kernel, by decide +kernel⟩
abbrev s_away : Stmt := topS 29
theorem sc_away : FnScope ["calendar", "past", "day"] ["calendar", "past"] (defScope s_away) := ⟨rfl, rfl, rfl, by decide +kernel, rfl, by decide +kernel, by decide +kernel⟩
abbrev s_greatest_next : Stmt := topS 30
theorem sc_greatest_next : FnScope ["calendar", "past", "day", "back", "end", "least", "spare", "later"] ["calendar", "past"] (defScope s_greatest_next) := ⟨rfl, rfl, rfl, by decide +kernel, rfl, by decide +kernel, by decide +kernel⟩
abbrev s_ready : Stmt := topS 31
theorem sc_ready : FnScope ["calendar", "past"] ["calendar", "past"] (defScope s_ready) := ⟨rfl, rfl, rfl, by decide +kernel, rfl, by decide +kernel, by decide +kernel⟩
abbrev s_first_fault : Stmt := topS 32
theorem sc_first_fault : FnScope ["calendar", "row"] ["calendar", "row"] (defScope s_first_fault) := ⟨rfl, rfl, rfl, by decide +kernel, rfl, by decide +kernel, by decide +kernel⟩
abbrev s_rest_of : Stmt := topS 33
theorem sc_rest_of : FnScope ["calendar", "past", "passed", "found", "day", "owned", "back"] ["calendar", "past"] (defScope s_rest_of) := ⟨rfl, rfl, rfl, by decide +kernel, rfl, by decide +kernel, by decide +kernel⟩
abbrev s_least_owned : Stmt := topS 34
theorem sc_least_owned : FnScope ["calendar", "rows", "index", "row", "found", "day"] ["calendar", "rows"] (defScope s_least_owned) := ⟨rfl, rfl, rfl, by decide +kernel, rfl, by decide +kernel, by decide +kernel⟩
abbrev s_law_mixed : Stmt := topS 36
theorem sc_law_mixed : FnScope ["_law_cell", "_law_draw", "_law_figure"] ["_law_cell", "_law_draw"] (defScope s_law_mixed) := ⟨rfl, rfl, rfl, by decide +kernel, rfl, by decide +kernel, by decide +kernel⟩
abbrev s_law_source : Stmt := topS 37
theorem sc_law_source : FnScope ["_law_cell"] ["_law_cell"] (defScope s_law_source) := ⟨rfl, rfl, rfl, by decide +kernel, rfl, by decide +kernel, by decide +kernel⟩
abbrev s_law_take : Stmt := topS 38
theorem sc_law_take : FnScope ["_law_source_here", "_law_count", "_law_drawn"] ["_law_source_here", "_law_count"] (defScope s_law_take) := ⟨rfl, rfl, rfl, by decide +kernel, rfl, by decide +kernel, by decide +kernel⟩
abbrev s_law_stock : Stmt := topS 40
theorem sc_law_stock : FnScope ["_law_source_here", "_law_most", "_law_high", "_law_size", "_law_way", "_law_begin", "_law_mend", "_law_found", "_law_at", "_law_owned_here", "_law_later"] ["_law_source_here", "_law_most", "_law_high"] (defScope s_law_stock) := ⟨rfl, rfl, rfl, by decide +kernel, rfl, by decide +kernel, by decide +kernel⟩
abbrev s_law_gone : Stmt := topS 41
theorem sc_law_gone : FnScope ["_law_stock_here", "_law_line", "_law_today", "_law_total", "_law_owned_here", "_law_later", "_law_broke"] ["_law_stock_here", "_law_line", "_law_today"] (defScope s_law_gone) := ⟨rfl, rfl, rfl, by decide +kernel, rfl, by decide +kernel, by decide +kernel⟩
abbrev s_law_over : Stmt := topS 42
theorem sc_law_over : FnScope ["_law_stock_here", "_law_line", "_law_whole", "_law_at", "_law_broke"] ["_law_stock_here", "_law_line"] (defScope s_law_over) := ⟨rfl, rfl, rfl, by decide +kernel, rfl, by decide +kernel, by decide +kernel⟩
abbrev s_law_raised : Stmt := topS 43
theorem sc_law_raised : FnScope ["_law_attempt", "e", "_law_kinds"] ["_law_attempt"] (defScope s_law_raised) := ⟨rfl, rfl, rfl, by decide +kernel, rfl, by decide +kernel, by decide +kernel⟩
abbrev s_law_bad_stock : Stmt := topS 44
theorem sc_law_bad_stock : FnScope ["_law_source_here", "_law_stock_here", "_law_at", "_law_today", "_law_some", "_law_whole", "_law_bent"] ["_law_source_here", "_law_stock_here"] (defScope s_law_bad_stock) := ⟨rfl, rfl, rfl, by decide +kernel, rfl, by decide +kernel, by decide +kernel⟩
abbrev s_law_bad_line : Stmt := topS 45
theorem sc_law_bad_line : FnScope ["_law_source_here", "_law_line", "_law_odd", "_law_at", "_law_some"] ["_law_source_here", "_law_line"] (defScope s_law_bad_line) := ⟨rfl, rfl, rfl, by decide +kernel, rfl, by decide +kernel, by decide +kernel⟩
abbrev s_law_late : Stmt := topS 46
theorem sc_law_late : FnScope ["_law_source_here", "_law_stock_here", "_law_found", "_law_at", "_law_owned_here", "_law_later", "_law_start", "_law_due"] ["_law_source_here", "_law_stock_here"] (defScope s_law_late) := ⟨rfl, rfl, rfl, by decide +kernel, rfl, by decide +kernel, by decide +kernel⟩
abbrev s_law_bad_start : Stmt := topS 47
theorem sc_law_bad_start : FnScope ["_law_source_here", "_law_stock_here", "_law_odd", "_law_at", "_law_zeros", "_law_some", "_law_over_here", "_law_late_here"] ["_law_source_here", "_law_stock_here"] (defScope s_law_bad_start) := ⟨rfl, rfl, rfl, by decide +kernel, rfl, by decide +kernel, by decide +kernel⟩
abbrev s_law_steady_right : Stmt := topS 48
theorem sc_law_steady_right : FnScope ["_law_source_here", "_law_odd", "_law_many", "_law_no_repair", "_law_some", "_law_rest", "_law_index", "_law_attempts", "_law_due", "_law_attempt"] ["_law_source_here"] (defScope s_law_steady_right) := ⟨rfl, rfl, rfl, by decide +kernel, rfl, by decide +kernel, by decide +kernel⟩
abbrev s_law_check : Stmt := topS 49
theorem sc_law_check : FnScope ["_law_source_here", "_law_stock_here", "_law_bad", "_law_index", "_law_line", "_law_place", "_law_start", "_law_today", "_law_odd", "_law_attempts", "_law_good", "_law_due", "_law_attempt"] ["_law_source_here"] (defScope s_law_check) := ⟨rfl, rfl, rfl, by decide +kernel, rfl, by decide +kernel, by decide +kernel⟩
abbrev s_law : Stmt := topS 50
theorem sc_law : FnScope ["_law_script", "_law_cell", "_law_source_here"] ["_law_script"] (defScope s_law) := ⟨rfl, rfl, rfl, by decide +kernel, rfl, by decide +kernel, by decide +kernel⟩
abbrev s_InvalidCalendar_init : Stmt := inClass (topS 2) 0
theorem sc_InvalidCalendar_init : FnScope ["self", "index"] ["self", "index"] (defScope s_InvalidCalendar_init) := ⟨rfl, rfl, rfl, by decide +kernel, rfl, by decide +kernel, by decide +kernel⟩
abbrev s_InvalidRow_init : Stmt := inClass (topS 5) 0
theorem sc_InvalidRow_init : FnScope ["self", "index"] ["self", "index"] (defScope s_InvalidRow_init) := ⟨rfl, rfl, rfl, by decide +kernel, rfl, by decide +kernel, by decide +kernel⟩
abbrev s_InvalidPast_init : Stmt := inClass (topS 6) 0
theorem sc_InvalidPast_init : FnScope ["self", "day"] ["self", "day"] (defScope s_InvalidPast_init) := ⟨rfl, rfl, rfl, by decide +kernel, rfl, by decide +kernel, by decide +kernel⟩
abbrev s_InvalidHolidays_init : Stmt := inClass (topS 4) 0
theorem sc_InvalidHolidays_init : FnScope ["self", "index"] ["self", "index"] (defScope s_InvalidHolidays_init) := ⟨rfl, rfl, rfl, by decide +kernel, rfl, by decide +kernel, by decide +kernel⟩
abbrev s_InvalidNumber_init : Stmt := inClass (topS 3) 0
theorem sc_InvalidNumber_init : FnScope ["self", "name"] ["self", "name"] (defScope s_InvalidNumber_init) := ⟨rfl, rfl, rfl, by decide +kernel, rfl, by decide +kernel, by decide +kernel⟩
def errN : Nat → Str := fun n => match n with | 0 => "index" | 1 => "index" | 2 => "day" | 3 => "index" | 4 => "name" | _ => ""
/-! ### what the bodies compute -/
def b_is_integer : GS := gRet (gAndV (gOp1 (dIsi "int") (gV 0)) (gOp1 dNot (gOp1 (dIsi "bool") (gV 0))))
def F_is_integer : List D → List MO → R D := runF 1 b_is_integer
def b_is_at_least : GS := gRet (gAndV (gCallF 1 F_is_integer (gCons (gV 0) (gNil))) (gOp2 dGe (gV 0) (gV 1)))
def F_is_at_least : List D → List MO → R D := runF 2 b_is_at_least
def b_is_between : GS := gRet (gAndV (gCallF 1 F_is_integer (gCons (gV 0) (gNil))) (gChain dLe dLe (gV 1) (gV 0) (gV 2)))
def F_is_between : List D → List MO → R D := runF 3 b_is_between
def b_is_day : GS := gSeq (gIf (gOrT (gNotT (gVal (gOp1 (dIsi "tuple") (gV 0)))) (gOrT (gVal (gOp2 dNeA (gCall (fn1 dLen) (gCons (gV 0) (gNil))) (gC (.int 2)))) (gNotT (gVal (gCallF 3 F_is_between (gCons (gOp2 dIx (gV 0) (gC (.int 0))) (gCons (gC (.int 0)) (gCons (gC (.int 12)) (gNil))))))))) (gRet (gC (.bl false))) (gPass)) (gRet (gOrV (gOp2 dIsN (gOp2 dIx (gV 0) (gC (.int 1))) (gC .non)) (gCallF 2 F_is_at_least (gCons (gOp2 dIx (gV 0) (gC (.int 1))) (gCons (gOp2 dAdd (gV 1) (gC (.int 1))) (gNil))))))
def F_is_day : List D → List MO → R D := runF 2 b_is_day
def le_are_numbers_1 : GE := gCallF 2 F_is_at_least (gCons (gV 1) (gCons (gC (.int 0)) (gNil)))
def b_are_numbers : GS := gRet (gAndV (gOp1 (dIsi "tuple") (gV 0)) (gCall (fn1 dAll) (gCons (gLc (gSeqI (gV 0)) (gTo 1) (gYes) (le_are_numbers_1) [1]) (gNil))))
def F_are_numbers : List D → List MO → R D := runF 2 b_are_numbers
def lb_require_calendar_1 : GS := gSeq (gIf (gNotT (gVal (gCallF 2 F_is_day (gCons (gV 2) (gCons (gOp2 dAdd (gV 1) (gC (.int 1))) (gNil)))))) (gRaise 0 (gV 1)) (gPass)) (gForget [1, 2])
def b_require_calendar : GS := gSeq (gIf (gOrT (gNotT (gVal (gOp1 (dIsiT ["list", "tuple"]) (gV 0)))) (gVal (gOp2 dGt (gCall (fn1 dLen) (gCons (gV 0) (gNil))) (gC (.int 100))))) (gRaise 0 (gOp1 dNeg (gC (.int 1)))) (gPass)) (gSeq (gSeq (gForget [1, 2]) (gFor (gEnum (gV 0)) (gToT (gToCons (gTo 1) (gToCons (gTo 2) (gToNil)))) (lb_require_calendar_1))) (gForget [1, 2]))
def F_require_calendar : List D → List MO → R D := runF 3 b_require_calendar
def lb_require_row_1 : GS := gSeq (gIf (gNotT (gVal (gCallF 2 F_is_at_least (gCons (gV 3) (gCons (gC (.int 0)) (gNil)))))) (gRaise 1 (gV 2)) (gPass)) (gForget [2, 3])
def b_require_row : GS := gSeq (gIf (gOrT (gNotT (gVal (gOp1 (dIsi "tuple") (gV 1)))) (gVal (gOp2 dNeA (gCall (fn1 dLen) (gCons (gV 1) (gNil))) (gCall (fn1 dLen) (gCons (gV 0) (gNil)))))) (gRaise 1 (gOp1 dNeg (gC (.int 1)))) (gPass)) (gSeq (gSeq (gForget [2, 3]) (gFor (gEnum (gV 1)) (gToT (gToCons (gTo 2) (gToCons (gTo 3) (gToNil)))) (lb_require_row_1))) (gForget [2, 3]))
def F_require_row : List D → List MO → R D := runF 4 b_require_row
def lb_away_on_1 : GS := gSeq (gIf (gOrT (gVal (gOp2 dIsN (gV 5) (gC .non))) (gVal (gOp2 dGt (gV 5) (gV 2)))) (gAug 3 (fun i j => i + j) (gV 6)) (gPass)) (gForget [4, 5, 6])
def b_away_on : GS := gSeq (gAsg (gC (.int 0)) (gTo 3)) (gSeq (gSeq (gSeq (gForget [4, 5, 6]) (gFor (gZip (gSl (gV 0) (gNoO) (gO (gOp2 dSub (gV 2) (gC (.int 1))))) (gV 1)) (gToT (gToCons (gToT (gToCons (gTo 4) (gToCons (gTo 5) (gToNil)))) (gToCons (gTo 6) (gToNil)))) (lb_away_on_1))) (gForget [4, 5, 6])) (gRet (gV 3)))
def F_away_on : List D → List MO → R D := runF 7 b_away_on
def lb_first_over_1 : GS := gSeq (gAsg (gIfE (gVal (gOp2 dLe (gV 2) (gCall (fn1 dLen) (gCons (gV 1) (gNil))))) (gOp2 dIx (gV 1) (gOp2 dSub (gV 2) (gC (.int 1)))) (gC (.int 0))) (gTo 5)) (gSeq (gIf (gVal (gOp2 dGt (gOp2 dAdd (gCallF 3 F_away_on (gCons (gV 0) (gCons (gV 1) (gCons (gV 2) (gNil))))) (gV 5)) (gV 3))) (gRet (gV 2)) (gPass)) (gForget [2, 3, 4, 5]))
def b_first_over : GS := gSeq (gSeq (gSeq (gForget [2, 3, 4, 5]) (gFor (gEnumK (gV 0) (gC (.int 1))) (gToT (gToCons (gTo 2) (gToCons (gToT (gToCons (gTo 3) (gToCons (gTo 4) (gToNil)))) (gToNil)))) (lb_first_over_1))) (gForget [2, 3, 4, 5])) (gRet (gC .non))
def F_first_over : List D → List MO → R D := runF 6 b_first_over
def b_require_past : GS := gSeq (gIf (gOrT (gNotT (gVal (gCallF 1 F_are_numbers (gCons (gV 1) (gNil))))) (gVal (gOp2 dGt (gCall (fn1 dLen) (gCons (gV 1) (gNil))) (gCall (fn1 dLen) (gCons (gV 0) (gNil)))))) (gRaise 2 (gOp1 dNeg (gC (.int 1)))) (gPass)) (gSeq (gAsg (gCallF 2 F_first_over (gCons (gV 0) (gCons (gV 1) (gNil)))) (gTo 2)) (gIf (gVal (gOp2 dNotN (gV 2) (gC .non))) (gRaise 2 (gV 2)) (gPass)))
def F_require_past : List D → List MO → R D := runF 3 b_require_past
def lb_require_holidays_1 : GS := gSeq (gIf (gOrT (gNotT (gVal (gCallF 3 F_is_between (gCons (gV 3) (gCons (gC (.int 1)) (gCons (gV 0) (gNil))))))) (gVal (gOp2 dIn (gV 3) (gSl (gV 1) (gNoO) (gO (gV 2)))))) (gRaise 3 (gV 2)) (gPass)) (gForget [2, 3])
def b_require_holidays : GS := gSeq (gIf (gNotT (gVal (gOp1 (dIsiT ["list", "tuple"]) (gV 1)))) (gRaise 3 (gOp1 dNeg (gC (.int 1)))) (gPass)) (gSeq (gSeq (gForget [2, 3]) (gFor (gEnum (gV 1)) (gToT (gToCons (gTo 2) (gToCons (gTo 3) (gToNil)))) (lb_require_holidays_1))) (gForget [2, 3]))
def F_require_holidays : List D → List MO → R D := runF 4 b_require_holidays
def lb_back_day_1 : GS := gSeq (gAug 0 (fun i j => i + j) (gC (.int 1))) (gSeq (gAug 1 (fun i j => i - j) (gCall (fn1 dInt) (gCons (gOp2 dNotIn (gV 0) (gV 3)) (gNil)))) (gForget []))
def lw_back_day_1 : GT := gAndT (gVal (gOp2 dGt (gV 1) (gC (.int 0)))) (gVal (gOp2 dLt (gV 0) (gV 2)))
def b_back_day : GS := gSeq (gSeq (gSeq (gForget []) (gWhile (lw_back_day_1) (lb_back_day_1) 1000000000)) (gForget [])) (gRet (gOp2 dAdd (gOp2 dAdd (gV 0) (gV 1)) (gC (.int 1))))
def F_back_day : List D → List MO → R D := runF 4 b_back_day
def le_steady_1 : GE := gTup (gCons (gV 0) (gCons (gC .non) (gNil)))
def le_steady_2 : GE := gTup (gCons (gV 0) (gCons (gCallF 4 F_back_day (gCons (gV 4) (gCons (gV 1) (gCons (gV 2) (gCons (gV 3) (gNil)))))) (gNil)))
def b_steady : GS := gSeq (gIf (gNotT (gVal (gCallF 3 F_is_between (gCons (gV 0) (gCons (gC (.int 0)) (gCons (gC (.int 12)) (gNil))))))) (gRaise 4 (gC (.str (Str.ofString "pieces")))) (gPass)) (gSeq (gIf (gAndT (gVal (gOp2 dNotN (gV 1) (gC .non))) (gNotT (gVal (gCallF 2 F_is_at_least (gCons (gV 1) (gCons (gC (.int 0)) (gNil))))))) (gRaise 4 (gC (.str (Str.ofString "repair")))) (gPass)) (gSeq (gIf (gNotT (gVal (gCallF 3 F_is_between (gCons (gV 2) (gCons (gC (.int 0)) (gCons (gC (.int 100)) (gNil))))))) (gRaise 4 (gC (.str (Str.ofString "days")))) (gPass)) (gSeq (gExpr (gCallF 2 F_require_holidays (gCons (gV 2) (gCons (gV 3) (gNil))))) (gSeq (gIf (gVal (gOp2 dIsN (gV 1) (gC .non))) (gRet (gLc (gRng1 (gCons (gV 2) (gNil))) (gTo 4) (gYes) (le_steady_1) [4])) (gPass)) (gRet (gLc (gRng2 (gCons (gC (.int 1)) (gCons (gOp2 dAdd (gV 2) (gC (.int 1))) (gNil)))) (gTo 4) (gYes) (le_steady_2) [4]))))))
def F_steady : List D → List MO → R D := runF 5 b_steady
def le_with_pieces_1 : GE := gTup (gCons (gOp2 dAdd (gV 6) (gOp2 dMulT (gV 3) (gCall (fn1 dInt) (gCons (gChain dLe dLe (gV 1) (gV 5) (gV 2)) (gNil))))) (gCons (gV 7) (gNil)))
def le_with_pieces_2 : GE := gChain dLe dLe (gC (.int 0)) (gV 6) (gC (.int 12))
def b_with_pieces : GS := gSeq (gExpr (gCallF 1 F_require_calendar (gCons (gV 0) (gNil)))) (gSeq (gIf (gNotT (gVal (gCallF 3 F_is_between (gCons (gV 1) (gCons (gC (.int 1)) (gCons (gCall (fn1 dLen) (gCons (gV 0) (gNil))) (gNil))))))) (gRaise 4 (gC (.str (Str.ofString "first")))) (gPass)) (gSeq (gIf (gNotT (gVal (gCallF 3 F_is_between (gCons (gV 2) (gCons (gV 1) (gCons (gCall (fn1 dLen) (gCons (gV 0) (gNil))) (gNil))))))) (gRaise 4 (gC (.str (Str.ofString "last")))) (gPass)) (gSeq (gIf (gNotT (gVal (gCallF 1 F_is_integer (gCons (gV 3) (gNil))))) (gRaise 4 (gC (.str (Str.ofString "pieces")))) (gPass)) (gSeq (gAsg (gLc (gEnumK (gV 0) (gC (.int 1))) (gToT (gToCons (gTo 5) (gToCons (gToT (gToCons (gTo 6) (gToCons (gTo 7) (gToNil)))) (gToNil)))) (gYes) (le_with_pieces_1) [5, 6, 7]) (gTo 4)) (gSeq (gIf (gNotT (gVal (gCall (fn1 dAll) (gCons (gLc (gSeqI (gV 4)) (gToT (gToCons (gTo 6) (gToCons (gTo 7) (gToNil)))) (gYes) (le_with_pieces_2) [6, 7]) (gNil))))) (gRaise 4 (gC (.str (Str.ofString "pieces")))) (gPass)) (gRet (gV 4)))))))
def F_with_pieces : List D → List MO → R D := runF 8 b_with_pieces
def le_away_1 : GE := gCallF 3 F_away_on (gCons (gV 0) (gCons (gV 1) (gCons (gV 2) (gNil))))
def b_away : GS := gSeq (gExpr (gCallF 1 F_require_calendar (gCons (gV 0) (gNil)))) (gSeq (gExpr (gCallF 2 F_require_past (gCons (gV 0) (gCons (gV 1) (gNil))))) (gRet (gLc (gRng2 (gCons (gOp2 dAdd (gCall (fn1 dLen) (gCons (gV 1) (gNil))) (gC (.int 1))) (gCons (gOp2 dAdd (gCall (fn1 dLen) (gCons (gV 0) (gNil))) (gC (.int 1))) (gNil)))) (gTo 2) (gYes) (le_away_1) [2])))
def F_away : List D → List MO → R D := runF 3 b_away
def lb_greatest_next_1 : GS := gSeq (gIf (gVal (gOp2 dLt (gOp2 dIx (gOp2 dIx (gV 0) (gOp2 dSub (gV 7) (gC (.int 1)))) (gC (.int 0))) (gV 5))) (gSeq (gAsg (gOp2 dIx (gOp2 dIx (gV 0) (gOp2 dSub (gV 7) (gC (.int 1)))) (gC (.int 0))) (gTo 5)) (gExpr (gMeth1 mAppend (gV 6) (gOp2 dSub (gV 5) (gCallF 3 F_away_on (gCons (gV 0) (gCons (gV 1) (gCons (gV 7) (gNil))))))))) (gPass)) (gForget [7])
def b_greatest_next : GS := gSeq (gAsg (gOp2 dAdd (gCall (fn1 dLen) (gCons (gV 1) (gNil))) (gC (.int 1))) (gTo 2)) (gSeq (gAsg (gOp2 dIx (gOp2 dIx (gV 0) (gOp2 dSub (gV 2) (gC (.int 1)))) (gC (.int 1))) (gTo 3)) (gSeq (gAsg (gIfE (gVal (gOp2 dIsN (gV 3) (gC .non))) (gCall (fn1 dLen) (gCons (gV 0) (gNil))) (gCall (fn2 dMin2) (gCons (gOp2 dSub (gV 3) (gC (.int 1))) (gCons (gCall (fn1 dLen) (gCons (gV 0) (gNil))) (gNil))))) (gTo 4)) (gSeq (gPar2 5 6 (gCons (gOp2 dAdd (gC (.int 12)) (gC (.int 1))) (gCons (gLstO (gNil)) (gNil)))) (gSeq (gSeq (gSeq (gSeq (gForget [7]) (gFor (gRng2 (gCons (gV 2) (gCons (gOp2 dAdd (gV 4) (gC (.int 1))) (gNil)))) (gTo 7) (lb_greatest_next_1))) (gForget [5, 7])) (gFz 6)) (gRet (gCall (fn1 dMin) (gCons (gV 6) (gNil))))))))
def F_greatest_next : List D → List MO → R D := runF 8 b_greatest_next
def b_ready : GS := gSeq (gExpr (gCallF 1 F_require_calendar (gCons (gV 0) (gNil)))) (gSeq (gExpr (gCallF 2 F_require_past (gCons (gV 0) (gCons (gV 1) (gNil))))) (gRet (gIfE (gVal (gOp2 dLt (gCall (fn1 dLen) (gCons (gV 1) (gNil))) (gCall (fn1 dLen) (gCons (gV 0) (gNil))))) (gCallF 2 F_greatest_next (gCons (gV 0) (gCons (gV 1) (gNil)))) (gC .non))))
def F_ready : List D → List MO → R D := runF 2 b_ready
def b_first_fault : GS := gSeq (gExpr (gCallF 1 F_require_calendar (gCons (gV 0) (gNil)))) (gSeq (gExpr (gCallF 2 F_require_row (gCons (gV 0) (gCons (gV 1) (gNil))))) (gRet (gCallF 2 F_first_over (gCons (gV 0) (gCons (gV 1) (gNil))))))
def F_first_fault : List D → List MO → R D := runF 2 b_first_fault
def lb_rest_of_1 : GS := gSeq (gExpr (gMeth1 mAppend (gV 3) (gTup (gCons (gOp2 dSub (gV 5) (gCallF 3 F_away_on (gCons (gV 0) (gCons (gV 1) (gCons (gV 4) (gNil)))))) (gCons (gIfE (gVal (gOp2 dIsN (gV 6) (gC .non))) (gC .non) (gOp2 dSub (gV 6) (gV 2))) (gNil)))))) (gForget [4, 5, 6])
def b_rest_of : GS := gSeq (gExpr (gCallF 1 F_require_calendar (gCons (gV 0) (gNil)))) (gSeq (gExpr (gCallF 2 F_require_past (gCons (gV 0) (gCons (gV 1) (gNil))))) (gSeq (gAsg (gCall (fn1 dLen) (gCons (gV 1) (gNil))) (gTo 2)) (gSeq (gAsg (gLstO (gNil)) (gTo 3)) (gSeq (gSeq (gSeq (gSeq (gForget [4, 5, 6]) (gFor (gEnumK (gSl (gV 0) (gO (gV 2)) (gNoO)) (gOp2 dAdd (gV 2) (gC (.int 1)))) (gToT (gToCons (gTo 4) (gToCons (gToT (gToCons (gTo 5) (gToCons (gTo 6) (gToNil)))) (gToNil)))) (lb_rest_of_1))) (gForget [4, 5, 6])) (gFz 3)) (gRet (gV 3))))))
def F_rest_of : List D → List MO → R D := runF 7 b_rest_of
def lb_least_owned_1 : GS := gSeq (gIf (gOrT (gNotT (gVal (gCallF 1 F_are_numbers (gCons (gV 3) (gNil))))) (gVal (gOp2 dNeA (gCall (fn1 dLen) (gCons (gV 3) (gNil))) (gCall (fn1 dLen) (gCons (gV 0) (gNil)))))) (gRaise 1 (gV 2)) (gPass)) (gForget [2, 3])
def le_least_owned_1 : GE := gOp2 dAdd (gCallF 3 F_away_on (gCons (gV 0) (gCons (gV 3) (gCons (gV 5) (gNil))))) (gOp2 dIx (gV 3) (gOp2 dSub (gV 5) (gC (.int 1))))
def lb_least_owned_2 : GS := gSeq (gExpr (gMeth1 mAppend (gV 4) (gCall (fn1 dMax) (gCons (gOp2 dAdd (gLst (gCons (gC (.int 0)) (gNil))) (gLc (gSeqI (gV 1)) (gTo 3) (gYes) (le_least_owned_1) [3])) (gNil))))) (gForget [5])
def b_least_owned : GS := gSeq (gExpr (gCallF 1 F_require_calendar (gCons (gV 0) (gNil)))) (gSeq (gIf (gNotT (gVal (gOp1 (dIsiT ["list", "tuple"]) (gV 1)))) (gRaise 1 (gOp1 dNeg (gC (.int 1)))) (gPass)) (gSeq (gSeq (gSeq (gForget [2, 3]) (gFor (gEnum (gV 1)) (gToT (gToCons (gTo 2) (gToCons (gTo 3) (gToNil)))) (lb_least_owned_1))) (gForget [2, 3])) (gSeq (gAsg (gLstO (gNil)) (gTo 4)) (gSeq (gSeq (gSeq (gSeq (gForget [5]) (gFor (gRng2 (gCons (gC (.int 1)) (gCons (gOp2 dAdd (gCall (fn1 dLen) (gCons (gV 0) (gNil))) (gC (.int 1))) (gNil)))) (gTo 5) (lb_least_owned_2))) (gForget [5])) (gFz 4)) (gRet (gV 4))))))
def F_least_owned : List D → List MO → R D := runF 6 b_least_owned
def b_law_mixed : GS := gSeq (gAsg (gOp2 dMod (gOp2 dMulT (gOp2 dAdd (gOp2 dMod (gV 0) (gC (.int 2147483646))) (gC (.int 1))) (gOp2 dAdd (gOp2 dMulT (gV 1) (gC (.int 7919))) (gC (.int 104729)))) (gC (.int 2147483647))) (gTo 2)) (gSeq (gAsg (gOp2 dMod (gOp2 dMulT (gOp2 dAdd (gV 2) (gOp2 dMulT (gOp2 dMod (gOp2 dFdiv (gV 0) (gC (.int 2147483646))) (gC (.int 1000003))) (gOp2 dAdd (gV 1) (gC (.int 31))))) (gC (.int 48271))) (gC (.int 2147483629))) (gTo 2)) (gSeq (gAsg (gOp2 dMod (gOp2 dMulT (gV 2) (gOp2 dAdd (gOp2 dAdd (gOp2 dFdiv (gV 2) (gC (.int 1013))) (gC (.int 69621))) (gV 1))) (gC (.int 2147483587))) (gTo 2)) (gRet (gOp2 dMod (gOp2 dMulT (gV 2) (gOp2 dAdd (gOp2 dFdiv (gV 2) (gC (.int 2003))) (gC (.int 40692)))) (gC (.int 2147483563))))))
def F_law_mixed : List D → List MO → R D := runF 3 b_law_mixed
def b_law_source : GS := gRet (gLstO (gCons (gV 0) (gCons (gV 0) (gCons (gC (.int 0)) (gNil)))))
def F_law_source : List D → List MO → R D := runF 1 b_law_source
def b_law_take : GS := gSeq (gIf (gVal (gOp2 dGe (gOp2 dIx (gV 0) (gC (.int 0))) (gOp2 dPow (gC (.int 10)) (gC (.int 18))))) (gSeq (gAsg (gOp2 dMod (gOp2 dIx (gV 0) (gC (.int 0))) (gV 1)) (gTo 2)) (gSeq (gSetI (gOp2 dFdiv (gOp2 dIx (gV 0) (gC (.int 0))) (gV 1)) (gV 0) (gC (.int 0))) (gRet (gV 2)))) (gPass)) (gSeq (gSetI (gOp2 dAdd (gOp2 dIx (gV 0) (gC (.int 2))) (gC (.int 1))) (gV 0) (gC (.int 2))) (gRet (gOp2 dMod (gCallF 2 F_law_mixed (gCons (gOp2 dIx (gV 0) (gC (.int 1))) (gCons (gOp2 dIx (gV 0) (gC (.int 2))) (gNil)))) (gV 1))))
def F_law_take : List D → List MO → R D := runF 3 b_law_take
def lb_law_stock_1 : GS := gSeq (gAsg (gV 5) (gTo 9)) (gSeq (gIf (gVal (gOp2 dIn (gV 4) (gTup (gCons (gC (.int 1)) (gCons (gC (.int 3)) (gNil)))))) (gAsg (gCallF 2 F_law_take (gCons (gV 0) (gCons (gOp2 dAdd (gV 2) (gC (.int 1))) (gNil)))) (gTo 9)) (gPass)) (gSeq (gIf (gVal (gOp2 dEqA (gV 4) (gC (.int 2)))) (gAsg (gCall (fn2 dMax2) (gCons (gC (.int 0)) (gCons (gOp2 dSub (gV 5) (gOp2 dFdiv (gV 8) (gC (.int 2)))) (gNil)))) (gTo 9)) (gPass)) (gSeq (gAsg (gOp2 dAdd (gOp2 dAdd (gV 8) (gC (.int 2))) (gV 6)) (gTo 10)) (gSeq (gIf (gVal (gOp2 dGt (gV 4) (gC (.int 0)))) (gAsg (gOp2 dIx (gLst (gCons (gOp2 dAdd (gOp2 dAdd (gV 8) (gC (.int 2))) (gCallF 2 F_law_take (gCons (gV 0) (gCons (gC (.int 4)) (gNil))))) (gCons (gOp2 dAdd (gV 8) (gC (.int 2))) (gCons (gC .non) (gCons (gOp2 dAdd (gOp2 dAdd (gV 3) (gC (.int 1))) (gCallF 2 F_law_take (gCons (gV 0) (gCons (gC (.int 9)) (gNil))))) (gNil)))))) (gCallF 2 F_law_take (gCons (gV 0) (gCons (gC (.int 4)) (gNil))))) (gTo 10)) (gPass)) (gSeq (gExpr (gMeth1 mAppend (gV 7) (gTup (gCons (gV 9) (gCons (gV 10) (gNil)))))) (gForget [8, 9, 10]))))))
def b_law_stock : GS := gSeq (gPar2 3 4 (gCons (gCallF 2 F_law_take (gCons (gV 0) (gCons (gOp2 dAdd (gV 1) (gC (.int 1))) (gNil)))) (gCons (gCallF 2 F_law_take (gCons (gV 0) (gCons (gC (.int 5)) (gNil)))) (gNil)))) (gSeq (gPar2 5 6 (gCons (gCallF 2 F_law_take (gCons (gV 0) (gCons (gOp2 dAdd (gV 2) (gC (.int 1))) (gNil)))) (gCons (gCallF 2 F_law_take (gCons (gV 0) (gCons (gC (.int 4)) (gNil)))) (gNil)))) (gSeq (gAsg (gLstO (gNil)) (gTo 7)) (gSeq (gSeq (gSeq (gSeq (gForget [8, 9, 10]) (gFor (gRng1 (gCons (gV 3) (gNil))) (gTo 8) (lb_law_stock_1))) (gForget [8, 9, 10])) (gFz 7)) (gRet (gV 7)))))
def F_law_stock : List D → List MO → R D := runF 11 b_law_stock
def lb_law_gone_1 : GS := gSeq (gIf (gOrT (gVal (gOp2 dIsN (gV 5) (gC .non))) (gVal (gOp2 dGt (gV 5) (gV 2)))) (gAsg (gOp2 dAdd (gV 3) (gV 6)) (gTo 3)) (gPass)) (gForget [4, 5, 6])
def b_law_gone : GS := gSeq (gAsg (gC (.int 0)) (gTo 3)) (gSeq (gSeq (gSeq (gForget [4, 5, 6]) (gFor (gSeqI (gSl (gLzip false (gV 0) (gV 1)) (gNoO) (gO (gOp2 dSub (gV 2) (gC (.int 1)))))) (gToT (gToCons (gToT (gToCons (gTo 4) (gToCons (gTo 5) (gToNil)))) (gToCons (gTo 6) (gToNil)))) (lb_law_gone_1))) (gForget [4, 5, 6])) (gRet (gV 3)))
def F_law_gone : List D → List MO → R D := runF 7 b_law_gone
def lb_law_over_1 : GS := gSeq (gIf (gVal (gOp2 dGt (gOp2 dAdd (gCallF 3 F_law_gone (gCons (gV 0) (gCons (gV 2) (gCons (gOp2 dAdd (gV 3) (gC (.int 1))) (gNil))))) (gV 4)) (gOp2 dIx (gOp2 dIx (gV 0) (gV 3)) (gC (.int 0))))) (gRet (gOp2 dAdd (gV 3) (gC (.int 1)))) (gPass)) (gForget [3, 4])
def b_law_over : GS := gSeq (gAsg (gOp2 dAdd (gCall (fn1 dTuple) (gCons (gV 1) (gNil))) (gOp2 dMulT (gTup (gCons (gC (.int 0)) (gNil))) (gOp2 dSub (gCall (fn1 dLen) (gCons (gV 0) (gNil))) (gCall (fn1 dLen) (gCons (gV 1) (gNil)))))) (gTo 2)) (gSeq (gSeq (gSeq (gForget [3, 4]) (gFor (gEnum (gV 2)) (gToT (gToCons (gTo 3) (gToCons (gTo 4) (gToNil)))) (lb_law_over_1))) (gForget [3, 4])) (gRet (gC .non)))
def F_law_over : List D → List MO → R D := runF 5 b_law_over
noncomputable def F_law_raised : (List MO → R D) → List MO → R D := frA 3 5 errN [⟨fun _ => true, some 1, fun cE aE dE => gSeq (gAsg (gLst (gCons (gIsV2 1 aE dE (decide (cE = 0))) (gCons (gIsV2 1 aE dE (decide (cE = 1))) (gCons (gIsV2 1 aE dE (decide (cE = 3))) (gNil))))) (gTo 2)) (gSeq (gAsg (gOp2 dAdd (gV 2) (gLst (gCons (gIsV2 1 aE dE (decide (cE = 2))) (gCons (gIsV2 1 aE dE (decide (cE = 4))) (gCons (gIsV2 1 aE dE false) (gNil)))))) (gTo 2)) (gSeq (gAsg (gOp2 dAdd (gV 2) (gLst (gCons (gIsV2 1 aE dE (false || (false || (false || false)))) (gNil)))) (gTo 2)) (gSeq (gIf (gOrT (gVal (gOp2 dNeA (gRd1 dCntD (gV 2) (gC (.bl true))) (gC (.int 1)))) (gOrT (gVal (gOp2 dIx (gV 2) (gC (.int 6)))) (gNotT (gVal (gIsV2 1 aE dE true))))) (gRet (gTup (gCons (gC (.str (Str.ofString "several"))) (gCons (gC (.str (Str.ofString ""))) (gNil))))) (gPass)) (gSeq (gIf (gVal (gOp2 dIx (gV 2) (gC (.int 3)))) (gRet (gTup (gCons (gC (.str (Str.ofString "past"))) (gCons (gAtV 1 aE dE "day") (gNil))))) (gPass)) (gSeq (gIf (gVal (gOp2 dIx (gV 2) (gC (.int 4)))) (gRet (gTup (gCons (gC (.str (Str.ofString "number"))) (gCons (gAtV 1 aE dE "name") (gNil))))) (gPass)) (gSeq (gIf (gVal (gOp2 dIx (gV 2) (gC (.int 5)))) (gRet (gTup (gCons (gC (.str (Str.ofString "large"))) (gCons (gAtV 1 aE dE "limit") (gNil))))) (gPass)) (gRet (gTup (gCons (gOp2 dIx (gLst (gCons (gC (.str (Str.ofString "calendar"))) (gCons (gC (.str (Str.ofString "row"))) (gCons (gC (.str (Str.ofString "holidays"))) (gNil))))) (gIndex (gV 2) (gC (.bl true)))) (gCons (gAtV 1 aE dE "index") (gNil)))))))))))⟩] (gRet (gTup (gCons (gC (.str (Str.ofString "none"))) (gCons (gC (.str (Str.ofString ""))) (gNil)))))
def b_law_bad_stock : GS := gSeq (gAsg (gCallF 2 F_law_take (gCons (gV 0) (gCons (gOp2 dAdd (gCall (fn1 dLen) (gCons (gV 1) (gNil))) (gC (.int 1))) (gNil)))) (gTo 2)) (gSeq (gAsg (gOp2 dAdd (gV 2) (gC (.int 1))) (gTo 3)) (gSeq (gAsg (gLst (gCons (gC .non) (gCons (gLst (gCons (gC (.int 1)) (gCons (gC .non) (gNil)))) (gCons (gTup (gCons (gC (.int 1)) (gNil))) (gCons (gTup (gCons (gC (.int 1)) (gCons (gC .non) (gCons (gC (.int 1)) (gNil))))) (gCons (gTup (gCons (gOp1 dNeg (gC (.int 1))) (gCons (gC .non) (gNil)))) (gCons (gTup (gCons (gC (.int 13)) (gCons (gC .non) (gNil)))) (gCons (gTup (gCons (gC (.bl true)) (gCons (gC .non) (gNil)))) (gCons (gTup (gCons (gC .non) (gCons (gC .non) (gNil)))) (gCons (gTup (gCons (gC (.str (Str.ofString "1"))) (gCons (gC .non) (gNil)))) (gNil))))))))))) (gTo 4)) (gSeq (gAsg (gOp2 dAdd (gV 4) (gLst (gCons (gTup (gCons (gC (.int 1)) (gCons (gV 3) (gNil)))) (gCons (gTup (gCons (gC (.int 1)) (gCons (gC (.int 0)) (gNil)))) (gCons (gTup (gCons (gC (.int 1)) (gCons (gOp1 dNeg (gC (.int 5))) (gNil)))) (gCons (gTup (gCons (gC (.int 1)) (gCons (gC (.bl true)) (gNil)))) (gCons (gTup (gCons (gC (.int 1)) (gCons (gC (.str (Str.ofString "9"))) (gNil)))) (gCons (gTup (gCons (gC (.int 1)) (gCons (gLst (gCons (gC (.int 9)) (gNil))) (gNil)))) (gCons (gTup (gCons (gLst (gCons (gC (.int 1)) (gNil))) (gCons (gC .non) (gNil)))) (gCons (gDct0) (gCons (gC (.int 7)) (gNil)))))))))))) (gTo 4)) (gSeq (gAsg (gLst (gCons (gC .non) (gCons (gC (.str (Str.ofString ""))) (gCons (gDct0) (gCons (gC (.int 5)) (gCons (gOp2 dMulT (gLst (gCons (gTup (gCons (gC (.int 1)) (gCons (gC .non) (gNil)))) (gNil))) (gC (.int 101))) (gCons (gOp2 dAdd (gOp2 dMulT (gTup (gCons (gTup (gCons (gC (.int 1)) (gCons (gC .non) (gNil)))) (gNil))) (gC (.int 100))) (gTup (gCons (gC .non) (gNil)))) (gCons (gC (.bl true)) (gCons (gDcx (.inl 1) (gC .non)) (gNil)))))))))) (gTo 5)) (gSeq (gIf (gVal (gOp2 dEqA (gCallF 2 F_law_take (gCons (gV 0) (gCons (gC (.int 3)) (gNil)))) (gC (.int 0)))) (gRet (gTup (gCons (gOp2 dIx (gV 5) (gCallF 2 F_law_take (gCons (gV 0) (gCons (gC (.int 8)) (gNil))))) (gCons (gOp1 dNeg (gC (.int 1))) (gNil))))) (gPass)) (gSeq (gAsg (gOp2 dAdd (gOp2 dAdd (gSl (gV 1) (gNoO) (gO (gV 2))) (gLst (gCons (gOp2 dIx (gV 4) (gCallF 2 F_law_take (gCons (gV 0) (gCons (gC (.int 18)) (gNil))))) (gNil)))) (gOp2 dMulT (gLst (gCons (gC .non) (gNil))) (gCallF 2 F_law_take (gCons (gV 0) (gCons (gC (.int 2)) (gNil)))))) (gTo 6)) (gRet (gTup (gCons (gOp2 dIx (gLst (gCons (gV 6) (gCons (gCall (fn1 dTuple) (gCons (gV 6) (gNil))) (gNil)))) (gCallF 2 F_law_take (gCons (gV 0) (gCons (gC (.int 2)) (gNil))))) (gCons (gV 2) (gNil)))))))))))
def F_law_bad_stock : List D → List MO → R D := runF 7 b_law_bad_stock
def b_law_bad_line : GS := gSeq (gAsg (gOp2 dIx (gLst (gCons (gOp1 dNeg (gC (.int 1))) (gCons (gC (.bl true)) (gCons (gC .non) (gCons (gC (.str (Str.ofString "0"))) (gCons (gTup (gCons (gC (.int 0)) (gNil))) (gCons (gLst (gCons (gC (.int 0)) (gNil))) (gCons (gDct0) (gCons (gOp2 dSub (gC (.int 0)) (gOp2 dPow (gC (.int 10)) (gC (.int 30)))) (gNil)))))))))) (gCallF 2 F_law_take (gCons (gV 0) (gCons (gC (.int 8)) (gNil))))) (gTo 2)) (gSeq (gAsg (gCallF 2 F_law_take (gCons (gV 0) (gCons (gCall (fn1 dLen) (gCons (gV 1) (gNil))) (gNil)))) (gTo 3)) (gSeq (gAsg (gLst (gCons (gTup (gCons (gC .non) (gCons (gOp1 dNeg (gC (.int 1))) (gNil)))) (gCons (gTup (gCons (gCall (fn1 dList) (gCons (gV 1) (gNil))) (gCons (gOp1 dNeg (gC (.int 1))) (gNil)))) (gCons (gTup (gCons (gOp2 dAdd (gV 1) (gTup (gCons (gC (.int 0)) (gNil)))) (gCons (gOp1 dNeg (gC (.int 1))) (gNil)))) (gCons (gTup (gCons (gSl (gV 1) (gO (gC (.int 1))) (gNoO)) (gCons (gOp1 dNeg (gC (.int 1))) (gNil)))) (gCons (gTup (gCons (gDct0) (gCons (gOp1 dNeg (gC (.int 1))) (gNil)))) (gCons (gTup (gCons (gOp2 dMulS (gC (.str (Str.ofString "0"))) (gCall (fn1 dLen) (gCons (gV 1) (gNil)))) (gCons (gOp1 dNeg (gC (.int 1))) (gNil)))) (gNil)))))))) (gTo 4)) (gSeq (gAsg (gOp2 dAdd (gV 4) (gOp2 dMulT (gLst (gCons (gTup (gCons (gOp2 dAdd (gOp2 dAdd (gSl (gV 1) (gNoO) (gO (gV 3))) (gTup (gCons (gV 2) (gNil)))) (gSl (gV 1) (gO (gOp2 dAdd (gV 3) (gC (.int 1)))) (gNoO))) (gCons (gV 3) (gNil)))) (gCons (gTup (gCons (gOp2 dAdd (gSl (gV 1) (gNoO) (gO (gV 3))) (gOp2 dMulT (gTup (gCons (gV 2) (gNil))) (gOp2 dSub (gCall (fn1 dLen) (gCons (gV 1) (gNil))) (gV 3)))) (gCons (gV 3) (gNil)))) (gNil)))) (gC (.int 3)))) (gTo 4)) (gRet (gOp2 dIx (gV 4) (gCallF 2 F_law_take (gCons (gV 0) (gCons (gC (.int 12)) (gNil)))))))))
def F_law_bad_line : List D → List MO → R D := runF 5 b_law_bad_line
def lb_law_late_1 : GS := gSeq (gAsg (gOp2 dAdd (gOp2 dMulT (gTup (gCons (gC (.int 0)) (gNil))) (gV 3)) (gTup (gCons (gV 4) (gNil)))) (gTo 6)) (gSeq (gAsg (gCallF 2 F_law_over (gCons (gV 1) (gCons (gV 6) (gNil)))) (gTo 7)) (gSeq (gIf (gAndT (gVal (gOp2 dNotN (gV 7) (gC .non))) (gVal (gOp2 dGt (gV 7) (gOp2 dAdd (gV 3) (gC (.int 1)))))) (gExpr (gMeth1 mAppend (gV 2) (gTup (gCons (gV 6) (gCons (gV 7) (gNil)))))) (gPass)) (gForget [3, 4, 5, 6, 7])))
def b_law_late : GS := gSeq (gAsg (gLstO (gNil)) (gTo 2)) (gSeq (gSeq (gSeq (gSeq (gForget [3, 4, 5, 6, 7]) (gFor (gEnum (gV 1)) (gToT (gToCons (gTo 3) (gToCons (gToT (gToCons (gTo 4) (gToCons (gTo 5) (gToNil)))) (gToNil)))) (lb_law_late_1))) (gForget [3, 4, 5, 6, 7])) (gFz 2)) (gSeq (gIf (gVal (gOp2 dEqA (gV 2) (gLst (gNil)))) (gRet (gC .non)) (gPass)) (gRet (gOp2 dIx (gV 2) (gCallF 2 F_law_take (gCons (gV 0) (gCons (gCall (fn1 dLen) (gCons (gV 2) (gNil))) (gNil))))))))
def F_law_late : List D → List MO → R D := runF 8 b_law_late
def b_law_bad_start : GS := gSeq (gAsg (gOp2 dIx (gLst (gCons (gOp1 dNeg (gC (.int 1))) (gCons (gC (.bl true)) (gCons (gC .non) (gCons (gC (.str (Str.ofString "0"))) (gCons (gTup (gCons (gC (.int 0)) (gNil))) (gCons (gLst (gCons (gC (.int 0)) (gNil))) (gCons (gDct0) (gCons (gOp2 dSub (gC (.int 0)) (gOp2 dPow (gC (.int 10)) (gC (.int 30)))) (gNil)))))))))) (gCallF 2 F_law_take (gCons (gV 0) (gCons (gC (.int 8)) (gNil))))) (gTo 2)) (gSeq (gAsg (gCallF 2 F_law_take (gCons (gV 0) (gCons (gCall (fn1 dLen) (gCons (gV 1) (gNil))) (gNil)))) (gTo 3)) (gSeq (gAsg (gOp2 dMulT (gTup (gCons (gC (.int 0)) (gNil))) (gCall (fn1 dLen) (gCons (gV 1) (gNil)))) (gTo 4)) (gSeq (gAsg (gLst (gCons (gTup (gCons (gC .non) (gCons (gOp1 dNeg (gC (.int 1))) (gNil)))) (gCons (gTup (gCons (gCall (fn1 dList) (gCons (gV 4) (gNil))) (gCons (gOp1 dNeg (gC (.int 1))) (gNil)))) (gCons (gTup (gCons (gOp2 dAdd (gV 4) (gTup (gCons (gC (.int 0)) (gNil)))) (gCons (gOp1 dNeg (gC (.int 1))) (gNil)))) (gCons (gTup (gCons (gOp2 dAdd (gSl (gV 4) (gNoO) (gO (gV 3))) (gTup (gCons (gV 2) (gNil)))) (gCons (gOp1 dNeg (gC (.int 1))) (gNil)))) (gCons (gTup (gCons (gDct0) (gCons (gOp1 dNeg (gC (.int 1))) (gNil)))) (gCons (gTup (gCons (gC (.str (Str.ofString "0"))) (gCons (gOp1 dNeg (gC (.int 1))) (gNil)))) (gCons (gTup (gCons (gC (.int 0)) (gCons (gOp1 dNeg (gC (.int 1))) (gNil)))) (gNil))))))))) (gTo 5)) (gSeq (gAsg (gOp2 dAdd (gSl (gV 4) (gNoO) (gO (gV 3))) (gTup (gCons (gOp2 dAdd (gC (.int 13)) (gCallF 2 F_law_take (gCons (gV 0) (gCons (gC (.int 3)) (gNil))))) (gNil)))) (gTo 6)) (gSeq (gAsg (gCallF 2 F_law_late (gCons (gV 0) (gCons (gV 1) (gNil)))) (gTo 7)) (gSeq (gIf (gAndT (gVal (gOp2 dNotN (gV 7) (gC .non))) (gVal (gOp2 dGt (gCallF 2 F_law_take (gCons (gV 0) (gCons (gC (.int 3)) (gNil)))) (gC (.int 0))))) (gRet (gV 7)) (gPass)) (gRet (gOp2 dIx (gOp2 dAdd (gV 5) (gOp2 dMulT (gLst (gCons (gTup (gCons (gV 6) (gCons (gOp2 dAdd (gV 3) (gC (.int 1))) (gNil)))) (gCons (gTup (gCons (gOp2 dAdd (gV 6) (gSl (gV 4) (gO (gOp2 dAdd (gV 3) (gC (.int 1)))) (gNoO))) (gCons (gOp2 dAdd (gV 3) (gC (.int 1))) (gNil)))) (gNil)))) (gC (.int 4)))) (gCallF 2 F_law_take (gCons (gV 0) (gCons (gC (.int 15)) (gNil))))))))))))
def F_law_bad_start : List D → List MO → R D := runF 8 b_law_bad_start
def la_law_steady_right_0 : LSy := lamOf 0 (("_law_steady_right" : Str) ++ ".<locals>.") (subE (subS (atB (defBody s_law_steady_right) 6)) 0)
@[simp] theorem lx_law_steady_right_0 : la_law_steady_right_0.ix = 0 := by rfl
theorem ls_law_steady_right_0 : LamX.LamS (defScope s_law_steady_right) la_law_steady_right_0.scope := LamX.lamS_by (by decide +kernel)
def lg_law_steady_right_0 : GE := gCallF 4 F_steady (gCons (gV 1) (gCons (gV 3) (gCons (gV 1) (gCons (gV 5) (gNil)))))
def la_law_steady_right_1 : LSy := lamOf 1 (("_law_steady_right" : Str) ++ ".<locals>.") (subE (subS (atB (defBody s_law_steady_right) 7)) 0)
@[simp] theorem lx_law_steady_right_1 : la_law_steady_right_1.ix = 1 := by rfl
theorem ls_law_steady_right_1 : LamX.LamS (defScope s_law_steady_right) la_law_steady_right_1.scope := LamX.lamS_by (by decide +kernel)
def lg_law_steady_right_1 : GE := gCallF 4 F_steady (gCons (gC (.int 13)) (gCons (gV 3) (gCons (gV 2) (gCons (gV 5) (gNil)))))
def la_law_steady_right_2 : LSy := lamOf 2 (("_law_steady_right" : Str) ++ ".<locals>.") (subE (subS (atB (defBody s_law_steady_right) 8)) 0)
@[simp] theorem lx_law_steady_right_2 : la_law_steady_right_2.ix = 2 := by rfl
theorem ls_law_steady_right_2 : LamX.LamS (defScope s_law_steady_right) la_law_steady_right_2.scope := LamX.lamS_by (by decide +kernel)
def lg_law_steady_right_2 : GE := gCallF 4 F_steady (gCons (gC (.int 3)) (gCons (gV 3) (gCons (gV 1) (gCons (gV 5) (gNil)))))
def la_law_steady_right_3 : LSy := lamOf 3 (("_law_steady_right" : Str) ++ ".<locals>.") (subE (subS (atB (defBody s_law_steady_right) 9)) 0)
@[simp] theorem lx_law_steady_right_3 : la_law_steady_right_3.ix = 3 := by rfl
theorem ls_law_steady_right_3 : LamX.LamS (defScope s_law_steady_right) la_law_steady_right_3.scope := LamX.lamS_by (by decide +kernel)
def lg_law_steady_right_3 : GE := gCallF 4 F_steady (gCons (gC (.int 3)) (gCons (gC (.int 2)) (gCons (gV 1) (gCons (gV 5) (gNil)))))
def la_law_steady_right_4 : LSy := lamOf 4 (("_law_steady_right" : Str) ++ ".<locals>.") (subE (subS (atB (defBody s_law_steady_right) 10)) 0)
@[simp] theorem lx_law_steady_right_4 : la_law_steady_right_4.ix = 4 := by rfl
theorem ls_law_steady_right_4 : LamX.LamS (defScope s_law_steady_right) la_law_steady_right_4.scope := LamX.lamS_by (by decide +kernel)
def lg_law_steady_right_4 : GE := gCallF 4 F_steady (gCons (gC (.int 3)) (gCons (gC .non) (gCons (gC (.int 101)) (gCons (gV 5) (gNil)))))
def la_law_steady_right_5 : LSy := lamOf 5 (("_law_steady_right" : Str) ++ ".<locals>.") (subE (subS (atB (defBody s_law_steady_right) 11)) 0)
@[simp] theorem lx_law_steady_right_5 : la_law_steady_right_5.ix = 5 := by rfl
theorem ls_law_steady_right_5 : LamX.LamS (defScope s_law_steady_right) la_law_steady_right_5.scope := LamX.lamS_by (by decide +kernel)
def lg_law_steady_right_5 : GE := gCallF 4 F_steady (gCons (gC (.int 0)) (gCons (gC .non) (gCons (gV 2) (gCons (gV 5) (gNil)))))
def la_law_steady_right_6 : LSy := lamOf 6 (("_law_steady_right" : Str) ++ ".<locals>.") (subE (subS (atB (defBody s_law_steady_right) 12)) 0)
@[simp] theorem lx_law_steady_right_6 : la_law_steady_right_6.ix = 6 := by rfl
theorem ls_law_steady_right_6 : LamX.LamS (defScope s_law_steady_right) la_law_steady_right_6.scope := LamX.lamS_by (by decide +kernel)
def lg_law_steady_right_6 : GE := gCallF 4 F_steady (gCons (gC (.int 12)) (gCons (gOp2 dPow (gC (.int 10)) (gC (.int 30))) (gCons (gC (.int 100)) (gCons (gTup (gNil)) (gNil)))))
def lt_law_steady_right : LTab := [(la_law_steady_right_0, lg_law_steady_right_0), (la_law_steady_right_1, lg_law_steady_right_1), (la_law_steady_right_2, lg_law_steady_right_2), (la_law_steady_right_3, lg_law_steady_right_3), (la_law_steady_right_4, lg_law_steady_right_4), (la_law_steady_right_5, lg_law_steady_right_5), (la_law_steady_right_6, lg_law_steady_right_6)]
noncomputable def b_law_steady_right (cl : List (Str × Addr)) : GS := gSeq (gAsg (gOp2 dIx (gLst (gCons (gOp1 dNeg (gC (.int 1))) (gCons (gC (.bl true)) (gCons (gC .non) (gCons (gC (.str (Str.ofString "1"))) (gCons (gTup (gCons (gC (.int 1)) (gNil))) (gCons (gLst (gCons (gC (.int 1)) (gNil))) (gCons (gDct0) (gCons (gOp2 dSub (gC (.int 0)) (gOp2 dPow (gC (.int 10)) (gC (.int 30)))) (gNil)))))))))) (gCallF 2 F_law_take (gCons (gV 0) (gCons (gC (.int 8)) (gNil))))) (gTo 1)) (gSeq (gAsg (gOp2 dAdd (gC (.int 1)) (gCallF 2 F_law_take (gCons (gV 0) (gCons (gC (.int 9)) (gNil))))) (gTo 2)) (gSeq (gAsg (gOp2 dIx (gLst (gCons (gOp1 dNeg (gC (.int 1))) (gCons (gC (.bl true)) (gCons (gC (.str (Str.ofString "1"))) (gCons (gTup (gCons (gC (.int 1)) (gNil))) (gCons (gLst (gCons (gC (.int 1)) (gNil))) (gCons (gDct0) (gCons (gC (.bl false)) (gNil))))))))) (gCallF 2 F_law_take (gCons (gV 0) (gCons (gC (.int 7)) (gNil))))) (gTo 3)) (gSeq (gAsg (gLst (gCons (gTup (gCons (gC .non) (gCons (gOp1 dNeg (gC (.int 1))) (gNil)))) (gCons (gTup (gCons (gDct0) (gCons (gOp1 dNeg (gC (.int 1))) (gNil)))) (gCons (gTup (gCons (gC (.str (Str.ofString "1"))) (gCons (gOp1 dNeg (gC (.int 1))) (gNil)))) (gCons (gTup (gCons (gC (.int 1)) (gCons (gOp1 dNeg (gC (.int 1))) (gNil)))) (gCons (gTup (gCons (gLst (gCons (gC (.int 0)) (gNil))) (gCons (gC (.int 0)) (gNil)))) (gCons (gTup (gCons (gLst (gCons (gOp2 dAdd (gV 2) (gC (.int 1))) (gNil))) (gCons (gC (.int 0)) (gNil)))) (gCons (gTup (gCons (gLst (gCons (gC (.int 1)) (gCons (gC (.bl true)) (gNil)))) (gCons (gC (.int 1)) (gNil)))) (gCons (gTup (gCons (gTup (gCons (gV 2) (gCons (gV 2) (gNil)))) (gCons (gC (.int 1)) (gNil)))) (gNil)))))))))) (gTo 4)) (gSeq (gAsg (gOp2 dAdd (gV 4) (gLst (gCons (gTup (gCons (gLst (gCons (gC (.int 1)) (gCons (gC .non) (gCons (gC (.int 0)) (gNil))))) (gCons (gC (.int 1)) (gNil)))) (gCons (gTup (gCons (gLst (gCons (gLst (gCons (gC (.int 1)) (gNil))) (gNil))) (gCons (gC (.int 0)) (gNil)))) (gCons (gTup (gCons (gLst (gCons (gC (.str (Str.ofString "1"))) (gNil))) (gCons (gC (.int 0)) (gNil)))) (gCons (gTup (gCons (gTup (gCons (gC (.int 1)) (gCons (gC (.int 1)) (gCons (gC (.int 1)) (gNil))))) (gCons (gC (.int 1)) (gNil)))) (gNil))))))) (gTo 4)) (gSeq (gAsg (gOp2 dIx (gV 4) (gCallF 2 F_law_take (gCons (gV 0) (gCons (gC (.int 12)) (gNil))))) (gToT (gToCons (gTo 5) (gToCons (gTo 6) (gToNil))))) (gSeq (gAsg (gLstO (gCons (gLam 0 "_law_steady_right" la_law_steady_right_0 cl) (gNil))) (gTo 7)) (gSeq (gExpr (gMeth1 mAppend (gV 7) (gLam 0 "_law_steady_right" la_law_steady_right_1 cl))) (gSeq (gExpr (gMeth1 mAppend (gV 7) (gLam 0 "_law_steady_right" la_law_steady_right_2 cl))) (gSeq (gExpr (gMeth1 mAppend (gV 7) (gLam 0 "_law_steady_right" la_law_steady_right_3 cl))) (gSeq (gExpr (gMeth1 mAppend (gV 7) (gLam 0 "_law_steady_right" la_law_steady_right_4 cl))) (gSeq (gExpr (gMeth1 mAppend (gV 7) (gLam 0 "_law_steady_right" la_law_steady_right_5 cl))) (gSeq (gSeq (gExpr (gMeth1 mAppend (gV 7) (gLam 0 "_law_steady_right" la_law_steady_right_6 cl))) (gFz 7)) (gSeq (gAsg (gOp2 dAdd (gOp2 dAdd (gOp2 dMulT (gLst (gCons (gTup (gCons (gC (.str (Str.ofString "number"))) (gCons (gC (.str (Str.ofString "pieces"))) (gNil)))) (gNil))) (gC (.int 2))) (gLst (gCons (gTup (gCons (gC (.str (Str.ofString "number"))) (gCons (gC (.str (Str.ofString "repair"))) (gNil)))) (gNil)))) (gOp2 dMulT (gLst (gCons (gTup (gCons (gC (.str (Str.ofString "number"))) (gCons (gC (.str (Str.ofString "days"))) (gNil)))) (gNil))) (gC (.int 2)))) (gTo 8)) (gRet (gOp2 dEqA (gLc (gSeqI (gV 7)) (gTo 9) gYes (gAskB2 lt_law_steady_right cl F_law_raised [9] 9) [9]) (gOp2 dAdd (gV 8) (gLst (gCons (gTup (gCons (gC (.str (Str.ofString "holidays"))) (gCons (gV 6) (gNil)))) (gCons (gTup (gCons (gC (.str (Str.ofString "none"))) (gCons (gC (.str (Str.ofString ""))) (gNil)))) (gNil))))))))))))))))))))
noncomputable def F_law_steady_right : List D → List MO → R D := fun ds M => allF fun cl => runW 10 (b_law_steady_right cl) ds M
def la_law_check_0 : LSy := lamOf 0 (("_law_check" : Str) ++ ".<locals>.") (subE (subS (atB (defBody s_law_check) 5)) 0)
@[simp] theorem lx_law_check_0 : la_law_check_0.ix = 0 := by rfl
theorem ls_law_check_0 : LamX.LamS (defScope s_law_check) la_law_check_0.scope := LamX.lamS_by (by decide +kernel)
def lg_law_check_0 : GE := gCallF 2 F_away (gCons (gV 2) (gCons (gV 6) (gNil)))
def la_law_check_1 : LSy := lamOf 1 (("_law_check" : Str) ++ ".<locals>.") (subE (subS (atB (defBody s_law_check) 6)) 0)
@[simp] theorem lx_law_check_1 : la_law_check_1.ix = 1 := by rfl
theorem ls_law_check_1 : LamX.LamS (defScope s_law_check) la_law_check_1.scope := LamX.lamS_by (by decide +kernel)
def lg_law_check_1 : GE := gCallF 2 F_ready (gCons (gV 2) (gCons (gV 6) (gNil)))
def la_law_check_2 : LSy := lamOf 2 (("_law_check" : Str) ++ ".<locals>.") (subE (subS (atB (defBody s_law_check) 7)) 0)
@[simp] theorem lx_law_check_2 : la_law_check_2.ix = 2 := by rfl
theorem ls_law_check_2 : LamX.LamS (defScope s_law_check) la_law_check_2.scope := LamX.lamS_by (by decide +kernel)
def lg_law_check_2 : GE := gCallF 2 F_rest_of (gCons (gV 2) (gCons (gV 6) (gNil)))
def la_law_check_3 : LSy := lamOf 3 (("_law_check" : Str) ++ ".<locals>.") (subE (subS (atB (defBody s_law_check) 8)) 0)
@[simp] theorem lx_law_check_3 : la_law_check_3.ix = 3 := by rfl
theorem ls_law_check_3 : LamX.LamS (defScope s_law_check) la_law_check_3.scope := LamX.lamS_by (by decide +kernel)
def lg_law_check_3 : GE := gCallF 2 F_first_fault (gCons (gV 2) (gCons (gV 4) (gNil)))
def la_law_check_4 : LSy := lamOf 4 (("_law_check" : Str) ++ ".<locals>.") (subE (subS (atB (defBody s_law_check) 9)) 0)
@[simp] theorem lx_law_check_4 : la_law_check_4.ix = 4 := by rfl
theorem ls_law_check_4 : LamX.LamS (defScope s_law_check) la_law_check_4.scope := LamX.lamS_by (by decide +kernel)
def lg_law_check_4 : GE := gCallF 2 F_least_owned (gCons (gV 2) (gCons (gV 4) (gNil)))
def la_law_check_5 : LSy := lamOf 5 (("_law_check" : Str) ++ ".<locals>.") (subE (subS (atB (defBody s_law_check) 10)) 0)
@[simp] theorem lx_law_check_5 : la_law_check_5.ix = 5 := by rfl
theorem ls_law_check_5 : LamX.LamS (defScope s_law_check) la_law_check_5.scope := LamX.lamS_by (by decide +kernel)
def lg_law_check_5 : GE := gCallF 4 F_with_pieces (gCons (gV 2) (gCons (gV 8) (gCons (gV 8) (gCons (gV 8) (gNil)))))
def la_law_check_6 : LSy := lamOf 6 (("_law_check" : Str) ++ ".<locals>.") (subE (subS (atB (defBody s_law_check) 12)) 0)
@[simp] theorem lx_law_check_6 : la_law_check_6.ix = 6 := by rfl
theorem ls_law_check_6 : LamX.LamS (defScope s_law_check) la_law_check_6.scope := LamX.lamS_by (by decide +kernel)
def lg_law_check_6 : GE := gCallF 2 F_away (gCons (gV 1) (gCons (gV 6) (gNil)))
def la_law_check_7 : LSy := lamOf 7 (("_law_check" : Str) ++ ".<locals>.") (subE (subS (atB (defBody s_law_check) 13)) 0)
@[simp] theorem lx_law_check_7 : la_law_check_7.ix = 7 := by rfl
theorem ls_law_check_7 : LamX.LamS (defScope s_law_check) la_law_check_7.scope := LamX.lamS_by (by decide +kernel)
def lg_law_check_7 : GE := gCallF 2 F_ready (gCons (gV 1) (gCons (gV 6) (gNil)))
def la_law_check_8 : LSy := lamOf 8 (("_law_check" : Str) ++ ".<locals>.") (subE (subS (atB (defBody s_law_check) 14)) 0)
@[simp] theorem lx_law_check_8 : la_law_check_8.ix = 8 := by rfl
theorem ls_law_check_8 : LamX.LamS (defScope s_law_check) la_law_check_8.scope := LamX.lamS_by (by decide +kernel)
def lg_law_check_8 : GE := gCallF 2 F_rest_of (gCons (gCall (fn1 dTuple) (gCons (gV 1) (gNil))) (gCons (gV 6) (gNil)))
def la_law_check_9 : LSy := lamOf 9 (("_law_check" : Str) ++ ".<locals>.") (subE (subS (atB (defBody s_law_check) 15)) 0)
@[simp] theorem lx_law_check_9 : la_law_check_9.ix = 9 := by rfl
theorem ls_law_check_9 : LamX.LamS (defScope s_law_check) la_law_check_9.scope := LamX.lamS_by (by decide +kernel)
def lg_law_check_9 : GE := gCallF 2 F_first_fault (gCons (gV 1) (gCons (gV 4) (gNil)))
def la_law_check_10 : LSy := lamOf 10 (("_law_check" : Str) ++ ".<locals>.") (subE (subS (atB (defBody s_law_check) 18)) 0)
@[simp] theorem lx_law_check_10 : la_law_check_10.ix = 10 := by rfl
theorem ls_law_check_10 : LamX.LamS (defScope s_law_check) la_law_check_10.scope := LamX.lamS_by (by decide +kernel)
def lg_law_check_10 : GE := gCallF 2 F_least_owned (gCons (gV 1) (gCons (gC .non) (gNil)))
def la_law_check_11 : LSy := lamOf 11 (("_law_check" : Str) ++ ".<locals>.") (subE (subS (atB (defBody s_law_check) 19)) 0)
@[simp] theorem lx_law_check_11 : la_law_check_11.ix = 11 := by rfl
theorem ls_law_check_11 : LamX.LamS (defScope s_law_check) la_law_check_11.scope := LamX.lamS_by (by decide +kernel)
def lg_law_check_11 : GE := gCallF 2 F_least_owned (gCons (gV 1) (gCons (gDct0) (gNil)))
def la_law_check_12 : LSy := lamOf 12 (("_law_check" : Str) ++ ".<locals>.") (subE (subS (atB (defBody s_law_check) 20)) 0)
@[simp] theorem lx_law_check_12 : la_law_check_12.ix = 12 := by rfl
theorem ls_law_check_12 : LamX.LamS (defScope s_law_check) la_law_check_12.scope := LamX.lamS_by (by decide +kernel)
def lg_law_check_12 : GE := gCallF 2 F_least_owned (gCons (gV 1) (gCons (gLst (gCons (gV 10) (gCons (gV 4) (gCons (gV 4) (gNil))))) (gNil)))
def la_law_check_13 : LSy := lamOf 13 (("_law_check" : Str) ++ ".<locals>.") (subE (subS (atB (defBody s_law_check) 21)) 0)
@[simp] theorem lx_law_check_13 : la_law_check_13.ix = 13 := by rfl
theorem ls_law_check_13 : LamX.LamS (defScope s_law_check) la_law_check_13.scope := LamX.lamS_by (by decide +kernel)
def lg_law_check_13 : GE := gCallF 2 F_least_owned (gCons (gV 1) (gCons (gTup (gCons (gV 4) (gCons (gV 10) (gNil)))) (gNil)))
def la_law_check_14 : LSy := lamOf 14 (("_law_check" : Str) ++ ".<locals>.") (subE (subS (atB (defBody s_law_check) 22)) 0)
@[simp] theorem lx_law_check_14 : la_law_check_14.ix = 14 := by rfl
theorem ls_law_check_14 : LamX.LamS (defScope s_law_check) la_law_check_14.scope := LamX.lamS_by (by decide +kernel)
def lg_law_check_14 : GE := gCallF 4 F_with_pieces (gCons (gV 1) (gCons (gV 8) (gCons (gV 8) (gCons (gV 8) (gNil)))))
def la_law_check_15 : LSy := lamOf 15 (("_law_check" : Str) ++ ".<locals>.") (subE (subS (atB (defBody s_law_check) 23)) 0)
@[simp] theorem lx_law_check_15 : la_law_check_15.ix = 15 := by rfl
theorem ls_law_check_15 : LamX.LamS (defScope s_law_check) la_law_check_15.scope := LamX.lamS_by (by decide +kernel)
def lg_law_check_15 : GE := gCallF 4 F_with_pieces (gCons (gV 1) (gCons (gOp2 dAdd (gCall (fn1 dLen) (gCons (gV 1) (gNil))) (gC (.int 1))) (gCons (gV 8) (gCons (gV 8) (gNil)))))
def la_law_check_16 : LSy := lamOf 16 (("_law_check" : Str) ++ ".<locals>.") (subE (subS (atB (defBody s_law_check) 24)) 0)
@[simp] theorem lx_law_check_16 : la_law_check_16.ix = 16 := by rfl
theorem ls_law_check_16 : LamX.LamS (defScope s_law_check) la_law_check_16.scope := LamX.lamS_by (by decide +kernel)
def lg_law_check_16 : GE := gCallF 4 F_with_pieces (gCons (gV 1) (gCons (gC (.int 1)) (gCons (gV 8) (gCons (gV 8) (gNil)))))
def la_law_check_17 : LSy := lamOf 17 (("_law_check" : Str) ++ ".<locals>.") (subE (subS (atB (defBody s_law_check) 25)) 0)
@[simp] theorem lx_law_check_17 : la_law_check_17.ix = 17 := by rfl
theorem ls_law_check_17 : LamX.LamS (defScope s_law_check) la_law_check_17.scope := LamX.lamS_by (by decide +kernel)
def lg_law_check_17 : GE := gCallF 4 F_with_pieces (gCons (gV 1) (gCons (gCall (fn1 dLen) (gCons (gV 1) (gNil))) (gCons (gOp2 dSub (gCall (fn1 dLen) (gCons (gV 1) (gNil))) (gC (.int 1))) (gCons (gC (.int 0)) (gNil)))))
def la_law_check_18 : LSy := lamOf 18 (("_law_check" : Str) ++ ".<locals>.") (subE (subS (atB (defBody s_law_check) 26)) 0)
@[simp] theorem lx_law_check_18 : la_law_check_18.ix = 18 := by rfl
theorem ls_law_check_18 : LamX.LamS (defScope s_law_check) la_law_check_18.scope := LamX.lamS_by (by decide +kernel)
def lg_law_check_18 : GE := gCallF 4 F_with_pieces (gCons (gV 1) (gCons (gC (.int 1)) (gCons (gCall (fn1 dLen) (gCons (gV 1) (gNil))) (gCons (gOp2 dIx (gLst (gCons (gC (.bl true)) (gCons (gC .non) (gCons (gC (.str (Str.ofString "1"))) (gCons (gLst (gCons (gC (.int 0)) (gNil))) (gCons (gDct0) (gNil))))))) (gOp2 dMod (gV 5) (gC (.int 5)))) (gNil)))))
def la_law_check_19 : LSy := lamOf 19 (("_law_check" : Str) ++ ".<locals>.") (subE (subS (atB (defBody s_law_check) 27)) 0)
@[simp] theorem lx_law_check_19 : la_law_check_19.ix = 19 := by rfl
theorem ls_law_check_19 : LamX.LamS (defScope s_law_check) la_law_check_19.scope := LamX.lamS_by (by decide +kernel)
def lg_law_check_19 : GE := gCallF 4 F_with_pieces (gCons (gV 1) (gCons (gC (.int 1)) (gCons (gC (.int 1)) (gCons (gOp2 dSub (gC (.int 13)) (gOp2 dIx (gOp2 dIx (gV 1) (gC (.int 0))) (gC (.int 0)))) (gNil)))))
def la_law_check_20 : LSy := lamOf 20 (("_law_check" : Str) ++ ".<locals>.") (subE (subS (atB (defBody s_law_check) 28)) 0)
@[simp] theorem lx_law_check_20 : la_law_check_20.ix = 20 := by rfl
theorem ls_law_check_20 : LamX.LamS (defScope s_law_check) la_law_check_20.scope := LamX.lamS_by (by decide +kernel)
def lg_law_check_20 : GE := gCallF 4 F_with_pieces (gCons (gV 1) (gCons (gC (.int 1)) (gCons (gC (.int 1)) (gCons (gOp2 dSub (gOp2 dSub (gC (.int 0)) (gC (.int 1))) (gOp2 dIx (gOp2 dIx (gV 1) (gC (.int 0))) (gC (.int 0)))) (gNil)))))
def lt_law_check : LTab := [(la_law_check_0, lg_law_check_0), (la_law_check_1, lg_law_check_1), (la_law_check_2, lg_law_check_2), (la_law_check_3, lg_law_check_3), (la_law_check_4, lg_law_check_4), (la_law_check_5, lg_law_check_5), (la_law_check_6, lg_law_check_6), (la_law_check_7, lg_law_check_7), (la_law_check_8, lg_law_check_8), (la_law_check_9, lg_law_check_9), (la_law_check_10, lg_law_check_10), (la_law_check_11, lg_law_check_11), (la_law_check_12, lg_law_check_12), (la_law_check_13, lg_law_check_13), (la_law_check_14, lg_law_check_14), (la_law_check_15, lg_law_check_15), (la_law_check_16, lg_law_check_16), (la_law_check_17, lg_law_check_17), (la_law_check_18, lg_law_check_18), (la_law_check_19, lg_law_check_19), (la_law_check_20, lg_law_check_20)]
noncomputable def b_law_check (cl : List (Str × Addr)) : GS := gSeq (gAsg (gOp2 dAdd (gCallF 3 F_law_stock (gCons (gV 0) (gCons (gC (.int 7)) (gCons (gC (.int 5)) (gNil))))) (gLst (gCons (gTup (gCons (gCallF 2 F_law_take (gCons (gV 0) (gCons (gC (.int 6)) (gNil)))) (gCons (gOp2 dPow (gC (.int 10)) (gC (.int 30))) (gNil)))) (gNil)))) (gTo 1)) (gSeq (gAsg (gCallF 2 F_law_bad_stock (gCons (gV 0) (gCons (gV 1) (gNil)))) (gToT (gToCons (gTo 2) (gToCons (gTo 3) (gToNil))))) (gSeq (gAsg (gCallF 2 F_law_bad_line (gCons (gV 0) (gCons (gOp2 dMulT (gTup (gCons (gC (.int 0)) (gNil))) (gCall (fn1 dLen) (gCons (gV 1) (gNil)))) (gNil)))) (gToT (gToCons (gTo 4) (gToCons (gTo 5) (gToNil))))) (gSeq (gAsg (gCallF 2 F_law_bad_start (gCons (gV 0) (gCons (gV 1) (gNil)))) (gToT (gToCons (gTo 6) (gToCons (gTo 7) (gToNil))))) (gSeq (gAsg (gOp2 dIx (gLst (gCons (gOp1 dNeg (gC (.int 1))) (gCons (gC (.bl true)) (gCons (gC .non) (gCons (gC (.str (Str.ofString "1"))) (gCons (gTup (gCons (gC (.int 1)) (gNil))) (gCons (gLst (gCons (gC (.int 1)) (gNil))) (gCons (gDct0) (gCons (gC (.int 0)) (gNil)))))))))) (gCallF 2 F_law_take (gCons (gV 0) (gCons (gC (.int 8)) (gNil))))) (gTo 8)) (gSeq (gAsg (gLstO (gCons (gLam 1 "_law_check" la_law_check_0 cl) (gNil))) (gTo 9)) (gSeq (gExpr (gMeth1 mAppend (gV 9) (gLam 1 "_law_check" la_law_check_1 cl))) (gSeq (gExpr (gMeth1 mAppend (gV 9) (gLam 1 "_law_check" la_law_check_2 cl))) (gSeq (gExpr (gMeth1 mAppend (gV 9) (gLam 1 "_law_check" la_law_check_3 cl))) (gSeq (gExpr (gMeth1 mAppend (gV 9) (gLam 1 "_law_check" la_law_check_4 cl))) (gSeq (gSeq (gExpr (gMeth1 mAppend (gV 9) (gLam 1 "_law_check" la_law_check_5 cl))) (gFz 9)) (gSeq (gIf (gVal (gOp2 dNeA (gLc (gSeqI (gV 9)) (gTo 12) gYes (gAskB2 lt_law_check cl F_law_raised [12] 12) [12]) (gOp2 dMulT (gLst (gCons (gTup (gCons (gC (.str (Str.ofString "calendar"))) (gCons (gV 3) (gNil)))) (gNil))) (gC (.int 6))))) (gRet (gC (.bl false))) (gPass)) (gSeq (gAsg (gLstO (gCons (gLam 1 "_law_check" la_law_check_6 cl) (gNil))) (gTo 9)) (gSeq (gExpr (gMeth1 mAppend (gV 9) (gLam 1 "_law_check" la_law_check_7 cl))) (gSeq (gExpr (gMeth1 mAppend (gV 9) (gLam 1 "_law_check" la_law_check_8 cl))) (gSeq (gSeq (gExpr (gMeth1 mAppend (gV 9) (gLam 1 "_law_check" la_law_check_9 cl))) (gFz 9)) (gSeq (gIf (gVal (gOp2 dNeA (gLc (gSeqI (gV 9)) (gTo 12) gYes (gAskB2 lt_law_check cl F_law_raised [12] 12) [12]) (gOp2 dAdd (gOp2 dMulT (gLst (gCons (gTup (gCons (gC (.str (Str.ofString "past"))) (gCons (gV 7) (gNil)))) (gNil))) (gC (.int 3))) (gLst (gCons (gTup (gCons (gC (.str (Str.ofString "row"))) (gCons (gV 5) (gNil)))) (gNil)))))) (gRet (gC (.bl false))) (gPass)) (gSeq (gAsg (gOp2 dMulT (gTup (gCons (gC (.int 0)) (gNil))) (gCall (fn1 dLen) (gCons (gV 1) (gNil)))) (gTo 10)) (gSeq (gAsg (gLstO (gCons (gLam 1 "_law_check" la_law_check_10 cl) (gNil))) (gTo 9)) (gSeq (gExpr (gMeth1 mAppend (gV 9) (gLam 1 "_law_check" la_law_check_11 cl))) (gSeq (gExpr (gMeth1 mAppend (gV 9) (gLam 1 "_law_check" la_law_check_12 cl))) (gSeq (gExpr (gMeth1 mAppend (gV 9) (gLam 1 "_law_check" la_law_check_13 cl))) (gSeq (gExpr (gMeth1 mAppend (gV 9) (gLam 1 "_law_check" la_law_check_14 cl))) (gSeq (gExpr (gMeth1 mAppend (gV 9) (gLam 1 "_law_check" la_law_check_15 cl))) (gSeq (gExpr (gMeth1 mAppend (gV 9) (gLam 1 "_law_check" la_law_check_16 cl))) (gSeq (gExpr (gMeth1 mAppend (gV 9) (gLam 1 "_law_check" la_law_check_17 cl))) (gSeq (gExpr (gMeth1 mAppend (gV 9) (gLam 1 "_law_check" la_law_check_18 cl))) (gSeq (gExpr (gMeth1 mAppend (gV 9) (gLam 1 "_law_check" la_law_check_19 cl))) (gSeq (gSeq (gExpr (gMeth1 mAppend (gV 9) (gLam 1 "_law_check" la_law_check_20 cl))) (gFz 9)) (gSeq (gAsg (gOp2 dAdd (gOp2 dAdd (gOp2 dAdd (gOp2 dMulT (gLst (gCons (gTup (gCons (gC (.str (Str.ofString "row"))) (gCons (gOp1 dNeg (gC (.int 1))) (gNil)))) (gNil))) (gC (.int 2))) (gLst (gCons (gTup (gCons (gC (.str (Str.ofString "row"))) (gCons (gC (.int 1)) (gNil)))) (gCons (gTup (gCons (gC (.str (Str.ofString "row"))) (gCons (gC (.int 0)) (gNil)))) (gNil))))) (gOp2 dMulT (gLst (gCons (gTup (gCons (gC (.str (Str.ofString "number"))) (gCons (gC (.str (Str.ofString "first"))) (gNil)))) (gNil))) (gC (.int 2)))) (gOp2 dMulT (gLst (gCons (gTup (gCons (gC (.str (Str.ofString "number"))) (gCons (gC (.str (Str.ofString "last"))) (gNil)))) (gNil))) (gC (.int 2)))) (gTo 11)) (gRet (gOp2 dEqA (gLc (gSeqI (gV 9)) (gTo 12) gYes (gAskB2 lt_law_check cl F_law_raised [12] 12) [12]) (gOp2 dAdd (gV 11) (gOp2 dMulT (gLst (gCons (gTup (gCons (gC (.str (Str.ofString "number"))) (gCons (gC (.str (Str.ofString "pieces"))) (gNil)))) (gNil))) (gC (.int 3)))))))))))))))))))))))))))))))))))
noncomputable def F_law_check : List D → List MO → R D := fun ds M => allF fun cl => runW 13 (b_law_check cl) ds M
def lb_law_1 : GS := gScope (gSeq (gAsg (gCallF 1 F_law_source (gCons (gV 1) (gNil))) (gTo 2)) (gSeq (gIf (gOrT (gNotT (gVal (gCallW 1 F_law_steady_right (gCons (gV 2) (gNil))))) (gNotT (gVal (gCallW 1 F_law_check (gCons (gV 2) (gNil)))))) (gRet (gC (.bl false))) (gPass)) (gForget [1, 2])))
def b_law : GS := gSeq (gSeq (gSeq (gForget [1, 2]) (gFor (gSeqI (gSl (gOp2 dAdd (gV 0) (gLst (gCons (gC (.int 0)) (gNil)))) (gNoO) (gO (gC (.int 5))))) (gTo 1) (lb_law_1))) (gForget [1, 2])) (gRet (gC (.bl true)))
def F_law : List D → List MO → R D := runW 3 b_law
/-! ### where everything stands -/
structure Ad where
  f_is_integer : Addr
  fd_is_integer : FuncData
  f_is_at_least : Addr
  fd_is_at_least : FuncData
  f_is_between : Addr
  fd_is_between : FuncData
  f_is_day : Addr
  fd_is_day : FuncData
  f_are_numbers : Addr
  fd_are_numbers : FuncData
  f_require_calendar : Addr
  fd_require_calendar : FuncData
  f_require_row : Addr
  fd_require_row : FuncData
  f_away_on : Addr
  fd_away_on : FuncData
  f_first_over : Addr
  fd_first_over : FuncData
  f_require_past : Addr
  fd_require_past : FuncData
  f_require_holidays : Addr
  fd_require_holidays : FuncData
  f_back_day : Addr
  fd_back_day : FuncData
  f_steady : Addr
  fd_steady : FuncData
  f_with_pieces : Addr
  fd_with_pieces : FuncData
  f_away : Addr
  fd_away : FuncData
  f_greatest_next : Addr
  fd_greatest_next : FuncData
  f_ready : Addr
  fd_ready : FuncData
  f_first_fault : Addr
  fd_first_fault : FuncData
  f_rest_of : Addr
  fd_rest_of : FuncData
  f_least_owned : Addr
  fd_least_owned : FuncData
  f_law_mixed : Addr
  fd_law_mixed : FuncData
  f_law_source : Addr
  fd_law_source : FuncData
  f_law_take : Addr
  fd_law_take : FuncData
  f_law_stock : Addr
  fd_law_stock : FuncData
  f_law_gone : Addr
  fd_law_gone : FuncData
  f_law_over : Addr
  fd_law_over : FuncData
  f_law_raised : Addr
  fd_law_raised : FuncData
  f_law_bad_stock : Addr
  fd_law_bad_stock : FuncData
  f_law_bad_line : Addr
  fd_law_bad_line : FuncData
  f_law_late : Addr
  fd_law_late : FuncData
  f_law_bad_start : Addr
  fd_law_bad_start : FuncData
  f_law_steady_right : Addr
  fd_law_steady_right : FuncData
  f_law_check : Addr
  fd_law_check : FuncData
  f_law : Addr
  fd_law : FuncData
  xf_InvalidCalendar : Addr
  xd_InvalidCalendar : FuncData
  xf_InvalidRow : Addr
  xd_InvalidRow : FuncData
  xf_InvalidPast : Addr
  xd_InvalidPast : FuncData
  xf_InvalidHolidays : Addr
  xd_InvalidHolidays : FuncData
  xf_InvalidNumber : Addr
  xd_InvalidNumber : FuncData
  x_InvalidCalendar : Addr
  x_InvalidRow : Addr
  x_InvalidPast : Addr
  x_InvalidHolidays : Addr
  x_InvalidNumber : Addr
  x_BreakError : Addr
  x_TooLarge : Addr
  x_InvalidPlan : Addr
  x_InvalidTest : Addr
  x_Mismatch : Addr
  t_MAX_DAYS : Tok
  t_MAX_OWNED : Tok
  mc_law_steady_right : Addr
  mP_law_steady_right : Addr
  mc_law_check : Addr
  mP_law_check : Addr
def errC (A : Ad) : CT := ⟨fun n => match n with | 0 => A.x_InvalidCalendar | 1 => A.x_InvalidRow | 2 => A.x_InvalidPast | 3 => A.x_InvalidHolidays | 4 => A.x_InvalidNumber | _ => A.x_InvalidCalendar, fun n => match n with | 0 => "index" | 1 => "index" | 2 => "day" | 3 => "index" | 4 => "name" | _ => ""⟩
structure Tx (K : PySem.W.Frag) (mg : Str → Option Value) (A : Ad) : Prop where
  F_is_integer : Fun K "is_integer" "is_integer" s_is_integer A.f_is_integer A.fd_is_integer
  b_is_integer : Binds K A.fd_is_integer ["value"] []
  g_is_integer : mg "is_integer" = some (.ref A.f_is_integer)
  F_is_at_least : Fun K "is_at_least" "is_at_least" s_is_at_least A.f_is_at_least A.fd_is_at_least
  b_is_at_least : Binds K A.fd_is_at_least ["value", "low"] []
  g_is_at_least : mg "is_at_least" = some (.ref A.f_is_at_least)
  F_is_between : Fun K "is_between" "is_between" s_is_between A.f_is_between A.fd_is_between
  b_is_between : Binds K A.fd_is_between ["value", "low", "high"] []
  g_is_between : mg "is_between" = some (.ref A.f_is_between)
  F_is_day : Fun K "is_day" "is_day" s_is_day A.f_is_day A.fd_is_day
  b_is_day : Binds K A.fd_is_day ["value", "day"] []
  g_is_day : mg "is_day" = some (.ref A.f_is_day)
  F_are_numbers : Fun K "are_numbers" "are_numbers" s_are_numbers A.f_are_numbers A.fd_are_numbers
  b_are_numbers : Binds K A.fd_are_numbers ["value"] []
  g_are_numbers : mg "are_numbers" = some (.ref A.f_are_numbers)
  F_require_calendar : Fun K "require_calendar" "require_calendar" s_require_calendar A.f_require_calendar A.fd_require_calendar
  b_require_calendar : Binds K A.fd_require_calendar ["calendar"] []
  g_require_calendar : mg "require_calendar" = some (.ref A.f_require_calendar)
  F_require_row : Fun K "require_row" "require_row" s_require_row A.f_require_row A.fd_require_row
  b_require_row : Binds K A.fd_require_row ["calendar", "row"] []
  g_require_row : mg "require_row" = some (.ref A.f_require_row)
  F_away_on : Fun K "away_on" "away_on" s_away_on A.f_away_on A.fd_away_on
  b_away_on : Binds K A.fd_away_on ["calendar", "numbers", "day"] []
  g_away_on : mg "away_on" = some (.ref A.f_away_on)
  F_first_over : Fun K "first_over" "first_over" s_first_over A.f_first_over A.fd_first_over
  b_first_over : Binds K A.fd_first_over ["calendar", "numbers"] []
  g_first_over : mg "first_over" = some (.ref A.f_first_over)
  F_require_past : Fun K "require_past" "require_past" s_require_past A.f_require_past A.fd_require_past
  b_require_past : Binds K A.fd_require_past ["calendar", "past"] []
  g_require_past : mg "require_past" = some (.ref A.f_require_past)
  F_require_holidays : Fun K "require_holidays" "require_holidays" s_require_holidays A.f_require_holidays A.fd_require_holidays
  b_require_holidays : Binds K A.fd_require_holidays ["days", "holidays"] []
  g_require_holidays : mg "require_holidays" = some (.ref A.f_require_holidays)
  F_back_day : Fun K "back_day" "back_day" s_back_day A.f_back_day A.fd_back_day
  b_back_day : Binds K A.fd_back_day ["day", "repair", "days", "holidays"] []
  g_back_day : mg "back_day" = some (.ref A.f_back_day)
  F_steady : Fun K "steady" "steady" s_steady A.f_steady A.fd_steady
  b_steady : Binds K A.fd_steady ["pieces", "repair", "days", "holidays"] []
  g_steady : mg "steady" = some (.ref A.f_steady)
  F_with_pieces : Fun K "with_pieces" "with_pieces" s_with_pieces A.f_with_pieces A.fd_with_pieces
  b_with_pieces : Binds K A.fd_with_pieces ["calendar", "first", "last", "pieces"] []
  g_with_pieces : mg "with_pieces" = some (.ref A.f_with_pieces)
  F_away : Fun K "away" "away" s_away A.f_away A.fd_away
  b_away : Binds K A.fd_away ["calendar", "past"] []
  g_away : mg "away" = some (.ref A.f_away)
  F_greatest_next : Fun K "greatest_next" "greatest_next" s_greatest_next A.f_greatest_next A.fd_greatest_next
  b_greatest_next : Binds K A.fd_greatest_next ["calendar", "past"] []
  g_greatest_next : mg "greatest_next" = some (.ref A.f_greatest_next)
  F_ready : Fun K "ready" "ready" s_ready A.f_ready A.fd_ready
  b_ready : Binds K A.fd_ready ["calendar", "past"] []
  g_ready : mg "ready" = some (.ref A.f_ready)
  F_first_fault : Fun K "first_fault" "first_fault" s_first_fault A.f_first_fault A.fd_first_fault
  b_first_fault : Binds K A.fd_first_fault ["calendar", "row"] []
  g_first_fault : mg "first_fault" = some (.ref A.f_first_fault)
  F_rest_of : Fun K "rest_of" "rest_of" s_rest_of A.f_rest_of A.fd_rest_of
  b_rest_of : Binds K A.fd_rest_of ["calendar", "past"] []
  g_rest_of : mg "rest_of" = some (.ref A.f_rest_of)
  F_least_owned : Fun K "least_owned" "least_owned" s_least_owned A.f_least_owned A.fd_least_owned
  b_least_owned : Binds K A.fd_least_owned ["calendar", "rows"] []
  g_least_owned : mg "least_owned" = some (.ref A.f_least_owned)
  F_law_mixed : Fun K "_law_mixed" "_law_mixed" s_law_mixed A.f_law_mixed A.fd_law_mixed
  b_law_mixed : Binds K A.fd_law_mixed ["_law_cell", "_law_draw"] []
  g_law_mixed : mg "_law_mixed" = some (.ref A.f_law_mixed)
  F_law_source : Fun K "_law_source" "_law_source" s_law_source A.f_law_source A.fd_law_source
  b_law_source : Binds K A.fd_law_source ["_law_cell"] []
  g_law_source : mg "_law_source" = some (.ref A.f_law_source)
  F_law_take : Fun K "_law_take" "_law_take" s_law_take A.f_law_take A.fd_law_take
  b_law_take : Binds K A.fd_law_take ["_law_source_here", "_law_count"] []
  g_law_take : mg "_law_take" = some (.ref A.f_law_take)
  F_law_stock : Fun K "_law_stock" "_law_stock" s_law_stock A.f_law_stock A.fd_law_stock
  b_law_stock : Binds K A.fd_law_stock ["_law_source_here", "_law_most", "_law_high"] []
  g_law_stock : mg "_law_stock" = some (.ref A.f_law_stock)
  F_law_gone : Fun K "_law_gone" "_law_gone" s_law_gone A.f_law_gone A.fd_law_gone
  b_law_gone : Binds K A.fd_law_gone ["_law_stock_here", "_law_line", "_law_today"] []
  g_law_gone : mg "_law_gone" = some (.ref A.f_law_gone)
  F_law_over : Fun K "_law_over" "_law_over" s_law_over A.f_law_over A.fd_law_over
  b_law_over : Binds K A.fd_law_over ["_law_stock_here", "_law_line"] []
  g_law_over : mg "_law_over" = some (.ref A.f_law_over)
  F_law_raised : Fun K "_law_raised" "_law_raised" s_law_raised A.f_law_raised A.fd_law_raised
  b_law_raised : Binds K A.fd_law_raised ["_law_attempt"] []
  g_law_raised : mg "_law_raised" = some (.ref A.f_law_raised)
  F_law_bad_stock : Fun K "_law_bad_stock" "_law_bad_stock" s_law_bad_stock A.f_law_bad_stock A.fd_law_bad_stock
  b_law_bad_stock : Binds K A.fd_law_bad_stock ["_law_source_here", "_law_stock_here"] []
  g_law_bad_stock : mg "_law_bad_stock" = some (.ref A.f_law_bad_stock)
  F_law_bad_line : Fun K "_law_bad_line" "_law_bad_line" s_law_bad_line A.f_law_bad_line A.fd_law_bad_line
  b_law_bad_line : Binds K A.fd_law_bad_line ["_law_source_here", "_law_line"] []
  g_law_bad_line : mg "_law_bad_line" = some (.ref A.f_law_bad_line)
  F_law_late : Fun K "_law_late" "_law_late" s_law_late A.f_law_late A.fd_law_late
  b_law_late : Binds K A.fd_law_late ["_law_source_here", "_law_stock_here"] []
  g_law_late : mg "_law_late" = some (.ref A.f_law_late)
  F_law_bad_start : Fun K "_law_bad_start" "_law_bad_start" s_law_bad_start A.f_law_bad_start A.fd_law_bad_start
  b_law_bad_start : Binds K A.fd_law_bad_start ["_law_source_here", "_law_stock_here"] []
  g_law_bad_start : mg "_law_bad_start" = some (.ref A.f_law_bad_start)
  F_law_steady_right : Fun K "_law_steady_right" "_law_steady_right" s_law_steady_right A.f_law_steady_right A.fd_law_steady_right
  b_law_steady_right : Binds K A.fd_law_steady_right ["_law_source_here"] []
  g_law_steady_right : mg "_law_steady_right" = some (.ref A.f_law_steady_right)
  F_law_check : Fun K "_law_check" "_law_check" s_law_check A.f_law_check A.fd_law_check
  b_law_check : Binds K A.fd_law_check ["_law_source_here"] []
  g_law_check : mg "_law_check" = some (.ref A.f_law_check)
  F_law : Fun K "law" "law" s_law A.f_law A.fd_law
  b_law : Binds K A.fd_law ["_law_script"] []
  g_law : mg "law" = some (.ref A.f_law)
  x_InvalidCalendar : XC K A.x_InvalidCalendar A.xf_InvalidCalendar "index" A.xd_InvalidCalendar s_InvalidCalendar_init "InvalidCalendar.__init__"
  x_InvalidRow : XC K A.x_InvalidRow A.xf_InvalidRow "index" A.xd_InvalidRow s_InvalidRow_init "InvalidRow.__init__"
  x_InvalidPast : XC K A.x_InvalidPast A.xf_InvalidPast "day" A.xd_InvalidPast s_InvalidPast_init "InvalidPast.__init__"
  x_InvalidHolidays : XC K A.x_InvalidHolidays A.xf_InvalidHolidays "index" A.xd_InvalidHolidays s_InvalidHolidays_init "InvalidHolidays.__init__"
  x_InvalidNumber : XC K A.x_InvalidNumber A.xf_InvalidNumber "name" A.xd_InvalidNumber s_InvalidNumber_init "InvalidNumber.__init__"
  gx_InvalidCalendar : mg "InvalidCalendar" = some (.ref A.x_InvalidCalendar)
  gx_InvalidRow : mg "InvalidRow" = some (.ref A.x_InvalidRow)
  gx_InvalidPast : mg "InvalidPast" = some (.ref A.x_InvalidPast)
  gx_InvalidHolidays : mg "InvalidHolidays" = some (.ref A.x_InvalidHolidays)
  gx_InvalidNumber : mg "InvalidNumber" = some (.ref A.x_InvalidNumber)
  gx_BreakError : mg "BreakError" = some (.ref A.x_BreakError)
  gx_TooLarge : mg "TooLarge" = some (.ref A.x_TooLarge)
  gx_InvalidPlan : mg "InvalidPlan" = some (.ref A.x_InvalidPlan)
  gx_InvalidTest : mg "InvalidTest" = some (.ref A.x_InvalidTest)
  gx_Mismatch : mg "Mismatch" = some (.ref A.x_Mismatch)
  e_BreakError : ∀ j, j < 5 → PySem.W.exmOne K (.ref ((errC A).at_ j)) (.ref A.x_BreakError) = some (true)
  e_InvalidCalendar : ∀ j, j < 5 → PySem.W.exmOne K (.ref ((errC A).at_ j)) (.ref A.x_InvalidCalendar) = some ((decide (j = 0)))
  e_InvalidRow : ∀ j, j < 5 → PySem.W.exmOne K (.ref ((errC A).at_ j)) (.ref A.x_InvalidRow) = some ((decide (j = 1)))
  e_InvalidHolidays : ∀ j, j < 5 → PySem.W.exmOne K (.ref ((errC A).at_ j)) (.ref A.x_InvalidHolidays) = some ((decide (j = 3)))
  e_InvalidPast : ∀ j, j < 5 → PySem.W.exmOne K (.ref ((errC A).at_ j)) (.ref A.x_InvalidPast) = some ((decide (j = 2)))
  e_InvalidNumber : ∀ j, j < 5 → PySem.W.exmOne K (.ref ((errC A).at_ j)) (.ref A.x_InvalidNumber) = some ((decide (j = 4)))
  e_TooLarge : ∀ j, j < 5 → PySem.W.exmOne K (.ref ((errC A).at_ j)) (.ref A.x_TooLarge) = some (false)
  e_InvalidPlan : ∀ j, j < 5 → PySem.W.exmOne K (.ref ((errC A).at_ j)) (.ref A.x_InvalidPlan) = some (false)
  e_InvalidTest : ∀ j, j < 5 → PySem.W.exmOne K (.ref ((errC A).at_ j)) (.ref A.x_InvalidTest) = some (false)
  e_Mismatch : ∀ j, j < 5 → PySem.W.exmOne K (.ref ((errC A).at_ j)) (.ref A.x_Mismatch) = some (false)
  na_law_steady_right : PySem.W.nsIn K mainGlobals "_law_steady_right" = some (some (.ref A.f_law_steady_right))
  ti_law_steady_right : PySem.W.tabIn K "_law_steady_right" = some (A.mc_law_steady_right, A.mP_law_steady_right)
  na_law_check : PySem.W.nsIn K mainGlobals "_law_check" = some (some (.ref A.f_law_check))
  ti_law_check : PySem.W.tabIn K "_law_check" = some (A.mc_law_check, A.mP_law_check)
  xc_InvalidCalendar : ExcC K A.x_InvalidCalendar
  nf_InvalidCalendar_day : PySem.W.findIn K (.ref A.x_InvalidCalendar) "day" = some none
  nf_InvalidCalendar_index : PySem.W.findIn K (.ref A.x_InvalidCalendar) "index" = some none
  nf_InvalidCalendar_limit : PySem.W.findIn K (.ref A.x_InvalidCalendar) "limit" = some none
  nf_InvalidCalendar_name : PySem.W.findIn K (.ref A.x_InvalidCalendar) "name" = some none
  kv_InvalidCalendar : PySem.W.subIn K (.ref A.x_InvalidCalendar) (.type "ValueError") = some true
  xc_InvalidRow : ExcC K A.x_InvalidRow
  nf_InvalidRow_day : PySem.W.findIn K (.ref A.x_InvalidRow) "day" = some none
  nf_InvalidRow_index : PySem.W.findIn K (.ref A.x_InvalidRow) "index" = some none
  nf_InvalidRow_limit : PySem.W.findIn K (.ref A.x_InvalidRow) "limit" = some none
  nf_InvalidRow_name : PySem.W.findIn K (.ref A.x_InvalidRow) "name" = some none
  kv_InvalidRow : PySem.W.subIn K (.ref A.x_InvalidRow) (.type "ValueError") = some true
  xc_InvalidPast : ExcC K A.x_InvalidPast
  nf_InvalidPast_day : PySem.W.findIn K (.ref A.x_InvalidPast) "day" = some none
  nf_InvalidPast_index : PySem.W.findIn K (.ref A.x_InvalidPast) "index" = some none
  nf_InvalidPast_limit : PySem.W.findIn K (.ref A.x_InvalidPast) "limit" = some none
  nf_InvalidPast_name : PySem.W.findIn K (.ref A.x_InvalidPast) "name" = some none
  kv_InvalidPast : PySem.W.subIn K (.ref A.x_InvalidPast) (.type "ValueError") = some true
  xc_InvalidHolidays : ExcC K A.x_InvalidHolidays
  nf_InvalidHolidays_day : PySem.W.findIn K (.ref A.x_InvalidHolidays) "day" = some none
  nf_InvalidHolidays_index : PySem.W.findIn K (.ref A.x_InvalidHolidays) "index" = some none
  nf_InvalidHolidays_limit : PySem.W.findIn K (.ref A.x_InvalidHolidays) "limit" = some none
  nf_InvalidHolidays_name : PySem.W.findIn K (.ref A.x_InvalidHolidays) "name" = some none
  kv_InvalidHolidays : PySem.W.subIn K (.ref A.x_InvalidHolidays) (.type "ValueError") = some true
  xc_InvalidNumber : ExcC K A.x_InvalidNumber
  nf_InvalidNumber_day : PySem.W.findIn K (.ref A.x_InvalidNumber) "day" = some none
  nf_InvalidNumber_index : PySem.W.findIn K (.ref A.x_InvalidNumber) "index" = some none
  nf_InvalidNumber_limit : PySem.W.findIn K (.ref A.x_InvalidNumber) "limit" = some none
  nf_InvalidNumber_name : PySem.W.findIn K (.ref A.x_InvalidNumber) "name" = some none
  kv_InvalidNumber : PySem.W.subIn K (.ref A.x_InvalidNumber) (.type "ValueError") = some true
  m_ValueError : mg "ValueError" = none
  m_all : mg "all" = none
  m_bool : mg "bool" = none
  m_enumerate : mg "enumerate" = none
  m_int : mg "int" = none
  m_isinstance : mg "isinstance" = none
  m_len : mg "len" = none
  m_list : mg "list" = none
  m_max : mg "max" = none
  m_min : mg "min" = none
  m_range : mg "range" = none
  m_tuple : mg "tuple" = none
  m_zip : mg "zip" = none
  c_MAX_DAYS : mg "MAX_DAYS" = some (.int 100 A.t_MAX_DAYS)
  c_MAX_OWNED : mg "MAX_OWNED" = some (.int 12 A.t_MAX_OWNED)
structure Tb (base : Heap) (mg : Str → Option Value) (A : Ad) : Prop where
  tb_law_steady_right : LamX.TabB base mg A.mc_law_steady_right A.mP_law_steady_right
  tb_law_check : LamX.TabB base mg A.mc_law_check A.mP_law_check
section
variable {K : PySem.W.Frag} {mg : Str → Option Value} {A : Ad}
theorem self_at (T : Tx K mg A) : ∀ j, j < 5 → PySem.W.exmOne K (.ref ((errC A).at_ j)) (.ref ((errC A).at_ j)) = some true := fun j hj => match j, hj with | 0, h => T.e_InvalidCalendar 0 h | 1, h => T.e_InvalidRow 1 h | 2, h => T.e_InvalidPast 2 h | 3, h => T.e_InvalidHolidays 3 h | 4, h => T.e_InvalidNumber 4 h | n + 5, h => absurd h (by omega)
theorem exc_at (T : Tx K mg A) : ∀ j, j < 5 → ExcC K ((errC A).at_ j) := fun j hj => match j, hj with | 0, h => T.xc_InvalidCalendar | 1, h => T.xc_InvalidRow | 2, h => T.xc_InvalidPast | 3, h => T.xc_InvalidHolidays | 4, h => T.xc_InvalidNumber | n + 5, h => absurd h (by omega)
theorem xf_at (T : Tx K mg A) : ∀ j, j < 5 → XfC K ((errC A).at_ j) := fun j hj => match j, hj with | 0, h => T.x_InvalidCalendar.xf | 1, h => T.x_InvalidRow.xf | 2, h => T.x_InvalidPast.xf | 3, h => T.x_InvalidHolidays.xf | 4, h => T.x_InvalidNumber.xf | n + 5, h => absurd h (by omega)
theorem nm_at : ∀ j, j < 5 → (errC A).nm j = errN j := fun j hj => match j, hj with | 0, h => rfl | 1, h => rfl | 2, h => rfl | 3, h => rfl | 4, h => rfl | n + 5, h => absurd h (by omega)
theorem noat_day (T : Tx K mg A) : ∀ j, j < 5 → PySem.W.findIn K (.ref ((errC A).at_ j)) "day" = some none := fun j hj => match j, hj with | 0, h => T.nf_InvalidCalendar_day | 1, h => T.nf_InvalidRow_day | 2, h => T.nf_InvalidPast_day | 3, h => T.nf_InvalidHolidays_day | 4, h => T.nf_InvalidNumber_day | n + 5, h => absurd h (by omega)
theorem noat_index (T : Tx K mg A) : ∀ j, j < 5 → PySem.W.findIn K (.ref ((errC A).at_ j)) "index" = some none := fun j hj => match j, hj with | 0, h => T.nf_InvalidCalendar_index | 1, h => T.nf_InvalidRow_index | 2, h => T.nf_InvalidPast_index | 3, h => T.nf_InvalidHolidays_index | 4, h => T.nf_InvalidNumber_index | n + 5, h => absurd h (by omega)
theorem noat_limit (T : Tx K mg A) : ∀ j, j < 5 → PySem.W.findIn K (.ref ((errC A).at_ j)) "limit" = some none := fun j hj => match j, hj with | 0, h => T.nf_InvalidCalendar_limit | 1, h => T.nf_InvalidRow_limit | 2, h => T.nf_InvalidPast_limit | 3, h => T.nf_InvalidHolidays_limit | 4, h => T.nf_InvalidNumber_limit | n + 5, h => absurd h (by omega)
theorem noat_name (T : Tx K mg A) : ∀ j, j < 5 → PySem.W.findIn K (.ref ((errC A).at_ j)) "name" = some none := fun j hj => match j, hj with | 0, h => T.nf_InvalidCalendar_name | 1, h => T.nf_InvalidRow_name | 2, h => T.nf_InvalidPast_name | 3, h => T.nf_InvalidHolidays_name | 4, h => T.nf_InvalidNumber_name | n + 5, h => absurd h (by omega)
theorem ve_at (T : Tx K mg A) : ∀ j, j < 5 → PySem.W.kitOne K (.ref ((errC A).at_ j)) (.type "ValueError") = some true := fun j hj => match j, hj with | 0, h => kit_bt (by decide +kernel) T.kv_InvalidCalendar | 1, h => kit_bt (by decide +kernel) T.kv_InvalidRow | 2, h => kit_bt (by decide +kernel) T.kv_InvalidPast | 3, h => kit_bt (by decide +kernel) T.kv_InvalidHolidays | 4, h => kit_bt (by decide +kernel) T.kv_InvalidNumber | n + 5, h => absurd h (by omega)
theorem kit_InvalidCalendar (T : Tx K mg A) : ∀ j, j < 5 → PySem.W.kitOne K (.ref ((errC A).at_ j)) (.ref A.x_InvalidCalendar) = some ((decide (j = 0))) := fun j hj => kit_exm (T.e_InvalidCalendar j hj) (self_at T j hj)
theorem kit_InvalidRow (T : Tx K mg A) : ∀ j, j < 5 → PySem.W.kitOne K (.ref ((errC A).at_ j)) (.ref A.x_InvalidRow) = some ((decide (j = 1))) := fun j hj => kit_exm (T.e_InvalidRow j hj) (self_at T j hj)
theorem kit_InvalidHolidays (T : Tx K mg A) : ∀ j, j < 5 → PySem.W.kitOne K (.ref ((errC A).at_ j)) (.ref A.x_InvalidHolidays) = some ((decide (j = 3))) := fun j hj => kit_exm (T.e_InvalidHolidays j hj) (self_at T j hj)
theorem kit_InvalidPast (T : Tx K mg A) : ∀ j, j < 5 → PySem.W.kitOne K (.ref ((errC A).at_ j)) (.ref A.x_InvalidPast) = some ((decide (j = 2))) := fun j hj => kit_exm (T.e_InvalidPast j hj) (self_at T j hj)
theorem kit_InvalidNumber (T : Tx K mg A) : ∀ j, j < 5 → PySem.W.kitOne K (.ref ((errC A).at_ j)) (.ref A.x_InvalidNumber) = some ((decide (j = 4))) := fun j hj => kit_exm (T.e_InvalidNumber j hj) (self_at T j hj)
theorem kit_TooLarge (T : Tx K mg A) : ∀ j, j < 5 → PySem.W.kitOne K (.ref ((errC A).at_ j)) (.ref A.x_TooLarge) = some (false) := fun j hj => kit_exm (T.e_TooLarge j hj) (self_at T j hj)
theorem kit_InvalidPlan (T : Tx K mg A) : ∀ j, j < 5 → PySem.W.kitOne K (.ref ((errC A).at_ j)) (.ref A.x_InvalidPlan) = some (false) := fun j hj => kit_exm (T.e_InvalidPlan j hj) (self_at T j hj)
theorem kit_InvalidTest (T : Tx K mg A) : ∀ j, j < 5 → PySem.W.kitOne K (.ref ((errC A).at_ j)) (.ref A.x_InvalidTest) = some (false) := fun j hj => kit_exm (T.e_InvalidTest j hj) (self_at T j hj)
theorem kit_Mismatch (T : Tx K mg A) : ∀ j, j < 5 → PySem.W.kitOne K (.ref ((errC A).at_ j)) (.ref A.x_Mismatch) = some (false) := fun j hj => kit_exm (T.e_Mismatch j hj) (self_at T j hj)
end
/-! ### each def computes its function -/
section
variable {P : Program} {w : World} {K : PySem.W.Frag} {mg : Str → Option Value} {base : Heap} {A : Ad}
theorem mkX_InvalidCalendar (T : Tx K mg A) : FnOk P w K mg base CX0 1 A.xf_InvalidCalendar A.xd_InvalidCalendar ["self", "index"] (spI A.x_InvalidCalendar "index") := maker_ok T.x_InvalidCalendar sc_InvalidCalendar_init rfl (by decide) (by decide) (by first | exact Or.inl rfl | exact Or.inr (Or.inl rfl) | exact Or.inr (Or.inr rfl)) (by first | exact Or.inl rfl | exact Or.inr (Or.inl rfl) | exact Or.inr (Or.inr rfl)) (fun _ => rfl)
theorem mkX_InvalidRow (T : Tx K mg A) : FnOk P w K mg base CX0 1 A.xf_InvalidRow A.xd_InvalidRow ["self", "index"] (spI A.x_InvalidRow "index") := maker_ok T.x_InvalidRow sc_InvalidRow_init rfl (by decide) (by decide) (by first | exact Or.inl rfl | exact Or.inr (Or.inl rfl) | exact Or.inr (Or.inr rfl)) (by first | exact Or.inl rfl | exact Or.inr (Or.inl rfl) | exact Or.inr (Or.inr rfl)) (fun _ => rfl)
theorem mkX_InvalidPast (T : Tx K mg A) : FnOk P w K mg base CX0 1 A.xf_InvalidPast A.xd_InvalidPast ["self", "day"] (spI A.x_InvalidPast "day") := maker_ok T.x_InvalidPast sc_InvalidPast_init rfl (by decide) (by decide) (by first | exact Or.inl rfl | exact Or.inr (Or.inl rfl) | exact Or.inr (Or.inr rfl)) (by first | exact Or.inl rfl | exact Or.inr (Or.inl rfl) | exact Or.inr (Or.inr rfl)) (fun _ => rfl)
theorem mkX_InvalidHolidays (T : Tx K mg A) : FnOk P w K mg base CX0 1 A.xf_InvalidHolidays A.xd_InvalidHolidays ["self", "index"] (spI A.x_InvalidHolidays "index") := maker_ok T.x_InvalidHolidays sc_InvalidHolidays_init rfl (by decide) (by decide) (by first | exact Or.inl rfl | exact Or.inr (Or.inl rfl) | exact Or.inr (Or.inr rfl)) (by first | exact Or.inl rfl | exact Or.inr (Or.inl rfl) | exact Or.inr (Or.inr rfl)) (fun _ => rfl)
theorem mkX_InvalidNumber (T : Tx K mg A) : FnOk P w K mg base CX0 1 A.xf_InvalidNumber A.xd_InvalidNumber ["self", "name"] (spI A.x_InvalidNumber "name") := maker_ok T.x_InvalidNumber sc_InvalidNumber_init rfl (by decide) (by decide) (by first | exact Or.inl rfl | exact Or.inr (Or.inl rfl) | exact Or.inr (Or.inr rfl)) (by first | exact Or.inl rfl | exact Or.inr (Or.inl rfl) | exact Or.inr (Or.inr rfl)) (fun _ => rfl)
set_option maxHeartbeats 4000000 in
theorem ok_is_integer (T : Tx K mg A) (B : Tb base mg A) : FnQ P w K mg base (errC A) 2 A.f_is_integer A.fd_is_integer ["value"] F_is_integer := by
  refine fq_of T.F_is_integer sc_is_integer fun cdv A' outer s H E hr hgu => ?_
  exact qss_one (qs_ret (qe_and (qe_isi rfl T.m_isinstance rfl T.m_int (by decide +kernel) (qe_v 0)) (qe_one (qe_not (qe_isi rfl T.m_isinstance rfl T.m_bool (by decide +kernel) (qe_v 0))))))
set_option maxHeartbeats 4000000 in
theorem ok_is_at_least (T : Tx K mg A) (B : Tb base mg A) : FnQ P w K mg base (errC A) 3 A.f_is_at_least A.fd_is_at_least ["value", "low"] F_is_at_least := by
  have c_is_integer := ok_is_integer (P := P) (w := w) (base := base) T B
  refine fq_of T.F_is_at_least sc_is_at_least fun cdv A' outer s H E hr hgu => ?_
  exact qss_one (qs_ret (qe_and (qe_call c_is_integer (hr.mono (by decide)) hgu (takes_of rfl rfl rfl rfl) rfl T.g_is_integer T.F_is_integer.kp T.b_is_integer (qa_cons (qe_v 0) (qa_nil))) (qe_one (qe_cmp op_ge ok_ge (qe_v 0) (qe_v 1) rfl))))
set_option maxHeartbeats 4000000 in
theorem ok_is_between (T : Tx K mg A) (B : Tb base mg A) : FnQ P w K mg base (errC A) 3 A.f_is_between A.fd_is_between ["value", "low", "high"] F_is_between := by
  have c_is_integer := ok_is_integer (P := P) (w := w) (base := base) T B
  refine fq_of T.F_is_between sc_is_between fun cdv A' outer s H E hr hgu => ?_
  exact qss_one (qs_ret (qe_and (qe_call c_is_integer (hr.mono (by decide)) hgu (takes_of rfl rfl rfl rfl) rfl T.g_is_integer T.F_is_integer.kp T.b_is_integer (qa_cons (qe_v 0) (qa_nil))) (qe_one (qe_chain op_le ok_le op_le ok_le (qe_v 1) (qe_v 0) (qe_v 2)))))
set_option maxHeartbeats 4000000 in
theorem ok_is_day (T : Tx K mg A) (B : Tb base mg A) : FnQ P w K mg base (errC A) 4 A.f_is_day A.fd_is_day ["value", "day"] F_is_day := by
  have c_is_at_least := ok_is_at_least (P := P) (w := w) (base := base) T B
  have c_is_between := ok_is_between (P := P) (w := w) (base := base) T B
  refine fq_of T.F_is_day sc_is_day fun cdv A' outer s H E hr hgu => ?_
  exact qss_cons (qs_if (qt_of (qw_or (qt_not (qt_val (qe_isi rfl T.m_isinstance rfl T.m_tuple (by decide +kernel) (qe_v 0)))) (qw_or (qt_cmp (op_neA hr.units) ok_neA (qe_callB call_len (.of1 ok_len) rfl T.m_len (by decide +kernel) (qa_cons (qe_v 0) (qa_nil))) (qe_int) rfl) (qw_or1 (qt_not (qt_val (qe_call c_is_between (hr.mono (by decide)) hgu (takes_of rfl rfl rfl rfl) rfl T.g_is_between T.F_is_between.kp T.b_is_between (qa_cons (qe_ix ix_A ok_ix (qe_v 0) (qe_int)) (qa_cons (qe_int) (qa_cons (qe_gint rfl T.c_MAX_OWNED) (qa_nil))))))))))) (qss_one (qs_ret (qe_bl))) (qss_nil)) (qss_one (qs_ret (qe_or (qe_cmp op_isN ok_isN (qe_ix ix_A ok_ix (qe_v 0) (qe_int)) (qe_non) rfl) (qe_one (qe_call c_is_at_least (hr.mono (by decide)) hgu (takes_of rfl rfl rfl rfl) rfl T.g_is_at_least T.F_is_at_least.kp T.b_is_at_least (qa_cons (qe_ix ix_A ok_ix (qe_v 0) (qe_int)) (qa_cons (qe_bin op_addA ok_add (qe_v 1) (qe_int)) (qa_nil))))))))
set_option maxHeartbeats 4000000 in
theorem ok_are_numbers (T : Tx K mg A) (B : Tb base mg A) : FnQ P w K mg base (errC A) 4 A.f_are_numbers A.fd_are_numbers ["value"] F_are_numbers := by
  have c_is_at_least := ok_is_at_least (P := P) (w := w) (base := base) T B
  refine fq_of T.F_are_numbers sc_are_numbers fun cdv A' outer s H E hr hgu => ?_
  exact qss_one (qs_ret (qe_and (qe_isi rfl T.m_isinstance rfl T.m_tuple (by decide +kernel) (qe_v 0)) (qe_one (qe_callB (cr_all rfl) (.of1 ok_all) rfl T.m_all (by decide +kernel) (qa_cons (qe_lc rfl sc_are_numbers.nd (qi_seq (qe_v 0)) (blkOk_by (N := ["value", "entry"]) (sc := defScope s_are_numbers) (own := [("entry", 1)]) (by decide +kernel)) (fun _ _ _ _ _ => qg_name 1 sc_are_numbers.nd) (fun _ _ _ _ _ => qts_nil) (fun _ _ _ _ _ => qe_call c_is_at_least (hr.mono (by decide)) hgu takes_no rfl T.g_is_at_least T.F_is_at_least.kp T.b_is_at_least (qa_cons (qe_v 1) (qa_cons (qe_int) (qa_nil))))) (qa_nil))))))
set_option maxHeartbeats 4000000 in
theorem ok_require_calendar (T : Tx K mg A) (B : Tb base mg A) : FnQ P w K mg base (errC A) 5 A.f_require_calendar A.fd_require_calendar ["calendar"] F_require_calendar := by
  have c_is_day := ok_is_day (P := P) (w := w) (base := base) T B
  refine fq_of T.F_require_calendar sc_require_calendar fun cdv A' outer s H E hr hgu => ?_
  exact qss_cons (qs_if (qt_of (qw_or (qt_not (qt_val (qe_isi2 rfl T.m_isinstance rfl T.m_list (by decide +kernel) rfl T.m_tuple (by decide +kernel) (qe_v 0)))) (qw_or1 (qt_cmp op_gt ok_gt (qe_callB call_len (.of1 ok_len) rfl T.m_len (by decide +kernel) (qa_cons (qe_v 0) (qa_nil))) (qe_gint rfl T.c_MAX_DAYS) rfl)))) (qss_one (qs_raise T.x_InvalidCalendar (mkX_InvalidCalendar T) (hr.mono (by decide)) rfl (takes_of rfl rfl rfl rfl) rfl T.gx_InvalidCalendar rfl rfl (qe_un un_neg ok_neg (qe_int)))) (qss_nil)) (qss_one (qs_forget [1, 2] (qs_pre [1, 2] (qs_for (passes_of rfl) rfl (qi_enum rfl T.m_enumerate (qe_v 0)) (qg_tup rfl (qgs_cons (qg_name 1 sc_require_calendar.nd) (qgs_cons (qg_name 2 sc_require_calendar.nd) (qgs_nil))) (hlen := len_cons (len_cons (len_nil)))) (qss_one (qs_forget [1, 2] (qs_if (qt_not (qt_val (qe_call c_is_day (hr.mono (by decide)) hgu (takes_of rfl rfl rfl rfl) rfl T.g_is_day T.F_is_day.kp T.b_is_day (qa_cons (qe_v 2) (qa_cons (qe_bin op_addA ok_add (qe_v 1) (qe_int)) (qa_nil)))))) (qss_one (qs_raise T.x_InvalidCalendar (mkX_InvalidCalendar T) (hr.mono (by decide)) rfl (takes_of rfl rfl rfl rfl) rfl T.gx_InvalidCalendar rfl rfl (qe_v 1))) (qss_nil))))))))
set_option maxHeartbeats 4000000 in
theorem ok_require_row (T : Tx K mg A) (B : Tb base mg A) : FnQ P w K mg base (errC A) 4 A.f_require_row A.fd_require_row ["calendar", "row"] F_require_row := by
  have c_is_at_least := ok_is_at_least (P := P) (w := w) (base := base) T B
  refine fq_of T.F_require_row sc_require_row fun cdv A' outer s H E hr hgu => ?_
  exact qss_cons (qs_if (qt_of (qw_or (qt_not (qt_val (qe_isi rfl T.m_isinstance rfl T.m_tuple (by decide +kernel) (qe_v 1)))) (qw_or1 (qt_cmp (op_neA hr.units) ok_neA (qe_callB call_len (.of1 ok_len) rfl T.m_len (by decide +kernel) (qa_cons (qe_v 1) (qa_nil))) (qe_callB call_len (.of1 ok_len) rfl T.m_len (by decide +kernel) (qa_cons (qe_v 0) (qa_nil))) rfl)))) (qss_one (qs_raise T.x_InvalidRow (mkX_InvalidRow T) (hr.mono (by decide)) rfl (takes_of rfl rfl rfl rfl) rfl T.gx_InvalidRow rfl rfl (qe_un un_neg ok_neg (qe_int)))) (qss_nil)) (qss_one (qs_forget [2, 3] (qs_pre [2, 3] (qs_for (passes_of rfl) rfl (qi_enum rfl T.m_enumerate (qe_v 1)) (qg_tup rfl (qgs_cons (qg_name 2 sc_require_row.nd) (qgs_cons (qg_name 3 sc_require_row.nd) (qgs_nil))) (hlen := len_cons (len_cons (len_nil)))) (qss_one (qs_forget [2, 3] (qs_if (qt_not (qt_val (qe_call c_is_at_least (hr.mono (by decide)) hgu (takes_of rfl rfl rfl rfl) rfl T.g_is_at_least T.F_is_at_least.kp T.b_is_at_least (qa_cons (qe_v 3) (qa_cons (qe_int) (qa_nil)))))) (qss_one (qs_raise T.x_InvalidRow (mkX_InvalidRow T) (hr.mono (by decide)) rfl (takes_of rfl rfl rfl rfl) rfl T.gx_InvalidRow rfl rfl (qe_v 2))) (qss_nil))))))))
set_option maxHeartbeats 4000000 in
theorem ok_away_on (T : Tx K mg A) (B : Tb base mg A) : FnQ P w K mg base (errC A) 2 A.f_away_on A.fd_away_on ["calendar", "numbers", "day"] F_away_on := by
  refine fq_of T.F_away_on sc_away_on fun cdv A' outer s H E hr hgu => ?_
  exact qss_cons (qs_asg (qe_int) (qg_name 3 sc_away_on.nd)) (qss_cons (qs_forget [4, 5, 6] (qs_pre [4, 5, 6] (qs_for (passes_of rfl) rfl (qi_zip rfl T.m_zip (qe_slice (qe_v 0) (qo_none) (qo_some (qe_bin op_sub ok_sub (qe_v 2) (qe_int)))) (qe_v 1)) (qg_tup rfl (qgs_cons (qg_tup rfl (qgs_cons (qg_name 4 sc_away_on.nd) (qgs_cons (qg_name 5 sc_away_on.nd) (qgs_nil))) (hlen := len_cons (len_cons (len_nil)))) (qgs_cons (qg_name 6 sc_away_on.nd) (qgs_nil))) (hlen := len_cons (len_cons (len_nil)))) (qss_one (qs_forget [4, 5, 6] (qs_if (qt_of (qw_or (qt_cmp op_isN ok_isN (qe_v 5) (qe_non) rfl) (qw_or1 (qt_cmp op_gt ok_gt (qe_v 5) (qe_v 2) rfl)))) (qss_one (qs_aug 3 sc_away_on.nd ip_add (qe_v 6))) (qss_nil))))))) (qss_one (qs_ret (qe_v 3))))
set_option maxHeartbeats 4000000 in
theorem ok_first_over (T : Tx K mg A) (B : Tb base mg A) : FnQ P w K mg base (errC A) 3 A.f_first_over A.fd_first_over ["calendar", "numbers"] F_first_over := by
  have c_away_on := ok_away_on (P := P) (w := w) (base := base) T B
  refine fq_of T.F_first_over sc_first_over fun cdv A' outer s H E hr hgu => ?_
  exact qss_cons (qs_forget [2, 3, 4, 5] (qs_pre [2, 3, 4, 5] (qs_for (passes_of rfl) rfl (qi_enumK rfl T.m_enumerate (qe_v 0) (qe_int)) (qg_tup rfl (qgs_cons (qg_name 2 sc_first_over.nd) (qgs_cons (qg_tup rfl (qgs_cons (qg_name 3 sc_first_over.nd) (qgs_cons (qg_name 4 sc_first_over.nd) (qgs_nil))) (hlen := len_cons (len_cons (len_nil)))) (qgs_nil))) (hlen := len_cons (len_cons (len_nil)))) (qss_cons (qs_asg (qe_if (qt_cmp op_le ok_le (qe_v 2) (qe_callB call_len (.of1 ok_len) rfl T.m_len (by decide +kernel) (qa_cons (qe_v 1) (qa_nil))) rfl) (qe_ix ix_A ok_ix (qe_v 1) (qe_bin op_sub ok_sub (qe_v 2) (qe_int))) (qe_int)) (qg_name 5 sc_first_over.nd)) (qss_one (qs_forget [2, 3, 4, 5] (qs_if (qt_cmp op_gt ok_gt (qe_bin op_addA ok_add (qe_call c_away_on (hr.mono (by decide)) hgu (takes_of rfl rfl rfl rfl) rfl T.g_away_on T.F_away_on.kp T.b_away_on (qa_cons (qe_v 0) (qa_cons (qe_v 1) (qa_cons (qe_v 2) (qa_nil))))) (qe_v 5)) (qe_v 3) rfl) (qss_one (qs_ret (qe_v 2))) (qss_nil)))))))) (qss_one (qs_ret (qe_non)))
set_option maxHeartbeats 4000000 in
theorem ok_require_past (T : Tx K mg A) (B : Tb base mg A) : FnQ P w K mg base (errC A) 5 A.f_require_past A.fd_require_past ["calendar", "past"] F_require_past := by
  have c_are_numbers := ok_are_numbers (P := P) (w := w) (base := base) T B
  have c_first_over := ok_first_over (P := P) (w := w) (base := base) T B
  refine fq_of T.F_require_past sc_require_past fun cdv A' outer s H E hr hgu => ?_
  exact qss_cons (qs_if (qt_of (qw_or (qt_not (qt_val (qe_call c_are_numbers (hr.mono (by decide)) hgu (takes_of rfl rfl rfl rfl) rfl T.g_are_numbers T.F_are_numbers.kp T.b_are_numbers (qa_cons (qe_v 1) (qa_nil))))) (qw_or1 (qt_cmp op_gt ok_gt (qe_callB call_len (.of1 ok_len) rfl T.m_len (by decide +kernel) (qa_cons (qe_v 1) (qa_nil))) (qe_callB call_len (.of1 ok_len) rfl T.m_len (by decide +kernel) (qa_cons (qe_v 0) (qa_nil))) rfl)))) (qss_one (qs_raise T.x_InvalidPast (mkX_InvalidPast T) (hr.mono (by decide)) rfl (takes_of rfl rfl rfl rfl) rfl T.gx_InvalidPast rfl rfl (qe_un un_neg ok_neg (qe_int)))) (qss_nil)) (qss_cons (qs_asg (qe_call c_first_over (hr.mono (by decide)) hgu (takes_of rfl rfl rfl rfl) rfl T.g_first_over T.F_first_over.kp T.b_first_over (qa_cons (qe_v 0) (qa_cons (qe_v 1) (qa_nil)))) (qg_name 2 sc_require_past.nd)) (qss_one (qs_if (qt_cmp op_notN ok_notN (qe_v 2) (qe_non) rfl) (qss_one (qs_raise T.x_InvalidPast (mkX_InvalidPast T) (hr.mono (by decide)) rfl (takes_of rfl rfl rfl rfl) rfl T.gx_InvalidPast rfl rfl (qe_v 2))) (qss_nil))))
set_option maxHeartbeats 4000000 in
theorem ok_require_holidays (T : Tx K mg A) (B : Tb base mg A) : FnQ P w K mg base (errC A) 4 A.f_require_holidays A.fd_require_holidays ["days", "holidays"] F_require_holidays := by
  have c_is_between := ok_is_between (P := P) (w := w) (base := base) T B
  refine fq_of T.F_require_holidays sc_require_holidays fun cdv A' outer s H E hr hgu => ?_
  exact qss_cons (qs_if (qt_not (qt_val (qe_isi2 rfl T.m_isinstance rfl T.m_list (by decide +kernel) rfl T.m_tuple (by decide +kernel) (qe_v 1)))) (qss_one (qs_raise T.x_InvalidHolidays (mkX_InvalidHolidays T) (hr.mono (by decide)) rfl (takes_of rfl rfl rfl rfl) rfl T.gx_InvalidHolidays rfl rfl (qe_un un_neg ok_neg (qe_int)))) (qss_nil)) (qss_one (qs_forget [2, 3] (qs_pre [2, 3] (qs_for (passes_of rfl) rfl (qi_enum rfl T.m_enumerate (qe_v 1)) (qg_tup rfl (qgs_cons (qg_name 2 sc_require_holidays.nd) (qgs_cons (qg_name 3 sc_require_holidays.nd) (qgs_nil))) (hlen := len_cons (len_cons (len_nil)))) (qss_one (qs_forget [2, 3] (qs_if (qt_of (qw_or (qt_not (qt_val (qe_call c_is_between (hr.mono (by decide)) hgu (takes_of rfl rfl rfl rfl) rfl T.g_is_between T.F_is_between.kp T.b_is_between (qa_cons (qe_v 3) (qa_cons (qe_int) (qa_cons (qe_v 0) (qa_nil))))))) (qw_or1 (qt_cmp op_in_seq ok_in (qe_v 3) (qe_slice (qe_v 1) (qo_none) (qo_some (qe_v 2))) rfl)))) (qss_one (qs_raise T.x_InvalidHolidays (mkX_InvalidHolidays T) (hr.mono (by decide)) rfl (takes_of rfl rfl rfl rfl) rfl T.gx_InvalidHolidays rfl rfl (qe_v 2))) (qss_nil))))))))
set_option maxHeartbeats 4000000 in
theorem ok_back_day (T : Tx K mg A) (B : Tb base mg A) : FnQ P w K mg base (errC A) 2 A.f_back_day A.fd_back_day ["day", "repair", "days", "holidays"] F_back_day := by
  refine fq_of T.F_back_day sc_back_day fun cdv A' outer s H E hr hgu => ?_
  exact qss_cons (qs_forget [] (qs_pre [] (qs_while 1000000000 (passes_of rfl) (qt_of (qw_and (qt_cmp op_gt ok_gt (qe_v 1) (qe_int) rfl) (qw_and1 (qt_cmp op_lt ok_lt (qe_v 0) (qe_v 2) rfl)))) (qss_cons (qs_aug 0 sc_back_day.nd ip_add (qe_int)) (qss_one (qs_forget [] (qs_aug 1 sc_back_day.nd ip_sub (qe_callTy (T := "") call_int1 (.of1 ok_int) rfl T.m_int (by decide +kernel) (qa_cons (qe_cmp op_notIn_seq ok_notIn (qe_v 0) (qe_v 3) rfl) (qa_nil)))))))))) (qss_one (qs_ret (qe_bin op_addA ok_add (qe_bin op_addA ok_add (qe_v 0) (qe_v 1)) (qe_int))))
set_option maxHeartbeats 4000000 in
theorem ok_steady (T : Tx K mg A) (B : Tb base mg A) : FnQ P w K mg base (errC A) 5 A.f_steady A.fd_steady ["pieces", "repair", "days", "holidays"] F_steady := by
  have c_back_day := ok_back_day (P := P) (w := w) (base := base) T B
  have c_is_at_least := ok_is_at_least (P := P) (w := w) (base := base) T B
  have c_is_between := ok_is_between (P := P) (w := w) (base := base) T B
  have c_require_holidays := ok_require_holidays (P := P) (w := w) (base := base) T B
  refine fq_of T.F_steady sc_steady fun cdv A' outer s H E hr hgu => ?_
  exact qss_cons (qs_if (qt_not (qt_val (qe_call c_is_between (hr.mono (by decide)) hgu (takes_of rfl rfl rfl rfl) rfl T.g_is_between T.F_is_between.kp T.b_is_between (qa_cons (qe_v 0) (qa_cons (qe_int) (qa_cons (qe_gint rfl T.c_MAX_OWNED) (qa_nil))))))) (qss_one (qs_raise T.x_InvalidNumber (mkX_InvalidNumber T) (hr.mono (by decide)) rfl (takes_of rfl rfl rfl rfl) rfl T.gx_InvalidNumber rfl rfl (qe_str))) (qss_nil)) (qss_cons (qs_if (qt_of (qw_and (qt_cmp op_notN ok_notN (qe_v 1) (qe_non) rfl) (qw_and1 (qt_not (qt_val (qe_call c_is_at_least (hr.mono (by decide)) hgu (takes_of rfl rfl rfl rfl) rfl T.g_is_at_least T.F_is_at_least.kp T.b_is_at_least (qa_cons (qe_v 1) (qa_cons (qe_int) (qa_nil))))))))) (qss_one (qs_raise T.x_InvalidNumber (mkX_InvalidNumber T) (hr.mono (by decide)) rfl (takes_of rfl rfl rfl rfl) rfl T.gx_InvalidNumber rfl rfl (qe_str))) (qss_nil)) (qss_cons (qs_if (qt_not (qt_val (qe_call c_is_between (hr.mono (by decide)) hgu (takes_of rfl rfl rfl rfl) rfl T.g_is_between T.F_is_between.kp T.b_is_between (qa_cons (qe_v 2) (qa_cons (qe_int) (qa_cons (qe_gint rfl T.c_MAX_DAYS) (qa_nil))))))) (qss_one (qs_raise T.x_InvalidNumber (mkX_InvalidNumber T) (hr.mono (by decide)) rfl (takes_of rfl rfl rfl rfl) rfl T.gx_InvalidNumber rfl rfl (qe_str))) (qss_nil)) (qss_cons (qs_expr (qe_call c_require_holidays (hr.mono (by decide)) hgu (takes_of rfl rfl rfl rfl) rfl T.g_require_holidays T.F_require_holidays.kp T.b_require_holidays (qa_cons (qe_v 2) (qa_cons (qe_v 3) (qa_nil))))) (qss_cons (qs_if (qt_cmp op_isN ok_isN (qe_v 1) (qe_non) rfl) (qss_one (qs_ret (qe_lc rfl sc_steady.nd (qi_rng1 rfl T.m_range (qa_cons (qe_v 2) (qa_nil))) (blkOk_by (N := ["pieces", "repair", "days", "holidays", "day"]) (sc := defScope s_steady) (own := [("day", 4)]) (by decide +kernel)) (fun _ _ _ _ _ => qg_name 4 sc_steady.nd) (fun _ _ _ _ _ => qts_nil) (fun _ _ _ _ _ => qe_tup (qa_cons (qe_v 0) (qa_cons (qe_non) (qa_nil))))))) (qss_nil)) (qss_one (qs_ret (qe_lc rfl sc_steady.nd (qi_rng2 rfl T.m_range (qa_cons (qe_int) (qa_cons (qe_bin op_addA ok_add (qe_v 2) (qe_int)) (qa_nil)))) (blkOk_by (N := ["pieces", "repair", "days", "holidays", "day"]) (sc := defScope s_steady) (own := [("day", 4)]) (by decide +kernel)) (fun _ _ _ _ _ => qg_name 4 sc_steady.nd) (fun _ _ _ _ _ => qts_nil) (fun _ _ _ _ _ => qe_tup (qa_cons (qe_v 0) (qa_cons (qe_call c_back_day (hr.mono (by decide)) hgu takes_no rfl T.g_back_day T.F_back_day.kp T.b_back_day (qa_cons (qe_v 4) (qa_cons (qe_v 1) (qa_cons (qe_v 2) (qa_cons (qe_v 3) (qa_nil)))))) (qa_nil)))))))))))
set_option maxHeartbeats 4000000 in
theorem ok_with_pieces (T : Tx K mg A) (B : Tb base mg A) : FnQ P w K mg base (errC A) 6 A.f_with_pieces A.fd_with_pieces ["calendar", "first", "last", "pieces"] F_with_pieces := by
  have c_is_between := ok_is_between (P := P) (w := w) (base := base) T B
  have c_is_integer := ok_is_integer (P := P) (w := w) (base := base) T B
  have c_require_calendar := ok_require_calendar (P := P) (w := w) (base := base) T B
  refine fq_of T.F_with_pieces sc_with_pieces fun cdv A' outer s H E hr hgu => ?_
  exact qss_cons (qs_expr (qe_call c_require_calendar (hr.mono (by decide)) hgu (takes_of rfl rfl rfl rfl) rfl T.g_require_calendar T.F_require_calendar.kp T.b_require_calendar (qa_cons (qe_v 0) (qa_nil)))) (qss_cons (qs_if (qt_not (qt_val (qe_call c_is_between (hr.mono (by decide)) hgu (takes_of rfl rfl rfl rfl) rfl T.g_is_between T.F_is_between.kp T.b_is_between (qa_cons (qe_v 1) (qa_cons (qe_int) (qa_cons (qe_callB call_len (.of1 ok_len) rfl T.m_len (by decide +kernel) (qa_cons (qe_v 0) (qa_nil))) (qa_nil))))))) (qss_one (qs_raise T.x_InvalidNumber (mkX_InvalidNumber T) (hr.mono (by decide)) rfl (takes_of rfl rfl rfl rfl) rfl T.gx_InvalidNumber rfl rfl (qe_str))) (qss_nil)) (qss_cons (qs_if (qt_not (qt_val (qe_call c_is_between (hr.mono (by decide)) hgu (takes_of rfl rfl rfl rfl) rfl T.g_is_between T.F_is_between.kp T.b_is_between (qa_cons (qe_v 2) (qa_cons (qe_v 1) (qa_cons (qe_callB call_len (.of1 ok_len) rfl T.m_len (by decide +kernel) (qa_cons (qe_v 0) (qa_nil))) (qa_nil))))))) (qss_one (qs_raise T.x_InvalidNumber (mkX_InvalidNumber T) (hr.mono (by decide)) rfl (takes_of rfl rfl rfl rfl) rfl T.gx_InvalidNumber rfl rfl (qe_str))) (qss_nil)) (qss_cons (qs_if (qt_not (qt_val (qe_call c_is_integer (hr.mono (by decide)) hgu (takes_of rfl rfl rfl rfl) rfl T.g_is_integer T.F_is_integer.kp T.b_is_integer (qa_cons (qe_v 3) (qa_nil))))) (qss_one (qs_raise T.x_InvalidNumber (mkX_InvalidNumber T) (hr.mono (by decide)) rfl (takes_of rfl rfl rfl rfl) rfl T.gx_InvalidNumber rfl rfl (qe_str))) (qss_nil)) (qss_cons (qs_lc (i := 4) rfl sc_with_pieces.nd rfl rfl (sw_true rfl rfl rfl (by decide +kernel)) (qi_enumK rfl T.m_enumerate (qe_v 0) (qe_int)) (blkOk_by (N := ["calendar", "first", "last", "pieces", "changed", "day", "owned", "back"]) (sc := defScope s_with_pieces) (own := [("day", 5), ("owned", 6), ("back", 7)]) (by decide +kernel)) (fun _ _ _ _ _ => qg_tup rfl (qgs_cons (qg_name 5 sc_with_pieces.nd) (qgs_cons (qg_tup rfl (qgs_cons (qg_name 6 sc_with_pieces.nd) (qgs_cons (qg_name 7 sc_with_pieces.nd) (qgs_nil))) (hlen := len_cons (len_cons (len_nil)))) (qgs_nil))) (hlen := len_cons (len_cons (len_nil)))) (fun _ _ _ _ _ => qts_nil) (fun _ _ _ _ _ => qe_tup (qa_cons (qe_bin op_addA ok_add (qe_v 6) (qe_bin op_mulT ok_mulT (qe_v 3) (qe_callTy (T := "") call_int1 (.of1 ok_int) rfl T.m_int (by decide +kernel) (qa_cons (qe_chain op_le ok_le op_le ok_le (qe_v 1) (qe_v 5) (qe_v 2)) (qa_nil))))) (qa_cons (qe_v 7) (qa_nil))))) (qss_cons (qs_if (qt_not (qt_val (qe_callB (cr_all rfl) (.of1 ok_all) rfl T.m_all (by decide +kernel) (qa_cons (qe_lc rfl sc_with_pieces.nd (qi_seq (qe_v 4)) (blkOk_by (N := ["calendar", "first", "last", "pieces", "changed", "day", "owned", "back"]) (sc := defScope s_with_pieces) (own := [("owned", 6), ("back", 7)]) (by decide +kernel)) (fun _ _ _ _ _ => qg_tup rfl (qgs_cons (qg_name 6 sc_with_pieces.nd) (qgs_cons (qg_name 7 sc_with_pieces.nd) (qgs_nil))) (hlen := len_cons (len_cons (len_nil)))) (fun _ _ _ _ _ => qts_nil) (fun _ _ _ _ _ => qe_chain op_le ok_le op_le ok_le (qe_int) (qe_v 6) (qe_gint rfl T.c_MAX_OWNED))) (qa_nil))))) (qss_one (qs_raise T.x_InvalidNumber (mkX_InvalidNumber T) (hr.mono (by decide)) rfl (takes_of rfl rfl rfl rfl) rfl T.gx_InvalidNumber rfl rfl (qe_str))) (qss_nil)) (qss_one (qs_ret (qe_v 4))))))))
set_option maxHeartbeats 4000000 in
theorem ok_away (T : Tx K mg A) (B : Tb base mg A) : FnQ P w K mg base (errC A) 6 A.f_away A.fd_away ["calendar", "past"] F_away := by
  have c_away_on := ok_away_on (P := P) (w := w) (base := base) T B
  have c_require_calendar := ok_require_calendar (P := P) (w := w) (base := base) T B
  have c_require_past := ok_require_past (P := P) (w := w) (base := base) T B
  refine fq_of T.F_away sc_away fun cdv A' outer s H E hr hgu => ?_
  exact qss_cons (qs_expr (qe_call c_require_calendar (hr.mono (by decide)) hgu (takes_of rfl rfl rfl rfl) rfl T.g_require_calendar T.F_require_calendar.kp T.b_require_calendar (qa_cons (qe_v 0) (qa_nil)))) (qss_cons (qs_expr (qe_call c_require_past (hr.mono (by decide)) hgu (takes_of rfl rfl rfl rfl) rfl T.g_require_past T.F_require_past.kp T.b_require_past (qa_cons (qe_v 0) (qa_cons (qe_v 1) (qa_nil))))) (qss_one (qs_ret (qe_lc rfl sc_away.nd (qi_rng2 rfl T.m_range (qa_cons (qe_bin op_addA ok_add (qe_callB call_len (.of1 ok_len) rfl T.m_len (by decide +kernel) (qa_cons (qe_v 1) (qa_nil))) (qe_int)) (qa_cons (qe_bin op_addA ok_add (qe_callB call_len (.of1 ok_len) rfl T.m_len (by decide +kernel) (qa_cons (qe_v 0) (qa_nil))) (qe_int)) (qa_nil)))) (blkOk_by (N := ["calendar", "past", "day"]) (sc := defScope s_away) (own := [("day", 2)]) (by decide +kernel)) (fun _ _ _ _ _ => qg_name 2 sc_away.nd) (fun _ _ _ _ _ => qts_nil) (fun _ _ _ _ _ => qe_call c_away_on (hr.mono (by decide)) hgu takes_no rfl T.g_away_on T.F_away_on.kp T.b_away_on (qa_cons (qe_v 0) (qa_cons (qe_v 1) (qa_cons (qe_v 2) (qa_nil)))))))))
set_option maxHeartbeats 4000000 in
theorem ok_greatest_next (T : Tx K mg A) (B : Tb base mg A) : FnQ P w K mg base (errC A) 3 A.f_greatest_next A.fd_greatest_next ["calendar", "past"] F_greatest_next := by
  have c_away_on := ok_away_on (P := P) (w := w) (base := base) T B
  refine fq_of T.F_greatest_next sc_greatest_next fun cdv A' outer s H E hr hgu => ?_
  exact qss_cons (qs_asg (qe_bin op_addA ok_add (qe_callB call_len (.of1 ok_len) rfl T.m_len (by decide +kernel) (qa_cons (qe_v 1) (qa_nil))) (qe_int)) (qg_name 2 sc_greatest_next.nd)) (qss_cons (qs_asg (qe_ix ix_A ok_ix (qe_ix ix_A ok_ix (qe_v 0) (qe_bin op_sub ok_sub (qe_v 2) (qe_int))) (qe_int)) (qg_name 3 sc_greatest_next.nd)) (qss_cons (qs_asg (qe_if (qt_cmp op_isN ok_isN (qe_v 3) (qe_non) rfl) (qe_callB call_len (.of1 ok_len) rfl T.m_len (by decide +kernel) (qa_cons (qe_v 0) (qa_nil))) (qe_callB (call_min2 rfl) (.of2 ok_min2) rfl T.m_min (by decide +kernel) (qa_cons (qe_bin op_sub ok_sub (qe_v 3) (qe_int)) (qa_cons (qe_callB call_len (.of1 ok_len) rfl T.m_len (by decide +kernel) (qa_cons (qe_v 0) (qa_nil))) (qa_nil))))) (qg_name 4 sc_greatest_next.nd)) (qss_cons (qs_par2 5 6 rfl sc_greatest_next.nd (qa_cons (qe_bin op_addA ok_add (qe_gint rfl T.c_MAX_OWNED) (qe_int)) (qa_cons (qe_lstO (qa_nil)) (qa_nil)))) (qss_cons (qs_fz 6 (qs_forget [5, 7] (qs_pre [7] (qs_for (passes_of rfl) rfl (qi_rng2 rfl T.m_range (qa_cons (qe_v 2) (qa_cons (qe_bin op_addA ok_add (qe_v 4) (qe_int)) (qa_nil)))) (qg_name 7 sc_greatest_next.nd) (qss_one (qs_forget [7] (qs_if (qt_cmp op_lt ok_lt (qe_ix ix_A ok_ix (qe_ix ix_A ok_ix (qe_v 0) (qe_bin op_sub ok_sub (qe_v 7) (qe_int))) (qe_int)) (qe_v 5) rfl) (qss_cons (qs_asg (qe_ix ix_A ok_ix (qe_ix ix_A ok_ix (qe_v 0) (qe_bin op_sub ok_sub (qe_v 7) (qe_int))) (qe_int)) (qg_name 5 sc_greatest_next.nd)) (qss_one (qs_expr (qe_meth1 PySem.F.slot_list_append PySem.F.type_list_append mt_append ok_append (qe_v 6) (qe_bin op_sub ok_sub (qe_v 5) (qe_call c_away_on (hr.mono (by decide)) hgu (takes_of rfl rfl rfl rfl) rfl T.g_away_on T.F_away_on.kp T.b_away_on (qa_cons (qe_v 0) (qa_cons (qe_v 1) (qa_cons (qe_v 7) (qa_nil)))))))))) (qss_nil)))))))) (qss_one (qs_ret (qe_callB (cr_min rfl) (.of1 ok_min) rfl T.m_min (by decide +kernel) (qa_cons (qe_v 6) (qa_nil)))))))))
set_option maxHeartbeats 4000000 in
theorem ok_ready (T : Tx K mg A) (B : Tb base mg A) : FnQ P w K mg base (errC A) 6 A.f_ready A.fd_ready ["calendar", "past"] F_ready := by
  have c_greatest_next := ok_greatest_next (P := P) (w := w) (base := base) T B
  have c_require_calendar := ok_require_calendar (P := P) (w := w) (base := base) T B
  have c_require_past := ok_require_past (P := P) (w := w) (base := base) T B
  refine fq_of T.F_ready sc_ready fun cdv A' outer s H E hr hgu => ?_
  exact qss_cons (qs_expr (qe_call c_require_calendar (hr.mono (by decide)) hgu (takes_of rfl rfl rfl rfl) rfl T.g_require_calendar T.F_require_calendar.kp T.b_require_calendar (qa_cons (qe_v 0) (qa_nil)))) (qss_cons (qs_expr (qe_call c_require_past (hr.mono (by decide)) hgu (takes_of rfl rfl rfl rfl) rfl T.g_require_past T.F_require_past.kp T.b_require_past (qa_cons (qe_v 0) (qa_cons (qe_v 1) (qa_nil))))) (qss_one (qs_ret (qe_if (qt_cmp op_lt ok_lt (qe_callB call_len (.of1 ok_len) rfl T.m_len (by decide +kernel) (qa_cons (qe_v 1) (qa_nil))) (qe_callB call_len (.of1 ok_len) rfl T.m_len (by decide +kernel) (qa_cons (qe_v 0) (qa_nil))) rfl) (qe_call c_greatest_next (hr.mono (by decide)) hgu (takes_of rfl rfl rfl rfl) rfl T.g_greatest_next T.F_greatest_next.kp T.b_greatest_next (qa_cons (qe_v 0) (qa_cons (qe_v 1) (qa_nil)))) (qe_non)))))
set_option maxHeartbeats 4000000 in
theorem ok_first_fault (T : Tx K mg A) (B : Tb base mg A) : FnQ P w K mg base (errC A) 6 A.f_first_fault A.fd_first_fault ["calendar", "row"] F_first_fault := by
  have c_first_over := ok_first_over (P := P) (w := w) (base := base) T B
  have c_require_calendar := ok_require_calendar (P := P) (w := w) (base := base) T B
  have c_require_row := ok_require_row (P := P) (w := w) (base := base) T B
  refine fq_of T.F_first_fault sc_first_fault fun cdv A' outer s H E hr hgu => ?_
  exact qss_cons (qs_expr (qe_call c_require_calendar (hr.mono (by decide)) hgu (takes_of rfl rfl rfl rfl) rfl T.g_require_calendar T.F_require_calendar.kp T.b_require_calendar (qa_cons (qe_v 0) (qa_nil)))) (qss_cons (qs_expr (qe_call c_require_row (hr.mono (by decide)) hgu (takes_of rfl rfl rfl rfl) rfl T.g_require_row T.F_require_row.kp T.b_require_row (qa_cons (qe_v 0) (qa_cons (qe_v 1) (qa_nil))))) (qss_one (qs_ret (qe_call c_first_over (hr.mono (by decide)) hgu (takes_of rfl rfl rfl rfl) rfl T.g_first_over T.F_first_over.kp T.b_first_over (qa_cons (qe_v 0) (qa_cons (qe_v 1) (qa_nil)))))))
set_option maxHeartbeats 4000000 in
theorem ok_rest_of (T : Tx K mg A) (B : Tb base mg A) : FnQ P w K mg base (errC A) 6 A.f_rest_of A.fd_rest_of ["calendar", "past"] F_rest_of := by
  have c_away_on := ok_away_on (P := P) (w := w) (base := base) T B
  have c_require_calendar := ok_require_calendar (P := P) (w := w) (base := base) T B
  have c_require_past := ok_require_past (P := P) (w := w) (base := base) T B
  refine fq_of T.F_rest_of sc_rest_of fun cdv A' outer s H E hr hgu => ?_
  exact qss_cons (qs_expr (qe_call c_require_calendar (hr.mono (by decide)) hgu (takes_of rfl rfl rfl rfl) rfl T.g_require_calendar T.F_require_calendar.kp T.b_require_calendar (qa_cons (qe_v 0) (qa_nil)))) (qss_cons (qs_expr (qe_call c_require_past (hr.mono (by decide)) hgu (takes_of rfl rfl rfl rfl) rfl T.g_require_past T.F_require_past.kp T.b_require_past (qa_cons (qe_v 0) (qa_cons (qe_v 1) (qa_nil))))) (qss_cons (qs_asg (qe_callB call_len (.of1 ok_len) rfl T.m_len (by decide +kernel) (qa_cons (qe_v 1) (qa_nil))) (qg_name 2 sc_rest_of.nd)) (qss_cons (qs_asg (qe_lstO (qa_nil)) (qg_name 3 sc_rest_of.nd)) (qss_cons (qs_fz 3 (qs_forget [4, 5, 6] (qs_pre [4, 5, 6] (qs_for (passes_of rfl) rfl (qi_enumK rfl T.m_enumerate (qe_slice (qe_v 0) (qo_some (qe_v 2)) (qo_none)) (qe_bin op_addA ok_add (qe_v 2) (qe_int))) (qg_tup rfl (qgs_cons (qg_name 4 sc_rest_of.nd) (qgs_cons (qg_tup rfl (qgs_cons (qg_name 5 sc_rest_of.nd) (qgs_cons (qg_name 6 sc_rest_of.nd) (qgs_nil))) (hlen := len_cons (len_cons (len_nil)))) (qgs_nil))) (hlen := len_cons (len_cons (len_nil)))) (qss_one (qs_forget [4, 5, 6] (qs_expr (qe_meth1 PySem.F.slot_list_append PySem.F.type_list_append mt_append ok_append (qe_v 3) (qe_tup (qa_cons (qe_bin op_sub ok_sub (qe_v 5) (qe_call c_away_on (hr.mono (by decide)) hgu (takes_of rfl rfl rfl rfl) rfl T.g_away_on T.F_away_on.kp T.b_away_on (qa_cons (qe_v 0) (qa_cons (qe_v 1) (qa_cons (qe_v 4) (qa_nil)))))) (qa_cons (qe_if (qt_cmp op_isN ok_isN (qe_v 6) (qe_non) rfl) (qe_non) (qe_bin op_sub ok_sub (qe_v 6) (qe_v 2))) (qa_nil)))))))))))) (qss_one (qs_ret (qe_v 3)))))))
set_option maxHeartbeats 4000000 in
theorem ok_least_owned (T : Tx K mg A) (B : Tb base mg A) : FnQ P w K mg base (errC A) 6 A.f_least_owned A.fd_least_owned ["calendar", "rows"] F_least_owned := by
  have c_are_numbers := ok_are_numbers (P := P) (w := w) (base := base) T B
  have c_away_on := ok_away_on (P := P) (w := w) (base := base) T B
  have c_require_calendar := ok_require_calendar (P := P) (w := w) (base := base) T B
  refine fq_of T.F_least_owned sc_least_owned fun cdv A' outer s H E hr hgu => ?_
  exact qss_cons (qs_expr (qe_call c_require_calendar (hr.mono (by decide)) hgu (takes_of rfl rfl rfl rfl) rfl T.g_require_calendar T.F_require_calendar.kp T.b_require_calendar (qa_cons (qe_v 0) (qa_nil)))) (qss_cons (qs_if (qt_not (qt_val (qe_isi2 rfl T.m_isinstance rfl T.m_list (by decide +kernel) rfl T.m_tuple (by decide +kernel) (qe_v 1)))) (qss_one (qs_raise T.x_InvalidRow (mkX_InvalidRow T) (hr.mono (by decide)) rfl (takes_of rfl rfl rfl rfl) rfl T.gx_InvalidRow rfl rfl (qe_un un_neg ok_neg (qe_int)))) (qss_nil)) (qss_cons (qs_forget [2, 3] (qs_pre [2, 3] (qs_for (passes_of rfl) rfl (qi_enum rfl T.m_enumerate (qe_v 1)) (qg_tup rfl (qgs_cons (qg_name 2 sc_least_owned.nd) (qgs_cons (qg_name 3 sc_least_owned.nd) (qgs_nil))) (hlen := len_cons (len_cons (len_nil)))) (qss_one (qs_forget [2, 3] (qs_if (qt_of (qw_or (qt_not (qt_val (qe_call c_are_numbers (hr.mono (by decide)) hgu (takes_of rfl rfl rfl rfl) rfl T.g_are_numbers T.F_are_numbers.kp T.b_are_numbers (qa_cons (qe_v 3) (qa_nil))))) (qw_or1 (qt_cmp (op_neA hr.units) ok_neA (qe_callB call_len (.of1 ok_len) rfl T.m_len (by decide +kernel) (qa_cons (qe_v 3) (qa_nil))) (qe_callB call_len (.of1 ok_len) rfl T.m_len (by decide +kernel) (qa_cons (qe_v 0) (qa_nil))) rfl)))) (qss_one (qs_raise T.x_InvalidRow (mkX_InvalidRow T) (hr.mono (by decide)) rfl (takes_of rfl rfl rfl rfl) rfl T.gx_InvalidRow rfl rfl (qe_v 2))) (qss_nil))))))) (qss_cons (qs_asg (qe_lstO (qa_nil)) (qg_name 4 sc_least_owned.nd)) (qss_cons (qs_fz 4 (qs_forget [5] (qs_pre [5] (qs_for (passes_of rfl) rfl (qi_rng2 rfl T.m_range (qa_cons (qe_int) (qa_cons (qe_bin op_addA ok_add (qe_callB call_len (.of1 ok_len) rfl T.m_len (by decide +kernel) (qa_cons (qe_v 0) (qa_nil))) (qe_int)) (qa_nil)))) (qg_name 5 sc_least_owned.nd) (qss_one (qs_forget [5] (qs_expr (qe_meth1 PySem.F.slot_list_append PySem.F.type_list_append mt_append ok_append (qe_v 4) (qe_callB (cr_max rfl) (.of1 ok_max) rfl T.m_max (by decide +kernel) (qa_cons (qe_bin op_addA ok_add (qe_lst (qa_cons (qe_int) (qa_nil))) (qe_lc rfl sc_least_owned.nd (qi_seq (qe_v 1)) (blkOk_by (N := ["calendar", "rows", "index", "row", "found", "day"]) (sc := defScope s_least_owned) (own := [("row", 3)]) (by decide +kernel)) (fun _ _ _ _ _ => qg_name 3 sc_least_owned.nd) (fun _ _ _ _ _ => qts_nil) (fun _ _ _ _ _ => qe_bin op_addA ok_add (qe_call c_away_on (hr.mono (by decide)) hgu takes_no rfl T.g_away_on T.F_away_on.kp T.b_away_on (qa_cons (qe_v 0) (qa_cons (qe_v 3) (qa_cons (qe_v 5) (qa_nil))))) (qe_ix ix_A ok_ix (qe_v 3) (qe_bin op_sub ok_sub (qe_v 5) (qe_int)))))) (qa_nil))))))))))) (qss_one (qs_ret (qe_v 4)))))))
set_option maxHeartbeats 4000000 in
theorem ok_law_mixed (T : Tx K mg A) (B : Tb base mg A) : FnQ P w K mg base (errC A) 2 A.f_law_mixed A.fd_law_mixed ["_law_cell", "_law_draw"] F_law_mixed := by
  refine fq_of T.F_law_mixed sc_law_mixed fun cdv A' outer s H E hr hgu => ?_
  exact qss_cons (qs_asg (qe_bin op_modP ok_mod (qe_bin op_mulT ok_mulT (qe_bin op_addA ok_add (qe_bin op_modP ok_mod (qe_v 0) (qe_int)) (qe_int)) (qe_bin op_addA ok_add (qe_bin op_mulT ok_mulT (qe_v 1) (qe_int)) (qe_int))) (qe_int)) (qg_name 2 sc_law_mixed.nd)) (qss_cons (qs_asg (qe_bin op_modP ok_mod (qe_bin op_mulT ok_mulT (qe_bin op_addA ok_add (qe_v 2) (qe_bin op_mulT ok_mulT (qe_bin op_modP ok_mod (qe_bin op_fdivW ok_fdiv (qe_v 0) (qe_int)) (qe_int)) (qe_bin op_addA ok_add (qe_v 1) (qe_int)))) (qe_int)) (qe_int)) (qg_name 2 sc_law_mixed.nd)) (qss_cons (qs_asg (qe_bin op_modP ok_mod (qe_bin op_mulT ok_mulT (qe_v 2) (qe_bin op_addA ok_add (qe_bin op_addA ok_add (qe_bin op_fdivW ok_fdiv (qe_v 2) (qe_int)) (qe_int)) (qe_v 1))) (qe_int)) (qg_name 2 sc_law_mixed.nd)) (qss_one (qs_ret (qe_bin op_modP ok_mod (qe_bin op_mulT ok_mulT (qe_v 2) (qe_bin op_addA ok_add (qe_bin op_fdivW ok_fdiv (qe_v 2) (qe_int)) (qe_int))) (qe_int))))))
set_option maxHeartbeats 4000000 in
theorem ok_law_source (T : Tx K mg A) (B : Tb base mg A) : FnQ P w K mg base (errC A) 2 A.f_law_source A.fd_law_source ["_law_cell"] F_law_source := by
  refine fq_of T.F_law_source sc_law_source fun cdv A' outer s H E hr hgu => ?_
  exact qss_one (qs_ret (qe_lstO (qa_cons (qe_v 0) (qa_cons (qe_v 0) (qa_cons (qe_int) (qa_nil))))))
set_option maxHeartbeats 4000000 in
theorem ok_law_take (T : Tx K mg A) (B : Tb base mg A) : FnQ P w K mg base (errC A) 3 A.f_law_take A.fd_law_take ["_law_source_here", "_law_count"] F_law_take := by
  have c_law_mixed := ok_law_mixed (P := P) (w := w) (base := base) T B
  refine fq_of T.F_law_take sc_law_take fun cdv A' outer s H E hr hgu => ?_
  exact qss_cons (qs_if (qt_cmp op_ge ok_ge (qe_ix ix_A ok_ix (qe_v 0) (qe_int)) (qe_bin op_pow ok_pow (qe_int) (qe_int)) rfl) (qss_cons (qs_asg (qe_bin op_modP ok_mod (qe_ix ix_A ok_ix (qe_v 0) (qe_int)) (qe_v 1)) (qg_name 2 sc_law_take.nd)) (qss_cons (qs_setI (qe_bin op_fdivW ok_fdiv (qe_ix ix_A ok_ix (qe_v 0) (qe_int)) (qe_v 1)) (qe_v 0) (qe_int)) (qss_one (qs_ret (qe_v 2))))) (qss_nil)) (qss_cons (qs_setI (qe_bin op_addA ok_add (qe_ix ix_A ok_ix (qe_v 0) (qe_int)) (qe_int)) (qe_v 0) (qe_int)) (qss_one (qs_ret (qe_bin op_modP ok_mod (qe_call c_law_mixed (hr.mono (by decide)) hgu (takes_of rfl rfl rfl rfl) rfl T.g_law_mixed T.F_law_mixed.kp T.b_law_mixed (qa_cons (qe_ix ix_A ok_ix (qe_v 0) (qe_int)) (qa_cons (qe_ix ix_A ok_ix (qe_v 0) (qe_int)) (qa_nil)))) (qe_v 1)))))
set_option maxHeartbeats 4000000 in
theorem ok_law_stock (T : Tx K mg A) (B : Tb base mg A) : FnQ P w K mg base (errC A) 4 A.f_law_stock A.fd_law_stock ["_law_source_here", "_law_most", "_law_high"] F_law_stock := by
  have c_law_take := ok_law_take (P := P) (w := w) (base := base) T B
  refine fq_of T.F_law_stock sc_law_stock fun cdv A' outer s H E hr hgu => ?_
  exact qss_cons (qs_par2 3 4 rfl sc_law_stock.nd (qa_cons (qe_call c_law_take (hr.mono (by decide)) hgu (takes_of rfl rfl rfl rfl) rfl T.g_law_take T.F_law_take.kp T.b_law_take (qa_cons (qe_v 0) (qa_cons (qe_bin op_addA ok_add (qe_v 1) (qe_int)) (qa_nil)))) (qa_cons (qe_call c_law_take (hr.mono (by decide)) hgu (takes_of rfl rfl rfl rfl) rfl T.g_law_take T.F_law_take.kp T.b_law_take (qa_cons (qe_v 0) (qa_cons (qe_int) (qa_nil)))) (qa_nil)))) (qss_cons (qs_par2 5 6 rfl sc_law_stock.nd (qa_cons (qe_call c_law_take (hr.mono (by decide)) hgu (takes_of rfl rfl rfl rfl) rfl T.g_law_take T.F_law_take.kp T.b_law_take (qa_cons (qe_v 0) (qa_cons (qe_bin op_addA ok_add (qe_v 2) (qe_int)) (qa_nil)))) (qa_cons (qe_call c_law_take (hr.mono (by decide)) hgu (takes_of rfl rfl rfl rfl) rfl T.g_law_take T.F_law_take.kp T.b_law_take (qa_cons (qe_v 0) (qa_cons (qe_int) (qa_nil)))) (qa_nil)))) (qss_cons (qs_asg (qe_lstO (qa_nil)) (qg_name 7 sc_law_stock.nd)) (qss_cons (qs_fz 7 (qs_forget [8, 9, 10] (qs_pre [8, 9, 10] (qs_for (passes_of rfl) rfl (qi_rng1 rfl T.m_range (qa_cons (qe_v 3) (qa_nil))) (qg_name 8 sc_law_stock.nd) (qss_cons (qs_asg (qe_v 5) (qg_name 9 sc_law_stock.nd)) (qss_cons (qs_if (qt_cmp op_in_seq ok_in (qe_v 4) (qe_tup (qa_cons (qe_int) (qa_cons (qe_int) (qa_nil)))) rfl) (qss_one (qs_asg (qe_call c_law_take (hr.mono (by decide)) hgu (takes_of rfl rfl rfl rfl) rfl T.g_law_take T.F_law_take.kp T.b_law_take (qa_cons (qe_v 0) (qa_cons (qe_bin op_addA ok_add (qe_v 2) (qe_int)) (qa_nil)))) (qg_name 9 sc_law_stock.nd))) (qss_nil)) (qss_cons (qs_if (qt_cmp (op_eqA hr.units) ok_eqA (qe_v 4) (qe_int) rfl) (qss_one (qs_asg (qe_callB (call_max2 rfl) (.of2 ok_max2) rfl T.m_max (by decide +kernel) (qa_cons (qe_int) (qa_cons (qe_bin op_sub ok_sub (qe_v 5) (qe_bin op_fdivW ok_fdiv (qe_v 8) (qe_int))) (qa_nil)))) (qg_name 9 sc_law_stock.nd))) (qss_nil)) (qss_cons (qs_asg (qe_bin op_addA ok_add (qe_bin op_addA ok_add (qe_v 8) (qe_int)) (qe_v 6)) (qg_name 10 sc_law_stock.nd)) (qss_cons (qs_if (qt_cmp op_gt ok_gt (qe_v 4) (qe_int) rfl) (qss_one (qs_asg (qe_ix ix_A ok_ix (qe_lst (qa_cons (qe_bin op_addA ok_add (qe_bin op_addA ok_add (qe_v 8) (qe_int)) (qe_call c_law_take (hr.mono (by decide)) hgu (takes_of rfl rfl rfl rfl) rfl T.g_law_take T.F_law_take.kp T.b_law_take (qa_cons (qe_v 0) (qa_cons (qe_int) (qa_nil))))) (qa_cons (qe_bin op_addA ok_add (qe_v 8) (qe_int)) (qa_cons (qe_non) (qa_cons (qe_bin op_addA ok_add (qe_bin op_addA ok_add (qe_v 3) (qe_int)) (qe_call c_law_take (hr.mono (by decide)) hgu (takes_of rfl rfl rfl rfl) rfl T.g_law_take T.F_law_take.kp T.b_law_take (qa_cons (qe_v 0) (qa_cons (qe_int) (qa_nil))))) (qa_nil)))))) (qe_call c_law_take (hr.mono (by decide)) hgu (takes_of rfl rfl rfl rfl) rfl T.g_law_take T.F_law_take.kp T.b_law_take (qa_cons (qe_v 0) (qa_cons (qe_int) (qa_nil))))) (qg_name 10 sc_law_stock.nd))) (qss_nil)) (qss_one (qs_forget [8, 9, 10] (qs_expr (qe_meth1 PySem.F.slot_list_append PySem.F.type_list_append mt_append ok_append (qe_v 7) (qe_tup (qa_cons (qe_v 9) (qa_cons (qe_v 10) (qa_nil))))))))))))))))) (qss_one (qs_ret (qe_v 7))))))
set_option maxHeartbeats 4000000 in
theorem ok_law_gone (T : Tx K mg A) (B : Tb base mg A) : FnQ P w K mg base (errC A) 2 A.f_law_gone A.fd_law_gone ["_law_stock_here", "_law_line", "_law_today"] F_law_gone := by
  refine fq_of T.F_law_gone sc_law_gone fun cdv A' outer s H E hr hgu => ?_
  exact qss_cons (qs_asg (qe_int) (qg_name 3 sc_law_gone.nd)) (qss_cons (qs_forget [4, 5, 6] (qs_pre [4, 5, 6] (qs_for (passes_of rfl) rfl (qi_seq (qe_slice (qe_lzip false rfl rfl T.m_list rfl T.m_zip (qe_v 0) (qe_v 1)) (qo_none) (qo_some (qe_bin op_sub ok_sub (qe_v 2) (qe_int))))) (qg_tup rfl (qgs_cons (qg_tup rfl (qgs_cons (qg_name 4 sc_law_gone.nd) (qgs_cons (qg_name 5 sc_law_gone.nd) (qgs_nil))) (hlen := len_cons (len_cons (len_nil)))) (qgs_cons (qg_name 6 sc_law_gone.nd) (qgs_nil))) (hlen := len_cons (len_cons (len_nil)))) (qss_one (qs_forget [4, 5, 6] (qs_if (qt_of (qw_or (qt_cmp op_isN ok_isN (qe_v 5) (qe_non) rfl) (qw_or1 (qt_cmp op_gt ok_gt (qe_v 5) (qe_v 2) rfl)))) (qss_one (qs_asg (qe_bin op_addA ok_add (qe_v 3) (qe_v 6)) (qg_name 3 sc_law_gone.nd))) (qss_nil))))))) (qss_one (qs_ret (qe_v 3))))
set_option maxHeartbeats 4000000 in
theorem ok_law_over (T : Tx K mg A) (B : Tb base mg A) : FnQ P w K mg base (errC A) 3 A.f_law_over A.fd_law_over ["_law_stock_here", "_law_line"] F_law_over := by
  have c_law_gone := ok_law_gone (P := P) (w := w) (base := base) T B
  refine fq_of T.F_law_over sc_law_over fun cdv A' outer s H E hr hgu => ?_
  exact qss_cons (qs_asg (qe_bin op_addA ok_add (qe_callTy (T := "") call_tuple_of (.of1 ok_tuple) rfl T.m_tuple (by decide +kernel) (qa_cons (qe_v 1) (qa_nil))) (qe_bin op_mulT ok_mulT (qe_tup (qa_cons (qe_int) (qa_nil))) (qe_bin op_sub ok_sub (qe_callB call_len (.of1 ok_len) rfl T.m_len (by decide +kernel) (qa_cons (qe_v 0) (qa_nil))) (qe_callB call_len (.of1 ok_len) rfl T.m_len (by decide +kernel) (qa_cons (qe_v 1) (qa_nil)))))) (qg_name 2 sc_law_over.nd)) (qss_cons (qs_forget [3, 4] (qs_pre [3, 4] (qs_for (passes_of rfl) rfl (qi_enum rfl T.m_enumerate (qe_v 2)) (qg_tup rfl (qgs_cons (qg_name 3 sc_law_over.nd) (qgs_cons (qg_name 4 sc_law_over.nd) (qgs_nil))) (hlen := len_cons (len_cons (len_nil)))) (qss_one (qs_forget [3, 4] (qs_if (qt_cmp op_gt ok_gt (qe_bin op_addA ok_add (qe_call c_law_gone (hr.mono (by decide)) hgu (takes_of rfl rfl rfl rfl) rfl T.g_law_gone T.F_law_gone.kp T.b_law_gone (qa_cons (qe_v 0) (qa_cons (qe_v 2) (qa_cons (qe_bin op_addA ok_add (qe_v 3) (qe_int)) (qa_nil))))) (qe_v 4)) (qe_ix ix_A ok_ix (qe_ix ix_A ok_ix (qe_v 0) (qe_v 3)) (qe_int)) rfl) (qss_one (qs_ret (qe_bin op_addA ok_add (qe_v 3) (qe_int)))) (qss_nil))))))) (qss_one (qs_ret (qe_non))))
set_option maxHeartbeats 4000000 in
theorem okA_law_raised (T : Tx K mg A) (B : Tb base mg A) : AskQ P w K mg base (errC A) 2 A.f_law_raised ["_law_attempt", "e", "_law_kinds"] "_law_raised" (defScope s_law_raised) "_law_attempt" F_law_raised := by
  exact ask_of (m := 5) (nms := errN) T.F_law_raised sc_law_raised T.b_law_raised rfl nm_at (fun cdv A' outer s H E hr hgu => HdV.as (⟨rfl, by decide, .inl T.gx_BreakError⟩) sc_law_raised.nd rfl rfl T.e_BreakError (fun aE oE cE dE pnE hcE hiE hzE hfE => qss_cons (qs_asg (qe_lst (qa_cons (qe_isV (exc_at T cE hcE) hzE hfE rfl (Or.inl rfl) (kit_InvalidCalendar T cE hcE) rfl T.m_isinstance rfl T.gx_InvalidCalendar) (qa_cons (qe_isV (exc_at T cE hcE) hzE hfE rfl (Or.inl rfl) (kit_InvalidRow T cE hcE) rfl T.m_isinstance rfl T.gx_InvalidRow) (qa_cons (qe_isV (exc_at T cE hcE) hzE hfE rfl (Or.inl rfl) (kit_InvalidHolidays T cE hcE) rfl T.m_isinstance rfl T.gx_InvalidHolidays) (qa_nil))))) (qg_name 2 sc_law_raised.nd)) (qss_cons (qs_asg (qe_bin op_addA ok_add (qe_v 2) (qe_lst (qa_cons (qe_isV (exc_at T cE hcE) hzE hfE rfl (Or.inl rfl) (kit_InvalidPast T cE hcE) rfl T.m_isinstance rfl T.gx_InvalidPast) (qa_cons (qe_isV (exc_at T cE hcE) hzE hfE rfl (Or.inl rfl) (kit_InvalidNumber T cE hcE) rfl T.m_isinstance rfl T.gx_InvalidNumber) (qa_cons (qe_isV (exc_at T cE hcE) hzE hfE rfl (Or.inl rfl) (kit_TooLarge T cE hcE) rfl T.m_isinstance rfl T.gx_TooLarge) (qa_nil)))))) (qg_name 2 sc_law_raised.nd)) (qss_cons (qs_asg (qe_bin op_addA ok_add (qe_v 2) (qe_lst (qa_cons (qe_isVT (cs := [A.x_InvalidPlan, A.x_InvalidTest, A.x_Mismatch]) (exc_at T cE hcE) hzE hfE rfl (Or.inl rfl) (kitAny_or (kit_InvalidPlan T cE hcE) (kitAny_or (kit_InvalidTest T cE hcE) (kitAny_or (kit_Mismatch T cE hcE) (rfl)))) rfl T.m_isinstance (pnm_cons rfl T.gx_InvalidPlan (pnm_cons rfl T.gx_InvalidTest (pnm_cons rfl T.gx_Mismatch (pnm_nil)))) (by simp)) (qa_nil)))) (qg_name 2 sc_law_raised.nd)) (qss_cons (qs_if (qt_of (qw_or (qt_cmp (op_neA hr.units) ok_neA (qe_countD (by have h := units65 hr; exact h) (qe_v 2) (qe_bl)) (qe_int) rfl) (qw_or (qt_val (qe_ix ix_A ok_ix (qe_v 2) (qe_int))) (qw_or1 (qt_not (qt_val (qe_isVB (exc_at T cE hcE) hzE hfE rfl (Or.inl rfl) (ve_at T cE hcE) rfl T.m_isinstance rfl T.m_ValueError (by decide +kernel)))))))) (qss_one (qs_ret (qe_tup (qa_cons (qe_str) (qa_cons (qe_str) (qa_nil)))))) (qss_nil)) (qss_cons (qs_if (qt_val (qe_ix ix_A ok_ix (qe_v 2) (qe_int))) (qss_one (qs_ret (qe_tup (qa_cons (qe_str) (qa_cons (qe_atV (xf_at T cE hcE) (noat_day T cE hcE) hzE hfE rfl (Or.inl rfl)) (qa_nil)))))) (qss_nil)) (qss_cons (qs_if (qt_val (qe_ix ix_A ok_ix (qe_v 2) (qe_int))) (qss_one (qs_ret (qe_tup (qa_cons (qe_str) (qa_cons (qe_atV (xf_at T cE hcE) (noat_name T cE hcE) hzE hfE rfl (Or.inl rfl)) (qa_nil)))))) (qss_nil)) (qss_cons (qs_if (qt_val (qe_ix ix_A ok_ix (qe_v 2) (qe_int))) (qss_one (qs_ret (qe_tup (qa_cons (qe_str) (qa_cons (qe_atV (xf_at T cE hcE) (noat_limit T cE hcE) hzE hfE rfl (Or.inl rfl)) (qa_nil)))))) (qss_nil)) (qss_one (qs_ret (qe_tup (qa_cons (qe_ix ix_A ok_ix (qe_lst (qa_cons (qe_str) (qa_cons (qe_str) (qa_cons (qe_str) (qa_nil))))) (qe_index (by have h := units65 hr; exact h) (qe_v 2) (qe_bl))) (qa_cons (qe_atV (xf_at T cE hcE) (noat_index T cE hcE) hzE hfE rfl (Or.inl rfl)) (qa_nil))))))))))))) (HdV.nil)) (fun cdv A' outer s H E hr hgu => qss_one (qs_ret (qe_tup (qa_cons (qe_str) (qa_cons (qe_str) (qa_nil))))))
set_option maxHeartbeats 4000000 in
theorem ok_law_bad_stock (T : Tx K mg A) (B : Tb base mg A) : FnQ P w K mg base (errC A) 4 A.f_law_bad_stock A.fd_law_bad_stock ["_law_source_here", "_law_stock_here"] F_law_bad_stock := by
  have c_law_take := ok_law_take (P := P) (w := w) (base := base) T B
  refine fq_of T.F_law_bad_stock sc_law_bad_stock fun cdv A' outer s H E hr hgu => ?_
  exact qss_cons (qs_asg (qe_call c_law_take (hr.mono (by decide)) hgu (takes_of rfl rfl rfl rfl) rfl T.g_law_take T.F_law_take.kp T.b_law_take (qa_cons (qe_v 0) (qa_cons (qe_bin op_addA ok_add (qe_callB call_len (.of1 ok_len) rfl T.m_len (by decide +kernel) (qa_cons (qe_v 1) (qa_nil))) (qe_int)) (qa_nil)))) (qg_name 2 sc_law_bad_stock.nd)) (qss_cons (qs_asg (qe_bin op_addA ok_add (qe_v 2) (qe_int)) (qg_name 3 sc_law_bad_stock.nd)) (qss_cons (qs_asg (qe_lst (qa_cons (qe_non) (qa_cons (qe_lst (qa_cons (qe_int) (qa_cons (qe_non) (qa_nil)))) (qa_cons (qe_tup (qa_cons (qe_int) (qa_nil))) (qa_cons (qe_tup (qa_cons (qe_int) (qa_cons (qe_non) (qa_cons (qe_int) (qa_nil))))) (qa_cons (qe_tup (qa_cons (qe_un un_neg ok_neg (qe_int)) (qa_cons (qe_non) (qa_nil)))) (qa_cons (qe_tup (qa_cons (qe_int) (qa_cons (qe_non) (qa_nil)))) (qa_cons (qe_tup (qa_cons (qe_bl) (qa_cons (qe_non) (qa_nil)))) (qa_cons (qe_tup (qa_cons (qe_non) (qa_cons (qe_non) (qa_nil)))) (qa_cons (qe_tup (qa_cons (qe_str) (qa_cons (qe_non) (qa_nil)))) (qa_nil))))))))))) (qg_name 4 sc_law_bad_stock.nd)) (qss_cons (qs_asg (qe_bin op_addA ok_add (qe_v 4) (qe_lst (qa_cons (qe_tup (qa_cons (qe_int) (qa_cons (qe_v 3) (qa_nil)))) (qa_cons (qe_tup (qa_cons (qe_int) (qa_cons (qe_int) (qa_nil)))) (qa_cons (qe_tup (qa_cons (qe_int) (qa_cons (qe_un un_neg ok_neg (qe_int)) (qa_nil)))) (qa_cons (qe_tup (qa_cons (qe_int) (qa_cons (qe_bl) (qa_nil)))) (qa_cons (qe_tup (qa_cons (qe_int) (qa_cons (qe_str) (qa_nil)))) (qa_cons (qe_tup (qa_cons (qe_int) (qa_cons (qe_lst (qa_cons (qe_int) (qa_nil))) (qa_nil)))) (qa_cons (qe_tup (qa_cons (qe_lst (qa_cons (qe_int) (qa_nil))) (qa_cons (qe_non) (qa_nil)))) (qa_cons (qe_dct0) (qa_cons (qe_int) (qa_nil)))))))))))) (qg_name 4 sc_law_bad_stock.nd)) (qss_cons (qs_asg (qe_lst (qa_cons (qe_non) (qa_cons (qe_str) (qa_cons (qe_dct0) (qa_cons (qe_int) (qa_cons (qe_bin op_mulT ok_mulT (qe_lst (qa_cons (qe_tup (qa_cons (qe_int) (qa_cons (qe_non) (qa_nil)))) (qa_nil))) (qe_int)) (qa_cons (qe_bin op_addA ok_add (qe_bin op_mulT ok_mulT (qe_tup (qa_cons (qe_tup (qa_cons (qe_int) (qa_cons (qe_non) (qa_nil)))) (qa_nil))) (qe_int)) (qe_tup (qa_cons (qe_non) (qa_nil)))) (qa_cons (qe_bl) (qa_cons (qe_dcxI (qe_non)) (qa_nil)))))))))) (qg_name 5 sc_law_bad_stock.nd)) (qss_cons (qs_if (qt_cmp (op_eqA hr.units) ok_eqA (qe_call c_law_take (hr.mono (by decide)) hgu (takes_of rfl rfl rfl rfl) rfl T.g_law_take T.F_law_take.kp T.b_law_take (qa_cons (qe_v 0) (qa_cons (qe_int) (qa_nil)))) (qe_int) rfl) (qss_one (qs_ret (qe_tup (qa_cons (qe_ix ix_A ok_ix (qe_v 5) (qe_call c_law_take (hr.mono (by decide)) hgu (takes_of rfl rfl rfl rfl) rfl T.g_law_take T.F_law_take.kp T.b_law_take (qa_cons (qe_v 0) (qa_cons (qe_int) (qa_nil))))) (qa_cons (qe_un un_neg ok_neg (qe_int)) (qa_nil)))))) (qss_nil)) (qss_cons (qs_asg (qe_bin op_addA ok_add (qe_bin op_addA ok_add (qe_slice (qe_v 1) (qo_none) (qo_some (qe_v 2))) (qe_lst (qa_cons (qe_ix ix_A ok_ix (qe_v 4) (qe_call c_law_take (hr.mono (by decide)) hgu (takes_of rfl rfl rfl rfl) rfl T.g_law_take T.F_law_take.kp T.b_law_take (qa_cons (qe_v 0) (qa_cons (qe_int) (qa_nil))))) (qa_nil)))) (qe_bin op_mulT ok_mulT (qe_lst (qa_cons (qe_non) (qa_nil))) (qe_call c_law_take (hr.mono (by decide)) hgu (takes_of rfl rfl rfl rfl) rfl T.g_law_take T.F_law_take.kp T.b_law_take (qa_cons (qe_v 0) (qa_cons (qe_int) (qa_nil)))))) (qg_name 6 sc_law_bad_stock.nd)) (qss_one (qs_ret (qe_tup (qa_cons (qe_ix ix_A ok_ix (qe_lst (qa_cons (qe_v 6) (qa_cons (qe_callTy (T := "") call_tuple_of (.of1 ok_tuple) rfl T.m_tuple (by decide +kernel) (qa_cons (qe_v 6) (qa_nil))) (qa_nil)))) (qe_call c_law_take (hr.mono (by decide)) hgu (takes_of rfl rfl rfl rfl) rfl T.g_law_take T.F_law_take.kp T.b_law_take (qa_cons (qe_v 0) (qa_cons (qe_int) (qa_nil))))) (qa_cons (qe_v 2) (qa_nil))))))))))))
set_option maxHeartbeats 4000000 in
theorem ok_law_bad_line (T : Tx K mg A) (B : Tb base mg A) : FnQ P w K mg base (errC A) 4 A.f_law_bad_line A.fd_law_bad_line ["_law_source_here", "_law_line"] F_law_bad_line := by
  have c_law_take := ok_law_take (P := P) (w := w) (base := base) T B
  refine fq_of T.F_law_bad_line sc_law_bad_line fun cdv A' outer s H E hr hgu => ?_
  exact qss_cons (qs_asg (qe_ix ix_A ok_ix (qe_lst (qa_cons (qe_un un_neg ok_neg (qe_int)) (qa_cons (qe_bl) (qa_cons (qe_non) (qa_cons (qe_str) (qa_cons (qe_tup (qa_cons (qe_int) (qa_nil))) (qa_cons (qe_lst (qa_cons (qe_int) (qa_nil))) (qa_cons (qe_dct0) (qa_cons (qe_bin op_sub ok_sub (qe_int) (qe_bin op_pow ok_pow (qe_int) (qe_int))) (qa_nil)))))))))) (qe_call c_law_take (hr.mono (by decide)) hgu (takes_of rfl rfl rfl rfl) rfl T.g_law_take T.F_law_take.kp T.b_law_take (qa_cons (qe_v 0) (qa_cons (qe_int) (qa_nil))))) (qg_name 2 sc_law_bad_line.nd)) (qss_cons (qs_asg (qe_call c_law_take (hr.mono (by decide)) hgu (takes_of rfl rfl rfl rfl) rfl T.g_law_take T.F_law_take.kp T.b_law_take (qa_cons (qe_v 0) (qa_cons (qe_callB call_len (.of1 ok_len) rfl T.m_len (by decide +kernel) (qa_cons (qe_v 1) (qa_nil))) (qa_nil)))) (qg_name 3 sc_law_bad_line.nd)) (qss_cons (qs_asg (qe_lst (qa_cons (qe_tup (qa_cons (qe_non) (qa_cons (qe_un un_neg ok_neg (qe_int)) (qa_nil)))) (qa_cons (qe_tup (qa_cons (qe_callTy (T := "") call_list_of (.of1 ok_list) rfl T.m_list (by decide +kernel) (qa_cons (qe_v 1) (qa_nil))) (qa_cons (qe_un un_neg ok_neg (qe_int)) (qa_nil)))) (qa_cons (qe_tup (qa_cons (qe_bin op_addA ok_add (qe_v 1) (qe_tup (qa_cons (qe_int) (qa_nil)))) (qa_cons (qe_un un_neg ok_neg (qe_int)) (qa_nil)))) (qa_cons (qe_tup (qa_cons (qe_slice (qe_v 1) (qo_some (qe_int)) (qo_none)) (qa_cons (qe_un un_neg ok_neg (qe_int)) (qa_nil)))) (qa_cons (qe_tup (qa_cons (qe_dct0) (qa_cons (qe_un un_neg ok_neg (qe_int)) (qa_nil)))) (qa_cons (qe_tup (qa_cons (qe_bin op_mulS ok_mulS (qe_str) (qe_callB call_len (.of1 ok_len) rfl T.m_len (by decide +kernel) (qa_cons (qe_v 1) (qa_nil)))) (qa_cons (qe_un un_neg ok_neg (qe_int)) (qa_nil)))) (qa_nil)))))))) (qg_name 4 sc_law_bad_line.nd)) (qss_cons (qs_asg (qe_bin op_addA ok_add (qe_v 4) (qe_bin op_mulT ok_mulT (qe_lst (qa_cons (qe_tup (qa_cons (qe_bin op_addA ok_add (qe_bin op_addA ok_add (qe_slice (qe_v 1) (qo_none) (qo_some (qe_v 3))) (qe_tup (qa_cons (qe_v 2) (qa_nil)))) (qe_slice (qe_v 1) (qo_some (qe_bin op_addA ok_add (qe_v 3) (qe_int))) (qo_none))) (qa_cons (qe_v 3) (qa_nil)))) (qa_cons (qe_tup (qa_cons (qe_bin op_addA ok_add (qe_slice (qe_v 1) (qo_none) (qo_some (qe_v 3))) (qe_bin op_mulT ok_mulT (qe_tup (qa_cons (qe_v 2) (qa_nil))) (qe_bin op_sub ok_sub (qe_callB call_len (.of1 ok_len) rfl T.m_len (by decide +kernel) (qa_cons (qe_v 1) (qa_nil))) (qe_v 3)))) (qa_cons (qe_v 3) (qa_nil)))) (qa_nil)))) (qe_int))) (qg_name 4 sc_law_bad_line.nd)) (qss_one (qs_ret (qe_ix ix_A ok_ix (qe_v 4) (qe_call c_law_take (hr.mono (by decide)) hgu (takes_of rfl rfl rfl rfl) rfl T.g_law_take T.F_law_take.kp T.b_law_take (qa_cons (qe_v 0) (qa_cons (qe_int) (qa_nil))))))))))
set_option maxHeartbeats 4000000 in
theorem ok_law_late (T : Tx K mg A) (B : Tb base mg A) : FnQ P w K mg base (errC A) 4 A.f_law_late A.fd_law_late ["_law_source_here", "_law_stock_here"] F_law_late := by
  have c_law_over := ok_law_over (P := P) (w := w) (base := base) T B
  have c_law_take := ok_law_take (P := P) (w := w) (base := base) T B
  refine fq_of T.F_law_late sc_law_late fun cdv A' outer s H E hr hgu => ?_
  exact qss_cons (qs_asg (qe_lstO (qa_nil)) (qg_name 2 sc_law_late.nd)) (qss_cons (qs_fz 2 (qs_forget [3, 4, 5, 6, 7] (qs_pre [3, 4, 5, 6, 7] (qs_for (passes_of rfl) rfl (qi_enum rfl T.m_enumerate (qe_v 1)) (qg_tup rfl (qgs_cons (qg_name 3 sc_law_late.nd) (qgs_cons (qg_tup rfl (qgs_cons (qg_name 4 sc_law_late.nd) (qgs_cons (qg_name 5 sc_law_late.nd) (qgs_nil))) (hlen := len_cons (len_cons (len_nil)))) (qgs_nil))) (hlen := len_cons (len_cons (len_nil)))) (qss_cons (qs_asg (qe_bin op_addA ok_add (qe_bin op_mulT ok_mulT (qe_tup (qa_cons (qe_int) (qa_nil))) (qe_v 3)) (qe_tup (qa_cons (qe_v 4) (qa_nil)))) (qg_name 6 sc_law_late.nd)) (qss_cons (qs_asg (qe_call c_law_over (hr.mono (by decide)) hgu (takes_of rfl rfl rfl rfl) rfl T.g_law_over T.F_law_over.kp T.b_law_over (qa_cons (qe_v 1) (qa_cons (qe_v 6) (qa_nil)))) (qg_name 7 sc_law_late.nd)) (qss_one (qs_forget [3, 4, 5, 6, 7] (qs_if (qt_of (qw_and (qt_cmp op_notN ok_notN (qe_v 7) (qe_non) rfl) (qw_and1 (qt_cmp op_gt ok_gt (qe_v 7) (qe_bin op_addA ok_add (qe_v 3) (qe_int)) rfl)))) (qss_one (qs_expr (qe_meth1 PySem.F.slot_list_append PySem.F.type_list_append mt_append ok_append (qe_v 2) (qe_tup (qa_cons (qe_v 6) (qa_cons (qe_v 7) (qa_nil))))))) (qss_nil)))))))))) (qss_cons (qs_if (qt_cmp (op_eqA hr.units) ok_eqA (qe_v 2) (qe_lst (qa_nil)) rfl) (qss_one (qs_ret (qe_non))) (qss_nil)) (qss_one (qs_ret (qe_ix ix_A ok_ix (qe_v 2) (qe_call c_law_take (hr.mono (by decide)) hgu (takes_of rfl rfl rfl rfl) rfl T.g_law_take T.F_law_take.kp T.b_law_take (qa_cons (qe_v 0) (qa_cons (qe_callB call_len (.of1 ok_len) rfl T.m_len (by decide +kernel) (qa_cons (qe_v 2) (qa_nil))) (qa_nil)))))))))
set_option maxHeartbeats 4000000 in
theorem ok_law_bad_start (T : Tx K mg A) (B : Tb base mg A) : FnQ P w K mg base (errC A) 5 A.f_law_bad_start A.fd_law_bad_start ["_law_source_here", "_law_stock_here"] F_law_bad_start := by
  have c_law_late := ok_law_late (P := P) (w := w) (base := base) T B
  have c_law_take := ok_law_take (P := P) (w := w) (base := base) T B
  refine fq_of T.F_law_bad_start sc_law_bad_start fun cdv A' outer s H E hr hgu => ?_
  exact qss_cons (qs_asg (qe_ix ix_A ok_ix (qe_lst (qa_cons (qe_un un_neg ok_neg (qe_int)) (qa_cons (qe_bl) (qa_cons (qe_non) (qa_cons (qe_str) (qa_cons (qe_tup (qa_cons (qe_int) (qa_nil))) (qa_cons (qe_lst (qa_cons (qe_int) (qa_nil))) (qa_cons (qe_dct0) (qa_cons (qe_bin op_sub ok_sub (qe_int) (qe_bin op_pow ok_pow (qe_int) (qe_int))) (qa_nil)))))))))) (qe_call c_law_take (hr.mono (by decide)) hgu (takes_of rfl rfl rfl rfl) rfl T.g_law_take T.F_law_take.kp T.b_law_take (qa_cons (qe_v 0) (qa_cons (qe_int) (qa_nil))))) (qg_name 2 sc_law_bad_start.nd)) (qss_cons (qs_asg (qe_call c_law_take (hr.mono (by decide)) hgu (takes_of rfl rfl rfl rfl) rfl T.g_law_take T.F_law_take.kp T.b_law_take (qa_cons (qe_v 0) (qa_cons (qe_callB call_len (.of1 ok_len) rfl T.m_len (by decide +kernel) (qa_cons (qe_v 1) (qa_nil))) (qa_nil)))) (qg_name 3 sc_law_bad_start.nd)) (qss_cons (qs_asg (qe_bin op_mulT ok_mulT (qe_tup (qa_cons (qe_int) (qa_nil))) (qe_callB call_len (.of1 ok_len) rfl T.m_len (by decide +kernel) (qa_cons (qe_v 1) (qa_nil)))) (qg_name 4 sc_law_bad_start.nd)) (qss_cons (qs_asg (qe_lst (qa_cons (qe_tup (qa_cons (qe_non) (qa_cons (qe_un un_neg ok_neg (qe_int)) (qa_nil)))) (qa_cons (qe_tup (qa_cons (qe_callTy (T := "") call_list_of (.of1 ok_list) rfl T.m_list (by decide +kernel) (qa_cons (qe_v 4) (qa_nil))) (qa_cons (qe_un un_neg ok_neg (qe_int)) (qa_nil)))) (qa_cons (qe_tup (qa_cons (qe_bin op_addA ok_add (qe_v 4) (qe_tup (qa_cons (qe_int) (qa_nil)))) (qa_cons (qe_un un_neg ok_neg (qe_int)) (qa_nil)))) (qa_cons (qe_tup (qa_cons (qe_bin op_addA ok_add (qe_slice (qe_v 4) (qo_none) (qo_some (qe_v 3))) (qe_tup (qa_cons (qe_v 2) (qa_nil)))) (qa_cons (qe_un un_neg ok_neg (qe_int)) (qa_nil)))) (qa_cons (qe_tup (qa_cons (qe_dct0) (qa_cons (qe_un un_neg ok_neg (qe_int)) (qa_nil)))) (qa_cons (qe_tup (qa_cons (qe_str) (qa_cons (qe_un un_neg ok_neg (qe_int)) (qa_nil)))) (qa_cons (qe_tup (qa_cons (qe_int) (qa_cons (qe_un un_neg ok_neg (qe_int)) (qa_nil)))) (qa_nil))))))))) (qg_name 5 sc_law_bad_start.nd)) (qss_cons (qs_asg (qe_bin op_addA ok_add (qe_slice (qe_v 4) (qo_none) (qo_some (qe_v 3))) (qe_tup (qa_cons (qe_bin op_addA ok_add (qe_int) (qe_call c_law_take (hr.mono (by decide)) hgu (takes_of rfl rfl rfl rfl) rfl T.g_law_take T.F_law_take.kp T.b_law_take (qa_cons (qe_v 0) (qa_cons (qe_int) (qa_nil))))) (qa_nil)))) (qg_name 6 sc_law_bad_start.nd)) (qss_cons (qs_asg (qe_call c_law_late (hr.mono (by decide)) hgu (takes_of rfl rfl rfl rfl) rfl T.g_law_late T.F_law_late.kp T.b_law_late (qa_cons (qe_v 0) (qa_cons (qe_v 1) (qa_nil)))) (qg_name 7 sc_law_bad_start.nd)) (qss_cons (qs_if (qt_of (qw_and (qt_cmp op_notN ok_notN (qe_v 7) (qe_non) rfl) (qw_and1 (qt_cmp op_gt ok_gt (qe_call c_law_take (hr.mono (by decide)) hgu (takes_of rfl rfl rfl rfl) rfl T.g_law_take T.F_law_take.kp T.b_law_take (qa_cons (qe_v 0) (qa_cons (qe_int) (qa_nil)))) (qe_int) rfl)))) (qss_one (qs_ret (qe_v 7))) (qss_nil)) (qss_one (qs_ret (qe_ix ix_A ok_ix (qe_bin op_addA ok_add (qe_v 5) (qe_bin op_mulT ok_mulT (qe_lst (qa_cons (qe_tup (qa_cons (qe_v 6) (qa_cons (qe_bin op_addA ok_add (qe_v 3) (qe_int)) (qa_nil)))) (qa_cons (qe_tup (qa_cons (qe_bin op_addA ok_add (qe_v 6) (qe_slice (qe_v 4) (qo_some (qe_bin op_addA ok_add (qe_v 3) (qe_int))) (qo_none))) (qa_cons (qe_bin op_addA ok_add (qe_v 3) (qe_int)) (qa_nil)))) (qa_nil)))) (qe_int))) (qe_call c_law_take (hr.mono (by decide)) hgu (takes_of rfl rfl rfl rfl) rfl T.g_law_take T.F_law_take.kp T.b_law_take (qa_cons (qe_v 0) (qa_cons (qe_int) (qa_nil)))))))))))))
set_option maxHeartbeats 4000000 in
theorem ok_law_steady_right (T : Tx K mg A) (B : Tb base mg A) : FnQ P w K mg base (errC A) 8 A.f_law_steady_right A.fd_law_steady_right ["_law_source_here"] F_law_steady_right := by
  have c_law_take := ok_law_take (P := P) (w := w) (base := base) T B
  have c_steady := ok_steady (P := P) (w := w) (base := base) T B
  have a_law_raised := okA_law_raised (P := P) (w := w) (base := base) T B
  refine fqWM_of (c := A.mc_law_steady_right) (T := A.mP_law_steady_right) T.F_law_steady_right sc_law_steady_right T.na_law_steady_right T.ti_law_steady_right fun A' outer s H E hr hgu => ?_
  have tbl : QTab (cxOf (L2.CX P w) P w K mg base ["_law_source_here", "_law_odd", "_law_many", "_law_no_repair", "_law_some", "_law_rest", "_law_index", "_law_attempts", "_law_due", "_law_attempt"] "_law_steady_right" (defScope s_law_steady_right) A.f_law_steady_right (.ref A.mc_law_steady_right) A' outer s H E) (errC A) 5 lt_law_steady_right := (qtab_cons ⟨ls_law_steady_right_0, rfl, fun _ _ _ _ _ => rfl, fun B' outer' s1 H1 E1 f1 c1 hr hgu => qe_call c_steady (hr.mono (by decide)) hgu (takes_of rfl rfl rfl rfl) rfl T.g_steady T.F_steady.kp T.b_steady (qa_cons (qe_v 1) (qa_cons (qe_v 3) (qa_cons (qe_v 1) (qa_cons (qe_v 5) (qa_nil)))))⟩ (qtab_cons ⟨ls_law_steady_right_1, rfl, fun _ _ _ _ _ => rfl, fun B' outer' s1 H1 E1 f1 c1 hr hgu => qe_call c_steady (hr.mono (by decide)) hgu (takes_of rfl rfl rfl rfl) rfl T.g_steady T.F_steady.kp T.b_steady (qa_cons (qe_int) (qa_cons (qe_v 3) (qa_cons (qe_v 2) (qa_cons (qe_v 5) (qa_nil)))))⟩ (qtab_cons ⟨ls_law_steady_right_2, rfl, fun _ _ _ _ _ => rfl, fun B' outer' s1 H1 E1 f1 c1 hr hgu => qe_call c_steady (hr.mono (by decide)) hgu (takes_of rfl rfl rfl rfl) rfl T.g_steady T.F_steady.kp T.b_steady (qa_cons (qe_int) (qa_cons (qe_v 3) (qa_cons (qe_v 1) (qa_cons (qe_v 5) (qa_nil)))))⟩ (qtab_cons ⟨ls_law_steady_right_3, rfl, fun _ _ _ _ _ => rfl, fun B' outer' s1 H1 E1 f1 c1 hr hgu => qe_call c_steady (hr.mono (by decide)) hgu (takes_of rfl rfl rfl rfl) rfl T.g_steady T.F_steady.kp T.b_steady (qa_cons (qe_int) (qa_cons (qe_int) (qa_cons (qe_v 1) (qa_cons (qe_v 5) (qa_nil)))))⟩ (qtab_cons ⟨ls_law_steady_right_4, rfl, fun _ _ _ _ _ => rfl, fun B' outer' s1 H1 E1 f1 c1 hr hgu => qe_call c_steady (hr.mono (by decide)) hgu (takes_of rfl rfl rfl rfl) rfl T.g_steady T.F_steady.kp T.b_steady (qa_cons (qe_int) (qa_cons (qe_non) (qa_cons (qe_int) (qa_cons (qe_v 5) (qa_nil)))))⟩ (qtab_cons ⟨ls_law_steady_right_5, rfl, fun _ _ _ _ _ => rfl, fun B' outer' s1 H1 E1 f1 c1 hr hgu => qe_call c_steady (hr.mono (by decide)) hgu (takes_of rfl rfl rfl rfl) rfl T.g_steady T.F_steady.kp T.b_steady (qa_cons (qe_int) (qa_cons (qe_non) (qa_cons (qe_v 2) (qa_cons (qe_v 5) (qa_nil)))))⟩ (qtab_cons ⟨ls_law_steady_right_6, rfl, fun _ _ _ _ _ => rfl, fun B' outer' s1 H1 E1 f1 c1 hr hgu => qe_call c_steady (hr.mono (by decide)) hgu (takes_of rfl rfl rfl rfl) rfl T.g_steady T.F_steady.kp T.b_steady (qa_cons (qe_int) (qa_cons (qe_bin op_pow ok_pow (qe_int) (qe_int)) (qa_cons (qe_int) (qa_cons (qe_tup (qa_nil)) (qa_nil)))))⟩ qtab_nil)))))))
  exact qss_cons (qs_asg (qe_ix ix_A ok_ix (qe_lst (qa_cons (qe_un un_neg ok_neg (qe_int)) (qa_cons (qe_bl) (qa_cons (qe_non) (qa_cons (qe_str) (qa_cons (qe_tup (qa_cons (qe_int) (qa_nil))) (qa_cons (qe_lst (qa_cons (qe_int) (qa_nil))) (qa_cons (qe_dct0) (qa_cons (qe_bin op_sub ok_sub (qe_int) (qe_bin op_pow ok_pow (qe_int) (qe_int))) (qa_nil)))))))))) (qe_call c_law_take (hr.mono (by decide)) hgu (takes_of rfl rfl rfl rfl) rfl T.g_law_take T.F_law_take.kp T.b_law_take (qa_cons (qe_v 0) (qa_cons (qe_int) (qa_nil))))) (qg_name 1 sc_law_steady_right.nd)) (qss_cons (qs_asg (qe_bin op_addA ok_add (qe_int) (qe_call c_law_take (hr.mono (by decide)) hgu (takes_of rfl rfl rfl rfl) rfl T.g_law_take T.F_law_take.kp T.b_law_take (qa_cons (qe_v 0) (qa_cons (qe_int) (qa_nil))))) (qg_name 2 sc_law_steady_right.nd)) (qss_cons (qs_asg (qe_ix ix_A ok_ix (qe_lst (qa_cons (qe_un un_neg ok_neg (qe_int)) (qa_cons (qe_bl) (qa_cons (qe_str) (qa_cons (qe_tup (qa_cons (qe_int) (qa_nil))) (qa_cons (qe_lst (qa_cons (qe_int) (qa_nil))) (qa_cons (qe_dct0) (qa_cons (qe_bl) (qa_nil))))))))) (qe_call c_law_take (hr.mono (by decide)) hgu (takes_of rfl rfl rfl rfl) rfl T.g_law_take T.F_law_take.kp T.b_law_take (qa_cons (qe_v 0) (qa_cons (qe_int) (qa_nil))))) (qg_name 3 sc_law_steady_right.nd)) (qss_cons (qs_asg (qe_lst (qa_cons (qe_tup (qa_cons (qe_non) (qa_cons (qe_un un_neg ok_neg (qe_int)) (qa_nil)))) (qa_cons (qe_tup (qa_cons (qe_dct0) (qa_cons (qe_un un_neg ok_neg (qe_int)) (qa_nil)))) (qa_cons (qe_tup (qa_cons (qe_str) (qa_cons (qe_un un_neg ok_neg (qe_int)) (qa_nil)))) (qa_cons (qe_tup (qa_cons (qe_int) (qa_cons (qe_un un_neg ok_neg (qe_int)) (qa_nil)))) (qa_cons (qe_tup (qa_cons (qe_lst (qa_cons (qe_int) (qa_nil))) (qa_cons (qe_int) (qa_nil)))) (qa_cons (qe_tup (qa_cons (qe_lst (qa_cons (qe_bin op_addA ok_add (qe_v 2) (qe_int)) (qa_nil))) (qa_cons (qe_int) (qa_nil)))) (qa_cons (qe_tup (qa_cons (qe_lst (qa_cons (qe_int) (qa_cons (qe_bl) (qa_nil)))) (qa_cons (qe_int) (qa_nil)))) (qa_cons (qe_tup (qa_cons (qe_tup (qa_cons (qe_v 2) (qa_cons (qe_v 2) (qa_nil)))) (qa_cons (qe_int) (qa_nil)))) (qa_nil)))))))))) (qg_name 4 sc_law_steady_right.nd)) (qss_cons (qs_asg (qe_bin op_addA ok_add (qe_v 4) (qe_lst (qa_cons (qe_tup (qa_cons (qe_lst (qa_cons (qe_int) (qa_cons (qe_non) (qa_cons (qe_int) (qa_nil))))) (qa_cons (qe_int) (qa_nil)))) (qa_cons (qe_tup (qa_cons (qe_lst (qa_cons (qe_lst (qa_cons (qe_int) (qa_nil))) (qa_nil))) (qa_cons (qe_int) (qa_nil)))) (qa_cons (qe_tup (qa_cons (qe_lst (qa_cons (qe_str) (qa_nil))) (qa_cons (qe_int) (qa_nil)))) (qa_cons (qe_tup (qa_cons (qe_tup (qa_cons (qe_int) (qa_cons (qe_int) (qa_cons (qe_int) (qa_nil))))) (qa_cons (qe_int) (qa_nil)))) (qa_nil))))))) (qg_name 4 sc_law_steady_right.nd)) (qss_cons (qs_asg (qe_ix ix_A ok_ix (qe_v 4) (qe_call c_law_take (hr.mono (by decide)) hgu (takes_of rfl rfl rfl rfl) rfl T.g_law_take T.F_law_take.kp T.b_law_take (qa_cons (qe_v 0) (qa_cons (qe_int) (qa_nil))))) (qg_tup rfl (qgs_cons (qg_name 5 sc_law_steady_right.nd) (qgs_cons (qg_name 6 sc_law_steady_right.nd) (qgs_nil))) (hlen := len_cons (len_cons (len_nil))))) (qss_cons (qs_asg (qe_lstO (qa_cons (qe_lam (l := la_law_steady_right_0) T.ti_law_steady_right B.tb_law_steady_right rfl rfl rfl rfl ls_law_steady_right_0 rfl) (qa_nil))) (qg_name 7 sc_law_steady_right.nd)) (qss_cons (qs_expr (qe_meth1 PySem.F.slot_list_append PySem.F.type_list_append mt_append ok_append (qe_v 7) (qe_lam (l := la_law_steady_right_1) T.ti_law_steady_right B.tb_law_steady_right rfl rfl rfl rfl ls_law_steady_right_1 rfl))) (qss_cons (qs_expr (qe_meth1 PySem.F.slot_list_append PySem.F.type_list_append mt_append ok_append (qe_v 7) (qe_lam (l := la_law_steady_right_2) T.ti_law_steady_right B.tb_law_steady_right rfl rfl rfl rfl ls_law_steady_right_2 rfl))) (qss_cons (qs_expr (qe_meth1 PySem.F.slot_list_append PySem.F.type_list_append mt_append ok_append (qe_v 7) (qe_lam (l := la_law_steady_right_3) T.ti_law_steady_right B.tb_law_steady_right rfl rfl rfl rfl ls_law_steady_right_3 rfl))) (qss_cons (qs_expr (qe_meth1 PySem.F.slot_list_append PySem.F.type_list_append mt_append ok_append (qe_v 7) (qe_lam (l := la_law_steady_right_4) T.ti_law_steady_right B.tb_law_steady_right rfl rfl rfl rfl ls_law_steady_right_4 rfl))) (qss_cons (qs_expr (qe_meth1 PySem.F.slot_list_append PySem.F.type_list_append mt_append ok_append (qe_v 7) (qe_lam (l := la_law_steady_right_5) T.ti_law_steady_right B.tb_law_steady_right rfl rfl rfl rfl ls_law_steady_right_5 rfl))) (qss_cons (qs_fz 7 (qs_expr (qe_meth1 PySem.F.slot_list_append PySem.F.type_list_append mt_append ok_append (qe_v 7) (qe_lam (l := la_law_steady_right_6) T.ti_law_steady_right B.tb_law_steady_right rfl rfl rfl rfl ls_law_steady_right_6 rfl)))) (qss_cons (qs_asg (qe_bin op_addA ok_add (qe_bin op_addA ok_add (qe_bin op_mulT ok_mulT (qe_lst (qa_cons (qe_tup (qa_cons (qe_str) (qa_cons (qe_str) (qa_nil)))) (qa_nil))) (qe_int)) (qe_lst (qa_cons (qe_tup (qa_cons (qe_str) (qa_cons (qe_str) (qa_nil)))) (qa_nil)))) (qe_bin op_mulT ok_mulT (qe_lst (qa_cons (qe_tup (qa_cons (qe_str) (qa_cons (qe_str) (qa_nil)))) (qa_nil))) (qe_int))) (qg_name 8 sc_law_steady_right.nd)) (qss_one (qs_ret (qe_cmp (op_eqA hr.units) ok_eqA (qe_lcAsk (i := 9) a_law_raised (hr.mono (by decide)) (hr.mono (by decide)) hgu rfl sc_law_steady_right.nd (qi_seq (qe_v 7)) (blkOk_by (N := ["_law_source_here", "_law_odd", "_law_many", "_law_no_repair", "_law_some", "_law_rest", "_law_index", "_law_attempts", "_law_due", "_law_attempt"]) (sc := defScope s_law_steady_right) (own := [("_law_attempt", 9)]) (by decide +kernel)) (fun _ _ _ _ _ => qg_name 9 sc_law_steady_right.nd) (fun _ _ _ _ _ => qts_nil) rfl tbl (fun _ _ _ _ _ => rfl) T.g_law_raised T.F_law_raised.kp rfl (fun _ _ _ _ _ => Or.inl rfl) rfl (Or.inl rfl)) (qe_bin op_addA ok_add (qe_v 8) (qe_lst (qa_cons (qe_tup (qa_cons (qe_str) (qa_cons (qe_v 6) (qa_nil)))) (qa_cons (qe_tup (qa_cons (qe_str) (qa_cons (qe_str) (qa_nil)))) (qa_nil))))) rfl))))))))))))))))
set_option maxHeartbeats 4000000 in
theorem ok_law_check (T : Tx K mg A) (B : Tb base mg A) : FnQ P w K mg base (errC A) 9 A.f_law_check A.fd_law_check ["_law_source_here"] F_law_check := by
  have c_law_bad_line := ok_law_bad_line (P := P) (w := w) (base := base) T B
  have c_law_bad_start := ok_law_bad_start (P := P) (w := w) (base := base) T B
  have c_law_bad_stock := ok_law_bad_stock (P := P) (w := w) (base := base) T B
  have c_law_stock := ok_law_stock (P := P) (w := w) (base := base) T B
  have c_law_take := ok_law_take (P := P) (w := w) (base := base) T B
  have c_away := ok_away (P := P) (w := w) (base := base) T B
  have c_first_fault := ok_first_fault (P := P) (w := w) (base := base) T B
  have c_least_owned := ok_least_owned (P := P) (w := w) (base := base) T B
  have c_ready := ok_ready (P := P) (w := w) (base := base) T B
  have c_rest_of := ok_rest_of (P := P) (w := w) (base := base) T B
  have c_with_pieces := ok_with_pieces (P := P) (w := w) (base := base) T B
  have a_law_raised := okA_law_raised (P := P) (w := w) (base := base) T B
  refine fqWM_of (c := A.mc_law_check) (T := A.mP_law_check) T.F_law_check sc_law_check T.na_law_check T.ti_law_check fun A' outer s H E hr hgu => ?_
  have tbl : QTab (cxOf (L2.CX P w) P w K mg base ["_law_source_here", "_law_stock_here", "_law_bad", "_law_index", "_law_line", "_law_place", "_law_start", "_law_today", "_law_odd", "_law_attempts", "_law_good", "_law_due", "_law_attempt"] "_law_check" (defScope s_law_check) A.f_law_check (.ref A.mc_law_check) A' outer s H E) (errC A) 6 lt_law_check := (qtab_cons ⟨ls_law_check_0, rfl, fun _ _ _ _ _ => rfl, fun B' outer' s1 H1 E1 f1 c1 hr hgu => qe_call c_away (hr.mono (by decide)) hgu (takes_of rfl rfl rfl rfl) rfl T.g_away T.F_away.kp T.b_away (qa_cons (qe_v 2) (qa_cons (qe_v 6) (qa_nil)))⟩ (qtab_cons ⟨ls_law_check_1, rfl, fun _ _ _ _ _ => rfl, fun B' outer' s1 H1 E1 f1 c1 hr hgu => qe_call c_ready (hr.mono (by decide)) hgu (takes_of rfl rfl rfl rfl) rfl T.g_ready T.F_ready.kp T.b_ready (qa_cons (qe_v 2) (qa_cons (qe_v 6) (qa_nil)))⟩ (qtab_cons ⟨ls_law_check_2, rfl, fun _ _ _ _ _ => rfl, fun B' outer' s1 H1 E1 f1 c1 hr hgu => qe_call c_rest_of (hr.mono (by decide)) hgu (takes_of rfl rfl rfl rfl) rfl T.g_rest_of T.F_rest_of.kp T.b_rest_of (qa_cons (qe_v 2) (qa_cons (qe_v 6) (qa_nil)))⟩ (qtab_cons ⟨ls_law_check_3, rfl, fun _ _ _ _ _ => rfl, fun B' outer' s1 H1 E1 f1 c1 hr hgu => qe_call c_first_fault (hr.mono (by decide)) hgu (takes_of rfl rfl rfl rfl) rfl T.g_first_fault T.F_first_fault.kp T.b_first_fault (qa_cons (qe_v 2) (qa_cons (qe_v 4) (qa_nil)))⟩ (qtab_cons ⟨ls_law_check_4, rfl, fun _ _ _ _ _ => rfl, fun B' outer' s1 H1 E1 f1 c1 hr hgu => qe_call c_least_owned (hr.mono (by decide)) hgu (takes_of rfl rfl rfl rfl) rfl T.g_least_owned T.F_least_owned.kp T.b_least_owned (qa_cons (qe_v 2) (qa_cons (qe_v 4) (qa_nil)))⟩ (qtab_cons ⟨ls_law_check_5, rfl, fun _ _ _ _ _ => rfl, fun B' outer' s1 H1 E1 f1 c1 hr hgu => qe_call c_with_pieces (hr.mono (by decide)) hgu (takes_of rfl rfl rfl rfl) rfl T.g_with_pieces T.F_with_pieces.kp T.b_with_pieces (qa_cons (qe_v 2) (qa_cons (qe_v 8) (qa_cons (qe_v 8) (qa_cons (qe_v 8) (qa_nil)))))⟩ (qtab_cons ⟨ls_law_check_6, rfl, fun _ _ _ _ _ => rfl, fun B' outer' s1 H1 E1 f1 c1 hr hgu => qe_call c_away (hr.mono (by decide)) hgu (takes_of rfl rfl rfl rfl) rfl T.g_away T.F_away.kp T.b_away (qa_cons (qe_v 1) (qa_cons (qe_v 6) (qa_nil)))⟩ (qtab_cons ⟨ls_law_check_7, rfl, fun _ _ _ _ _ => rfl, fun B' outer' s1 H1 E1 f1 c1 hr hgu => qe_call c_ready (hr.mono (by decide)) hgu (takes_of rfl rfl rfl rfl) rfl T.g_ready T.F_ready.kp T.b_ready (qa_cons (qe_v 1) (qa_cons (qe_v 6) (qa_nil)))⟩ (qtab_cons ⟨ls_law_check_8, rfl, fun _ _ _ _ _ => rfl, fun B' outer' s1 H1 E1 f1 c1 hr hgu => qe_call c_rest_of (hr.mono (by decide)) hgu (takes_of rfl rfl rfl rfl) rfl T.g_rest_of T.F_rest_of.kp T.b_rest_of (qa_cons (qe_callTy (T := "") call_tuple_of (.of1 ok_tuple) rfl T.m_tuple (by decide +kernel) (qa_cons (qe_v 1) (qa_nil))) (qa_cons (qe_v 6) (qa_nil)))⟩ (qtab_cons ⟨ls_law_check_9, rfl, fun _ _ _ _ _ => rfl, fun B' outer' s1 H1 E1 f1 c1 hr hgu => qe_call c_first_fault (hr.mono (by decide)) hgu (takes_of rfl rfl rfl rfl) rfl T.g_first_fault T.F_first_fault.kp T.b_first_fault (qa_cons (qe_v 1) (qa_cons (qe_v 4) (qa_nil)))⟩ (qtab_cons ⟨ls_law_check_10, rfl, fun _ _ _ _ _ => rfl, fun B' outer' s1 H1 E1 f1 c1 hr hgu => qe_call c_least_owned (hr.mono (by decide)) hgu (takes_of rfl rfl rfl rfl) rfl T.g_least_owned T.F_least_owned.kp T.b_least_owned (qa_cons (qe_v 1) (qa_cons (qe_non) (qa_nil)))⟩ (qtab_cons ⟨ls_law_check_11, rfl, fun _ _ _ _ _ => rfl, fun B' outer' s1 H1 E1 f1 c1 hr hgu => qe_call c_least_owned (hr.mono (by decide)) hgu (takes_of rfl rfl rfl rfl) rfl T.g_least_owned T.F_least_owned.kp T.b_least_owned (qa_cons (qe_v 1) (qa_cons (qe_dct0) (qa_nil)))⟩ (qtab_cons ⟨ls_law_check_12, rfl, fun _ _ _ _ _ => rfl, fun B' outer' s1 H1 E1 f1 c1 hr hgu => qe_call c_least_owned (hr.mono (by decide)) hgu (takes_of rfl rfl rfl rfl) rfl T.g_least_owned T.F_least_owned.kp T.b_least_owned (qa_cons (qe_v 1) (qa_cons (qe_lst (qa_cons (qe_v 10) (qa_cons (qe_v 4) (qa_cons (qe_v 4) (qa_nil))))) (qa_nil)))⟩ (qtab_cons ⟨ls_law_check_13, rfl, fun _ _ _ _ _ => rfl, fun B' outer' s1 H1 E1 f1 c1 hr hgu => qe_call c_least_owned (hr.mono (by decide)) hgu (takes_of rfl rfl rfl rfl) rfl T.g_least_owned T.F_least_owned.kp T.b_least_owned (qa_cons (qe_v 1) (qa_cons (qe_tup (qa_cons (qe_v 4) (qa_cons (qe_v 10) (qa_nil)))) (qa_nil)))⟩ (qtab_cons ⟨ls_law_check_14, rfl, fun _ _ _ _ _ => rfl, fun B' outer' s1 H1 E1 f1 c1 hr hgu => qe_call c_with_pieces (hr.mono (by decide)) hgu (takes_of rfl rfl rfl rfl) rfl T.g_with_pieces T.F_with_pieces.kp T.b_with_pieces (qa_cons (qe_v 1) (qa_cons (qe_v 8) (qa_cons (qe_v 8) (qa_cons (qe_v 8) (qa_nil)))))⟩ (qtab_cons ⟨ls_law_check_15, rfl, fun _ _ _ _ _ => rfl, fun B' outer' s1 H1 E1 f1 c1 hr hgu => qe_call c_with_pieces (hr.mono (by decide)) hgu (takes_of rfl rfl rfl rfl) rfl T.g_with_pieces T.F_with_pieces.kp T.b_with_pieces (qa_cons (qe_v 1) (qa_cons (qe_bin op_addA ok_add (qe_callB call_len (.of1 ok_len) rfl T.m_len (by decide +kernel) (qa_cons (qe_v 1) (qa_nil))) (qe_int)) (qa_cons (qe_v 8) (qa_cons (qe_v 8) (qa_nil)))))⟩ (qtab_cons ⟨ls_law_check_16, rfl, fun _ _ _ _ _ => rfl, fun B' outer' s1 H1 E1 f1 c1 hr hgu => qe_call c_with_pieces (hr.mono (by decide)) hgu (takes_of rfl rfl rfl rfl) rfl T.g_with_pieces T.F_with_pieces.kp T.b_with_pieces (qa_cons (qe_v 1) (qa_cons (qe_int) (qa_cons (qe_v 8) (qa_cons (qe_v 8) (qa_nil)))))⟩ (qtab_cons ⟨ls_law_check_17, rfl, fun _ _ _ _ _ => rfl, fun B' outer' s1 H1 E1 f1 c1 hr hgu => qe_call c_with_pieces (hr.mono (by decide)) hgu (takes_of rfl rfl rfl rfl) rfl T.g_with_pieces T.F_with_pieces.kp T.b_with_pieces (qa_cons (qe_v 1) (qa_cons (qe_callB call_len (.of1 ok_len) rfl T.m_len (by decide +kernel) (qa_cons (qe_v 1) (qa_nil))) (qa_cons (qe_bin op_sub ok_sub (qe_callB call_len (.of1 ok_len) rfl T.m_len (by decide +kernel) (qa_cons (qe_v 1) (qa_nil))) (qe_int)) (qa_cons (qe_int) (qa_nil)))))⟩ (qtab_cons ⟨ls_law_check_18, rfl, fun _ _ _ _ _ => rfl, fun B' outer' s1 H1 E1 f1 c1 hr hgu => qe_call c_with_pieces (hr.mono (by decide)) hgu (takes_of rfl rfl rfl rfl) rfl T.g_with_pieces T.F_with_pieces.kp T.b_with_pieces (qa_cons (qe_v 1) (qa_cons (qe_int) (qa_cons (qe_callB call_len (.of1 ok_len) rfl T.m_len (by decide +kernel) (qa_cons (qe_v 1) (qa_nil))) (qa_cons (qe_ix ix_A ok_ix (qe_lst (qa_cons (qe_bl) (qa_cons (qe_non) (qa_cons (qe_str) (qa_cons (qe_lst (qa_cons (qe_int) (qa_nil))) (qa_cons (qe_dct0) (qa_nil))))))) (qe_bin op_modP ok_mod (qe_v 5) (qe_int))) (qa_nil)))))⟩ (qtab_cons ⟨ls_law_check_19, rfl, fun _ _ _ _ _ => rfl, fun B' outer' s1 H1 E1 f1 c1 hr hgu => qe_call c_with_pieces (hr.mono (by decide)) hgu (takes_of rfl rfl rfl rfl) rfl T.g_with_pieces T.F_with_pieces.kp T.b_with_pieces (qa_cons (qe_v 1) (qa_cons (qe_int) (qa_cons (qe_int) (qa_cons (qe_bin op_sub ok_sub (qe_int) (qe_ix ix_A ok_ix (qe_ix ix_A ok_ix (qe_v 1) (qe_int)) (qe_int))) (qa_nil)))))⟩ (qtab_cons ⟨ls_law_check_20, rfl, fun _ _ _ _ _ => rfl, fun B' outer' s1 H1 E1 f1 c1 hr hgu => qe_call c_with_pieces (hr.mono (by decide)) hgu (takes_of rfl rfl rfl rfl) rfl T.g_with_pieces T.F_with_pieces.kp T.b_with_pieces (qa_cons (qe_v 1) (qa_cons (qe_int) (qa_cons (qe_int) (qa_cons (qe_bin op_sub ok_sub (qe_bin op_sub ok_sub (qe_int) (qe_int)) (qe_ix ix_A ok_ix (qe_ix ix_A ok_ix (qe_v 1) (qe_int)) (qe_int))) (qa_nil)))))⟩ qtab_nil)))))))))))))))))))))
  exact qss_cons (qs_asg (qe_bin op_addA ok_add (qe_call c_law_stock (hr.mono (by decide)) hgu (takes_of rfl rfl rfl rfl) rfl T.g_law_stock T.F_law_stock.kp T.b_law_stock (qa_cons (qe_v 0) (qa_cons (qe_int) (qa_cons (qe_int) (qa_nil))))) (qe_lst (qa_cons (qe_tup (qa_cons (qe_call c_law_take (hr.mono (by decide)) hgu (takes_of rfl rfl rfl rfl) rfl T.g_law_take T.F_law_take.kp T.b_law_take (qa_cons (qe_v 0) (qa_cons (qe_int) (qa_nil)))) (qa_cons (qe_bin op_pow ok_pow (qe_int) (qe_int)) (qa_nil)))) (qa_nil)))) (qg_name 1 sc_law_check.nd)) (qss_cons (qs_asg (qe_call c_law_bad_stock (hr.mono (by decide)) hgu (takes_of rfl rfl rfl rfl) rfl T.g_law_bad_stock T.F_law_bad_stock.kp T.b_law_bad_stock (qa_cons (qe_v 0) (qa_cons (qe_v 1) (qa_nil)))) (qg_tup rfl (qgs_cons (qg_name 2 sc_law_check.nd) (qgs_cons (qg_name 3 sc_law_check.nd) (qgs_nil))) (hlen := len_cons (len_cons (len_nil))))) (qss_cons (qs_asg (qe_call c_law_bad_line (hr.mono (by decide)) hgu (takes_of rfl rfl rfl rfl) rfl T.g_law_bad_line T.F_law_bad_line.kp T.b_law_bad_line (qa_cons (qe_v 0) (qa_cons (qe_bin op_mulT ok_mulT (qe_tup (qa_cons (qe_int) (qa_nil))) (qe_callB call_len (.of1 ok_len) rfl T.m_len (by decide +kernel) (qa_cons (qe_v 1) (qa_nil)))) (qa_nil)))) (qg_tup rfl (qgs_cons (qg_name 4 sc_law_check.nd) (qgs_cons (qg_name 5 sc_law_check.nd) (qgs_nil))) (hlen := len_cons (len_cons (len_nil))))) (qss_cons (qs_asg (qe_call c_law_bad_start (hr.mono (by decide)) hgu (takes_of rfl rfl rfl rfl) rfl T.g_law_bad_start T.F_law_bad_start.kp T.b_law_bad_start (qa_cons (qe_v 0) (qa_cons (qe_v 1) (qa_nil)))) (qg_tup rfl (qgs_cons (qg_name 6 sc_law_check.nd) (qgs_cons (qg_name 7 sc_law_check.nd) (qgs_nil))) (hlen := len_cons (len_cons (len_nil))))) (qss_cons (qs_asg (qe_ix ix_A ok_ix (qe_lst (qa_cons (qe_un un_neg ok_neg (qe_int)) (qa_cons (qe_bl) (qa_cons (qe_non) (qa_cons (qe_str) (qa_cons (qe_tup (qa_cons (qe_int) (qa_nil))) (qa_cons (qe_lst (qa_cons (qe_int) (qa_nil))) (qa_cons (qe_dct0) (qa_cons (qe_int) (qa_nil)))))))))) (qe_call c_law_take (hr.mono (by decide)) hgu (takes_of rfl rfl rfl rfl) rfl T.g_law_take T.F_law_take.kp T.b_law_take (qa_cons (qe_v 0) (qa_cons (qe_int) (qa_nil))))) (qg_name 8 sc_law_check.nd)) (qss_cons (qs_asg (qe_lstO (qa_cons (qe_lam (l := la_law_check_0) T.ti_law_check B.tb_law_check rfl rfl rfl rfl ls_law_check_0 rfl) (qa_nil))) (qg_name 9 sc_law_check.nd)) (qss_cons (qs_expr (qe_meth1 PySem.F.slot_list_append PySem.F.type_list_append mt_append ok_append (qe_v 9) (qe_lam (l := la_law_check_1) T.ti_law_check B.tb_law_check rfl rfl rfl rfl ls_law_check_1 rfl))) (qss_cons (qs_expr (qe_meth1 PySem.F.slot_list_append PySem.F.type_list_append mt_append ok_append (qe_v 9) (qe_lam (l := la_law_check_2) T.ti_law_check B.tb_law_check rfl rfl rfl rfl ls_law_check_2 rfl))) (qss_cons (qs_expr (qe_meth1 PySem.F.slot_list_append PySem.F.type_list_append mt_append ok_append (qe_v 9) (qe_lam (l := la_law_check_3) T.ti_law_check B.tb_law_check rfl rfl rfl rfl ls_law_check_3 rfl))) (qss_cons (qs_expr (qe_meth1 PySem.F.slot_list_append PySem.F.type_list_append mt_append ok_append (qe_v 9) (qe_lam (l := la_law_check_4) T.ti_law_check B.tb_law_check rfl rfl rfl rfl ls_law_check_4 rfl))) (qss_cons (qs_fz 9 (qs_expr (qe_meth1 PySem.F.slot_list_append PySem.F.type_list_append mt_append ok_append (qe_v 9) (qe_lam (l := la_law_check_5) T.ti_law_check B.tb_law_check rfl rfl rfl rfl ls_law_check_5 rfl)))) (qss_cons (qs_if (qt_cmp (op_neA hr.units) ok_neA (qe_lcAsk (i := 12) a_law_raised (hr.mono (by decide)) (hr.mono (by decide)) hgu rfl sc_law_check.nd (qi_seq (qe_v 9)) (blkOk_by (N := ["_law_source_here", "_law_stock_here", "_law_bad", "_law_index", "_law_line", "_law_place", "_law_start", "_law_today", "_law_odd", "_law_attempts", "_law_good", "_law_due", "_law_attempt"]) (sc := defScope s_law_check) (own := [("_law_attempt", 12)]) (by decide +kernel)) (fun _ _ _ _ _ => qg_name 12 sc_law_check.nd) (fun _ _ _ _ _ => qts_nil) rfl tbl (fun _ _ _ _ _ => rfl) T.g_law_raised T.F_law_raised.kp rfl (fun _ _ _ _ _ => Or.inl rfl) rfl (Or.inl rfl)) (qe_bin op_mulT ok_mulT (qe_lst (qa_cons (qe_tup (qa_cons (qe_str) (qa_cons (qe_v 3) (qa_nil)))) (qa_nil))) (qe_int)) rfl) (qss_one (qs_ret (qe_bl))) (qss_nil)) (qss_cons (qs_asg (qe_lstO (qa_cons (qe_lam (l := la_law_check_6) T.ti_law_check B.tb_law_check rfl rfl rfl rfl ls_law_check_6 rfl) (qa_nil))) (qg_name 9 sc_law_check.nd)) (qss_cons (qs_expr (qe_meth1 PySem.F.slot_list_append PySem.F.type_list_append mt_append ok_append (qe_v 9) (qe_lam (l := la_law_check_7) T.ti_law_check B.tb_law_check rfl rfl rfl rfl ls_law_check_7 rfl))) (qss_cons (qs_expr (qe_meth1 PySem.F.slot_list_append PySem.F.type_list_append mt_append ok_append (qe_v 9) (qe_lam (l := la_law_check_8) T.ti_law_check B.tb_law_check rfl rfl rfl rfl ls_law_check_8 rfl))) (qss_cons (qs_fz 9 (qs_expr (qe_meth1 PySem.F.slot_list_append PySem.F.type_list_append mt_append ok_append (qe_v 9) (qe_lam (l := la_law_check_9) T.ti_law_check B.tb_law_check rfl rfl rfl rfl ls_law_check_9 rfl)))) (qss_cons (qs_if (qt_cmp (op_neA hr.units) ok_neA (qe_lcAsk (i := 12) a_law_raised (hr.mono (by decide)) (hr.mono (by decide)) hgu rfl sc_law_check.nd (qi_seq (qe_v 9)) (blkOk_by (N := ["_law_source_here", "_law_stock_here", "_law_bad", "_law_index", "_law_line", "_law_place", "_law_start", "_law_today", "_law_odd", "_law_attempts", "_law_good", "_law_due", "_law_attempt"]) (sc := defScope s_law_check) (own := [("_law_attempt", 12)]) (by decide +kernel)) (fun _ _ _ _ _ => qg_name 12 sc_law_check.nd) (fun _ _ _ _ _ => qts_nil) rfl tbl (fun _ _ _ _ _ => rfl) T.g_law_raised T.F_law_raised.kp rfl (fun _ _ _ _ _ => Or.inl rfl) rfl (Or.inl rfl)) (qe_bin op_addA ok_add (qe_bin op_mulT ok_mulT (qe_lst (qa_cons (qe_tup (qa_cons (qe_str) (qa_cons (qe_v 7) (qa_nil)))) (qa_nil))) (qe_int)) (qe_lst (qa_cons (qe_tup (qa_cons (qe_str) (qa_cons (qe_v 5) (qa_nil)))) (qa_nil)))) rfl) (qss_one (qs_ret (qe_bl))) (qss_nil)) (qss_cons (qs_asg (qe_bin op_mulT ok_mulT (qe_tup (qa_cons (qe_int) (qa_nil))) (qe_callB call_len (.of1 ok_len) rfl T.m_len (by decide +kernel) (qa_cons (qe_v 1) (qa_nil)))) (qg_name 10 sc_law_check.nd)) (qss_cons (qs_asg (qe_lstO (qa_cons (qe_lam (l := la_law_check_10) T.ti_law_check B.tb_law_check rfl rfl rfl rfl ls_law_check_10 rfl) (qa_nil))) (qg_name 9 sc_law_check.nd)) (qss_cons (qs_expr (qe_meth1 PySem.F.slot_list_append PySem.F.type_list_append mt_append ok_append (qe_v 9) (qe_lam (l := la_law_check_11) T.ti_law_check B.tb_law_check rfl rfl rfl rfl ls_law_check_11 rfl))) (qss_cons (qs_expr (qe_meth1 PySem.F.slot_list_append PySem.F.type_list_append mt_append ok_append (qe_v 9) (qe_lam (l := la_law_check_12) T.ti_law_check B.tb_law_check rfl rfl rfl rfl ls_law_check_12 rfl))) (qss_cons (qs_expr (qe_meth1 PySem.F.slot_list_append PySem.F.type_list_append mt_append ok_append (qe_v 9) (qe_lam (l := la_law_check_13) T.ti_law_check B.tb_law_check rfl rfl rfl rfl ls_law_check_13 rfl))) (qss_cons (qs_expr (qe_meth1 PySem.F.slot_list_append PySem.F.type_list_append mt_append ok_append (qe_v 9) (qe_lam (l := la_law_check_14) T.ti_law_check B.tb_law_check rfl rfl rfl rfl ls_law_check_14 rfl))) (qss_cons (qs_expr (qe_meth1 PySem.F.slot_list_append PySem.F.type_list_append mt_append ok_append (qe_v 9) (qe_lam (l := la_law_check_15) T.ti_law_check B.tb_law_check rfl rfl rfl rfl ls_law_check_15 rfl))) (qss_cons (qs_expr (qe_meth1 PySem.F.slot_list_append PySem.F.type_list_append mt_append ok_append (qe_v 9) (qe_lam (l := la_law_check_16) T.ti_law_check B.tb_law_check rfl rfl rfl rfl ls_law_check_16 rfl))) (qss_cons (qs_expr (qe_meth1 PySem.F.slot_list_append PySem.F.type_list_append mt_append ok_append (qe_v 9) (qe_lam (l := la_law_check_17) T.ti_law_check B.tb_law_check rfl rfl rfl rfl ls_law_check_17 rfl))) (qss_cons (qs_expr (qe_meth1 PySem.F.slot_list_append PySem.F.type_list_append mt_append ok_append (qe_v 9) (qe_lam (l := la_law_check_18) T.ti_law_check B.tb_law_check rfl rfl rfl rfl ls_law_check_18 rfl))) (qss_cons (qs_expr (qe_meth1 PySem.F.slot_list_append PySem.F.type_list_append mt_append ok_append (qe_v 9) (qe_lam (l := la_law_check_19) T.ti_law_check B.tb_law_check rfl rfl rfl rfl ls_law_check_19 rfl))) (qss_cons (qs_fz 9 (qs_expr (qe_meth1 PySem.F.slot_list_append PySem.F.type_list_append mt_append ok_append (qe_v 9) (qe_lam (l := la_law_check_20) T.ti_law_check B.tb_law_check rfl rfl rfl rfl ls_law_check_20 rfl)))) (qss_cons (qs_asg (qe_bin op_addA ok_add (qe_bin op_addA ok_add (qe_bin op_addA ok_add (qe_bin op_mulT ok_mulT (qe_lst (qa_cons (qe_tup (qa_cons (qe_str) (qa_cons (qe_un un_neg ok_neg (qe_int)) (qa_nil)))) (qa_nil))) (qe_int)) (qe_lst (qa_cons (qe_tup (qa_cons (qe_str) (qa_cons (qe_int) (qa_nil)))) (qa_cons (qe_tup (qa_cons (qe_str) (qa_cons (qe_int) (qa_nil)))) (qa_nil))))) (qe_bin op_mulT ok_mulT (qe_lst (qa_cons (qe_tup (qa_cons (qe_str) (qa_cons (qe_str) (qa_nil)))) (qa_nil))) (qe_int))) (qe_bin op_mulT ok_mulT (qe_lst (qa_cons (qe_tup (qa_cons (qe_str) (qa_cons (qe_str) (qa_nil)))) (qa_nil))) (qe_int))) (qg_name 11 sc_law_check.nd)) (qss_one (qs_ret (qe_cmp (op_eqA hr.units) ok_eqA (qe_lcAsk (i := 12) a_law_raised (hr.mono (by decide)) (hr.mono (by decide)) hgu rfl sc_law_check.nd (qi_seq (qe_v 9)) (blkOk_by (N := ["_law_source_here", "_law_stock_here", "_law_bad", "_law_index", "_law_line", "_law_place", "_law_start", "_law_today", "_law_odd", "_law_attempts", "_law_good", "_law_due", "_law_attempt"]) (sc := defScope s_law_check) (own := [("_law_attempt", 12)]) (by decide +kernel)) (fun _ _ _ _ _ => qg_name 12 sc_law_check.nd) (fun _ _ _ _ _ => qts_nil) rfl tbl (fun _ _ _ _ _ => rfl) T.g_law_raised T.F_law_raised.kp rfl (fun _ _ _ _ _ => Or.inl rfl) rfl (Or.inl rfl)) (qe_bin op_addA ok_add (qe_v 11) (qe_bin op_mulT ok_mulT (qe_lst (qa_cons (qe_tup (qa_cons (qe_str) (qa_cons (qe_str) (qa_nil)))) (qa_nil))) (qe_int))) rfl))))))))))))))))))))))))))))))))
set_option maxHeartbeats 4000000 in
theorem ok_law (T : Tx K mg A) (B : Tb base mg A) : FnQ P w K mg base (errC A) 10 A.f_law A.fd_law ["_law_script"] F_law := by
  have c_law_check := ok_law_check (P := P) (w := w) (base := base) T B
  have c_law_source := ok_law_source (P := P) (w := w) (base := base) T B
  have c_law_steady_right := ok_law_steady_right (P := P) (w := w) (base := base) T B
  refine fqW_of T.F_law sc_law fun cdv A' outer s H E hr hgu => ?_
  exact qss_cons (qs_forget [1, 2] (qs_pre [1, 2] (qs_for (passes_of rfl) rfl (qi_seq (qe_slice (qe_bin op_addA ok_add (qe_v 0) (qe_lst (qa_cons (qe_int) (qa_nil)))) (qo_none) (qo_some (qe_int)))) (qg_name 1 sc_law.nd) (qss_scope (qss_cons (qs_asg (qe_call c_law_source (hr.mono (by decide)) hgu (takes_of rfl rfl rfl rfl) rfl T.g_law_source T.F_law_source.kp T.b_law_source (qa_cons (qe_v 1) (qa_nil))) (qg_name 2 sc_law.nd)) (qss_one (qs_forget [1, 2] (qs_if (qt_of (qw_or (qt_not (qt_val (qe_callW c_law_steady_right (hr.mono (by decide)) hgu (takes_of rfl rfl rfl rfl) rfl T.g_law_steady_right T.F_law_steady_right.kp T.b_law_steady_right (qa_cons (qe_v 2) (qa_nil))))) (qw_or1 (qt_not (qt_val (qe_callW c_law_check (hr.mono (by decide)) hgu (takes_of rfl rfl rfl rfl) rfl T.g_law_check T.F_law_check.kp T.b_law_check (qa_cons (qe_v 2) (qa_nil)))))))) (qss_one (qs_ret (qe_bl))) (qss_nil))))))))) (qss_one (qs_ret (qe_bl)))
end
end
end My

set_option Elab.async false
set_option linter.all false
set_option maxRecDepth 100000
set_option maxHeartbeats 4000000
namespace My
open PySem PySem.Spec PyProof.Rows L2 Bk
/-! ### the law's draws -/
def mixI (b c : Int) : Int :=
  let f := (b % 2147483646 + 1) * (c * 7919 + 104729) % 2147483647
  let f := (f + b / 2147483646 % 1000003 * (c + 31)) * 48271 % 2147483629
  let f := f * (f / 1013 + 69621 + c) % 2147483587
  f * (f / 2003 + 40692) % 2147483563
theorem fd_small {i j : Int} (h0 : 0 < j) (h : j < 2 ^ 62) : fdivOk i j = true := by
  have a : j.natAbs < 2 ^ 62 := by omega
  have b : j.natAbs.log2 < 62 := by
    by_cases z : j.natAbs = 0
    · omega
    · exact (Nat.log2_lt z).mpr a
  simp [fdivOk, h0]
  omega
theorem m_mixed (b c : Int) : F_law_mixed [.int b, .int c] [] = .ok (.int (mixI b c)) [] := by
  have r1 : ∀ x : Int, mulOk x 7919 = true := fun x => mulOk_r x (by decide) (by decide)
  have r2 : ∀ x : Int, mulOk x 48271 = true := fun x => mulOk_r x (by decide) (by decide)
  have r3 : ∀ x y : Int, mulOk (x % 2147483646 + 1) y = true := fun x y => mulOk_m1 x y (by decide) (by decide)
  have r4 : ∀ x y : Int, mulOk (x % 1000003) y = true := fun x y => mulOk_m x y (by decide) (by decide)
  have r5 : ∀ x y : Int, mulOk (x % 2147483629) y = true := fun x y => mulOk_m x y (by decide) (by decide)
  have r6 : ∀ x y : Int, mulOk (x % 2147483587) y = true := fun x y => mulOk_m x y (by decide) (by decide)
  have d1 : ∀ x : Int, fdivOk x 2147483646 = true := fun x => fd_small (by decide) (by decide)
  have d2 : ∀ x : Int, fdivOk x 1013 = true := fun x => fd_small (by decide) (by decide)
  have d3 : ∀ x : Int, fdivOk x 2003 = true := fun x => fd_small (by decide) (by decide)
  simp [F_law_mixed, b_law_mixed, runF, e_mul, r1, r2, r3, r4, r5, r6, d1, d2, d3, fin, cutOk, retR, below]
  rfl
theorem m_source (v : Int) : F_law_source [.int v] [] = .ok (.ref 0) [.lst [.int v, .int v, .int 0]] := by
  simp [F_law_source, b_law_source, runF, fin, cutOk, retR, belows, below]
/-- a source: what is left of the number, the number, how often it was drawn anew -/
abbrev Src3 := Int × Int × Int
def srcO (s : Src3) : MO := .lst [.int s.1, .int s.2.1, .int s.2.2]
@[simp] theorem srcO_bl (m : Nat) (s : Src3) : belowO m (srcO s) = true := rfl
def tk (s : Src3) (n : Int) : Int := if 1000000000000000000 ≤ s.1 then s.1 % n else mixI s.2.1 (s.2.2 + 1) % n
def tn (s : Src3) (n : Int) : Src3 := if 1000000000000000000 ≤ s.1 then (s.1 / n, s.2.1, s.2.2) else (s.1, s.2.1, s.2.2 + 1)
theorem m_take (s : Src3) {n : Int} (h0 : 0 < n) (h : n < 2 ^ 62) : F_law_take [.ref 0, .int n] [srcO s] = .ok (.int (tk s n)) [srcO (tn s n)] := by
  have d := fun i => fd_small (i := i) h0 h
  have p : powOk 10 18 = true := by decide
  have c : callF F_law_mixed [.int s.2.1, .int (s.2.2 + 1)] [.lst [.int s.1, .int s.2.1, .int (s.2.2 + 1)]] = .ok (.int (mixI s.2.1 (s.2.2 + 1))) [.lst [.int s.1, .int s.2.1, .int (s.2.2 + 1)]] := by
    simp [callF, lendK, getAll, flatArgs, below, lentOk, lendA, m_mixed, backD, setAll]
  have e : (10 : Int) ^ (18 : Int).toNat = 10 ^ 18 := rfl
  simp only [tk, tn]
  by_cases q : (1000000000000000000 : Int) ≤ s.1
  · simp [F_law_take, b_law_take, runF, srcO, listD, setR, ixN, p, d, h0, fin, cutOk, retR, below, belowO, belows, q, e]
  · simp [F_law_take, b_law_take, runF, srcO, listD, setR, ixN, p, d, h0, fin, cutOk, retR, below, belowO, belows, q, c, e]
theorem tk_lo (s : Src3) {n : Int} (h : 0 < n) : 0 ≤ tk s n := by
  unfold tk
  split <;> exact Int.emod_nonneg _ (by omega)
theorem tk_hi (s : Src3) {n : Int} (h : 0 < n) : tk s n < n := by
  unfold tk
  split <;> exact Int.emod_lt_of_pos _ h
/-- a draw from a source that is ours -/
theorem c_take {k : Nat} {M : List MO} {s : Src3} {n : Int} (hk : M[k]? = some (srcO s)) (h0 : 0 < n) (h : n < 2 ^ 62) : callF F_law_take [.ref k, .int n] M = .ok (.int (tk s n)) (M.set k (srcO (tn s n))) := by
  have e : lentOk [srcO s] = true := rfl
  have e2 : ∀ t : Src3, belowO 0 (srcO t) = true := fun t => rfl
  simp [callF, lendK, getAll, flatArgs, below, hk, e, e2, lendA, m_take s h0 h, backD, setAll]
theorem c_source (v : Int) (M : List MO) : callF F_law_source [.int v] M = .ok (.ref M.length) (M ++ [srcO (v, v, 0)]) := by
  simp [callF, lendK, getAll, flatArgs, below, lentOk, lendA, m_source, backD, setAll, srcO, belowO, belows]
end My

set_option Elab.async false
set_option linter.all false
set_option maxRecDepth 100000
set_option maxHeartbeats 4000000
namespace My
open PySem PySem.Spec PyProof.Rows L2 Bk
/-! ### numbers -/
theorem m_isint (i : Int) : F_is_integer [.int i] [] = .ok (.bl true) [] := by
  simp [F_is_integer, b_is_integer, runF]
theorem m_atleast (i lo : Int) : F_is_at_least [.int i, .int lo] [] = .ok (.bl (decide (lo ≤ i))) [] := by
  have c := fun M => c_flat (m_isint i) M (by simp) (by simp)
  simp [F_is_at_least, b_is_at_least, runF, c]
theorem m_between (i lo hi : Int) : F_is_between [.int i, .int lo, .int hi] [] = .ok (.bl (decide (lo ≤ i ∧ i ≤ hi))) [] := by
  have c := fun M => c_flat (m_isint i) M (by simp) (by simp)
  by_cases h : lo ≤ i
  · by_cases h' : i ≤ hi <;> simp [F_is_between, b_is_between, runF, c, h, h']
  · simp [F_is_between, b_is_between, runF, c, h]
theorem c_between (i lo hi : Int) (M : List MO) : callF F_is_between [.int i, .int lo, .int hi] M = .ok (.bl (decide (lo ≤ i ∧ i ≤ hi))) M := c_flat (m_between i lo hi) M (by simp) (by simp)
theorem c_atleast (i lo : Int) (M : List MO) : callF F_is_at_least [.int i, .int lo] M = .ok (.bl (decide (lo ≤ i))) M := c_flat (m_atleast i lo) M (by simp) (by simp)
end My

set_option Elab.async false
set_option linter.all false
set_option maxRecDepth 100000
set_option maxHeartbeats 4000000
namespace My
open PySem PySem.Spec PyProof.Rows L2 Bk
/-! ### the drawn calendar -/
theorem t_0 (s : Src3) (n : Int) (R : List MO) (h0 : 0 < n) (h : n < 4611686018427387904) : callF F_law_take [.ref 0, .int n] (srcO s :: R) = .ok (.int (tk s n)) (srcO (tn s n) :: R) := by
  rw [c_take (k := 0) (s := s) rfl h0 (by omega)]
  rfl
theorem backD_any {ks : List Nat} {n : Nat} {d : D} (h : below 0 d = true) : backD ks n d = some d := by
  cases d with
  | ref k => simp [below] at h
  | _ => simp [backD, h]
theorem c_lend1 {F : List D → List MO → Bk.R D} {ds : List D} {d : D} {o o' : MO} {k : Nat} {M : List MO} (h : F (.ref 0 :: ds) [o] = .ok d [o']) (hk : M[k]? = some o) (ho : isDead o = false) (hb : belowO 0 o = true) (hb' : belowO 0 o' = true) (ha : belows 0 ds = true) (hd : below 0 d = true) : callF F (.ref k :: ds) M = .ok d (M.set k o') := by
  have l1 := lendK_nil ha
  have l2 : lendA 1 ds = ds := lendA_nil ha
  have l3 := flatArgs_of ha
  simp [callF, lendK, l1, l2, l3, getAll, hk, flatArgs, lentOk, ho, hb, lendA, h, hb', backD_any hd, setAll]
theorem inR_i {i : Int} (h0 : 0 ≤ i) (h : i ≤ 100000) : Bk.inR i = true := inR_of (by omega) (by omega)
theorem cutD_from {ds : List D} {n : Nat} : Bk.cutD ds (some (n : Int)) none = ds.drop n := by
  unfold Bk.cutD
  rw [HT.sIx_none, HT.sIx_nat]
  by_cases h : n ≤ ds.length
  · rw [Nat.min_eq_left h, List.take_of_length_le (by simp)]
  · rw [Nat.min_eq_right (by omega), List.drop_eq_nil_of_le (by omega), List.drop_eq_nil_of_le (by omega)]
    simp
theorem intR_sorted : ∀ (n : Nat) (lo : Int), (intR lo n).Pairwise (· < ·)
  | 0, _ => .nil
  | n + 1, lo => List.pairwise_cons.mpr ⟨fun y hy => by have := mem_intR.mp hy; omega, intR_sorted n _⟩
theorem zip_take_long {α β : Type} : ∀ (a : List α) (b : List β) (k : Nat), b.length ≤ k → (a.take k).zip b = a.zip b
  | [], _, _, _ => by simp
  | _ :: _, [], _, _ => by simp
  | x :: a, y :: b, 0, h => by simp at h
  | x :: a, y :: b, k + 1, h => by simp [zip_take_long a b k (by simpa using h)]
theorem zip_take_in {α β : Type} : ∀ (a : List α) (b e : List β) (k : Nat), k ≤ b.length → (a.take k).zip (b ++ e) = (a.take k).zip b
  | _, _, _, 0, _ => by simp
  | [], _, _, _ + 1, _ => by simp
  | _ :: _, [], _, k + 1, h => by simp at h
  | x :: a, y :: b, e, k + 1, h => by simp [zip_take_in a b e k (by simpa using h)]
/-! ### one number more -/
theorem zip_snoc {α β : Type} : ∀ (a : List α) (b : List β) (k : β) (p : α), a[b.length]? = some p → a.zip (b ++ [k]) = a.zip b ++ [(p, k)]
  | [], b, k, p, h => by simp at h
  | x :: a, [], k, p, h => by
    have : x = p := by simpa using h
    subst this
    simp
  | x :: a, y :: b, k, p, h => by
    have := zip_snoc a b k p (by simpa using h)
    simp [this]
theorem take_zip1 {α β : Type} : ∀ (a : List α) (b : List β) (k : Nat), (a.zip b).take k = (a.take k).zip b
  | [], _, _ => by simp
  | _ :: _, [], _ => by simp
  | _ :: _, _ :: _, 0 => by simp
  | x :: a, y :: b, k + 1 => by simp [take_zip1 a b k]
def nth (ns : List Int) (i : Nat) : Int := ns.getD i 0
theorem nth_ix (M : List MO) (ns : List Int) (i : Nat) (h : i < ns.length) : dIx M (.tup (ns.map D.int)) (.int i) = some (.int (nth ns i)) := by
  have e : ns.getD i 0 = ns[i] := by simp [h]
  simp [Bk.atI_nat, h, nth]
theorem nth_in {ns es : List Int} {j : Nat} (h : j < ns.length) : nth (ns ++ es) j = nth ns j := by
  unfold nth
  rw [List.getD_eq_getElem?_getD, List.getD_eq_getElem?_getD, List.getElem?_append_left h]
theorem nth_end {ns : List Int} {k : Int} : nth (ns ++ [k]) ns.length = k := by
  unfold nth
  rw [List.getD_eq_getElem?_getD]
  simp
theorem nth_off {ns : List Int} {j : Nat} (h : ns.length ≤ j) : nth ns j = 0 := by
  unfold nth
  rw [List.getD_eq_getElem?_getD, List.getElem?_eq_none h]
  rfl
theorem minI_le : ∀ {is : List Int}, is ≠ [] → minI is ∈ is ∧ ∀ y ∈ is, minI is ≤ y
  | [], h => absurd rfl h
  | [i], _ => ⟨by simp [minI], fun y hy => by
      have e : y = i := by simpa using hy
      rw [e]
      exact Int.le_refl i⟩
  | i :: j :: r, _ => by
    obtain ⟨h1, h2⟩ := minI_le (is := j :: r) (by simp)
    have e : minI (i :: j :: r) = if i ≤ minI (j :: r) then i else minI (j :: r) := rfl
    rw [e]
    split
    · rename_i q
      refine ⟨by simp, fun y hy => ?_⟩
      rcases List.mem_cons.mp hy with z | z
      · omega
      · have := h2 y z
        omega
    · rename_i q
      refine ⟨List.mem_cons_of_mem _ h1, fun y hy => ?_⟩
      rcases List.mem_cons.mp hy with z | z
      · omega
      · exact h2 y z
end My

set_option Elab.async false
set_option linter.all false
set_option maxRecDepth 100000
set_option maxHeartbeats 4000000
namespace My
open PySem PySem.Spec PyProof.Rows L2 Bk
/-! ### calendars -/
abbrev Cal := List (Int × Option Int)
def optD : Option Int → D
  | none => .non
  | some r => .int r
@[simp] theorem optD_below (m : Nat) (o : Option Int) : below m (optD o) = true := by cases o <;> rfl
def entD (p : Int × Option Int) : D := .tup [.int p.1, optD p.2]
def calD (t : Bool) (c : Cal) : D := if t = true then .tup (c.map entD) else .lst (c.map entD)
theorem ent_below (m : Nat) (p : Int × Option Int) : below m (entD p) = true := by simp [entD]
@[simp] theorem ents_below (m : Nat) (c : Cal) : belows m (c.map entD) = true := by
  rw [belows_all, List.all_map, List.all_eq_true]
  exact fun p _ => ent_below m p
@[simp] theorem calD_below (m : Nat) (t : Bool) (c : Cal) : below m (calD t c) = true := by cases t <;> simp [calD]
@[simp] theorem calD_items (M : List MO) (t : Bool) (c : Cal) : itemsD M (calD t c) = some (c.map entD) := by cases t <;> rfl
@[simp] theorem calD_seq (t : Bool) (c : Cal) : seqD (calD t c) = some (c.map entD) := by cases t <;> rfl
@[simp] theorem calD_len (M : List MO) (t : Bool) (c : Cal) : dLen M (calD t c) = some (.int c.length) := by cases t <;> simp [calD]
@[simp] theorem calD_isi (M : List MO) (t : Bool) (c : Cal) : dIsiT ["list", "tuple"] M (calD t c) = some (.bl true) := by cases t <;> rfl
theorem calD_cut (M : List MO) (t : Bool) (c : Cal) (n : Nat) : dCut M none (some (n : Int)) (calD t c) = some (calD t (c.take n)) := by
  cases t <;> simp [calD, dCut, cutD_upto, List.map_take]
/-- an entry that may stand at a day -/
def okE (p : Int × Option Int) (day : Int) : Prop := 0 ≤ p.1 ∧ p.1 ≤ 12 ∧ ∀ b, p.2 = some b → day + 1 ≤ b
/-- how many of those that broke on one day are away on a day -/
def gone1 (day : Int) (e : Option Int) (n : Int) : Int := match e with
  | none => n
  | some b => if day < b then n else 0
def awayZ (day : Int) (zs : List ((Int × Option Int) × Int)) : Int := (zs.map fun z => gone1 day z.1.2 z.2).sum
def awayV (c : Cal) (ns : List Int) (day : Int) : Int := awayZ day ((c.take (day.toNat - 1)).zip ns)
theorem zip_ents : ∀ (c : Cal) (ns : List Int), zipL (c.map entD) (ns.map D.int) = (c.zip ns).map fun z => .tup [entD z.1, .int z.2]
  | [], _ => by simp [zipL]
  | _ :: _, [] => by simp [zipL]
  | p :: c, n :: ns => by simp [zipL, zip_ents c ns]
end My

set_option Elab.async false
set_option linter.all false
set_option maxRecDepth 100000
set_option maxHeartbeats 4000000
namespace My
open PySem PySem.Spec PyProof.Rows L2 Bk
theorem m_isday {p : Int × Option Int} {day : Int} (h : okE p day) : F_is_day [entD p, .int day] [] = .ok (.bl true) [] := by
  obtain ⟨h1, h2, h3⟩ := h
  obtain ⟨a, b⟩ := p
  cases b with
  | none => simp at h1 h2; simp [F_is_day, b_is_day, runF, entD, optD, c_between, h1, h2]
  | some b =>
    have := h3 b rfl
    simp at h1 h2
    simp [F_is_day, b_is_day, runF, entD, optD, c_between, c_atleast, h1, h2, this]
theorem m_reqcal (t : Bool) (c : Cal) (hl : c.length ≤ 100) (hv : ∀ (i : Nat) p, c[i]? = some p → okE p (i + 1)) : F_require_calendar [calD t c] [] = .ok .non [] := by
  have key : ∀ (post : Cal) (n : Nat), (∀ (i : Nat) p, post[i]? = some p → okE p ((n + i : Nat) + 1)) →
      gForL (gToT (gToCons (gTo 1) (gToCons (gTo 2) (gToNil)))) lb_require_calendar_1 (enumL n (post.map entD)) [some (calD t c), none, none] [] = .nx [some (calD t c), none, none] [] := by
    intro post
    induction post with
    | nil => intro n _; simp [enumL]
    | cons p post ih =>
      intro n h
      have h0 := h 0 p rfl
      have e2 := ih (n + 1) fun i q hq => by
        have := h (i + 1) q (by simpa using hq)
        have e : n + 1 + i = n + (i + 1) := by omega
        rw [e]
        exact this
      have cd := c_flat (m_isday h0) [] (by simp [ent_below]) (by simp)
      simp only [Nat.add_zero] at cd
      rw [List.map_cons, enumL]
      refine (forL_cons (Γ1 := [some (calD t c), some (.int n), some (entD p)]) (by simp) ?_).trans (by simpa using e2)
      simp [lb_require_calendar_1, cd]
  have k := key c 0 fun i p h => by simpa using hv i p h
  have z : ¬ (100 : Int) < c.length := by omega
  have k0 : gForL (gToT (gToCons (gTo 1) (gToCons (gTo 2) (gToNil)))) lb_require_calendar_1 (enumL 0 (c.map entD)) [some (calD t c), none, none] [] = _ := k
  simp [F_require_calendar, b_require_calendar, runF, z, k0]
end My

set_option Elab.async false
set_option linter.all false
set_option maxRecDepth 100000
set_option maxHeartbeats 4000000
namespace My
open PySem PySem.Spec PyProof.Rows L2 Bk
theorem m_nums (ns : List Int) (hl : ns.length ≤ 1000) (h : ∀ n ∈ ns, 0 ≤ n) : F_are_numbers [.tup (ns.map D.int)] [] = .ok (.bl true) [] := by
  have key := lcL_map (gg := gTo 1) (ge := le_are_numbers_1) (Γ := [some (.tup (ns.map D.int)), none]) (M := []) (f := fun _ => .bl true) (ns.map D.int) [] (by rw [List.length_map]; exact Nat.le_trans (by simpa using hl) (by decide)) fun d hd => by
    obtain ⟨i, hi, rfl⟩ := List.mem_map.mp hd
    exact ⟨_, rfl, by simp [le_are_numbers_1, c_atleast, h i hi]⟩
  have e : (ns.map D.int).map (fun _ => D.bl true) = (ns.map fun _ => true).map D.bl := by simp
  have q : ((ns.map fun _ => true).all id) = true := by simp
  rw [e, List.nil_append] at key
  simp [F_are_numbers, b_are_numbers, runF, key, dAll, ofBls, blsD_map, -List.map_map]
end My

set_option Elab.async false
set_option linter.all false
set_option maxRecDepth 100000
set_option maxHeartbeats 4000000
namespace My
open PySem PySem.Spec PyProof.Rows L2 Bk
end My

set_option Elab.async false
set_option linter.all false
set_option maxRecDepth 100000
set_option maxHeartbeats 4000000
namespace My
open PySem PySem.Spec PyProof.Rows L2 Bk
theorem m_away (t : Bool) (c : Cal) (ns : List Int) (day : Int) (hd : 1 ≤ day) : F_away_on [calD t c, .tup (ns.map D.int), .int day] [] = .ok (.int (awayV c ns day)) [] := by
  have key : ∀ (zs : List ((Int × Option Int) × Int)) (acc : Int),
      gForL (gToT (gToCons (gToT (gToCons (gTo 4) (gToCons (gTo 5) (gToNil)))) (gToCons (gTo 6) (gToNil)))) lb_away_on_1 (zs.map fun z => .tup [entD z.1, .int z.2]) [some (calD t c), some (.tup (ns.map D.int)), some (.int day), some (.int acc), none, none, none] []
      = .nx [some (calD t c), some (.tup (ns.map D.int)), some (.int day), some (.int (acc + awayZ day zs)), none, none, none] [] := by
    intro zs
    induction zs with
    | nil => intro acc; simp [awayZ]
    | cons z zs ih =>
      intro acc
      obtain ⟨⟨o, b⟩, n⟩ := z
      have e2 := ih (acc + gone1 day b n)
      have e3 : acc + gone1 day b n + awayZ day zs = acc + awayZ day (((o, b), n) :: zs) := by simp [awayZ]; omega
      rw [e3] at e2
      rw [List.map_cons]
      refine (forL_cons (Γ1 := [some (calD t c), some (.tup (ns.map D.int)), some (.int day), some (.int acc), some (.int o), some (optD b), some (.int n)]) (by simp [entD]) ?_).trans e2
      cases b with
      | none => simp [lb_away_on_1, optD, gone1]
      | some b => by_cases h : day < b <;> simp [lb_away_on_1, optD, gone1, h]
  have e : day - 1 = ((day.toNat - 1 : Nat) : Int) := by omega
  have ct := calD_cut [] t c (day.toNat - 1)
  rw [← e] at ct
  have k := key ((c.take (day.toNat - 1)).zip ns) 0
  rw [← zip_ents, Int.zero_add] at k
  have k' : gForL _ _ (zipL ((c.take (day.toNat - 1)).map entD) (ns.map D.int)) _ _ = _ := k
  simp only [List.map_take] at k'
  simp [F_away_on, b_away_on, runF, ct, zipO, List.map_take, k', awayV]
theorem c_away (t : Bool) (c : Cal) (ns : List Int) (day : Int) (hd : 1 ≤ day) (M : List MO) : callF F_away_on [calD t c, .tup (ns.map D.int), .int day] M = .ok (.int (awayV c ns day)) M := c_flat (m_away t c ns day hd) M (by simp) (by simp)
end My

set_option Elab.async false
set_option linter.all false
set_option maxRecDepth 100000
set_option maxHeartbeats 4000000
namespace My
open PySem PySem.Spec PyProof.Rows L2 Bk
theorem later_ix {a b c i : Int} (h0 : 0 ≤ i) (h4 : i < 4) : ∃ o : Option Int, atI [D.int a, .int b, .non, .int c] i = some (optD o) ∧ (o = none ∨ o = some a ∨ o = some b ∨ o = some c) := by
  obtain rfl | rfl | rfl | rfl : i = 0 ∨ i = 1 ∨ i = 2 ∨ i = 3 := by omega
  · exact ⟨some a, by simp [optD], by simp⟩
  · exact ⟨some b, by simp [optD], by simp⟩
  · exact ⟨none, by simp [optD], by simp⟩
  · exact ⟨some c, by simp [optD], by simp⟩
end My

set_option Elab.async false
set_option linter.all false
set_option maxRecDepth 100000
set_option maxHeartbeats 4000000
namespace My
open PySem PySem.Spec PyProof.Rows L2 Bk
/-- the first day with too many pieces away or broken -/
def fo (c : Cal) (ns : List Int) : Nat → Cal → Option Int
  | _, [] => none
  | i, p :: r => if p.1 < awayV c ns ((i : Int) + 1) + nth ns i then some ((i : Int) + 1) else fo c ns (i + 1) r
/-- a calendar as it may be handed over -/
structure OkC (c : Cal) : Prop where
  l : c.length ≤ 100
  v : ∀ (i : Nat) p, c[i]? = some p → okE p (i + 1)
/-- numbers of broken pieces that may have been -/
structure OkP (c : Cal) (ns : List Int) : Prop where
  l : ns.length ≤ c.length
  p : ∀ n ∈ ns, 0 ≤ n
  f : fo c ns 0 c = none
end My

set_option Elab.async false
set_option linter.all false
set_option maxRecDepth 100000
set_option maxHeartbeats 4000000
namespace My
open PySem PySem.Spec PyProof.Rows L2 Bk
theorem m_fover (t : Bool) (c : Cal) (ns : List Int) : F_first_over [calD t c, .tup (ns.map D.int)] [] = .ok (optD (fo c ns 0 c)) [] := by
  have key : ∀ (post : Cal) (i : Nat),
      gForL (gToT (gToCons (gTo 2) (gToCons (gToT (gToCons (gTo 3) (gToCons (gTo 4) (gToNil)))) (gToNil)))) lb_first_over_1 (enumL ((i : Int) + 1) (post.map entD)) [some (calD t c), some (.tup (ns.map D.int)), none, none, none, none] []
      = match fo c ns i post with
        | none => .nx [some (calD t c), some (.tup (ns.map D.int)), none, none, none, none] []
        | some d => .rt (.int d) [] := by
    intro post
    induction post with
    | nil => intro i; simp [enumL, fo]
    | cons p post ih =>
      intro i
      obtain ⟨o, b⟩ := p
      have e2 := ih (i + 1)
      have e3 : ((i + 1 : Nat) : Int) + 1 = (i : Int) + 1 + 1 := by omega
      rw [e3] at e2
      have ca := c_away t c ns ((i : Int) + 1) (by omega) []
      have go : (gSeq (gAsg (gIfE (gVal (gOp2 dLe (gV 2) (gCall (fn1 dLen) (gCons (gV 1) (gNil))))) (gOp2 dIx (gV 1) (gOp2 dSub (gV 2) (gC (.int 1)))) (gC (.int 0))) (gTo 5)) gPass) [some (calD t c), some (.tup (ns.map D.int)), some (.int ((i : Int) + 1)), some (.int o), some (optD b), none] []
          = .nx [some (calD t c), some (.tup (ns.map D.int)), some (.int ((i : Int) + 1)), some (.int o), some (optD b), some (.int (nth ns i))] [] := by
        by_cases h : i < ns.length
        · have h' : (i : Int) + 1 ≤ ns.length := by omega
          have ix := nth_ix [] ns i h
          have s : (i : Int) + 1 - 1 = i := by omega
          simp [-e_ix, h', s, ix]
        · have h' : ¬ (i : Int) + 1 ≤ ns.length := by omega
          have z : nth ns i = 0 := by simp [nth, h]
          simp [h', z]
      rw [List.map_cons, enumL, u_gForLc]
      simp only [u_gToT, u_gToCons, u_gToNil, u_gTo, entD, Option.bind_some, optS_some, List.set_cons_succ, List.set_cons_zero]
      simp only [u_gSeq, u_gPass] at go
      unfold lb_first_over_1
      rw [u_gSeq]
      have go2 : ∀ k : GS, ((gAsg (gIfE (gVal (gOp2 dLe (gV 2) (gCall (fn1 dLen) (gCons (gV 1) (gNil))))) (gOp2 dIx (gV 1) (gOp2 dSub (gV 2) (gC (.int 1)))) (gC (.int 0))) (gTo 5)) [some (calD t c), some (.tup (ns.map D.int)), some (.int ((i : Int) + 1)), some (.int o), some (optD b), none] []).next k
          = k [some (calD t c), some (.tup (ns.map D.int)), some (.int ((i : Int) + 1)), some (.int o), some (optD b), some (.int (nth ns i))] [] := by
        intro k
        cases er : (gAsg (gIfE (gVal (gOp2 dLe (gV 2) (gCall (fn1 dLen) (gCons (gV 1) (gNil))))) (gOp2 dIx (gV 1) (gOp2 dSub (gV 2) (gC (.int 1)))) (gC (.int 0))) (gTo 5)) [some (calD t c), some (.tup (ns.map D.int)), some (.int ((i : Int) + 1)), some (.int o), some (optD b), none] [] with
        | nx Γ M => rw [er] at go; simp at go; simp [go]
        | _ => rw [er] at go; simp [RS.next] at go
      rw [go2]
      by_cases h : o < awayV c ns ((i : Int) + 1) + nth ns i
      · simp [ca, h, fo]
      · simp only [fo, if_neg h]
        simpa [ca, h, lb_first_over_1] using e2
  have k := key c 0
  have k0 : gForL (gToT (gToCons (gTo 2) (gToCons (gToT (gToCons (gTo 3) (gToCons (gTo 4) (gToNil)))) (gToNil)))) lb_first_over_1 (enumL 1 (c.map entD)) [some (calD t c), some (.tup (ns.map D.int)), none, none, none, none] [] = _ := k
  cases e : fo c ns 0 c with
  | none =>
    rw [e] at k0
    simp [F_first_over, b_first_over, runF, k0, optD]
  | some d =>
    rw [e] at k0
    simp [F_first_over, b_first_over, runF, k0, optD]
theorem c_fover (t : Bool) (c : Cal) (ns : List Int) (M : List MO) : callF F_first_over [calD t c, .tup (ns.map D.int)] M = .ok (optD (fo c ns 0 c)) M := c_flat (m_fover t c ns) M (by simp) (by simp)
end My

set_option Elab.async false
set_option linter.all false
set_option maxRecDepth 100000
set_option maxHeartbeats 4000000
namespace My
open PySem PySem.Spec PyProof.Rows L2 Bk
theorem c_reqcal (t : Bool) {c : Cal} (h : OkC c) (M : List MO) : callF F_require_calendar [calD t c] M = .ok .non M := c_flat (m_reqcal t c h.l h.v) M (by simp) (by simp)
end My

set_option Elab.async false
set_option linter.all false
set_option maxRecDepth 100000
set_option maxHeartbeats 4000000
namespace My
open PySem PySem.Spec PyProof.Rows L2 Bk
end My

set_option Elab.async false
set_option linter.all false
set_option maxRecDepth 100000
set_option maxHeartbeats 4000000
namespace My
open PySem PySem.Spec PyProof.Rows L2 Bk
end My

set_option Elab.async false
set_option linter.all false
set_option maxRecDepth 100000
set_option maxHeartbeats 4000000
namespace My
open PySem PySem.Spec PyProof.Rows L2 Bk
/-- the pieces that may break at once -/
def ent (c : Cal) (i : Nat) : Int × Option Int := c.getD i (0, none)
def own (c : Cal) (d : Int) : Int := (ent c (d.toNat - 1)).1
def sp (c : Cal) (ns : List Int) : List Int → Int → List Int
  | [], _ => []
  | d :: r, least => if own c d < least then (own c d - awayV c ns d) :: sp c ns r (own c d) else sp c ns r least
def endI (c : Cal) (n : Nat) : Int := match (ent c n).2 with
  | none => c.length
  | some b => if (c.length : Int) < b - 1 then c.length else b - 1
def daysI (c : Cal) (ns : List Int) : List Int := intR ((ns.length : Int) + 1) (endI c ns.length - ns.length).toNat
theorem cal_ix (M : List MO) (t : Bool) (c : Cal) (i : Int) (h0 : 1 ≤ i) (h1 : i ≤ c.length) : dIx M (calD t c) (.int (i - 1)) = some (entD (ent c (i.toNat - 1))) := by
  have l : i.toNat - 1 < c.length := by omega
  have e : i - 1 = ((i.toNat - 1 : Nat) : Int) := by omega
  rw [e]
  simp [Bk.atI_nat, l, ent]
end My

set_option Elab.async false
set_option linter.all false
set_option maxRecDepth 100000
set_option maxHeartbeats 4000000
namespace My
open PySem PySem.Spec PyProof.Rows L2 Bk
end My

set_option Elab.async false
set_option linter.all false
set_option maxRecDepth 100000
set_option maxHeartbeats 4000000
namespace My
open PySem PySem.Spec PyProof.Rows L2 Bk
/-! ### the greatest number that may break next -/
theorem fo_none {c : Cal} {ns : List Int} : ∀ {r : Cal} {i : Nat}, fo c ns i r = none ↔ ∀ (j : Nat) p, r[j]? = some p → awayV c ns (((i + j : Nat) : Int) + 1) + nth ns (i + j) ≤ p.1
  | [], i => by simp [fo]
  | p :: r, i => by
    rw [fo]
    by_cases h : p.1 < awayV c ns ((i : Int) + 1) + nth ns i
    · rw [if_pos h]
      constructor
      · intro e; cases e
      · intro e
        have := e 0 p rfl
        simp only [Nat.add_zero] at this
        omega
    · rw [if_neg h, fo_none]
      constructor
      · intro e j q hq
        cases j with
        | zero =>
          have : p = q := by simpa using hq
          subst this
          simp only [Nat.add_zero]
          omega
        | succ j =>
          have := e j q (by simpa using hq)
          have e2 : i + 1 + j = i + (j + 1) := by omega
          rw [e2] at this
          exact this
      · intro e j q hq
        have := e (j + 1) q (by simpa using hq)
        have e2 : i + 1 + j = i + (j + 1) := by omega
        rw [e2]
        exact this
theorem awayV_late {c : Cal} {ns : List Int} {d : Int} (h : (ns.length : Int) < d) : awayV c ns d = awayZ d (c.zip ns) := by
  unfold awayV
  rw [zip_take_long]
  omega
theorem gone1_fall {d e : Int} (h : d ≤ e) (o : Option Int) {n : Int} (hn : 0 ≤ n) : gone1 e o n ≤ gone1 d o n := by
  cases o with
  | none => exact Int.le_refl _
  | some b =>
    simp only [gone1]
    split <;> split <;> omega
theorem awayZ_fall {d e : Int} (h : d ≤ e) : ∀ (zs : List ((Int × Option Int) × Int)), (∀ z ∈ zs, 0 ≤ z.2) → awayZ e zs ≤ awayZ d zs
  | [], _ => Int.le_refl _
  | z :: zs, hz => by
    have h1 := gone1_fall h z.1.2 (hz z (by simp))
    have h2 := awayZ_fall h zs fun x hx => hz x (by simp [hx])
    simp only [awayZ, List.map_cons, List.sum_cons] at h2 ⊢
    omega
theorem awayV_fall {c : Cal} {ns : List Int} (hp : ∀ n ∈ ns, 0 ≤ n) {d e : Int} (h0 : (ns.length : Int) < d) (h : d ≤ e) : awayV c ns e ≤ awayV c ns d := by
  rw [awayV_late h0, awayV_late (by omega)]
  refine awayZ_fall h _ fun z hz => hp z.2 ?_
  exact (List.of_mem_zip hz).2
theorem sp_mem {c : Cal} {ns : List Int} : ∀ {ds : List Int} {least y : Int}, y ∈ sp c ns ds least → ∃ d ∈ ds, y = own c d - awayV c ns d
  | [], _, _, h => by simp [sp] at h
  | d :: ds, least, y, h => by
    rw [sp] at h
    split at h
    · rcases List.mem_cons.mp h with e | h
      · exact ⟨d, by simp, e⟩
      · obtain ⟨x, hx, e⟩ := sp_mem h
        exact ⟨x, by simp [hx], e⟩
    · obtain ⟨x, hx, e⟩ := sp_mem h
      exact ⟨x, by simp [hx], e⟩
theorem sp_low {c : Cal} {ns : List Int} : ∀ {ds : List Int} {least : Int}, (∀ d ∈ ds, ∀ e ∈ ds, d ≤ e → awayV c ns e ≤ awayV c ns d) → ds.Pairwise (· < ·) → ∀ d ∈ ds, least ≤ own c d ∨ ∃ y ∈ sp c ns ds least, y ≤ own c d - awayV c ns d
  | [], _, _, _, d, h => by simp at h
  | a :: ds, least, hm, hs, d, h => by
    have hm' : ∀ d ∈ ds, ∀ e ∈ ds, d ≤ e → awayV c ns e ≤ awayV c ns d := fun x hx y hy => hm x (by simp [hx]) y (by simp [hy])
    obtain ⟨h1, h2⟩ := List.pairwise_cons.mp hs
    rw [sp]
    by_cases q : own c a < least
    · rw [if_pos q]
      right
      rcases List.mem_cons.mp h with e | hd
      · subst e
        exact ⟨_, by simp, Int.le_refl _⟩
      · rcases sp_low (least := own c a) hm' h2 d hd with z | ⟨y, hy, z⟩
        · have := hm a (by simp) d (by simp [hd]) (Int.le_of_lt (h1 d hd))
          exact ⟨_, List.mem_cons_self, by omega⟩
        · exact ⟨y, by simp [hy], z⟩
    · rw [if_neg q]
      rcases List.mem_cons.mp h with e | hd
      · subst e
        left
        omega
      · exact sp_low hm' h2 d hd
/-- what ready answers -/
def gnx (c : Cal) (ns : List Int) : Int := minI (sp c ns (daysI c ns) 13)
theorem ent_get {c : Cal} {i : Nat} {p : Int × Option Int} (h : c[i]? = some p) : ent c i = p := by
  unfold ent
  rw [List.getD_eq_getElem?_getD, h]
  rfl
theorem endI_in {c : Cal} {n : Nat} (hc : OkC c) (hl : n < c.length) : (n : Int) + 1 ≤ endI c n ∧ endI c n ≤ c.length := by
  obtain ⟨p, hp⟩ : ∃ p, c[n]? = some p := ⟨c[n], List.getElem?_eq_getElem hl⟩
  have pv := (hc.v _ _ hp).2.2
  unfold endI
  rw [ent_get hp]
  cases hb : p.2 with
  | none => simp; omega
  | some b =>
    have := pv b hb
    simp only
    split <;> omega
theorem mem_days {c : Cal} {ns : List Int} {d : Int} : d ∈ daysI c ns ↔ (ns.length : Int) + 1 ≤ d ∧ d ≤ endI c ns.length := by
  unfold daysI
  rw [mem_intR]
  omega
theorem gnx_facts {c : Cal} {ns : List Int} (hc : OkC c) (h : OkP c ns) (hl : ns.length < c.length) :
    sp c ns (daysI c ns) 13 ≠ [] ∧ (∃ d, (ns.length : Int) + 1 ≤ d ∧ d ≤ endI c ns.length ∧ gnx c ns = own c d - awayV c ns d) ∧ ∀ d, (ns.length : Int) + 1 ≤ d → d ≤ endI c ns.length → gnx c ns ≤ own c d - awayV c ns d := by
  obtain ⟨q1, q2⟩ := endI_in hc hl
  have small : ∀ d ∈ daysI c ns, own c d < 13 := fun d hd => by
    obtain ⟨a, b⟩ := mem_days.mp hd
    have l : d.toNat - 1 < c.length := by omega
    have := (hc.v _ _ (List.getElem?_eq_getElem l)).2.1
    have e : own c d = c[d.toNat - 1].1 := by unfold own; rw [ent_get (List.getElem?_eq_getElem l)]
    omega
  have low := sp_low (c := c) (ns := ns) (ds := daysI c ns) (least := 13) (fun d hd e he hde => awayV_fall h.p (by have := mem_days.mp hd; omega) hde) (intR_sorted _ _)
  have low2 : ∀ d ∈ daysI c ns, ∃ y ∈ sp c ns (daysI c ns) 13, y ≤ own c d - awayV c ns d := fun d hd => (low d hd).resolve_left (by have := small d hd; omega)
  have ne : sp c ns (daysI c ns) 13 ≠ [] := by
    obtain ⟨y, hy, _⟩ := low2 ((ns.length : Int) + 1) (mem_days.mpr ⟨by omega, q1⟩)
    intro e
    rw [e] at hy
    cases hy
  have mn := minI_le ne
  refine ⟨ne, ?_, fun d a b => ?_⟩
  · obtain ⟨d, hd, e⟩ := sp_mem mn.1
    exact ⟨d, (mem_days.mp hd).1, (mem_days.mp hd).2, e⟩
  · obtain ⟨y, hy, z⟩ := low2 d (mem_days.mpr ⟨a, b⟩)
    exact Int.le_trans (mn.2 y hy) z
end My

set_option Elab.async false
set_option linter.all false
set_option maxRecDepth 100000
set_option maxHeartbeats 4000000
namespace My
open PySem PySem.Spec PyProof.Rows L2 Bk
theorem awayV_in {c : Cal} {ns es : List Int} {j : Nat} (h : j ≤ ns.length) : awayV c (ns ++ es) ((j : Int) + 1) = awayV c ns ((j : Int) + 1) := by
  have e : ((j : Int) + 1).toNat - 1 = j := by omega
  unfold awayV
  rw [e, zip_take_in _ _ _ _ h]
theorem awayV_snoc {c : Cal} {ns : List Int} {k d : Int} {p : Int × Option Int} (hp : c[ns.length]? = some p) (h : (ns.length : Int) + 1 < d) : awayV c (ns ++ [k]) d = awayV c ns d + gone1 d p.2 k := by
  rw [awayV_late (by simp; omega), awayV_late (by omega), zip_snoc _ _ _ _ hp]
  simp [awayZ]
theorem own_get {c : Cal} {j : Nat} {p : Int × Option Int} (h : c[j]? = some p) : own c ((j : Int) + 1) = p.1 := by
  unfold own
  have e : ((j : Int) + 1).toNat - 1 = j := by omega
  rw [e, ent_get h]
theorem fo_snoc {c : Cal} {ns : List Int} (hc : OkC c) (h : OkP c ns) (hl : ns.length < c.length) (k : Int) : fo c (ns ++ [k]) 0 c = none ↔ k ≤ gnx c ns := by
  obtain ⟨_, ⟨d0, a0, b0, e0⟩, low⟩ := gnx_facts hc h hl
  have hf := fo_none.mp h.f
  obtain ⟨p, hp⟩ : ∃ p, c[ns.length]? = some p := ⟨c[ns.length], List.getElem?_eq_getElem hl⟩
  have pv := (hc.v _ _ hp).2.2
  obtain ⟨q1, q2⟩ := endI_in hc hl
  have fin : ∀ d : Int, d ≤ c.length → (endI c ns.length < d ↔ ∃ b, p.2 = some b ∧ b ≤ d) := fun d hd => by
    unfold endI
    rw [ent_get hp]
    cases hb : p.2 with
    | none => simp; omega
    | some b => simp only; constructor
                · intro z; exact ⟨b, rfl, by split at z <;> omega⟩
                · rintro ⟨b', e, z⟩; cases e; split <;> omega
  rw [fo_none]
  constructor
  · intro z
    rw [e0]
    have l : d0.toNat - 1 < c.length := by omega
    have g := List.getElem?_eq_getElem l
    have z1 := z (d0.toNat - 1) _ g
    have ed : ((0 + (d0.toNat - 1) : Nat) : Int) + 1 = d0 := by omega
    have og := own_get g
    have ed2 : ((d0.toNat - 1 : Nat) : Int) + 1 = d0 := by omega
    rw [ed2] at og
    rw [ed, ← og] at z1
    by_cases q : d0.toNat - 1 = ns.length
    · have e1 : d0 = (ns.length : Int) + 1 := by omega
      rw [Nat.zero_add, q, nth_end, e1, awayV_in (Nat.le_refl _)] at z1
      rw [e1]
      omega
    · rw [awayV_snoc hp (by omega), Nat.zero_add, nth_off (by simp; omega)] at z1
      have gk : gone1 d0 p.2 k = k := by
        cases hb : p.2 with
        | none => rfl
        | some b =>
          simp only [gone1]
          rw [if_pos]
          have := fin d0 (by omega)
          rw [hb] at this
          have n1 : ¬ ∃ b', some b = some b' ∧ b' ≤ d0 := fun w => by have := this.mpr w; omega
          exact Int.not_le.mp fun w => n1 ⟨b, rfl, w⟩
      omega
  · intro z j q hq
    have lj : j < c.length := by
      rcases Nat.lt_or_ge j c.length with w | w
      · exact w
      · rw [List.getElem?_eq_none w] at hq; cases hq
    have f0 := hf j q hq
    have og := own_get hq
    rw [Nat.zero_add] at f0 ⊢
    rcases Nat.lt_trichotomy j ns.length with w | w | w
    · rw [awayV_in (by omega), nth_in w]
      exact f0
    · subst w
      rw [awayV_in (Nat.le_refl _), nth_end]
      have := low ((ns.length : Int) + 1) (Int.le_refl _) q1
      rw [og] at this
      omega
    · rw [awayV_snoc hp (by omega), nth_off (by simp; omega)]
      rw [nth_off (by omega)] at f0
      by_cases y : endI c ns.length < (j : Int) + 1
      · obtain ⟨b, hb, w2⟩ := (fin _ (by omega)).mp y
        have g0 : gone1 ((j : Int) + 1) p.2 k = 0 := by
          rw [hb]
          simp only [gone1]
          rw [if_neg (by omega)]
        omega
      · have := low ((j : Int) + 1) (by omega) (by omega)
        rw [og] at this
        have g1 : gone1 ((j : Int) + 1) p.2 k = k := by
          cases hb : p.2 with
          | none => rfl
          | some b =>
            simp only [gone1]
            rw [if_pos]
            have fj := fin ((j : Int) + 1) (by omega)
            rw [hb] at fj
            exact Int.not_le.mp fun w => y (fj.mpr ⟨b, rfl, w⟩)
        omega
theorem OkP.snoc {c : Cal} {ns : List Int} (hc : OkC c) (h : OkP c ns) (hl : ns.length < c.length) {k : Int} (h0 : 0 ≤ k) (hk : k ≤ gnx c ns) : OkP c (ns ++ [k]) :=
  ⟨by simp; omega, fun n hn => by
    rcases List.mem_append.mp hn with w | w
    · exact h.p n w
    · have e : n = k := by simpa using w
      rw [e]
      exact h0, (fo_snoc hc h hl k).mpr hk⟩
/-- how many are away on the later days -/
def aw (c : Cal) (ns : List Int) : List Int := (intR ((ns.length : Int) + 1) (c.length - ns.length)).map (awayV c ns)
end My

set_option Elab.async false
set_option linter.all false
set_option maxRecDepth 100000
set_option maxHeartbeats 4000000
namespace My
open PySem PySem.Spec PyProof.Rows L2 Bk
theorem m_gone (t : Bool) (c : Cal) (ns : List Int) (day : Int) (hd : 1 ≤ day) (hc : c.length ≤ 1000) : F_law_gone [calD t c, .tup (ns.map D.int), .int day] [] = .ok (.int (awayV c ns day)) [] := by
  have key : ∀ (zs : List ((Int × Option Int) × Int)) (acc : Int),
      gForL (gToT (gToCons (gToT (gToCons (gTo 4) (gToCons (gTo 5) (gToNil)))) (gToCons (gTo 6) (gToNil)))) lb_law_gone_1 (zs.map fun z => .tup [entD z.1, .int z.2]) [some (calD t c), some (.tup (ns.map D.int)), some (.int day), some (.int acc), none, none, none] []
      = .nx [some (calD t c), some (.tup (ns.map D.int)), some (.int day), some (.int (acc + awayZ day zs)), none, none, none] [] := by
    intro zs
    induction zs with
    | nil => intro acc; simp [awayZ]
    | cons z zs ih =>
      intro acc
      obtain ⟨⟨o, b⟩, n⟩ := z
      have e2 := ih (acc + gone1 day b n)
      have e3 : acc + gone1 day b n + awayZ day zs = acc + awayZ day (((o, b), n) :: zs) := by simp [awayZ]; omega
      rw [e3] at e2
      rw [List.map_cons]
      refine (forL_cons (Γ1 := [some (calD t c), some (.tup (ns.map D.int)), some (.int day), some (.int acc), some (.int o), some (optD b), some (.int n)]) (by simp [entD]) ?_).trans e2
      cases b with
      | none => simp [lb_law_gone_1, optD, gone1]
      | some b => by_cases h : day < b <;> simp [lb_law_gone_1, optD, gone1, h]
  have e : day - 1 = ((day.toNat - 1 : Nat) : Int) := by omega
  have sz : 1000 ≤ sizeLine := by rw [sizeLine_eq]; omega
  have zl : (zipL (c.map entD) (ns.map D.int)).length ≤ sizeLine := by rw [zipL_len, List.length_map]; omega
  have k := key ((c.take (day.toNat - 1)).zip ns) 0
  rw [← take_zip1, List.map_take, ← zip_ents, Int.zero_add, take_zip1] at k
  have cu : dCut [] none (some (day - 1)) (.lst (zipL (c.map entD) (ns.map D.int))) = some (.lst ((zipL (c.map entD) (ns.map D.int)).take (day.toNat - 1))) := by
    rw [e]
    simp only [dCut, listD, Option.map_some, cutD_upto]
  simp [F_law_gone, b_law_gone, runF, zipO, zl, cu, k, awayV]
theorem c_gone (t : Bool) (c : Cal) (ns : List Int) (day : Int) (hd : 1 ≤ day) (hc : c.length ≤ 1000) (M : List MO) : callF F_law_gone [calD t c, .tup (ns.map D.int), .int day] M = .ok (.int (awayV c ns day)) M := c_flat (m_gone t c ns day hd hc) M (by simp) (by simp)
end My

set_option Elab.async false
set_option linter.all false
set_option maxRecDepth 100000
set_option maxHeartbeats 4000000
namespace My
open PySem PySem.Spec PyProof.Rows L2 Bk
/-- the numbers, made as long as the calendar -/
def pad (c : Cal) (ns : List Int) : List Int := ns ++ List.replicate (c.length - ns.length) 0
theorem pad_length {c : Cal} {ns : List Int} (h : ns.length ≤ c.length) : (pad c ns).length = c.length := by simp [pad]; omega
theorem pad_nth (c : Cal) (ns : List Int) (i : Nat) : nth (pad c ns) i = nth ns i := by
  unfold nth pad
  by_cases h : i < ns.length
  · simp [List.getD_eq_getElem?_getD, List.getElem?_append_left h]
  · rw [List.getD_eq_getElem?_getD, List.getD_eq_getElem?_getD, List.getElem?_append_right (by omega), List.getElem?_eq_none (by omega : ns.length ≤ i)]
    rw [List.getElem?_replicate]
    split <;> rfl
theorem awayZ_zero (d : Int) : ∀ (a : Cal) (ns : List Int) (m : Nat), awayZ d (a.zip (ns ++ List.replicate m 0)) = awayZ d (a.zip ns)
  | [], _, _ => by simp
  | p :: a, n :: ns, m => by
    have := awayZ_zero d a ns m
    simp only [awayZ] at this
    simp [awayZ, this]
  | p :: a, [], 0 => by simp
  | p :: a, [], m + 1 => by
    have := awayZ_zero d a [] m
    simp only [awayZ, List.nil_append, List.zip_nil_right, List.map_nil, List.sum_nil] at this
    have e : gone1 d p.2 0 = 0 := by unfold gone1; split <;> simp
    simp [awayZ, List.replicate_succ, e, this]
theorem pad_away (c : Cal) (ns : List Int) (d : Int) : awayV c (pad c ns) d = awayV c ns d := awayZ_zero d _ _ _
theorem fo_pad (c : Cal) (ns : List Int) : ∀ (r : Cal) (i : Nat), fo c (pad c ns) i r = fo c ns i r
  | [], _ => rfl
  | p :: r, i => by simp only [fo, pad_away, pad_nth, fo_pad c ns r (i + 1)]
theorem m_over (t : Bool) {c : Cal} {ns : List Int} (hl : ns.length ≤ c.length) (hc : c.length ≤ 100) : F_law_over [calD t c, .tup (ns.map D.int)] [] = .ok (optD (fo c ns 0 c)) [] := by
  have key : ∀ (post : List Int) (r : Cal) (i : Nat), pad c ns = (pad c ns).take i ++ post → c.drop i = r → i ≤ c.length →
      gForL (gToT (gToCons (gTo 3) (gToCons (gTo 4) (gToNil)))) lb_law_over_1 (enumL i (post.map D.int)) [some (calD t c), some (.tup (ns.map D.int)), some (.tup ((pad c ns).map D.int)), none, none] []
      = match fo c (pad c ns) i r with
        | none => .nx [some (calD t c), some (.tup (ns.map D.int)), some (.tup ((pad c ns).map D.int)), none, none] []
        | some d => .rt (.int d) [] := by
    intro post
    induction post with
    | nil =>
      intro r i hp hr hi
      have : i = c.length := by
        have := congrArg List.length hp
        rw [List.append_nil, List.length_take, pad_length hl] at this
        omega
      have er : r = [] := by rw [← hr, this]; simp
      subst er
      simp [enumL, fo]
    | cons w post ih =>
      intro r i hp hr hi
      have hlen := congrArg List.length hp
      rw [List.length_append, List.length_take, pad_length hl, List.length_cons, Nat.min_eq_left hi] at hlen
      have lt : i < c.length := by omega
      have er : r = c[i] :: c.drop (i + 1) := by rw [← hr]; exact List.drop_eq_getElem_cons lt
      have hw : (pad c ns)[i]? = some w := by
        rw [hp, List.getElem?_append_right (by rw [List.length_take, pad_length hl]; omega), List.length_take, pad_length hl, Nat.min_eq_left hi]
        simp
      have nw : nth (pad c ns) i = w := by unfold nth; rw [List.getD_eq_getElem?_getD, hw]; rfl
      have ih2 := ih (c.drop (i + 1)) (i + 1) (by
        rw [List.take_add_one, hw]
        conv => lhs; rw [hp]
        simp) rfl (by omega)
      have ca := c_gone t c (pad c ns) ((i : Int) + 1) (by omega) (by omega) []
      have ix := cal_ix [] t c ((i : Int) + 1) (by omega) (by omega)
      have e1 : (i : Int) + 1 - 1 = i := by omega
      have e2 : ((i : Int) + 1).toNat - 1 = i := by omega
      have e3 : ((i + 1 : Nat) : Int) = (i : Int) + 1 := by omega
      rw [e1, e2, ent_get (List.getElem?_eq_getElem lt)] at ix
      rw [e3] at ih2
      have ix0 : ∀ (a b : D), dIx [] (.tup [a, b]) (.int 0) = some a := fun _ _ => rfl
      subst er
      rw [List.map_cons, enumL, fo, nw]
      by_cases h : c[i].1 < awayV c (pad c ns) ((i : Int) + 1) + w
      · simp [-e_ix, lb_law_over_1, ca, ix, ix0, entD, h]
      · simp [-e_ix, lb_law_over_1, ca, ix, ix0, entD, h]
        simpa [lb_law_over_1] using ih2
  have k := key (pad c ns) c 0 (by simp) (by simp) (by omega)
  have tp : dTuple [] (.tup (ns.map D.int)) = some (.tup (ns.map D.int)) := rfl
  have b1 : -1000 ≤ (c.length : Int) - ns.length := by omega
  have b2 : (c.length : Int) - ns.length ≤ 1000 := by omega
  have e4 : ((c.length : Int) - ns.length).toNat = c.length - ns.length := by omega
  have mu : dMulT [] (.tup [.int 0]) (.int ((c.length : Int) - ns.length)) = some (.tup ((List.replicate (c.length - ns.length) 0).map D.int)) := by
    rw [e_mulT [] (.int 0) [] _ b1 b2 (by simp), e4]
    simp [List.flatten_replicate_singleton]
  have sz : 1000 ≤ sizeLine := by rw [sizeLine_eq]; omega
  have ad : dAdd [] (.tup (ns.map D.int)) (.tup ((List.replicate (c.length - ns.length) 0).map D.int)) = some (.tup ((pad c ns).map D.int)) := by
    rw [e_addT, if_pos (by simp; omega)]
    simp [pad]
  rw [List.map_replicate] at mu ad
  rw [fo_pad] at k
  have k0 : gForL (gToT (gToCons (gTo 3) (gToCons (gTo 4) (gToNil)))) lb_law_over_1 (enumL 0 ((pad c ns).map D.int)) [some (calD t c), some (.tup (ns.map D.int)), some (.tup ((pad c ns).map D.int)), none, none] [] = _ := k
  cases e : fo c ns 0 c with
  | none =>
    rw [e] at k0
    simp [-e_mulT, -e_addT, F_law_over, b_law_over, runF, tp, mu, ad, k0, optD]
  | some d =>
    rw [e] at k0
    simp [-e_mulT, -e_addT, F_law_over, b_law_over, runF, tp, mu, ad, k0, optD]
theorem c_over (t : Bool) {c : Cal} {ns : List Int} (hl : ns.length ≤ c.length) (hc : c.length ≤ 100) (M : List MO) : callF F_law_over [calD t c, .tup (ns.map D.int)] M = .ok (optD (fo c ns 0 c)) M := c_flat (m_over t hl hc) M (by simp) (by simp)
end My

set_option Elab.async false
set_option linter.all false
set_option maxRecDepth 100000
set_option maxHeartbeats 4000000
namespace My
open PySem PySem.Spec PyProof.Rows L2 Bk
/-- a drawn entry -/
def drE (high : Int) (p : Int × Option Int) (day : Int) : Prop := okE p day ∧ p.1 ≤ high ∧ ∀ b, p.2 = some b → b ≤ 1000
theorem stock_step (s : Src3) {most high size way beg mend : Int} {n : Nat} (acc : List D) (hq : acc.length < sizeLine) (hh : 0 ≤ high) (hh2 : high ≤ 12) (hw : 0 ≤ way) (hw5 : way < 5) (hb : 0 ≤ beg) (hb2 : beg ≤ high) (hm : 0 ≤ mend) (hm2 : mend < 4) (hz : size ≤ 100) (hn : (n : Int) < size) :
    ∃ (p : Int × Option Int) (s2 : Src3), drE high p ((n : Int) + 1) ∧ lb_law_stock_1 [some (.ref 0), some (.int most), some (.int high), some (.int size), some (.int way), some (.int beg), some (.int mend), some (.ref 1), some (.int n), none, none] [srcO s, .lst acc]
      = .nx [some (.ref 0), some (.int most), some (.int high), some (.int size), some (.int way), some (.int beg), some (.int mend), some (.ref 1), none, none, none] [srcO s2, .lst (acc ++ [entD p])] := by
  have i2 : ∀ M, dIn M (.int way) (.tup [.int 1, .int 3]) = some (.bl (decide (way = 1 ∨ way = 3))) := fun M => by
    have := e_inT M way [1, 3]
    simpa using this
  have t := fun s n R h0 h => t_0 s n R h0 h
  have z1 : 0 < high + 1 := by omega
  have z2 : high + 1 < 4611686018427387904 := by omega
  have fd : fdivOk (n : Int) 2 = true := fd_small (by decide) (by decide)
  by_cases w0 : way = 0
  · subst w0
    refine ⟨(beg, some ((n : Int) + 2 + mend)), s, ⟨⟨hb, by omega, fun b e => by cases e; omega⟩, hb2, fun b e => by cases e; omega⟩, ?_⟩
    simp [lb_law_stock_1, i2, listD, mutR, hq, entD, optD]
  · have wp : 0 < way := by omega
    by_cases w13 : way = 1 ∨ way = 3
    · have w2 : ¬ way = 2 := by omega
      obtain ⟨o, e1, e2⟩ := later_ix (a := (n : Int) + 2 + tk (tn s (high + 1)) 4) (b := (n : Int) + 2) (c := size + 1 + tk (tn (tn s (high + 1)) 4) 9) (i := tk (tn (tn (tn s (high + 1)) 4) 9) 4) (tk_lo _ (by decide)) (tk_hi _ (by decide))
      have a1 := tk_lo (tn s (high + 1)) (n := 4) (by decide)
      have a2 := tk_lo (tn (tn s (high + 1)) 4) (n := 9) (by decide)
      have b1 := tk_lo s z1
      have b2 := tk_hi s z1
      have a3 := tk_hi (tn s (high + 1)) (n := 4) (by decide)
      have a4 := tk_hi (tn (tn s (high + 1)) 4) (n := 9) (by decide)
      refine ⟨(tk s (high + 1), o), tn (tn (tn (tn s (high + 1)) 4) 9) 4, ⟨⟨b1, by simp only; omega, fun b e => by
        rcases e2 with e2 | e2 | e2 | e2 <;> rw [e2] at e <;> cases e <;> omega⟩, by simp only; omega, fun b e => by
        rcases e2 with e2 | e2 | e2 | e2 <;> rw [e2] at e <;> cases e <;> omega⟩, ?_⟩
      simp [lb_law_stock_1, i2, listD, mutR, hq, entD, t, z1, z2, w13, w2, wp, e1]
    · obtain ⟨o, e1, e2⟩ := later_ix (a := (n : Int) + 2 + tk s 4) (b := (n : Int) + 2) (c := size + 1 + tk (tn s 4) 9) (i := tk (tn (tn s 4) 9) 4) (tk_lo _ (by decide)) (tk_hi _ (by decide))
      have a1 := tk_lo s (n := 4) (by decide)
      have a2 := tk_lo (tn s 4) (n := 9) (by decide)
      have a3 := tk_hi s (n := 4) (by decide)
      have a4 := tk_hi (tn s 4) (n := 9) (by decide)
      have ob : ∀ b, o = some b → (n : Int) + 1 + 1 ≤ b := fun b e => by
        rcases e2 with e2 | e2 | e2 | e2 <;> rw [e2] at e <;> cases e <;> omega
      have ob2 : ∀ b, o = some b → b ≤ 1000 := fun b e => by
        rcases e2 with e2 | e2 | e2 | e2 <;> rw [e2] at e <;> cases e <;> omega
      by_cases w2 : way = 2
      · refine ⟨(if 0 < beg - (n : Int) / 2 then beg - (n : Int) / 2 else 0, o), tn (tn (tn s 4) 9) 4, ⟨⟨by simp only; split <;> omega, by simp only; split <;> omega, ob⟩, by simp only; split <;> omega, ob2⟩, ?_⟩
        subst w2
        simp [lb_law_stock_1, i2, listD, mutR, hq, entD, t, fd, e1]
      · refine ⟨(beg, o), tn (tn (tn s 4) 9) 4, ⟨⟨hb, by simp only; omega, ob⟩, hb2, ob2⟩, ?_⟩
        simp [lb_law_stock_1, i2, listD, mutR, hq, entD, t, w13, w2, wp, e1]
theorem stock_loop {most high size way beg mend : Int} (hh : 0 ≤ high) (hh2 : high ≤ 12) (hw : 0 ≤ way) (hw5 : way < 5) (hb : 0 ≤ beg) (hb2 : beg ≤ high) (hm : 0 ≤ mend) (hm2 : mend < 4) (hz : size ≤ 100) :
    ∀ (n : Nat) (s : Src3) (acc : Cal), (acc.length : Int) + n ≤ size → (∀ (i : Nat) p, acc[i]? = some p → drE high p ((i : Int) + 1)) →
    ∃ (acc' : Cal) (s' : Src3), gForL (gTo 8) lb_law_stock_1 (rngL acc.length n) [some (.ref 0), some (.int most), some (.int high), some (.int size), some (.int way), some (.int beg), some (.int mend), some (.ref 1), none, none, none] [srcO s, .lst (acc.map entD)]
      = .nx [some (.ref 0), some (.int most), some (.int high), some (.int size), some (.int way), some (.int beg), some (.int mend), some (.ref 1), none, none, none] [srcO s', .lst (acc'.map entD)] ∧ acc'.length = acc.length + n ∧ (∀ (i : Nat) p, acc'[i]? = some p → drE high p ((i : Int) + 1)) := by
  have sz : 1000 ≤ sizeLine := by rw [sizeLine_eq]; omega
  intro n
  induction n with
  | zero => intro s acc _ h; exact ⟨acc, s, by simp [rngL], rfl, h⟩
  | succ n ih =>
    intro s acc h1 h2
    obtain ⟨p, s2, hp, e⟩ := stock_step s (most := most) (high := high) (size := size) (way := way) (beg := beg) (mend := mend) (n := acc.length) (acc.map entD) (by simp; omega) hh hh2 hw hw5 hb hb2 hm hm2 hz (by omega)
    obtain ⟨acc', s', e', l', f'⟩ := ih s2 (acc ++ [p]) (by simp; omega) fun i q hq => by
      by_cases hi : i < acc.length
      · exact h2 i q (by rw [List.getElem?_append_left hi] at hq; exact hq)
      · rw [List.getElem?_append_right (by omega)] at hq
        have : i = acc.length := by
          rcases Nat.lt_or_ge acc.length i with w | w
          · rw [List.getElem?_eq_none (by simp; omega)] at hq; cases hq
          · omega
        subst this
        have : p = q := by simpa using hq
        subst this
        exact hp
    refine ⟨acc', s', ?_, by simp at l'; omega, f'⟩
    have el : ((acc ++ [p]).length : Int) = (acc.length : Int) + 1 := by simp
    rw [el, List.map_append, List.map_cons, List.map_nil] at e'
    rw [rngL]
    exact (forL_cons (Γ1 := [some (.ref 0), some (.int most), some (.int high), some (.int size), some (.int way), some (.int beg), some (.int mend), some (.ref 1), some (.int acc.length), none, none]) (by simp) e).trans e'
theorem m_stock (s : Src3) {most high : Int} (h0 : 0 ≤ most) (h1 : most ≤ 99) (hh : 0 ≤ high) (hh2 : high ≤ 12) : ∃ (c : Cal) (s' : Src3), F_law_stock [.ref 0, .int most, .int high] [srcO s] = .ok (calD false c) [srcO s'] ∧ OkC c ∧ (c.length : Int) ≤ most ∧ ∀ p ∈ c, p.1 ≤ high ∧ ∀ b, p.2 = some b → b ≤ 1000 := by
  have t := fun s n R h0 h => t_0 s n R h0 h
  have a0 := tk_lo s (n := most + 1) (by omega)
  have a1 := tk_hi s (n := most + 1) (by omega)
  obtain ⟨acc', s', e, l, f⟩ := stock_loop (most := most) (high := high) (size := tk s (most + 1)) (way := tk (tn s (most + 1)) 5) (beg := tk (tn (tn s (most + 1)) 5) (high + 1)) (mend := tk (tn (tn (tn s (most + 1)) 5) (high + 1)) 4) hh hh2 (tk_lo _ (by decide)) (tk_hi _ (by decide)) (tk_lo _ (by omega)) (by have := tk_hi (tn (tn s (most + 1)) 5) (n := high + 1) (by omega); omega) (tk_lo _ (by decide)) (tk_hi _ (by decide)) (by omega) (tk s (most + 1)).toNat (tn (tn (tn (tn s (most + 1)) 5) (high + 1)) 4) [] (by simp; omega) (by simp)
  have k0 : gForL _ _ (rngL 0 (tk s (most + 1)).toNat) _ [_, .lst []] = _ := e
  have i1 : Bk.inR (tk s (most + 1)) = true := inR_i (by omega) (by omega)
  have z1 : 0 < most + 1 := by omega
  have z2 : most + 1 < 4611686018427387904 := by omega
  have z3 : 0 < high + 1 := by omega
  have z4 : high + 1 < 4611686018427387904 := by omega
  simp only [List.length_nil, Nat.zero_add] at l
  refine ⟨acc', s', ?_, ⟨by omega, fun i p hp => (f i p hp).1⟩, by omega, fun p hp => ?_⟩
  · simp [F_law_stock, b_law_stock, runF, t, z1, z2, z3, z4, i1, k0, calD]
  · obtain ⟨i, hi⟩ := List.mem_iff_getElem?.mp hp
    exact (f i p hi).2
theorem c_stock {k : Nat} {M : List MO} (s : Src3) {most high : Int} (hk : M[k]? = some (srcO s)) (h0 : 0 ≤ most) (h1 : most ≤ 99) (hh : 0 ≤ high) (hh2 : high ≤ 12) : ∃ (c : Cal) (s' : Src3), callF F_law_stock [.ref k, .int most, .int high] M = .ok (calD false c) (M.set k (srcO s')) ∧ OkC c ∧ (c.length : Int) ≤ most ∧ ∀ p ∈ c, p.1 ≤ high ∧ ∀ b, p.2 = some b → b ≤ 1000 := by
  obtain ⟨c, s', e, h⟩ := m_stock s h0 h1 hh hh2
  refine ⟨c, s', ?_, h⟩
  have q : lentOk [srcO s] = true := rfl
  have e2 : ∀ t : Src3, belowO 0 (srcO t) = true := fun t => rfl
  simp [callF, lendK, getAll, flatArgs, below, hk, q, e2, lendA, e, backD_any, setAll]
end My

set_option Elab.async false
set_option linter.all false
set_option maxRecDepth 100000
set_option maxHeartbeats 4000000
namespace My
open PySem PySem.Spec PyProof.Rows L2 Bk
def stS (p : Int) (r n : Nat) : Cal := (intR 1 n).map fun d => (p, some (d + (r : Int) + 1))
theorem m_hol0 (n : Int) : F_require_holidays [.int n, .lst []] [] = .ok .non [] := by
  simp [F_require_holidays, b_require_holidays, runF, enumL]
theorem m_hol1 (n : Int) : F_require_holidays [.int n, .tup []] [] = .ok .non [] := by
  simp [F_require_holidays, b_require_holidays, runF, enumL]
end My

set_option Elab.async false
set_option linter.all false
set_option maxRecDepth 100000
set_option maxHeartbeats 4000000
namespace My
open PySem PySem.Spec PyProof.Rows L2 Bk
/-! ### what steady returns -/
def noH (b : Bool) : D := if b = true then .lst [] else .tup []
theorem noH_in (M : List MO) (b : Bool) (d : Int) : dNotIn M (.int d) (noH b) = some (.bl true) := by
  cases b
  · exact (e_niT M d []).trans (by simp)
  · exact (e_niL M d []).trans (by simp)
theorem noH_below (m : Nat) (b : Bool) : below m (noH b) = true := by cases b <;> simp [noH]
theorem c_hol (n : Int) (b : Bool) (M : List MO) : callF F_require_holidays [.int n, noH b] M = .ok .non M := by
  cases b
  · exact c_flat (m_hol1 n) M (by simp) (by simp)
  · exact c_flat (m_hol0 n) M (by simp) (by simp)
theorem back_while (n : Nat) (b : Bool) : ∀ (m N : Nat) (day : Int) (r : Nat), 0 ≤ day → (n : Int) - day ≤ m → m < N →
    ∃ (day' r' : Int), gWhile lw_back_day_1 lb_back_day_1 N [some (.int day), some (.int (r : Int)), some (.int n), some (noH b)] [] = .nx [some (.int day'), some (.int r'), some (.int n), some (noH b)] [] ∧ day' + r' = day + r
  | m, 0, _, _, _, _, h => absurd h (by omega)
  | m, N + 1, day, r, d0, hm, hN => by
    by_cases q : 0 < r ∧ day < n
    · obtain ⟨q1, q2⟩ := q
      cases m with
      | zero => omega
      | succ m =>
        obtain ⟨day', r', e, s⟩ := back_while n b m N (day + 1) (r - 1) (by omega) (by omega) (by omega)
        have er : ((r - 1 : Nat) : Int) = (r : Int) - 1 := by omega
        rw [er] at e s
        refine ⟨day', r', (while_go (Γ2 := [some (.int (day + 1)), some (.int ((r : Int) - 1)), some (.int n), some (noH b)]) (M1 := []) ?_ ?_).trans e, by omega⟩
        · have q1' : (0 : Int) < r := by omega
          simp [lw_back_day_1, q1', q1, q2]
        · have ni := noH_in [] b (day + 1)
          simp [lb_back_day_1, ni]
    · refine ⟨day, r, while_end (M1 := []) ?_, rfl⟩
      by_cases q1 : 0 < r
      · have q2 : ¬ day < n := fun z => q ⟨q1, z⟩
        have q1' : (0 : Int) < r := by omega
        simp [lw_back_day_1, q1', q1, q2]
      · have q1' : ¬ (0 : Int) < r := by omega
        simp [lw_back_day_1, q1', q1]
theorem c_back (n : Nat) (hn : n ≤ 100) (b : Bool) {day : Int} (d0 : 0 ≤ day) (r : Nat) (M : List MO) : callF F_back_day [.int day, .int (r : Int), .int n, noH b] M = .ok (.int (day + r + 1)) M := by
  obtain ⟨day', r', e, s⟩ := back_while n b ((n : Int) - day).toNat 1000000000 day r d0 (by omega) (by omega)
  refine c_flat ?_ M (by simp [noH_below]) (by simp)
  have e2 : day' + r' + 1 = day + r + 1 := by omega
  simp [F_back_day, b_back_day, runF, e, e2]
theorem m_steadyS {p : Int} {r n : Nat} (h0 : 0 ≤ p) (h1 : p ≤ 12) (hn : n ≤ 100) (b : Bool) : F_steady [.int p, .int (r : Int), .int n, noH b] [] = .ok (calD false (stS p r n)) [] := by
  have sz : 1000 ≤ sizeLine := by rw [sizeLine_eq]; omega
  have n1 : (n : Int) ≤ 100 := by omega
  have n0 : (0 : Int) ≤ n := by omega
  have r0 : (0 : Int) ≤ r := by omega
  have hh := fun M => c_hol n b M
  have b1 := fun M => c_between p 0 12 M
  have b2 := fun M => c_between n 0 100 M
  have b3 := fun M => c_atleast r 0 M
  have lc := lcL_run (gg := gTo 4) (ge := le_steady_2) (Γ := [some (.int p), some (.int (r : Int)), some (.int n), some (noH b), none]) (M := []) D.int (fun d => entD (p, some (d + (r : Int) + 1))) (intR 1 n) [] (by simp only [List.length_nil, intR_length]; omega) fun d hd => by
    have hd := mem_intR.mp hd
    have cb := fun M => c_back n hn b (day := d) (by omega) r M
    refine ⟨[some (.int p), some (.int (r : Int)), some (.int n), some (noH b), some (.int d)], by simp, ?_⟩
    simp [le_steady_2, cb, entD, optD]
  rw [List.nil_append, ← rngL_int] at lc
  have el : ((intR 1 n).map fun d => entD (p, some (d + (r : Int) + 1))) = (stS p r n).map entD := by unfold stS; rw [List.map_map]; rfl
  rw [el] at lc
  have i2 : Bk.inR ((n : Int) + 1) = true := inR_i (by omega) (by omega)
  have r2 : rng2 [.int 1, .int ((n : Int) + 1)] = some (rngL 1 n) := by
    have tn1 : ((n : Int) + 1 - 1).toNat = n := by omega
    rw [u_rng2, i2, tn1]
    rfl
  have rr : retR 0 [] (.lst ((stS p r n).map entD)) = .ok (calD false (stS p r n)) [] := by
    have := calD_below 0 false (stS p r n)
    simp only [calD, Bool.false_eq_true, if_false] at this ⊢
    rw [re_lst, if_pos (by simpa using this)]
    rfl
  generalize calD false (stS p r n) = C at *
  generalize (stS p r n).map entD = L at *
  generalize noH b = H at *
  simp [-u_rng2, F_steady, b_steady, runF, h0, h1, n0, n1, hh, b1, b2, b3, lc, r2, rr]
theorem c_steadyS {p : Int} {r n : Nat} (h0 : 0 ≤ p) (h1 : p ≤ 12) (hn : n ≤ 100) (b : Bool) (M : List MO) : callF F_steady [.int p, .int (r : Int), .int n, noH b] M = .ok (calD false (stS p r n)) M := c_flat (m_steadyS h0 h1 hn b) M (by simp [noH_below]) (by simp)
end My

set_option Elab.async false
set_option linter.all false
set_option maxRecDepth 100000
set_option maxHeartbeats 4000000
namespace My
open PySem PySem.Spec PyProof.Rows L2 Bk
/-! ### checks of values of any kind -/
/-- data that is no ref, no lambda, no error -/
def Pl : D → Prop
  | .ref _ => False
  | .lam _ _ => False
  | .exn _ _ _ => False
  | .exv _ _ _ _ => False
  | _ => True
def intD : D → Option Int
  | .int i => some i
  | _ => none
def atlD (d : D) (a : Int) : Bool := match d with
  | .int i => decide (a ≤ i)
  | _ => false
def btwD (d : D) (a b : Int) : Bool := match d with
  | .int i => decide (a ≤ i) && decide (i ≤ b)
  | _ => false
@[simp] theorem ty_n (M : List MO) : tyName M .non = some "NoneType" := Eq.trans rfl rfl
@[simp] theorem ty_b (M : List MO) (b : Bool) : tyName M (.bl b) = some "bool" := Eq.trans rfl rfl
@[simp] theorem ty_i (M : List MO) (i : Int) : tyName M (.int i) = some "int" := Eq.trans rfl rfl
@[simp] theorem ty_s (M : List MO) (x : Str) : tyName M (.str x) = some "str" := Eq.trans rfl rfl
@[simp] theorem ty_t (M : List MO) (ds : List D) : tyName M (.tup ds) = some "tuple" := Eq.trans rfl rfl
@[simp] theorem ty_l (M : List MO) (ds : List D) : tyName M (.lst ds) = some "list" := Eq.trans rfl rfl
@[simp] theorem ty_d (M : List MO) (ks vs : List D) : tyName M (.dct ks vs) = some "dict" := Eq.trans rfl rfl
@[simp] theorem ty_x (M : List MO) (k : Key) (d : D) : tyName M (.dcx k d) = some "dict" := Eq.trans rfl rfl
@[simp] theorem ty_p (M : List MO) (ds : List D) : tyName M (.ptu ds) = some "tuple" := Eq.trans rfl rfl
theorem kb : kitB "NoneType" "int" = some false ∧ kitB "bool" "int" = some true ∧ kitB "int" "int" = some true ∧ kitB "str" "int" = some false ∧ kitB "tuple" "int" = some false ∧ kitB "list" "int" = some false ∧ kitB "dict" "int" = some false := by decide +kernel
theorem kb2 : kitB "NoneType" "bool" = some false ∧ kitB "bool" "bool" = some true ∧ kitB "int" "bool" = some false ∧ kitB "str" "bool" = some false ∧ kitB "tuple" "bool" = some false ∧ kitB "list" "bool" = some false ∧ kitB "dict" "bool" = some false := by decide +kernel
theorem kb3 : kitB "NoneType" "tuple" = some false ∧ kitB "bool" "tuple" = some false ∧ kitB "int" "tuple" = some false ∧ kitB "str" "tuple" = some false ∧ kitB "tuple" "tuple" = some true ∧ kitB "list" "tuple" = some false ∧ kitB "dict" "tuple" = some false := by decide +kernel
theorem m_isintP {d : D} (h : Pl d) : F_is_integer [d] [] = .ok (.bl (intD d).isSome) [] := by
  obtain ⟨a1, a2, a3, a4, a5, a6, a7⟩ := kb
  obtain ⟨b1, b2, b3, b4, b5, b6, b7⟩ := kb2
  cases d with
  | ref k => exact h.elim
  | lam l cl => exact h.elim
  | exn a b c => exact h.elim
  | exv a b c e => exact h.elim
  | _ => simp [-e_isi_ii, -e_isi_ib, F_is_integer, b_is_integer, runF, dIsi, intD, *]
theorem c_isintP {d : D} (h : Pl d) (hb : below 0 d = true) (M : List MO) : callF F_is_integer [d] M = .ok (.bl (intD d).isSome) M := c_flat (m_isintP h) M (by simp [belows, hb]) (by simp)
theorem m_atl {d : D} (h : Pl d) (hb : below 0 d = true) (a : Int) : F_is_at_least [d, .int a] [] = .ok (.bl (atlD d a)) [] := by
  have t := c_isintP h hb
  cases d with
  | ref k => exact h.elim
  | lam l cl => exact h.elim
  | exn a b c => exact h.elim
  | exv a b c e => exact h.elim
  | _ => simp [F_is_at_least, b_is_at_least, runF, t, intD, atlD]
theorem c_atl {d : D} (h : Pl d) (hb : below 0 d = true) (a : Int) (M : List MO) : callF F_is_at_least [d, .int a] M = .ok (.bl (atlD d a)) M := c_flat (m_atl h hb a) M (by simp [belows, hb]) (by simp)
theorem m_btw {d : D} (h : Pl d) (hb : below 0 d = true) (a b : Int) : F_is_between [d, .int a, .int b] [] = .ok (.bl (btwD d a b)) [] := by
  have t := c_isintP h hb
  cases d with
  | ref k => exact h.elim
  | lam l cl => exact h.elim
  | exn a b c => exact h.elim
  | exv a b c e => exact h.elim
  | int i =>
    by_cases c : a ≤ i
    · simp [F_is_between, b_is_between, runF, t, intD, btwD, c]
    · simp [F_is_between, b_is_between, runF, t, intD, btwD, c]
  | _ => simp [F_is_between, b_is_between, runF, t, intD, btwD]
theorem c_btw {d : D} (h : Pl d) (hb : below 0 d = true) (a b : Int) (M : List MO) : callF F_is_between [d, .int a, .int b] M = .ok (.bl (btwD d a b)) M := c_flat (m_btw h hb a b) M (by simp [belows, hb]) (by simp)
/-- an entry of a calendar for the day -/
def dayB (d : D) (k : Int) : Bool := match d with
  | .tup [x, y] => btwD x 0 12 && (match y with
    | .non => true
    | y => atlD y (k + 1))
  | _ => false
/-- the items of a tuple are plain -/
def PlT2 : D → Prop
  | .tup ds => ∀ d ∈ ds, Pl d
  | .ptu _ => False
  | _ => True
theorem dIsN_pl {M : List MO} {d : D} (h : Pl d) : dIsN M d .non = some (.bl (match d with | .non => true | _ => false)) := by
  cases d with
  | ref k => exact h.elim
  | lam l cl => exact h.elim
  | exn a b c => exact h.elim
  | exv a b c e => exact h.elim
  | _ => rfl
theorem m_isdayP {d : D} (h : Pl d) (h2 : PlT2 d) (hb : below 0 d = true) (k : Int) : F_is_day [d, .int k] [] = .ok (.bl (dayB d k)) [] := by
  obtain ⟨a1, a2, a3, a4, a5, a6, a7⟩ := kb3
  cases d with
  | ref k => exact h.elim
  | lam l cl => exact h.elim
  | exn a b c => exact h.elim
  | exv a b c e => exact h.elim
  | ptu ds => exact h2.elim
  | tup ds =>
    match ds, h2, hb with
    | [], _, _ => simp [F_is_day, b_is_day, runF, dayB]
    | [x], _, _ => simp [F_is_day, b_is_day, runF, dayB]
    | x :: y :: z :: r, _, _ =>
      have e : ¬ ((r.length : Int) + 1 + 1 + 1 = 2) := by omega
      simp [F_is_day, b_is_day, runF, dayB, e]
    | [x, y], h2, hb =>
      have hx : Pl x := h2 x (by simp)
      have hy : Pl y := h2 y (by simp)
      have bb : below 0 x = true ∧ below 0 y = true := by simpa [Bk.below, belows] using hb
      have t1 := c_btw hx bb.1 0 12
      have t2 := c_atl hy bb.2 (k + 1)
      have t3 := fun M => dIsN_pl (M := M) hy
      cases e1 : btwD x 0 12 with
      | false => simp [F_is_day, b_is_day, runF, dayB, t1, e1]
      | true =>
        cases y with
        | ref k => exact hy.elim
        | lam l cl => exact hy.elim
        | exn a b c => exact hy.elim
        | exv a b c e => exact hy.elim
        | non => simp [F_is_day, b_is_day, runF, dayB, t1, e1]
        | _ => simp [F_is_day, b_is_day, runF, dayB, t1, e1, t2, t3]
  | _ => simp [F_is_day, b_is_day, runF, dayB, dIsi, *]
theorem c_isdayP {d : D} (h : Pl d) (h2 : PlT2 d) (hb : below 0 d = true) (k : Int) (M : List MO) : callF F_is_day [d, .int k] M = .ok (.bl (dayB d k)) M := c_flat (m_isdayP h h2 hb k) M (by simp [belows, hb]) (by simp)
end My

set_option Elab.async false
set_option linter.all false
set_option maxRecDepth 100000
set_option maxHeartbeats 4000000
namespace My
open PySem PySem.Spec PyProof.Rows L2 Bk
/-! ### calendars that are none -/
def sqT (t : Bool) (ds : List D) : D := if t = true then .tup ds else .lst ds
@[simp] theorem isT_n (M : List MO) : dIsiT ["list", "tuple"] M .non = some (.bl false) := Eq.trans rfl rfl
@[simp] theorem isT_b (M : List MO) (b : Bool) : dIsiT ["list", "tuple"] M (.bl b) = some (.bl false) := Eq.trans rfl rfl
@[simp] theorem isT_i (M : List MO) (i : Int) : dIsiT ["list", "tuple"] M (.int i) = some (.bl false) := Eq.trans rfl rfl
@[simp] theorem isT_s (M : List MO) (x : Str) : dIsiT ["list", "tuple"] M (.str x) = some (.bl false) := Eq.trans rfl rfl
@[simp] theorem isT_d (M : List MO) (ks vs : List D) : dIsiT ["list", "tuple"] M (.dct ks vs) = some (.bl false) := Eq.trans rfl rfl
@[simp] theorem isT_x (M : List MO) (k : Key) (d : D) : dIsiT ["list", "tuple"] M (.dcx k d) = some (.bl false) := Eq.trans rfl rfl
/-- no list, no tuple -/
def NoSeq : D → Prop
  | .non => True
  | .bl _ => True
  | .int _ => True
  | .str _ => True
  | .dct _ _ => True
  | .dcx _ _ => True
  | _ => False
theorem m_reqcal_no {d : D} (h : NoSeq d) : F_require_calendar [d] [] = .exc 0 (.int (-1)) [] := by
  cases d with
  | non => simp [F_require_calendar, b_require_calendar, runF]
  | bl b => simp [F_require_calendar, b_require_calendar, runF]
  | int b => simp [F_require_calendar, b_require_calendar, runF]
  | str b => simp [F_require_calendar, b_require_calendar, runF]
  | dct b c => simp [F_require_calendar, b_require_calendar, runF]
  | dcx b c => simp [F_require_calendar, b_require_calendar, runF]
  | _ => exact h.elim
theorem m_reqcal_long (t : Bool) {es : List D} (l : 100 < es.length) : F_require_calendar [sqT t es] [] = .exc 0 (.int (-1)) [] := by
  have z : (100 : Int) < es.length := by omega
  cases t <;> simp [sqT, F_require_calendar, b_require_calendar, runF, z]
theorem m_reqcal_bad (t : Bool) {good : List D} {bad : D} {rest : List D} (hl : (good ++ bad :: rest).length ≤ 100) (hg : ∀ d ∈ good, Pl d ∧ PlT2 d ∧ below 0 d = true) (hv : ∀ (i : Nat) d, good[i]? = some d → dayB d (i + 1) = true) (h : Pl bad) (h2 : PlT2 bad) (hb : below 0 bad = true) (nb : dayB bad (good.length + 1) = false) :
    F_require_calendar [sqT t (good ++ bad :: rest)] [] = .exc 0 (.int good.length) [] := by
  generalize hD : sqT t (good ++ bad :: rest) = CD
  have key : ∀ (post : List D) (n : Nat), (∀ d ∈ post, Pl d ∧ PlT2 d ∧ below 0 d = true) → (∀ (i : Nat) d, post[i]? = some d → dayB d ((n + i : Nat) + 1) = true) → n + post.length = good.length →
      ∃ Γ, gForL (gToT (gToCons (gTo 1) (gToCons (gTo 2) (gToNil)))) lb_require_calendar_1 (enumL n (post ++ bad :: rest)) [some CD, none, none] [] = .exc 0 (.int good.length) Γ [] := by
    intro post
    induction post with
    | nil =>
      intro n _ _ e
      simp at e
      subst e
      have t1 := c_isdayP h h2 hb (good.length + 1) []
      rw [nb] at t1
      refine ⟨[some CD, some (.int good.length), some bad], ?_⟩
      simp [enumL, lb_require_calendar_1, t1]
    | cons p post ih =>
      intro n hp hv e
      obtain ⟨a, b, c⟩ := hp p (by simp)
      have h0 := hv 0 p rfl
      simp only [Nat.add_zero] at h0
      have t1 := c_isdayP a b c (n + 1) []
      rw [h0] at t1
      obtain ⟨Γ, e2⟩ := ih (n + 1) (fun d hd => hp d (by simp [hd])) (fun i d hd => by
        have q := hv (i + 1) d (by simpa using hd)
        have e : n + 1 + i = n + (i + 1) := by omega
        rw [e]
        exact q) (by simp at e; omega)
      refine ⟨Γ, ?_⟩
      rw [List.cons_append, enumL]
      refine (forL_cons (Γ1 := [some CD, some (.int n), some p]) (by simp) ?_).trans (by simpa using e2)
      simp [lb_require_calendar_1, t1]
  obtain ⟨Γ, k⟩ := key good 0 hg (by simpa using hv) (by simp)
  have z : ¬ (100 : Int) < ((good ++ bad :: rest).length : Nat) := by omega
  have q1 : ∀ M, dIsiT ["list", "tuple"] M CD = some (.bl true) := fun M => by rw [← hD]; cases t <;> simp [sqT]
  have q2 : ∀ M, dLen M CD = some (.int ((good ++ bad :: rest).length : Nat)) := fun M => by rw [← hD]; cases t <;> simp [sqT]
  have q3 : ∀ M, itemsD M CD = some (good ++ bad :: rest) := fun M => by rw [← hD]; cases t <;> rfl
  have q4 : seqD CD = some (good ++ bad :: rest) := by rw [← hD]; cases t <;> rfl
  generalize good ++ bad :: rest = L at k z q2 q3 q4
  have k0 : gForL (gToT (gToCons (gTo 1) (gToCons (gTo 2) (gToNil)))) lb_require_calendar_1 (enumL 0 L) [some CD, none, none] [] = .exc 0 (.int good.length) Γ [] := k
  simp [F_require_calendar, b_require_calendar, runF, z, q1, q2, q3, q4, k0]
end My

set_option Elab.async false
set_option linter.all false
set_option maxRecDepth 100000
set_option maxHeartbeats 4000000
namespace My
open PySem PySem.Spec PyProof.Rows L2 Bk
/-! ### what is raised, told (calendars) -/
def tellE (c : Nat) (d : D) : D := match c with
  | 0 => .tup [.str (Str.ofString "calendar"), d]
  | 1 => .tup [.str (Str.ofString "row"), d]
  | 2 => .tup [.str (Str.ofString "past"), d]
  | 3 => .tup [.str (Str.ofString "holidays"), d]
  | _ => .tup [.str (Str.ofString "number"), d]
inductive End where
  | ret | err (c : Nat) (d : D)
def tellR : End → D
  | .ret => .tup [.str (Str.ofString "none"), .str (Str.ofString "")]
  | .err c d => tellE c d
/-- the call t at M ends so, the store behind it M1 -/
def Ends1 (t : List MO → Bk.R D) (M : List MO) (e : End) (M1 : List MO) : Prop := match e with
  | .ret => ∃ d, t M = .ok d M1
  | .err c d => c < 5 ∧ t M = .exc c d M1
def one7 (c : Nat) : List D := [.bl (decide (c = 0)), .bl (decide (c = 1)), .bl (decide (c = 3)), .bl (decide (c = 2)), .bl (decide (c = 4)), .bl false, .bl false]
theorem one7_cnt (M : List MO) : ∀ c, c < 5 → dCntD M (.lst (one7 c)) (.bl true) = some (.int 1) := fun c hc => by
  have cs : c = 0 ∨ c = 1 ∨ c = 2 ∨ c = 3 ∨ c = 4 := by omega
  rcases cs with rfl | rfl | rfl | rfl | rfl <;> exact Eq.trans rfl rfl
theorem one7_ix (M : List MO) : dIndex M (.lst (one7 0)) (.bl true) = some (.int 0) ∧ dIndex M (.lst (one7 1)) (.bl true) = some (.int 1) ∧ dIndex M (.lst (one7 3)) (.bl true) = some (.int 2) := ⟨Eq.trans rfl rfl, Eq.trans rfl rfl, Eq.trans rfl rfl⟩
theorem at7 (b0 b1 b2 b3 b4 b5 b6 : D) : atI [b0, b1, b2, b3, b4, b5, b6] 3 = some b3 ∧ atI [b0, b1, b2, b3, b4, b5, b6] 4 = some b4 ∧ atI [b0, b1, b2, b3, b4, b5, b6] 5 = some b5 ∧ atI [b0, b1, b2, b3, b4, b5, b6] 6 = some b6 := ⟨rfl, rfl, rfl, rfl⟩
theorem at3 (b0 b1 b2 : D) : atI [b0, b1, b2] 0 = some b0 ∧ atI [b0, b1, b2] 1 = some b1 ∧ atI [b0, b1, b2] 2 = some b2 := ⟨rfl, rfl, rfl⟩
theorem raised_of {t : List MO → Bk.R D} {M M1 : List MO} {e : End} (h : Ends1 t M e M1) : F_law_raised t M = .ok (tellR e) M1 := by
  cases e with
  | ret =>
    obtain ⟨d, h⟩ := h
    simp [F_law_raised, frA, gAskB, RS.caught2, h, tellR]
  | err c d =>
    obtain ⟨hc, h⟩ := h
    obtain ⟨x0, x1, x3⟩ := one7_ix M1
    have cn := one7_cnt M1
    have sz : 7 ≤ sizeLine := by rw [sizeLine_eq]; omega
    have cs : c = 0 ∨ c = 1 ∨ c = 2 ∨ c = 3 ∨ c = 4 := by omega
    rcases cs with rfl | rfl | rfl | rfl | rfl
    · have cn := cn 0 (by decide)
      simp only [one7] at cn x0 x1 x3
      simp at cn x0 x1 x3
      simp [F_law_raised, frA, gAskB, RS.caught2, pickH2, h, tellR, tellE, errN, gAtV, gIsV2, at7, at3, cn, x0, x1, x3, show 6 ≤ sizeLine by omega, show 3 ≤ sizeLine by omega, show 2 ≤ sizeLine by omega, show 1 ≤ sizeLine by omega, sz]
    · have cn := cn 1 (by decide)
      simp only [one7] at cn x0 x1 x3
      simp at cn x0 x1 x3
      simp [F_law_raised, frA, gAskB, RS.caught2, pickH2, h, tellR, tellE, errN, gAtV, gIsV2, at7, at3, cn, x0, x1, x3, show 6 ≤ sizeLine by omega, show 3 ≤ sizeLine by omega, show 2 ≤ sizeLine by omega, show 1 ≤ sizeLine by omega, sz]
    · have cn := cn 2 (by decide)
      simp only [one7] at cn
      simp at cn
      simp [F_law_raised, frA, gAskB, RS.caught2, pickH2, h, tellR, tellE, errN, gAtV, gIsV2, at7, at3, cn, show 6 ≤ sizeLine by omega, show 3 ≤ sizeLine by omega, show 2 ≤ sizeLine by omega, show 1 ≤ sizeLine by omega, sz]
    · have cn := cn 3 (by decide)
      simp only [one7] at cn x0 x1 x3
      simp at cn x0 x1 x3
      simp [F_law_raised, frA, gAskB, RS.caught2, pickH2, h, tellR, tellE, errN, gAtV, gIsV2, at7, at3, cn, x0, x1, x3, show 6 ≤ sizeLine by omega, show 3 ≤ sizeLine by omega, show 2 ≤ sizeLine by omega, show 1 ≤ sizeLine by omega, sz]
    · have cn := cn 4 (by decide)
      simp only [one7] at cn
      simp at cn
      simp [F_law_raised, frA, gAskB, RS.caught2, pickH2, h, tellR, tellE, errN, gAtV, gIsV2, at7, at3, cn, show 6 ≤ sizeLine by omega, show 3 ≤ sizeLine by omega, show 2 ≤ sizeLine by omega, show 1 ≤ sizeLine by omega, sz]
/-! ### lambdas in a list, asked one by one -/
inductive Asks (tb : LTab) (cl : List (Str × Addr)) (Γ : Bk.Env) : List LSy → List End → List MO → List MO → Prop where
  | nil (M : List MO) : Asks tb cl Γ [] [] M M
  | cons {l : LSy} {g : GE} {e : End} {ls : List LSy} {es : List End} {M M1 M2 : List MO} (ht : tb[l.ix]? = some (l, g)) (h : Ends1 (fun M => g Γ M) M e M1) (r : Asks tb cl Γ ls es M1 M2) : Asks tb cl Γ (l :: ls) (e :: es) M M2
theorem asks_run {tb : LTab} {cl : List (Str × Addr)} {Γ : Bk.Env} {i : Nat} (hi : i < Γ.length) (hn : ∀ x, forget (Γ.set i (some x)) [i] = Γ) : ∀ {ls : List LSy} {es : List End} {M M2 : List MO} (_ : Asks tb cl Γ ls es M M2) (acc : List D), acc.length + ls.length ≤ 1000 →
    gLcL (gTo i) gYes (gAskB2 tb cl F_law_raised [i] i) Γ (ls.map fun l => D.lam l cl) acc M = .ok (acc ++ es.map tellR) M2
  | _, _, _, _, .nil M, acc, _ => by simp [gLcL]
  | _, _, _, _, .cons (l := l) (g := g) (e := e) (ls := ls) (es := es) (M := M) (M1 := M1) (M2 := M2) ht h r, acc, hl => by
    have ih := asks_run hi hn r (acc ++ [tellR e]) (by simp at hl ⊢; omega)
    have sz : acc.length < sizeLine := by rw [sizeLine_eq]; simp at hl; omega
    have st : gAskB2 tb cl F_law_raised [i] i (Γ.set i (some (.lam l cl))) M = .ok (tellR e) M1 := by
      unfold gAskB2
      have e1 : (Γ.set i (some (.lam l cl)))[i]? = some (some (.lam l cl)) := by simp [hi]
      rw [e1]
      simp only [askOf_at ht, hn]
      exact raised_of h
    rw [List.map_cons]
    show gLcL (gTo i) gYes (gAskB2 tb cl F_law_raised [i] i) Γ (.lam l cl :: ls.map fun l => D.lam l cl) acc M = _
    unfold gLcL
    simp only [show gTo i (.lam l cl) Γ = some (Γ.set i (some (.lam l cl))) by simp [hi], u_gYes, R.only, if_true, st, sz]
    rw [ih]
    simp
end My

set_option Elab.async false
set_option linter.all false
set_option maxRecDepth 100000
set_option maxHeartbeats 4000000
namespace My
open PySem PySem.Spec PyProof.Rows L2 Bk
/-! ### rows and pasts that are none -/
def NoTup : D → Prop
  | .non => True
  | .bl _ => True
  | .int _ => True
  | .str _ => True
  | .lst _ => True
  | .dct _ _ => True
  | _ => False
theorem notup_isi {d : D} (h : NoTup d) (M : List MO) : dIsi "tuple" M d = some (.bl false) := by
  obtain ⟨a1, a2, a3, a4, a5, a6, a7⟩ := kb3
  cases d with
  | non => simp [dIsi, *]
  | bl b => simp [dIsi, *]
  | int b => simp [dIsi, *]
  | str b => simp [dIsi, *]
  | lst b => simp [dIsi, *]
  | dct b c => simp [dIsi, *]
  | _ => exact h.elim
theorem m_reqrow_no (CD : D) {d : D} (h : NoTup d) : F_require_row [CD, d] [] = .exc 1 (.int (-1)) [] := by
  simp [F_require_row, b_require_row, runF, notup_isi h]
theorem m_reqrow_len (t : Bool) (c : Cal) {es : List D} (h : es.length ≠ c.length) : F_require_row [calD t c, .tup es] [] = .exc 1 (.int (-1)) [] := by
  have lc : ∀ M, dLen M (calD t c) = some (.int c.length) := fun M => by cases t <;> simp [calD]
  have z : ¬ ((es.length : Int) = c.length) := by omega
  generalize calD t c = CD at *
  simp [F_require_row, b_require_row, runF, lc, z]
theorem m_reqrow_bad (t : Bool) (c : Cal) {good : List Int} {bad : D} {rest : List D} (hl : (good.map D.int ++ bad :: rest).length = c.length) (hg : ∀ i ∈ good, 0 ≤ i) (h : Pl bad) (hb : below 0 bad = true) (nb : atlD bad 0 = false) : F_require_row [calD t c, .tup (good.map D.int ++ bad :: rest)] [] = .exc 1 (.int good.length) [] := by
  have lc : ∀ M, dLen M (calD t c) = some (.int c.length) := fun M => by cases t <;> simp [calD]
  generalize calD t c = CD at *
  generalize hD : D.tup (good.map D.int ++ bad :: rest) = RD
  have key : ∀ (post : List Int) (n : Nat), (∀ i ∈ post, 0 ≤ i) → n + post.length = good.length →
      ∃ Γ, gForL (gToT (gToCons (gTo 2) (gToCons (gTo 3) (gToNil)))) lb_require_row_1 (enumL n (post.map D.int ++ bad :: rest)) [some CD, some RD, none, none] [] = .exc 1 (.int good.length) Γ [] := by
    intro post
    induction post with
    | nil =>
      intro n _ e
      simp at e
      subst e
      have t1 := c_atl h hb 0 []
      rw [nb] at t1
      refine ⟨[some CD, some RD, some (.int good.length), some bad], ?_⟩
      simp [enumL, lb_require_row_1, t1]
    | cons p post ih =>
      intro n hp e
      have h0 := hp p (by simp)
      obtain ⟨Γ, e2⟩ := ih (n + 1) (fun d hd => hp d (by simp [hd])) (by simp at e; omega)
      refine ⟨Γ, ?_⟩
      rw [List.map_cons, List.cons_append, enumL]
      refine (forL_cons (Γ1 := [some CD, some RD, some (.int n), some (.int p)]) (by simp) ?_).trans (by simpa using e2)
      simp [lb_require_row_1, c_atleast, h0]
  obtain ⟨Γ, k⟩ := key good 0 hg (by simp)
  have q1 : ∀ M, dIsi "tuple" M RD = some (.bl true) := fun M => by rw [← hD]; simp
  have q2 : ∀ M, dLen M RD = some (.int c.length) := fun M => by rw [← hD, ← hl]; simp
  have q3 : ∀ M, itemsD M RD = some (good.map D.int ++ bad :: rest) := fun M => by rw [← hD]; rfl
  have q4 : seqD RD = some (good.map D.int ++ bad :: rest) := by rw [← hD]; rfl
  generalize good.map D.int ++ bad :: rest = L at k q3 q4
  have k0 : gForL (gToT (gToCons (gTo 2) (gToCons (gTo 3) (gToNil)))) lb_require_row_1 (enumL 0 L) [some CD, some RD, none, none] [] = .exc 1 (.int good.length) Γ [] := k
  simp [F_require_row, b_require_row, runF, lc, q1, q2, q3, q4, k0]
theorem m_nums_no {d : D} (h : NoTup d) : F_are_numbers [d] [] = .ok (.bl false) [] := by
  simp [F_are_numbers, b_are_numbers, runF, notup_isi h]
/-- entries of any plain kind -/
theorem m_nums_any {es : List D} (hl : es.length ≤ 1000) (h : ∀ d ∈ es, Pl d ∧ below 0 d = true) : F_are_numbers [.tup es] [] = .ok (.bl (es.all fun d => atlD d 0)) [] := by
  have key := lcL_map (gg := gTo 1) (ge := le_are_numbers_1) (Γ := [some (.tup es), none]) (M := []) (f := fun d => .bl (atlD d 0)) es [] (by rw [sizeLine_eq]; simp; omega) fun d hd => by
    have t := c_atl (h d hd).1 (h d hd).2 0
    exact ⟨_, rfl, by simp [le_are_numbers_1, t]⟩
  have e : es.map (fun d => D.bl (atlD d 0)) = (es.map fun d => atlD d 0).map D.bl := by rw [List.map_map]; rfl
  have q : ((es.map fun d => atlD d 0).all id) = es.all fun d => atlD d 0 := by simp [List.all_map]
  rw [e, List.nil_append] at key
  simp [F_are_numbers, b_are_numbers, runF, key, dAll, ofBls, blsD_map, -List.map_map, List.all_map]
theorem m_reqpast_no (CD : D) {d : D} (h : NoTup d) (hb : below 0 d = true) : F_require_past [CD, d] [] = .exc 2 (.int (-1)) [] := by
  have t := fun M => c_flat (m_nums_no h) M (by simp [belows, hb]) (by simp)
  simp [F_require_past, b_require_past, runF, t]
theorem m_reqpast_any (CD : D) {es : List D} (hl : es.length ≤ 1000) (h : ∀ d ∈ es, Pl d ∧ below 0 d = true) (hn : (es.all fun d => atlD d 0) = false) : F_require_past [CD, .tup es] [] = .exc 2 (.int (-1)) [] := by
  have hb : belows 0 es = true := by
    rw [belows_all, List.all_eq_true]
    exact fun d hd => (h d hd).2
  have t := fun M => c_flat (m_nums_any hl h) M (by simp [belows, Bk.below, hb]) (by simp)
  rw [hn] at t
  simp [F_require_past, b_require_past, runF, t]
theorem m_reqpast_long (t : Bool) {c : Cal} {ns : List Int} (hl : ns.length ≤ 1000) (h0 : ∀ n ∈ ns, 0 ≤ n) (h : c.length < ns.length) : F_require_past [calD t c, .tup (ns.map D.int)] [] = .exc 2 (.int (-1)) [] := by
  have c1 := c_flat (m_nums ns hl h0) [] (by simp) (by simp)
  have z : (c.length : Int) < ns.length := by omega
  have lc : ∀ M, dLen M (calD t c) = some (.int c.length) := fun M => by cases t <;> simp [calD]
  generalize calD t c = CD at *
  simp [F_require_past, b_require_past, runF, c1, z, lc]
theorem m_reqpast_day (t : Bool) {c : Cal} {ns : List Int} (hl : ns.length ≤ c.length) (hc : c.length ≤ 100) (h0 : ∀ n ∈ ns, 0 ≤ n) {d : Int} (h : fo c ns 0 c = some d) : F_require_past [calD t c, .tup (ns.map D.int)] [] = .exc 2 (.int d) [] := by
  have c1 := c_flat (m_nums ns (by omega) h0) [] (by simp) (by simp)
  have z : ¬ (c.length : Int) < ns.length := by omega
  have lc : ∀ M, dLen M (calD t c) = some (.int c.length) := fun M => by cases t <;> simp [calD]
  have f := fun M => c_fover t c ns M
  rw [h] at f
  generalize calD t c = CD at *
  simp [F_require_past, b_require_past, runF, c1, z, lc, f, optD]
end My

set_option Elab.async false
set_option linter.all false
set_option maxRecDepth 100000
set_option maxHeartbeats 8000000
namespace My
open PySem PySem.Spec PyProof.Rows L2 Bk
/-! ### how the functions on calendars end -/
section
variable {CD a b c : D} {k : Nat} {x : D}
theorem cal_err {F : List D → List MO → Bk.R D} {CD : D} {i : Int} (h : F_require_calendar [CD] [] = .exc 0 (.int i) []) (hb : below 0 CD = true) : ∀ M, callF F_require_calendar [CD] M = .exc 0 (.int i) M := fun M => c_flatX h M (by simp [belows, hb]) (by simp)
variable {i : Int} (h : F_require_calendar [CD] [] = .exc 0 (.int i) []) (hb : below 0 CD = true)
theorem aw_0 (h : F_require_calendar [CD] [] = .exc 0 (.int i) []) (hb : below 0 CD = true) : F_away [CD, a] [] = .exc 0 (.int i) [] := by
  have t := cal_err (F := F_away) h hb
  simp [F_away, b_away, runF, t]
theorem rd_0 (h : F_require_calendar [CD] [] = .exc 0 (.int i) []) (hb : below 0 CD = true) : F_ready [CD, a] [] = .exc 0 (.int i) [] := by
  have t := cal_err (F := F_away) h hb
  simp [F_ready, b_ready, runF, t]
theorem rs_0 (h : F_require_calendar [CD] [] = .exc 0 (.int i) []) (hb : below 0 CD = true) : F_rest_of [CD, a] [] = .exc 0 (.int i) [] := by
  have t := cal_err (F := F_away) h hb
  simp [F_rest_of, b_rest_of, runF, t]
theorem ff_0 (h : F_require_calendar [CD] [] = .exc 0 (.int i) []) (hb : below 0 CD = true) : F_first_fault [CD, a] [] = .exc 0 (.int i) [] := by
  have t := cal_err (F := F_away) h hb
  simp [F_first_fault, b_first_fault, runF, t]
theorem lo_0 (h : F_require_calendar [CD] [] = .exc 0 (.int i) []) (hb : below 0 CD = true) : F_least_owned [CD, a] [] = .exc 0 (.int i) [] := by
  have t := cal_err (F := F_away) h hb
  simp [F_least_owned, b_least_owned, runF, t]
theorem wp_0 (h : F_require_calendar [CD] [] = .exc 0 (.int i) []) (hb : below 0 CD = true) : F_with_pieces [CD, a, b, c] [] = .exc 0 (.int i) [] := by
  have t := cal_err (F := F_away) h hb
  simp [F_with_pieces, b_with_pieces, runF, t]
end
section
variable {c : Cal} (t : Bool) {p : D} {i : Int}
theorem past_err (h : F_require_past [calD t c, p] [] = .exc 2 (.int i) []) (hb : below 0 p = true) : ∀ M, callF F_require_past [calD t c, p] M = .exc 2 (.int i) M := fun M => c_flatX h M (by simp [belows, hb]) (by simp)
theorem aw_p (hc : OkC c) (h : F_require_past [calD t c, p] [] = .exc 2 (.int i) []) (hb : below 0 p = true) : F_away [calD t c, p] [] = .exc 2 (.int i) [] := by
  have r1 := fun M => c_reqcal t hc M
  have r2 := past_err t h hb
  generalize calD t c = CD at *
  simp [F_away, b_away, runF, r1, r2]
theorem rd_p (hc : OkC c) (h : F_require_past [calD t c, p] [] = .exc 2 (.int i) []) (hb : below 0 p = true) : F_ready [calD t c, p] [] = .exc 2 (.int i) [] := by
  have r1 := fun M => c_reqcal t hc M
  have r2 := past_err t h hb
  generalize calD t c = CD at *
  simp [F_ready, b_ready, runF, r1, r2]
theorem rs_p (hc : OkC c) (h : F_require_past [calD t c, p] [] = .exc 2 (.int i) []) (hb : below 0 p = true) : F_rest_of [calD t c, p] [] = .exc 2 (.int i) [] := by
  have r1 := fun M => c_reqcal t hc M
  have r2 := past_err t h hb
  generalize calD t c = CD at *
  simp [F_rest_of, b_rest_of, runF, r1, r2]
theorem ff_r (hc : OkC c) (h : F_require_row [calD t c, p] [] = .exc 1 (.int i) []) (hb : below 0 p = true) : F_first_fault [calD t c, p] [] = .exc 1 (.int i) [] := by
  have r1 := fun M => c_reqcal t hc M
  have r2 := fun M => c_flatX h M (by simp [belows, hb]) (by simp)
  generalize calD t c = CD at *
  simp [F_first_fault, b_first_fault, runF, r1, r2]
/-- a line that is no row for least_owned -/
def NoRow (c : Cal) (d : D) : Prop := below 0 d = true ∧ ((F_are_numbers [d] [] = .ok (.bl false) []) ∨ ∃ (ns : List Int), d = .tup (ns.map D.int) ∧ (∀ n ∈ ns, 0 ≤ n) ∧ ns.length ≤ 1000 ∧ ns.length ≠ c.length)
theorem lo_step {c : Cal} {d : D} (h : NoRow c d) (x1 x4 x5 : Option D) (j : Int) : lb_least_owned_1 [some (calD t c), x1, some (.int j), some d, x4, x5] [] = .exc 1 (.int j) [some (calD t c), x1, some (.int j), some d, x4, x5] [] := by
  have lc : ∀ M, dLen M (calD t c) = some (.int c.length) := fun M => by cases t <;> simp [calD]
  obtain ⟨hb, h | ⟨ns, rfl, h0, h1, h2⟩⟩ := h
  · have tt := fun M => c_flat h M (by simp [belows, hb]) (by simp)
    generalize calD t c = CD at *
    simp [lb_least_owned_1, tt]
  · have tt := fun M => c_flat (m_nums ns h1 h0) M (by simp) (by simp)
    have z : ¬ ((ns.length : Int) = c.length) := by omega
    generalize calD t c = CD at *
    simp [lb_least_owned_1, tt, lc, z]
theorem lo_no (hc : OkC c) {d : D} (h : d = .non ∨ d = .dct [] []) : F_least_owned [calD t c, d] [] = .exc 1 (.int (-1)) [] := by
  have r1 := fun M => c_reqcal t hc M
  generalize calD t c = CD at *
  rcases h with rfl | rfl <;> simp [F_least_owned, b_least_owned, runF, r1]
theorem lo_first (hc : OkC c) (q : Bool) {d : D} (h : NoRow c d) (rest : List D) : F_least_owned [calD t c, sqT q (d :: rest)] [] = .exc 1 (.int 0) [] := by
  have r1 := fun M => c_reqcal t hc M
  have k := lo_step t h (some (sqT q (d :: rest))) none none 0
  have q1 : ∀ M, dIsiT ["list", "tuple"] M (sqT q (d :: rest)) = some (.bl true) := fun M => by cases q <;> simp [sqT]
  have q4 : seqD (sqT q (d :: rest)) = some (d :: rest) := by cases q <;> rfl
  generalize calD t c = CD at *
  generalize sqT q (d :: rest) = SD at *
  simp [F_least_owned, b_least_owned, runF, r1, q1, q4, enumL, k]
theorem lo_second (hc : OkC c) (q : Bool) {d : D} {ns : List Int} (hn : ∀ n ∈ ns, 0 ≤ n) (hl : ns.length = c.length) (h : NoRow c d) (rest : List D) : F_least_owned [calD t c, sqT q (.tup (ns.map D.int) :: d :: rest)] [] = .exc 1 (.int 1) [] := by
  have r1 := fun M => c_reqcal t hc M
  have lc : ∀ M, dLen M (calD t c) = some (.int c.length) := fun M => by cases t <;> simp [calD]
  have c100 := hc.l
  have tt := fun M => c_flat (m_nums ns (by omega) hn) M (by simp) (by simp)
  have k := lo_step t h (some (sqT q (.tup (ns.map D.int) :: d :: rest))) none none 1
  have q1 : ∀ M, dIsiT ["list", "tuple"] M (sqT q (.tup (ns.map D.int) :: d :: rest)) = some (.bl true) := fun M => by cases q <;> simp [sqT]
  have q4 : seqD (sqT q (.tup (ns.map D.int) :: d :: rest)) = some (.tup (ns.map D.int) :: d :: rest) := by cases q <;> rfl
  have k1 : lb_least_owned_1 [some (calD t c), some (sqT q (.tup (ns.map D.int) :: d :: rest)), some (.int 0), some (.tup (ns.map D.int)), none, none] [] = .nx [some (calD t c), some (sqT q (.tup (ns.map D.int) :: d :: rest)), none, none, none, none] [] := by
    generalize sqT q (.tup (ns.map D.int) :: d :: rest) = SD at *
    generalize calD t c = CD at *
    simp [lb_least_owned_1, tt, lc, hl]
  generalize sqT q (.tup (ns.map D.int) :: d :: rest) = SD at *
  generalize calD t c = CD at *
  generalize D.tup (ns.map D.int) = ND at *
  simp [F_least_owned, b_least_owned, runF, r1, q1, q4, enumL, k1, k]
end
end My

set_option Elab.async false
set_option linter.all false
set_option maxRecDepth 100000
set_option maxHeartbeats 8000000
namespace My
open PySem PySem.Spec PyProof.Rows L2 Bk
/-! ### with_pieces and steady, refused -/
theorem btw_i (a lo hi : Int) (M : List MO) : callF F_is_between [.int a, .int lo, .int hi] M = .ok (.bl (decide (lo ≤ a) && decide (a ≤ hi))) M := c_btw (d := .int a) trivial rfl lo hi M
section
variable {c : Cal} (t : Bool) {f l p : D}
theorem wp_first (hc : OkC c) (hf : Pl f) (hb : below 0 f = true) (h : btwD f 1 c.length = false) : F_with_pieces [calD t c, f, l, p] [] = .exc 4 (.str (Str.ofString "first")) [] := by
  have r1 := fun M => c_reqcal t hc M
  have lc : ∀ M, dLen M (calD t c) = some (.int c.length) := fun M => by cases t <;> simp [calD]
  have r2 := c_btw hf hb 1 c.length
  generalize (c.length : Int) = n at *
  generalize calD t c = CD at *
  simp [F_with_pieces, b_with_pieces, runF, r1, lc, r2, h]
theorem wp_last (hc : OkC c) {a : Int} (ha : 1 ≤ a) (ha2 : a ≤ c.length) (hf : Pl l) (hb : below 0 l = true) (h : btwD l a c.length = false) : F_with_pieces [calD t c, .int a, l, p] [] = .exc 4 (.str (Str.ofString "last")) [] := by
  have r1 := fun M => c_reqcal t hc M
  have lc : ∀ M, dLen M (calD t c) = some (.int c.length) := fun M => by cases t <;> simp [calD]
  have r0 := btw_i a 1 c.length
  have r2 := c_btw hf hb a c.length
  generalize (c.length : Int) = n at *
  generalize calD t c = CD at *
  simp [F_with_pieces, b_with_pieces, runF, r1, lc, r0, r2, h, ha, ha2]
theorem wp_kind (hc : OkC c) {a b : Int} (ha : 1 ≤ a) (hab : a ≤ b) (hb2 : b ≤ c.length) (hf : Pl p) (hb : below 0 p = true) (h : intD p = none) : F_with_pieces [calD t c, .int a, .int b, p] [] = .exc 4 (.str (Str.ofString "pieces")) [] := by
  have r1 := fun M => c_reqcal t hc M
  have lc : ∀ M, dLen M (calD t c) = some (.int c.length) := fun M => by cases t <;> simp [calD]
  have r0 := btw_i a 1 c.length
  have r2 := btw_i b a c.length
  have r3 := c_isintP hf hb
  have a2 : a ≤ c.length := by omega
  generalize (c.length : Int) = n at *
  generalize calD t c = CD at *
  simp [F_with_pieces, b_with_pieces, runF, r1, lc, r0, r2, r3, h, ha, a2, hab, hb2]
end
section
variable {p r d h : D}
theorem st_pieces (hp : Pl p) (hb : below 0 p = true) (n : btwD p 0 12 = false) : F_steady [p, r, d, h] [] = .exc 4 (.str (Str.ofString "pieces")) [] := by
  have r1 := c_btw hp hb 0 12
  simp [F_steady, b_steady, runF, r1, n]
theorem st_repair {i : Int} (h0 : 0 ≤ i) (h1 : i ≤ 12) (hp : Pl r) (hn : r ≠ .non) (hb : below 0 r = true) (n : atlD r 0 = false) : F_steady [.int i, r, d, h] [] = .exc 4 (.str (Str.ofString "repair")) [] := by
  have r1 := btw_i i 0 12
  have r2 := c_atl hp hb 0
  have r3 : ∀ M, dNotN M r .non = some (.bl true) := fun M => by
    cases r with
    | non => exact absurd rfl hn
    | ref k => exact hp.elim
    | lam l cl => exact hp.elim
    | exn a b c => exact hp.elim
    | exv a b c e => exact hp.elim
    | _ => rfl
  simp [F_steady, b_steady, runF, r1, r2, r3, n, h0, h1]
theorem st_days {i : Int} (h0 : 0 ≤ i) (h1 : i ≤ 12) (hr : r = .non ∨ ∃ j : Int, 0 ≤ j ∧ r = .int j) (hd : Pl d) (hb : below 0 d = true) (n : btwD d 0 100 = false) : F_steady [.int i, r, d, h] [] = .exc 4 (.str (Str.ofString "days")) [] := by
  have r1 := btw_i i 0 12
  have r2 := c_btw hd hb 0 100
  rcases hr with rfl | ⟨j, hj, rfl⟩
  · simp [F_steady, b_steady, runF, r1, r2, n, h0, h1]
  · have r3 := c_atl (d := .int j) trivial rfl 0
    have r4 : atlD (.int j) 0 = true := by simpa [atlD] using hj
    simp [F_steady, b_steady, runF, r1, r2, r3, r4, n, h0, h1]
theorem st_hol {i j : Int} (h0 : 0 ≤ i) (h1 : i ≤ 12) {m : Int} (m0 : 0 ≤ m) (m1 : m ≤ 100) (hb : below 0 h = true) (e : F_require_holidays [.int m, h] [] = .exc 3 (.int j) []) : F_steady [.int i, .non, .int m, h] [] = .exc 3 (.int j) [] := by
  have r1 := btw_i i 0 12
  have r2 := btw_i m 0 100
  have r3 := fun M => c_flatX e M (by simp [belows, Bk.below, hb]) (by simp)
  simp [F_steady, b_steady, runF, r1, r2, r3, h0, h1, m0, m1]
end
/-! invalid holidays -/
def hols (m : Int) : List D := [.tup [.non, .int (-1)], .tup [.dct [] [], .int (-1)], .tup [.str (Str.ofString "1"), .int (-1)], .tup [.int 1, .int (-1)], .tup [.lst [.int 0], .int 0], .tup [.lst [.int (m + 1)], .int 0], .tup [.lst [.int 1, .bl true], .int 1], .tup [.tup [.int m, .int m], .int 1],
  .tup [.lst [.int 1, .non, .int 0], .int 1], .tup [.lst [.lst [.int 1]], .int 0], .tup [.lst [.str (Str.ofString "1")], .int 0], .tup [.tup [.int 1, .int 1, .int 1], .int 1]]
theorem hols_bad {m : Int} (m1 : 1 ≤ m) {d : D} (hd : d ∈ hols m) : ∃ H j, d = .tup [H, .int j] ∧ below 0 H = true ∧ F_require_holidays [.int m, H] [] = .exc 3 (.int j) [] := by
  have b1 := fun M => btw_i 1 1 m M
  have b2 := fun M => btw_i m 1 m M
  have b0 := fun M => btw_i 0 1 m M
  have b3 := fun M => btw_i (m + 1) 1 m M
  have bt := fun M => c_btw (d := .bl true) trivial rfl 1 m M
  have bn := fun M => c_btw (d := .non) trivial rfl 1 m M
  have bl := fun M => c_btw (d := .lst [.int 1]) trivial rfl 1 m M
  have bs := fun M => c_btw (d := .str (Str.ofString "1")) trivial rfl 1 m M
  have z : ¬ (m + 1 ≤ m) := by omega
  have cu0 : ∀ (M : List MO) (x : D) (xs : List D), dCut M none (some 0) (.lst (x :: xs)) = some (.lst []) := fun M x xs => by
    have := cutD_upto (ds := x :: xs) (n := 0)
    simp only [dCut, listD, Option.map_some]
    exact congrArg (fun l => some (D.lst l)) this
  have cu1 : ∀ (M : List MO) (x : D) (xs : List D), dCut M none (some 1) (.lst (x :: xs)) = some (.lst [x]) := fun M x xs => by
    have := cutD_upto (ds := x :: xs) (n := 1)
    simp only [dCut, listD, Option.map_some]
    exact congrArg (fun l => some (D.lst l)) this
  have ct0 : ∀ (M : List MO) (x : D) (xs : List D), dCut M none (some 0) (.tup (x :: xs)) = some (.tup []) := fun M x xs => by
    have := cutD_upto (ds := x :: xs) (n := 0)
    simp only [dCut]
    exact congrArg (fun l => some (D.tup l)) this
  have ct1 : ∀ (M : List MO) (x : D) (xs : List D), dCut M none (some 1) (.tup (x :: xs)) = some (.tup [x]) := fun M x xs => by
    have := cutD_upto (ds := x :: xs) (n := 1)
    simp only [dCut]
    exact congrArg (fun l => some (D.tup l)) this
  simp only [hols, List.mem_cons, List.not_mem_nil, or_false] at hd
  have in0 : ∀ M (i : Int), dIn M (.int i) (.lst []) = some (.bl false) := fun M i => Eq.trans rfl rfl
  have int0 : ∀ M (i : Int), dIn M (.int i) (.tup []) = some (.bl false) := fun M i => Eq.trans rfl rfl
  have int1 : ∀ M (i : Int), dIn M (.int i) (.tup [.int i]) = some (.bl true) := fun M i => by
    have := e_inT M i [i]
    simpa using this
  rcases hd with rfl | rfl | rfl | rfl | rfl | rfl | rfl | rfl | rfl | rfl | rfl | rfl
  all_goals (refine ⟨_, _, rfl, by simp [Bk.below, belows], ?_⟩)
  all_goals (simp [F_require_holidays, b_require_holidays, lb_require_holidays_1, runF, enumL, b0, b1, b2, b3, bt, bn, bl, bs, btwD, z, m1, cu0, cu1, ct0, ct1, in0, int0, int1])
end My

set_option Elab.async false
set_option linter.all false
set_option maxRecDepth 100000
set_option maxHeartbeats 8000000
namespace My
open PySem PySem.Spec PyProof.Rows L2 Bk
/-! ### with_pieces: too many or too few pieces; steady: the bounds -/
def addL (f l p : Int) : Nat → Cal → Cal
  | _, [] => []
  | i, e :: r => (e.1 + p * (if f ≤ (i : Int) + 1 ∧ (i : Int) + 1 ≤ l then 1 else 0), e.2) :: addL f l p (i + 1) r
theorem addL_length (f l p : Int) : ∀ (i : Nat) (r : Cal), (addL f l p i r).length = r.length
  | _, [] => rfl
  | i, e :: r => by simp [addL, addL_length f l p (i + 1) r]
theorem wp_range (t : Bool) {c : Cal} {f l p : Int} (hc : OkC c) (h1 : 1 ≤ f) (h2 : f ≤ l) (h3 : l ≤ c.length) (hr : ∃ e ∈ addL f l p 0 c, e.1 < 0 ∨ 12 < e.1) : F_with_pieces [calD t c, .int f, .int l, .int p] [] = .exc 4 (.str (Str.ofString "pieces")) [] := by
  have sz : 1000 ≤ sizeLine := by rw [sizeLine_eq]; omega
  have hl := hc.l
  have key : ∀ (post : Cal) (i : Nat) (acc : List D), acc.length + post.length ≤ 100 →
      gLcL (gToT (gToCons (gTo 5) (gToCons (gToT (gToCons (gTo 6) (gToCons (gTo 7) (gToNil)))) (gToNil)))) gYes le_with_pieces_1 [some (calD t c), some (.int f), some (.int l), some (.int p), none, none, none, none] (enumL ((i : Int) + 1) (post.map entD)) acc [] = .ok (acc ++ (addL f l p i post).map entD) [] := by
    intro post
    induction post with
    | nil => intro i acc _; simp [enumL, addL, gLcL]
    | cons e post ih =>
      intro i acc hq
      obtain ⟨o, b⟩ := e
      simp only [List.length_cons] at hq
      have ih2 := ih (i + 1) (acc ++ [entD (o + p * (if f ≤ (i : Int) + 1 ∧ (i : Int) + 1 ≤ l then 1 else 0), b)]) (by simp; omega)
      have e3 : ((i + 1 : Nat) : Int) + 1 = (i : Int) + 1 + 1 := by omega
      rw [e3] at ih2
      rw [List.map_cons, enumL]
      refine (lcL_cons (Γ1 := [some (calD t c), some (.int f), some (.int l), some (.int p), none, some (.int ((i : Int) + 1)), some (.int o), some (optD b)]) (y := entD (o + p * (if f ≤ (i : Int) + 1 ∧ (i : Int) + 1 ≤ l then 1 else 0), b)) (M2 := []) (by simp [entD]) ?_ (by omega)).trans (ih2.trans (by simp [addL]))
      have m0 : mulOk p 0 = true := mulOk_r p (by decide) (by decide)
      have m1 : mulOk p 1 = true := mulOk_r p (by decide) (by decide)
      by_cases q1 : f ≤ (i : Int) + 1
      · by_cases q2 : (i : Int) + 1 ≤ l <;> simp [le_with_pieces_1, entD, q1, q2, e_mul, m0, m1]
      · simp [le_with_pieces_1, entD, q1, e_mul, m0, m1]
  have k := key c 0 [] (by simp; omega)
  rw [List.nil_append] at k
  have k0 : gLcL (gToT (gToCons (gTo 5) (gToCons (gToT (gToCons (gTo 6) (gToCons (gTo 7) (gToNil)))) (gToNil)))) gYes le_with_pieces_1 [some (calD t c), some (.int f), some (.int l), some (.int p), none, none, none, none] (enumL 1 (c.map entD)) [] [] = _ := k
  have kb := lcL_run (gg := gToT (gToCons (gTo 6) (gToCons (gTo 7) (gToNil)))) (ge := le_with_pieces_2) (Γ := [some (calD t c), some (.int f), some (.int l), some (.int p), some (.lst ((addL f l p 0 c).map entD)), none, none, none]) (M := []) entD (fun e => D.bl (decide (0 ≤ e.1) && decide (e.1 ≤ 12))) (addL f l p 0 c) [] (by simp [addL_length]; omega) fun e he =>
    ⟨[some (calD t c), some (.int f), some (.int l), some (.int p), some (.lst ((addL f l p 0 c).map entD)), none, some (.int e.1), some (optD e.2)], by simp [entD], by by_cases a : 0 ≤ e.1 <;> simp [le_with_pieces_2, a]⟩
  rw [List.nil_append] at kb
  have al' : ∀ M, dAll M (.lst ((addL f l p 0 c).map fun e => D.bl (decide (0 ≤ e.1) && decide (e.1 ≤ 12)))) = some (.bl false) := fun M => by
    have e : ((addL f l p 0 c).map fun e => D.bl (decide (0 ≤ e.1) && decide (e.1 ≤ 12))) = ((addL f l p 0 c).map fun e => (decide (0 ≤ e.1) && decide (e.1 ≤ 12))).map D.bl := by rw [List.map_map]; rfl
    have q : ((addL f l p 0 c).map fun e => (decide (0 ≤ e.1) && decide (e.1 ≤ 12))).all id = false := by
      obtain ⟨x, hx, h⟩ := hr
      rw [List.all_eq_false]
      refine ⟨_, List.mem_map_of_mem hx, ?_⟩
      rcases h with h | h <;> simp <;> omega
    rw [e]
    simp only [dAll, ofBls, listD, Option.bind_some, blsD_map, Option.map_some, q]
  have ci : ∀ i M, callF F_is_integer [.int i] M = .ok (.bl true) M := fun i M => c_flat (m_isint i) M (by simp) (by simp)
  have hfl : f ≤ (c.length : Int) := by omega
  generalize ((addL f l p 0 c).map fun e => D.bl (decide (0 ≤ e.1) && decide (e.1 ≤ 12))) = BL at *
  generalize addL f l p 0 c = A at *
  simp [F_with_pieces, b_with_pieces, runF, c_reqcal t hc, c_between, ci, h1, h2, h3, hfl, k0, kb, al']
theorem st_ok (M : List MO) : ∃ d, callF F_steady [.int 12, .int 1000000000000000000000000000000, .int 100, .tup []] M = .ok d M :=
  ⟨_, c_steadyS (p := 12) (r := 1000000000000000000000000000000) (n := 100) (by decide) (by decide) (by decide) false M⟩
end My

set_option Elab.async false
set_option linter.all false
set_option maxRecDepth 100000
set_option maxHeartbeats 8000000
namespace My
open PySem PySem.Spec PyProof.Rows L2 Bk
/-! ### invalid calendars, drawn -/
theorem ix_at (ds : List D) (k : Nat) (h : k < ds.length) (M : List MO) : dIx M (.lst ds) (.int (k : Int)) = some ds[k] := by
  simp [Bk.atI_nat, h]
theorem ix_draw (ds : List D) (s : Src3) {n : Int} (h0 : 0 < n) (h : (ds.length : Int) = n) : ∃ d ∈ ds, ∀ M, dIx M (.lst ds) (.int (tk s n)) = some d := by
  have a := tk_lo s h0
  have b := tk_hi s h0
  obtain ⟨k, hk⟩ := Int.eq_ofNat_of_zero_le a
  have c : k < ds.length := by omega
  exact ⟨ds[k], List.getElem_mem c, fun M => by rw [hk]; exact ix_at ds k c M⟩
theorem okc_day {c : Cal} (hc : OkC c) {i : Nat} {p : Int × Option Int} (h : c[i]? = some p) : dayB (entD p) (i + 1) = true := by
  obtain ⟨x, y⟩ := p
  have v := hc.v i _ h
  obtain ⟨v1, v2, v3⟩ := v
  cases y with
  | none => simpa [dayB, entD, optD, btwD] using ⟨v1, v2⟩
  | some b =>
    have := v3 b rfl
    simpa [dayB, entD, optD, btwD, atlD] using ⟨⟨v1, v2⟩, this⟩
theorem ent_pl (p : Int × Option Int) : Pl (entD p) ∧ PlT2 (entD p) ∧ below 0 (entD p) = true := by
  obtain ⟨x, y⟩ := p
  cases y <;> simp [Pl, PlT2, entD, optD, Bk.below, belows]
def OddC (d : D) (a : Int) : Prop := Pl d ∧ PlT2 d ∧ below 0 d = true ∧ dayB d (a + 1) = false
theorem bentC (t : Bool) {c : Cal} (hc : OkC c) {a : Int} (a0 : 0 ≤ a) (a1 : a < c.length + 1) {bad : D} (h : OddC bad a) {rest : List D} (hr : belows 0 rest = true) (hl : c.length + 1 + rest.length ≤ 100) : F_require_calendar [sqT t ((c.map entD).take a.toNat ++ (bad :: rest))] [] = .exc 0 (.int a) [] ∧ belows 0 ((c.map entD).take a.toNat ++ (bad :: rest)) = true := by
  obtain ⟨h1, h2, h3, h4⟩ := h
  have lt : ((c.map entD).take a.toNat).length = a.toNat := by simp; omega
  have al : ∀ d ∈ c.map entD, Pl d ∧ PlT2 d ∧ below 0 d = true := fun d hd => by
    obtain ⟨p, _, rfl⟩ := List.mem_map.mp hd
    exact ent_pl p
  have k := m_reqcal_bad t (good := (c.map entD).take a.toNat) (bad := bad) (rest := rest) (by simp; omega) (fun d hd => al d (List.mem_of_mem_take hd)) (fun i d hd => by
    rw [List.getElem?_take] at hd
    split at hd
    · rw [List.getElem?_map] at hd
      cases e : c[i]? with
      | none => rw [e] at hd; cases hd
      | some p =>
        rw [e] at hd
        cases hd
        exact okc_day hc e
    · cases hd) h1 h2 h3 (by rw [lt]; rw [show ((a.toNat : Nat) : Int) = a by omega]; exact h4)
  rw [lt] at k
  rw [show ((a.toNat : Nat) : Int) = a by omega] at k
  refine ⟨k, ?_⟩
  rw [belows_all, List.all_eq_true] at hr ⊢
  intro d hd
  simp only [List.mem_append, List.mem_cons] at hd
  rcases hd with hd | rfl | hd
  · exact (al d (List.mem_of_mem_take hd)).2.2
  · exact h3
  · exact hr d hd
def oddsC (a : Int) : List D := [.non, .lst [.int 1, .non], .tup [.int 1], .tup [.int 1, .non, .int 1], .tup [.int (-1), .non], .tup [.int 13, .non], .tup [.bl true, .non], .tup [.non, .non], .tup [.str (Str.ofString "1"), .non],
  .tup [.int 1, .int (a + 1)], .tup [.int 1, .int 0], .tup [.int 1, .int (-5)], .tup [.int 1, .bl true], .tup [.int 1, .str (Str.ofString "9")], .tup [.int 1, .lst [.int 9]], .tup [.lst [.int 1], .non], .dct [] [], .int 7]
theorem oddsC_odd {a : Int} (a0 : 0 ≤ a) {d : D} (h : d ∈ oddsC a) : OddC d a := by
  simp only [oddsC, List.mem_cons, List.not_mem_nil, or_false] at h
  rcases h with rfl | rfl | rfl | rfl | rfl | rfl | rfl | rfl | rfl | rfl | rfl | rfl | rfl | rfl | rfl | rfl | rfl | rfl
  all_goals (simp [OddC, Pl, PlT2, dayB, btwD, atlD, Bk.below, belows] <;> omega)
def wholeC : List D := [.non, .str (Str.ofString ""), .dct [] [], .int 5, .lst (List.replicate 101 (.tup [.int 1, .non])), .tup (List.replicate 100 (.tup [.int 1, .non]) ++ [.non]), .bl true, .dcx (.inl 1) .non]
theorem wholeC_bad {d : D} (h : d ∈ wholeC) : F_require_calendar [d] [] = .exc 0 (.int (-1)) [] ∧ below 0 d = true := by
  have rb : ∀ n, belows 0 (List.replicate n (D.tup [.int 1, .non])) = true := fun n => by
    rw [belows_all, List.all_eq_true]
    intro x hx
    rw [(List.mem_replicate.mp hx).2]
    rfl
  simp only [wholeC, List.mem_cons, List.not_mem_nil, or_false] at h
  rcases h with rfl | rfl | rfl | rfl | rfl | rfl | rfl | rfl
  · exact ⟨m_reqcal_no trivial, rfl⟩
  · exact ⟨m_reqcal_no trivial, rfl⟩
  · exact ⟨m_reqcal_no trivial, rfl⟩
  · exact ⟨m_reqcal_no trivial, rfl⟩
  · exact ⟨m_reqcal_long false (by simp), rb 101⟩
  · refine ⟨m_reqcal_long true (by simp), ?_⟩
    show belows 0 _ = true
    have := rb 100
    rw [belows_all] at this ⊢
    rw [List.all_append, this]
    rfl
  · exact ⟨m_reqcal_no trivial, rfl⟩
  · exact ⟨m_reqcal_no trivial, rfl⟩
end My

set_option Elab.async false
set_option linter.all false
set_option maxRecDepth 100000
set_option maxHeartbeats 16000000
namespace My
open PySem PySem.Spec PyProof.Rows L2 Bk
theorem add_few {a b : List D} (M : List MO) (h : a.length + b.length ≤ 2000) : dAdd M (.lst a) (.lst b) = some (.lst (a ++ b)) := by
  rw [e_addL, if_pos (by rw [sizeLine_eq]; omega)]
theorem mul_few (M : List MO) (ds : List D) (k : Int) (h1 : 0 ≤ k) (h2 : k ≤ 200) (h3 : ds.length ≤ 1000) : dMulA M (.lst ds) (.int k) = some (.lst (List.replicate k.toNat ds).flatten) := by
  refine e_mulL M ds k (by omega) (by omega) ?_
  have z : k.toNat ≤ 200 := by omega
  have := Nat.mul_le_mul h3 z
  rw [sizeLine_eq]
  omega
theorem tpl (M : List MO) (ds : List D) : dTuple M (.lst ds) = some (.tup ds) := Eq.trans rfl rfl
theorem m_bad_stock {c : Cal} (hc : OkC c) (hl : c.length ≤ 90) (s : Src3) : ∃ (CD : D) (i : Int) (s' : Src3), F_law_bad_stock [.ref 0, .lst (c.map entD)] [srcO s] = .ok (.tup [CD, .int i]) [srcO s'] ∧ F_require_calendar [CD] [] = .exc 0 (.int i) [] ∧ below 0 CD = true := by
  have e1 := t_0 s ((c.length : Int) + 1) [] (by omega) (by omega)
  have a0 := tk_lo s (n := (c.length : Int) + 1) (by omega)
  have a1 := tk_hi s (n := (c.length : Int) + 1) (by omega)
  generalize tk s ((c.length : Int) + 1) = a at *
  generalize tn s ((c.length : Int) + 1) = s1 at *
  have e2 := t_0 s1 3 [] (by decide) (by decide)
  have lC : ∀ M, dLen M (.lst (c.map entD)) = some (.int c.length) := fun M => by simp
  have sz : 101 ≤ sizeLine := by rw [sizeLine_eq]; omega
  have sb : ∀ s : Src3, belowO 0 (srcO s) = true := fun s => rfl
  by_cases z : tk s1 3 = 0
  · obtain ⟨w, hw, ew⟩ := ix_draw wholeC (tn s1 3) (n := 8) (by decide) rfl
    have e3 := t_0 (tn s1 3) 8 [] (by decide) (by decide)
    obtain ⟨h1, h2⟩ := wholeC_bad hw
    have hb1 := below_up (m := 1) w h2
    refine ⟨w, -1, tn (tn s1 3) 8, ?_, h1, h2⟩
    simp [-e_ix, wholeC, List.replicate] at ew
    generalize c.map entD = CE at *
    rw [z] at e2
    simp [-e_ix, -e_addL, sz, add_few, mul_few, F_law_bad_stock, b_law_bad_stock, runF, lC, e1, e2, e3, ew, List.replicate, fin, cutOk, retR, sb, Bk.below, belows, h2, hb1]
  · obtain ⟨bad, hb, eb⟩ := ix_draw (oddsC a) (tn s1 3) (n := 18) (by decide) rfl
    have ho := oddsC_odd a0 hb
    have e3 := t_0 (tn s1 3) 18 [] (by decide) (by decide)
    generalize tk (tn s1 3) 18 = k3 at *
    generalize tn (tn s1 3) 18 = s3 at *
    have e4 := t_0 s3 2 [] (by decide) (by decide)
    have b0 := tk_lo s3 (n := 2) (by decide)
    have b1 := tk_hi s3 (n := 2) (by decide)
    generalize tk s3 2 = k4 at *
    generalize tn s3 2 = s4 at *
    have e5 := t_0 s4 2 [] (by decide) (by decide)
    obtain ⟨r1, r2⟩ := bentC false hc a0 a1 ho (rest := List.replicate k4.toNat .non) (by rw [belows_all, List.all_eq_true]; intro x hx; rw [(List.mem_replicate.mp hx).2]; rfl) (by simp; omega)
    have q1 := fun t => (bentC t hc a0 a1 ho (rest := List.replicate k4.toNat .non) (by rw [belows_all, List.all_eq_true]; intro x hx; rw [(List.mem_replicate.mp hx).2]; rfl) (by simp; omega)).1
    obtain ⟨w, hw, ew⟩ := ix_draw [.lst ((c.map entD).take a.toNat ++ (bad :: List.replicate k4.toNat .non)), .tup ((c.map entD).take a.toNat ++ (bad :: List.replicate k4.toNat .non))] s4 (n := 2) (by decide) rfl
    have hw2 : F_require_calendar [w] [] = .exc 0 (.int a) [] ∧ below 0 w = true := by
      simp only [List.mem_cons, List.not_mem_nil, or_false] at hw
      rcases hw with rfl | rfl
      · exact ⟨q1 false, r2⟩
      · exact ⟨q1 true, r2⟩
    have hb1 := below_up (m := 1) w hw2.2
    refine ⟨w, a, tn s4 2, ?_, hw2.1, hw2.2⟩
    have cu : ∀ M, dCut M none (some a) (.lst (c.map entD)) = some (.lst ((c.map entD).take a.toNat)) := fun M => by
      have e : a = ((a.toNat : Nat) : Int) := by omega
      rw [e]
      simp only [dCut, listD, Option.map_some, cutD_upto, Int.toNat_natCast]
    have lP : ((c.map entD).take a.toNat).length ≤ 100 := by simp; omega
    have mk : ∀ M, dMulA M (.lst [.non]) (.int k4) = some (.lst (List.replicate k4.toNat .non)) := fun M => by
      rw [mul_few M [.non] k4 b0 (by omega) (by simp)]
      simp
    have lR : (List.replicate k4.toNat D.non).length ≤ 2 := by simp; omega
    simp only [oddsC] at eb
    generalize (c.map entD).take a.toNat = P at *
    generalize c.map entD = CE at *
    generalize List.replicate k4.toNat D.non = RN at *
    have ad1 : ∀ M, dAdd M (.lst P) (.lst [bad]) = some (.lst (P ++ [bad])) := fun M => add_few M (by simp; omega)
    have ad2 : ∀ M, dAdd M (.lst (P ++ [bad])) (.lst RN) = some (.lst (P ++ bad :: RN)) := fun M => by rw [add_few M (by simp; omega)]; simp
    simp [-e_ix, -e_addL, sz, add_few, ad1, ad2, mk, mul_few, tpl, cu, F_law_bad_stock, b_law_bad_stock, runF, lC, e1, e2, e3, e4, e5, z, eb, ew, List.replicate, fin, cutOk, retR, sb, Bk.below, belows, hw2.2, hb1]
end My

set_option Elab.async false
set_option linter.all false
set_option maxRecDepth 100000
set_option maxHeartbeats 16000000
namespace My
open PySem PySem.Spec PyProof.Rows L2 Bk
/-! ### invalid rows, drawn -/
def zer (n : Nat) : List D := (List.replicate n (0 : Int)).map D.int
theorem zer_len (n : Nat) : (zer n).length = n := by simp [zer]
theorem zer_take (n k : Nat) (h : k ≤ n) : (zer n).take k = zer k := by simp [zer, Nat.min_eq_left h]
theorem zer_drop (n k : Nat) : (zer n).drop k = zer (n - k) := by simp [zer]
theorem zer_below (m n : Nat) : belows m (zer n) = true := by
  rw [belows_all, List.all_eq_true]
  intro d hd
  obtain ⟨i, _, rfl⟩ := List.mem_map.mp hd
  rfl
def odds8 : List D := [.int (-1), .bl true, .non, .str (Str.ofString "0"), .tup [.int 0], .lst [.int 0], .dct [] [], .int (-1000000000000000000000000000000)]
theorem odds8_bad {d : D} (h : d ∈ odds8) : Pl d ∧ below 0 d = true ∧ atlD d 0 = false := by
  simp only [odds8, List.mem_cons, List.not_mem_nil, or_false] at h
  rcases h with rfl | rfl | rfl | rfl | rfl | rfl | rfl | rfl <;> simp [Pl, atlD, Bk.below, belows]
/-- a line that is no row of n days, and the place told -/
def BadL (n : Nat) (L : D) (i : Int) : Prop := below 0 L = true ∧ (∀ (t : Bool) (c : Cal), c.length = n → F_require_row [calD t c, L] [] = .exc 1 (.int i) []) ∧ ∀ c : Cal, c.length = n → NoRow c L
theorem badL_no {n : Nat} {L : D} (h : NoTup L) (hb : below 0 L = true) : BadL n L (-1) := ⟨hb, fun t c _ => m_reqrow_no _ h, fun c _ => ⟨hb, .inl (m_nums_no h)⟩⟩
theorem badL_len {n m : Nat} (hm : m ≤ 1000) (h : m ≠ n) : BadL n (.tup (zer m)) (-1) := by
  refine ⟨zer_below 0 m, fun t c hc => m_reqrow_len t c (by rw [zer_len]; omega), fun c hc => ⟨zer_below 0 m, .inr ⟨List.replicate m 0, rfl, fun n hn => by rw [(List.mem_replicate.mp hn).2]; decide, by simpa using hm, by simp; omega⟩⟩⟩
theorem badL_odd {n a : Nat} (hn : n ≤ 100) (ha : a < n) {odd : D} (h : Pl odd ∧ below 0 odd = true ∧ atlD odd 0 = false) {rest : List D} (hr : ∀ d ∈ rest, Pl d ∧ below 0 d = true) (hl : a + 1 + rest.length = n) : BadL n (.tup (zer a ++ odd :: rest)) (a : Int) := by
  obtain ⟨h1, h2, h3⟩ := h
  have all : ∀ d ∈ zer a ++ odd :: rest, Pl d ∧ below 0 d = true := fun d hd => by
    rcases List.mem_append.mp hd with hd | hd
    · obtain ⟨i, _, rfl⟩ := List.mem_map.mp hd
      exact ⟨trivial, rfl⟩
    · rcases List.mem_cons.mp hd with rfl | hd
      · exact ⟨h1, h2⟩
      · exact hr d hd
  have hb : belows 0 (zer a ++ odd :: rest) = true := by
    rw [belows_all, List.all_eq_true]
    exact fun d hd => (all d hd).2
  refine ⟨hb, fun t c hc => ?_, fun c hc => ⟨hb, .inl ?_⟩⟩
  · have := m_reqrow_bad t c (good := List.replicate a 0) (bad := odd) (rest := rest) (by simp; omega) (fun i hi => by rw [(List.mem_replicate.mp hi).2]; decide) h1 h2 h3
    simpa [zer] using this
  · have e : ((zer a ++ odd :: rest).all fun d => atlD d 0) = false := by
      rw [List.all_eq_false]
      exact ⟨odd, by simp, by rw [h3]; decide⟩
    have := m_nums_any (es := zer a ++ odd :: rest) (by simp [zer_len]; omega) all
    rw [e] at this
    exact this
def linesL (n a : Nat) (odd : D) : List D := [.tup [.non, .int (-1)], .tup [.lst (zer n), .int (-1)], .tup [.tup (zer n ++ [.int 0]), .int (-1)], .tup [.tup (zer (n - 1)), .int (-1)], .tup [.dct [] [], .int (-1)], .tup [.str (strRep (Str.ofString "0") n), .int (-1)],
  .tup [.tup (zer a ++ odd :: zer (n - (a + 1))), .int a], .tup [.tup (zer a ++ List.replicate (n - a) odd), .int a], .tup [.tup (zer a ++ odd :: zer (n - (a + 1))), .int a], .tup [.tup (zer a ++ List.replicate (n - a) odd), .int a], .tup [.tup (zer a ++ odd :: zer (n - (a + 1))), .int a], .tup [.tup (zer a ++ List.replicate (n - a) odd), .int a]]
theorem linesL_bad {n a : Nat} (hn : n ≤ 100) (ha : a < n) {odd d : D} (ho : odd ∈ odds8) (h : d ∈ linesL n a odd) : ∃ L i, d = .tup [L, .int i] ∧ BadL n L i := by
  have o := odds8_bad ho
  have e1 : zer n ++ [.int 0] = zer (n + 1) := by simp [zer, List.replicate_succ']
  have c1 : BadL n (.tup (zer a ++ odd :: zer (n - (a + 1)))) a := badL_odd hn ha o (fun d hd => by obtain ⟨i, _, rfl⟩ := List.mem_map.mp hd; exact ⟨trivial, rfl⟩) (by rw [zer_len]; omega)
  have c2 : BadL n (.tup (zer a ++ List.replicate (n - a) odd)) a := by
    obtain ⟨k, hk⟩ : ∃ k, n - a = k + 1 := ⟨n - a - 1, by omega⟩
    rw [hk, List.replicate_succ]
    exact badL_odd hn ha o (fun d hd => by rw [(List.mem_replicate.mp hd).2]; exact ⟨o.1, o.2.1⟩) (by simp; omega)
  simp only [linesL, List.mem_cons, List.not_mem_nil, or_false] at h
  rcases h with rfl | rfl | rfl | rfl | rfl | rfl | rfl | rfl | rfl | rfl | rfl | rfl
  · exact ⟨_, _, rfl, badL_no trivial rfl⟩
  · exact ⟨_, _, rfl, badL_no trivial (zer_below 0 n)⟩
  · exact ⟨_, _, rfl, by rw [e1]; exact badL_len (by omega) (by omega)⟩
  · exact ⟨_, _, rfl, badL_len (by omega) (by omega)⟩
  · exact ⟨_, _, rfl, badL_no trivial rfl⟩
  · exact ⟨_, _, rfl, badL_no trivial rfl⟩
  · exact ⟨_, _, rfl, c1⟩
  · exact ⟨_, _, rfl, c2⟩
  · exact ⟨_, _, rfl, c1⟩
  · exact ⟨_, _, rfl, c2⟩
  · exact ⟨_, _, rfl, c1⟩
  · exact ⟨_, _, rfl, c2⟩
end My

set_option Elab.async false
set_option linter.all false
set_option maxRecDepth 100000
set_option maxHeartbeats 16000000
namespace My
open PySem PySem.Spec PyProof.Rows L2 Bk
theorem tcut_to (M : List MO) (ds : List D) (k : Nat) : dCut M none (some (k : Int)) (.tup ds) = some (.tup (ds.take k)) := by
  simp only [dCut, cutD_upto]
theorem tcut_from (M : List MO) (ds : List D) (k : Nat) : dCut M (some (k : Int)) none (.tup ds) = some (.tup (ds.drop k)) := by
  simp only [dCut, cutD_from]
theorem mul_one (M : List MO) (d : D) {k : Int} (h0 : 0 ≤ k) (h1 : k ≤ 1000) : dMulT M (.tup [d]) (.int k) = some (.tup (List.replicate k.toNat d)) := by
  rw [e_mulT M d [] k (by omega) h1 (by simp)]
  simp
theorem tadd_few {a b : List D} (M : List MO) (h : a.length + b.length ≤ 2000) : dAdd M (.tup a) (.tup b) = some (.tup (a ++ b)) := by
  first
  | exact (if_pos (show a.length + b.length ≤ sizeLine by rw [sizeLine_eq]; omega))
  | simp [show a.length + b.length ≤ sizeLine by rw [sizeLine_eq]; omega]
theorem m_bad_line {n : Nat} (n1 : 1 ≤ n) (hn : n ≤ 100) (s : Src3) : ∃ (L : D) (i : Int) (s' : Src3), F_law_bad_line [.ref 0, .tup (zer n)] [srcO s] = .ok (.tup [L, .int i]) [srcO s'] ∧ BadL n L i := by
  have e1 := t_0 s 8 [] (by decide) (by decide)
  obtain ⟨odd, ho, eo⟩ := ix_draw odds8 s (n := 8) (by decide) rfl
  have o := odds8_bad ho
  generalize tk s 8 = k1 at *
  generalize tn s 8 = s1 at *
  have e2 := t_0 s1 (n : Int) [] (by omega) (by omega)
  have a0 := tk_lo s1 (n := (n : Int)) (by omega)
  have a1 := tk_hi s1 (n := (n : Int)) (by omega)
  generalize tk s1 (n : Int) = ai at *
  generalize tn s1 (n : Int) = s2 at *
  obtain ⟨a, rfl⟩ := Int.eq_ofNat_of_zero_le a0
  have ha : a < n := by omega
  have e3 := t_0 s2 12 [] (by decide) (by decide)
  obtain ⟨d, hd, ed⟩ := ix_draw (linesL n a odd) s2 (n := 12) (by decide) rfl
  obtain ⟨L, i, rfl, hL⟩ := linesL_bad hn ha ho hd
  refine ⟨L, i, tn s2 12, ?_, hL⟩
  have b0 := hL.1
  have b1 := below_up (m := 1) L b0
  have lz : ∀ M, dLen M (.tup (zer n)) = some (.int n) := fun M => by
    have := zer_len n
    simp [this]
  have sb : ∀ s : Src3, belowO 0 (srcO s) = true := fun s => rfl
  have c1 : ∀ M, dCut M none (some (a : Int)) (.tup (zer n)) = some (.tup (zer a)) := fun M => by rw [tcut_to, zer_take n a (by omega)]
  have c2 : ∀ M, dCut M (some ((a : Int) + 1)) none (.tup (zer n)) = some (.tup (zer (n - (a + 1)))) := fun M => by
    have := tcut_from M (zer n) (a + 1)
    rw [zer_drop] at this
    exact this
  have c3 : ∀ M, dCut M (some 1) none (.tup (zer n)) = some (.tup (zer (n - 1))) := fun M => by
    have := tcut_from M (zer n) 1
    rw [zer_drop] at this
    exact this
  have dl : ∀ M, dList M (.tup (zer n)) = some (.lst (zer n)) := fun M => rfl
  have t1 : ∀ M, dAdd M (.tup (zer n)) (.tup [.int 0]) = some (.tup (zer n ++ [.int 0])) := fun M => tadd_few M (by rw [zer_len]; simp; omega)
  have t2 : ∀ M, dAdd M (.tup (zer a)) (.tup [odd]) = some (.tup (zer a ++ [odd])) := fun M => tadd_few M (by rw [zer_len]; simp; omega)
  have t3 : ∀ M, dAdd M (.tup (zer a ++ [odd])) (.tup (zer (n - (a + 1)))) = some (.tup (zer a ++ odd :: zer (n - (a + 1)))) := fun M => by
    rw [tadd_few M (by simp [zer_len]; omega)]
    simp
  have rn : ((n : Int) - a).toNat = n - a := by omega
  have t4 : ∀ M, dMulT M (.tup [odd]) (.int ((n : Int) - a)) = some (.tup (List.replicate (n - a) odd)) := fun M => by rw [mul_one M odd (by omega) (by omega), rn]
  have t5 : ∀ M, dAdd M (.tup (zer a)) (.tup (List.replicate (n - a) odd)) = some (.tup (zer a ++ List.replicate (n - a) odd)) := fun M => tadd_few M (by simp [zer_len]; omega)
  have ms : ∀ M, dMulS M (.str (Str.ofString "0")) (.int (n : Int)) = some (.str (strRep (Str.ofString "0") n)) := fun M => e_mulS M _ _ (by omega) (by omega) (by decide +kernel)
  have pw : powOk 10 30 = true := by decide +kernel
  simp only [odds8] at eo
  simp only [linesL] at ed
  generalize strRep (Str.ofString "0") n = S0 at *
  generalize zer a ++ odd :: zer (n - (a + 1)) = L1 at *
  generalize zer a ++ List.replicate (n - a) odd = L2 at *
  generalize List.replicate (n - a) odd = L3 at *
  generalize zer a ++ [odd] = L4 at *
  generalize zer n ++ [.int 0] = L5 at *
  generalize zer n = ZN at *
  generalize zer (n - 1) = Z1 at *
  generalize zer (n - (a + 1)) = Z2 at *
  generalize zer a = Za at *
  simp [-e_ix, -e_addL, -e_mulT, add_few, mul_few, pw, F_law_bad_line, b_law_bad_line, runF, lz, e1, e2, e3, eo, ed, c1, c2, c3, dl, t1, t2, t3, t4, t5, ms, List.replicate, fin, cutOk, retR, sb, Bk.below, belows, b0, b1]
end My

set_option Elab.async false
set_option linter.all false
set_option maxRecDepth 100000
set_option maxHeartbeats 16000000
namespace My
open PySem PySem.Spec PyProof.Rows L2 Bk
/-! ### pasts that bar a later day -/
def LateD (c : Cal) (d : D) : Prop := ∃ (ns : List Int) (due : Int), d = .tup [.tup (ns.map D.int), .int due] ∧ ns.length ≤ c.length ∧ (∀ n ∈ ns, 0 ≤ n) ∧ fo c ns 0 c = some due
theorem late_dts {c : Cal} : ∀ {L : List D}, (∀ d ∈ L, LateD c d) → ∃ ps, Dts 2 L ps
  | [], _ => ⟨_, .nil 2⟩
  | d :: L, h => by
    obtain ⟨ps, hp⟩ := late_dts fun x hx => h x (List.mem_cons_of_mem _ hx)
    obtain ⟨ns, due, rfl, _⟩ := h d (by simp)
    exact ⟨_, .cons (Dts.tup (.cons (Dts.ints 0 ns).tup (.cons (.int 1 due) (.nil 1)))) hp⟩
theorem late_below {c : Cal} {d : D} (h : LateD c d) (m : Nat) : below m d = true := by
  obtain ⟨ns, due, rfl, _⟩ := h
  have := (Dts.ints 0 ns).belows (m := m)
  simp [Bk.below, belows]
theorem late_turn {c : Cal} (hc : c.length ≤ 100) {i : Nat} {p : Int × Option Int} (hp : c[i]? = some p) (h0 : 0 ≤ p.1) (s : Src3) (acc : List D) (ha : acc.length ≤ 100) : ∃ more : List D, more.length ≤ 1 ∧ (∀ d ∈ more, LateD c d) ∧
    lb_law_late_1 [some (.ref 0), some (calD false c), some (.ref 1), some (.int i), some (.int p.1), some (optD p.2), none, none] [srcO s, .lst acc] = .nx [some (.ref 0), some (calD false c), some (.ref 1), none, none, none, none, none] [srcO s, .lst (acc ++ more)] := by
  have hi : i < c.length := (List.getElem?_eq_some_iff.mp hp).1
  have e1 : ∀ M, dMulT M (.tup [.int 0]) (.int (i : Int)) = some (.tup (zer i)) := fun M => by
    rw [mul_one M (.int 0) (by omega) (by omega)]
    simp [zer]
  have e2 : ∀ M, dAdd M (.tup (zer i)) (.tup [.int p.1]) = some (.tup ((List.replicate i 0 ++ [p.1]).map D.int)) := fun M => by
    rw [tadd_few M (by rw [zer_len]; simp; omega)]
    simp [zer]
  have ov := fun M => c_over false (c := c) (ns := List.replicate i 0 ++ [p.1]) (by simp; omega) hc M
  have sz : acc.length < sizeLine := by rw [sizeLine_eq]; omega
  cases hf : fo c (List.replicate i 0 ++ [p.1]) 0 c with
  | none =>
    refine ⟨[], by simp, by simp, ?_⟩
    rw [hf] at ov
    generalize (List.replicate i 0 ++ [p.1]).map D.int = N at *
    generalize zer i = Z at *
    generalize calD false c = CD at *
    generalize optD p.2 = O2 at *
    simp [-e_mulT, lb_law_late_1, e1, e2, ov, optD]
  | some due =>
    rw [hf] at ov
    by_cases q : (i : Int) + 1 < due
    · refine ⟨[.tup [.tup ((List.replicate i 0 ++ [p.1]).map D.int), .int due]], by simp, fun d hd => ?_, ?_⟩
      · rw [List.mem_singleton.mp hd]
        exact ⟨_, due, rfl, by simp; omega, fun n hn => by
          rcases List.mem_append.mp hn with hn | hn
          · rw [(List.mem_replicate.mp hn).2]; decide
          · obtain rfl : n = p.1 := by simpa using hn
            exact h0, hf⟩
      · generalize (List.replicate i 0 ++ [p.1]).map D.int = N at *
        generalize zer i = Z at *
        generalize calD false c = CD at *
        generalize optD p.2 = O2 at *
        simp [-e_mulT, lb_law_late_1, e1, e2, ov, optD, q, listD, mutR, sz]
    · refine ⟨[], by simp, by simp, ?_⟩
      generalize (List.replicate i 0 ++ [p.1]).map D.int = N at *
      generalize zer i = Z at *
      generalize calD false c = CD at *
      generalize optD p.2 = O2 at *
      simp [-e_mulT, lb_law_late_1, e1, e2, ov, optD, q]
theorem late_loop {c : Cal} (hc : c.length ≤ 100) (h0 : ∀ p ∈ c, 0 ≤ p.1) (s : Src3) : ∀ (post : Cal) (i : Nat) (acc : List D), (∀ j p, post[j]? = some p → c[i + j]? = some p) → acc.length ≤ i → i + post.length ≤ 100 → ∃ more : List D, more.length ≤ post.length ∧ (∀ d ∈ more, LateD c d) ∧
    gForL (gToT (gToCons (gTo 3) (gToCons (gToT (gToCons (gTo 4) (gToCons (gTo 5) (gToNil)))) (gToNil)))) lb_law_late_1 (enumL (i : Int) (post.map entD)) [some (.ref 0), some (calD false c), some (.ref 1), none, none, none, none, none] [srcO s, .lst acc] = .nx [some (.ref 0), some (calD false c), some (.ref 1), none, none, none, none, none] [srcO s, .lst (acc ++ more)]
  | [], i, acc, _, _, _ => ⟨[], by simp, by simp, by simp [enumL]⟩
  | p :: post, i, acc, h, hl, hb => by
    have hp := h 0 p rfl
    rw [Nat.add_zero] at hp
    obtain ⟨m1, l1, g1, t1⟩ := late_turn hc hp (h0 p (List.mem_of_getElem? hp)) s acc (by simp at hb; omega)
    obtain ⟨m2, l2, g2, t2⟩ := late_loop hc h0 s post (i + 1) (acc ++ m1) (fun j q hq => by
      have := h (j + 1) q (by simpa using hq)
      rw [show i + (j + 1) = i + 1 + j by omega] at this
      exact this) (by simp; omega) (by simp at hb; omega)
    refine ⟨m1 ++ m2, by simp; omega, fun d hd => ?_, ?_⟩
    · rcases List.mem_append.mp hd with hd | hd
      · exact g1 d hd
      · exact g2 d hd
    · rw [List.map_cons, enumL]
      refine (forL_cons (Γ1 := [some (.ref 0), some (calD false c), some (.ref 1), some (.int i), some (.int p.1), some (optD p.2), none, none]) (by simp [entD]) t1).trans ?_
      rw [List.append_assoc] at t2
      simpa using t2
end My

set_option Elab.async false
set_option linter.all false
set_option maxRecDepth 100000
set_option maxHeartbeats 16000000
namespace My
open PySem PySem.Spec PyProof.Rows L2 Bk
theorem m_late {c : Cal} (hc : c.length ≤ 90) (h0 : ∀ p ∈ c, 0 ≤ p.1) (s : Src3) : ∃ (d : D) (s' : Src3), F_law_late [.ref 0, calD false c] [srcO s] = .ok d [srcO s'] ∧ (d = .non ∨ LateD c d) := by
  obtain ⟨L, l1, g, k⟩ := late_loop (by omega) h0 s c 0 [] (fun j p h => by simpa using h) (by simp) (by omega)
  rw [List.nil_append] at k
  have k0 : gForL (gToT (gToCons (gTo 3) (gToCons (gToT (gToCons (gTo 4) (gToCons (gTo 5) (gToNil)))) (gToNil)))) lb_law_late_1 (enumL 0 (c.map entD)) [some (.ref 0), some (calD false c), some (.ref 1), none, none, none, none, none] [srcO s, .lst []] = _ := k
  have sq : seqD (calD false c) = some (c.map entD) := rfl
  have sb : ∀ s : Src3, belowO 0 (srcO s) = true := fun s => rfl
  have sb1 : ∀ s : Src3, belowO 1 (srcO s) = true := fun s => rfl
  obtain ⟨ps, hq⟩ := late_dts g
  match L, l1, g, k0, ps, hq with
  | [], _, _, k0, _, _ =>
    refine ⟨.non, s, ?_, .inl rfl⟩
    have e := dEqA_p (eqP_same (M := [srcO s, MO.dead]) (Dts.nil 0).lst (Dt.deref (Dts.nil 0).lst) (Dt.deref (Dts.nil 0).lst) (by decide)) (fun _ h => by cases h)
    generalize calD false c = CD at *
    generalize c.map entD = CE at *
    simp [F_law_late, b_law_late, runF, sq, k0, gFz, e, fin, cutOk, retR, sb, sb1, Bk.below]
  | d :: L, l1, g, k0, ps, hq =>
    have e1 := fun R => t_0 s ((L.length : Int) + 1) R (by omega) (by simp at l1; omega)
    obtain ⟨w, hw, ew⟩ := ix_draw (d :: L) s (n := (L.length : Int) + 1) (by omega) (by simp)
    have gw := g w hw
    refine ⟨w, tn s ((L.length : Int) + 1), ?_, .inr gw⟩
    have b1 := late_below gw 1
    have e : dEqA [srcO s, MO.dead] (.lst (d :: L)) (.lst []) = some (.bl false) := by
      cases hq with
      | mk a b cc =>
        cases ps with
        | nil => simp [toPs] at a; cases hh : toP d <;> cases hh2 : toPs L <;> simp [hh, hh2] at a
        | cons p ps =>
          have := dEqA_p (eqP_of (M := [srcO s, MO.dead]) (Dts.mk a b cc).lst (Dts.nil 0).lst (Dt.deref (Dts.mk a b cc).lst) (Dt.deref (Dts.nil 0).lst) (by decide) (by decide)) (fun _ h => by cases h)
          rw [this]
          rfl
    obtain ⟨ns, due, rfl, _⟩ := gw
    generalize D.tup (ns.map D.int) = WD at *
    generalize calD false c = CD at *
    generalize c.map entD = CE at *
    simp [-e_ix, F_law_late, b_law_late, runF, sq, k0, gFz, e, e1, ew, fin, cutOk, retR, sb, sb1, b1]
end My

set_option Elab.async false
set_option linter.all false
set_option maxRecDepth 100000
set_option maxHeartbeats 16000000
namespace My
open PySem PySem.Spec PyProof.Rows L2 Bk
/-! ### invalid pasts, drawn -/
theorem awayZ_no {d : Int} : ∀ {zs : List ((Int × Option Int) × Int)}, (∀ z ∈ zs, z.2 = 0) → awayZ d zs = 0
  | [], _ => by simp [awayZ]
  | z :: zs, h => by
    have h0 := h z (by simp)
    have ih := awayZ_no (d := d) (zs := zs) fun x hx => h x (by simp [hx])
    obtain ⟨⟨o, b⟩, n⟩ := z
    simp only at h0
    subst h0
    unfold awayZ at ih ⊢
    rw [List.map_cons, List.sum_cons, ih]
    cases b <;> simp [gone1]
theorem awayV_no (c : Cal) {a : Nat} {ms : List Int} {j : Nat} (hj : j ≤ a) : awayV c (List.replicate a 0 ++ ms) ((j : Int) + 1) = 0 := by
  unfold awayV
  refine awayZ_no fun z hz => ?_
  obtain ⟨i, hi, e⟩ := List.mem_iff_getElem.mp hz
  have li : i < j := by
    rw [List.length_zip, List.length_take] at hi
    omega
  rw [← e, List.getElem_zip]
  show (List.replicate a (0 : Int) ++ ms)[i]'_ = 0
  rw [List.getElem_append_left (by simp; omega)]
  simp
theorem fo_over {c : Cal} (hc : OkC c) {a : Nat} (ha : a < c.length) {v : Int} (hv : 13 ≤ v) (ms : List Int) : ∀ (k i : Nat), i + k = a → fo c (List.replicate a 0 ++ v :: ms) i (c.drop i) = some ((a : Int) + 1)
  | 0, i, h => by
    have e : i = a := by omega
    subst e
    rw [List.drop_eq_getElem_cons ha, fo]
    have aw := awayV_no c (a := i) (ms := v :: ms) (Nat.le_refl i)
    have nt : nth (List.replicate i 0 ++ v :: ms) i = v := by simp [nth, List.getD_eq_getElem?_getD]
    have ok := (hc.v i _ (List.getElem?_eq_getElem ha)).2.1
    rw [aw, nt, if_pos (by omega)]
  | k + 1, i, h => by
    have hi : i < c.length := by omega
    rw [List.drop_eq_getElem_cons hi, fo]
    have aw := awayV_no c (a := a) (ms := v :: ms) (show i ≤ a by omega)
    have nt : nth (List.replicate a 0 ++ v :: ms) i = 0 := by
      have : i < a := by omega
      unfold nth
      rw [List.getD_eq_getElem?_getD, List.getElem?_append_left (by simp; omega)]
      simp [this]
    have ok := (hc.v i _ (List.getElem?_eq_getElem hi)).1
    rw [aw, nt, if_neg (by omega)]
    exact fo_over hc ha hv ms k (i + 1) (by omega)
theorem rep_below (m n : Nat) (x : Int) : belows m (List.replicate n (D.int x)) = true := by
  rw [belows_all, List.all_eq_true]
  intro d hd
  rw [(List.mem_replicate.mp hd).2]
  rfl
def BadP (c : Cal) (P : D) (i : Int) : Prop := below 0 P = true ∧ ∀ t : Bool, F_require_past [calD t c, P] [] = .exc 2 (.int i) []
def pastsL (n a : Nat) (odd : D) (v : Int) : List D := [.tup [.non, .int (-1)], .tup [.lst (zer n), .int (-1)], .tup [.tup (zer n ++ [.int 0]), .int (-1)], .tup [.tup (zer a ++ [odd]), .int (-1)], .tup [.dct [] [], .int (-1)], .tup [.str (Str.ofString "0"), .int (-1)], .tup [.int 0, .int (-1)],
  .tup [.tup (zer a ++ [.int v]), .int ((a : Int) + 1)], .tup [.tup (zer a ++ .int v :: zer (n - (a + 1))), .int ((a : Int) + 1)], .tup [.tup (zer a ++ [.int v]), .int ((a : Int) + 1)], .tup [.tup (zer a ++ .int v :: zer (n - (a + 1))), .int ((a : Int) + 1)],
  .tup [.tup (zer a ++ [.int v]), .int ((a : Int) + 1)], .tup [.tup (zer a ++ .int v :: zer (n - (a + 1))), .int ((a : Int) + 1)], .tup [.tup (zer a ++ [.int v]), .int ((a : Int) + 1)], .tup [.tup (zer a ++ .int v :: zer (n - (a + 1))), .int ((a : Int) + 1)]]
theorem badP_no {c : Cal} {P : D} (h : NoTup P) (hb : below 0 P = true) : BadP c P (-1) := ⟨hb, fun t => m_reqpast_no _ h hb⟩
theorem badP_over {c : Cal} (hc : OkC c) {a : Nat} (ha : a < c.length) {v : Int} (hv : 13 ≤ v) {m : Nat} (hm : a + 1 + m ≤ c.length) : BadP c (.tup (zer a ++ .int v :: zer m)) ((a : Int) + 1) := by
  have e : zer a ++ .int v :: zer m = (List.replicate a (0 : Int) ++ v :: List.replicate m 0).map D.int := by simp [zer]
  have c100 := hc.l
  rw [e]
  refine ⟨by simp [Bk.below, belows, rep_below], fun t => m_reqpast_day t (by simp; omega) c100 (fun n hn => ?_) ?_⟩
  · simp only [List.mem_append, List.mem_cons, List.mem_replicate] at hn
    rcases hn with ⟨_, rfl⟩ | rfl | ⟨_, rfl⟩ <;> omega
  · have := fo_over hc ha hv (List.replicate m 0) a 0 (by omega)
    rwa [List.drop_zero] at this
theorem pastsL_bad {c : Cal} (hc : OkC c) {a : Nat} (ha : a < c.length) {v : Int} (hv : 13 ≤ v) {odd d : D} (ho : odd ∈ odds8) (h : d ∈ pastsL c.length a odd v) : ∃ P i, d = .tup [P, .int i] ∧ BadP c P i := by
  have o := odds8_bad ho
  have c100 := hc.l
  have e1 : zer c.length ++ [.int 0] = (List.replicate (c.length + 1) (0 : Int)).map D.int := by simp [zer, List.replicate_succ']
  have c1 := badP_over hc ha hv (m := 0) (by omega)
  have z0 : zer 0 = [] := rfl
  rw [z0] at c1
  have c2 := badP_over hc ha hv (m := c.length - (a + 1)) (by omega)
  simp only [pastsL, List.mem_cons, List.not_mem_nil, or_false] at h
  rcases h with rfl | rfl | rfl | rfl | rfl | rfl | rfl | rfl | rfl | rfl | rfl | rfl | rfl | rfl | rfl
  · exact ⟨_, _, rfl, badP_no trivial rfl⟩
  · exact ⟨_, _, rfl, badP_no trivial (zer_below 0 _)⟩
  · refine ⟨_, _, rfl, ?_⟩
    rw [e1]
    exact ⟨by simp [Bk.below, belows, rep_below], fun t => m_reqpast_long t (by simp; omega) (fun n hn => by rw [(List.mem_replicate.mp hn).2]; decide) (by simp)⟩
  · refine ⟨_, _, rfl, ?_, fun t => m_reqpast_any _ (by simp [zer_len]; omega) (fun d hd => ?_) ?_⟩
    · show belows 0 _ = true
      have := zer_below 0 a
      rw [belows_all] at this ⊢
      rw [List.all_append, this]
      simp [o.2.1]
    · rcases List.mem_append.mp hd with hd | hd
      · obtain ⟨i, _, rfl⟩ := List.mem_map.mp hd
        exact ⟨trivial, rfl⟩
      · rw [List.mem_singleton.mp hd]
        exact ⟨o.1, o.2.1⟩
    · rw [List.all_eq_false]
      exact ⟨odd, by simp, by rw [o.2.2]; decide⟩
  · exact ⟨_, _, rfl, badP_no trivial rfl⟩
  · exact ⟨_, _, rfl, badP_no trivial rfl⟩
  · exact ⟨_, _, rfl, badP_no trivial rfl⟩
  · exact ⟨_, _, rfl, c1⟩
  · exact ⟨_, _, rfl, c2⟩
  · exact ⟨_, _, rfl, c1⟩
  · exact ⟨_, _, rfl, c2⟩
  · exact ⟨_, _, rfl, c1⟩
  · exact ⟨_, _, rfl, c2⟩
  · exact ⟨_, _, rfl, c1⟩
  · exact ⟨_, _, rfl, c2⟩
end My

set_option Elab.async false
set_option linter.all false
set_option maxRecDepth 100000
set_option maxHeartbeats 16000000
namespace My
open PySem PySem.Spec PyProof.Rows L2 Bk
theorem late_bad {c : Cal} (hc : OkC c) {d : D} (h : LateD c d) : ∃ P i, d = .tup [P, .int i] ∧ BadP c P i := by
  obtain ⟨ns, due, rfl, h1, h2, h3⟩ := h
  have c100 := hc.l
  exact ⟨_, _, rfl, by simp [Bk.below], fun t => m_reqpast_day t h1 c100 h2 h3⟩
theorem m_bad_start {c : Cal} (hc : OkC c) (n1 : 1 ≤ c.length) (hn : c.length ≤ 90) (s : Src3) : ∃ (P : D) (i : Int) (s' : Src3), F_law_bad_start [.ref 0, calD false c] [srcO s] = .ok (.tup [P, .int i]) [srcO s'] ∧ BadP c P i := by
  have e1 := t_0 s 8 [] (by decide) (by decide)
  obtain ⟨odd, ho, eo⟩ := ix_draw odds8 s (n := 8) (by decide) rfl
  have o := odds8_bad ho
  generalize tk s 8 = k1 at *
  generalize tn s 8 = s1 at *
  have e2 := t_0 s1 (c.length : Int) [] (by omega) (by omega)
  have a0 := tk_lo s1 (n := (c.length : Int)) (by omega)
  have a1 := tk_hi s1 (n := (c.length : Int)) (by omega)
  generalize tk s1 (c.length : Int) = ai at *
  generalize tn s1 (c.length : Int) = s2 at *
  obtain ⟨a, rfl⟩ := Int.eq_ofNat_of_zero_le a0
  have ha : a < c.length := by omega
  have e3 := t_0 s2 3 [] (by decide) (by decide)
  have v0 := tk_lo s2 (n := 3) (by decide)
  generalize tk s2 3 = v at *
  generalize tn s2 3 = s3 at *
  have e4 : ∃ (d : D) (s' : Src3), callF F_law_late [.ref 0, calD false c] [srcO s3] = .ok d [srcO s'] ∧ (d = .non ∨ LateD c d) := by
    obtain ⟨d, s', e, h⟩ := m_late hn (fun p hp => by
      obtain ⟨i, hi, rfl⟩ := List.mem_iff_getElem.mp hp
      exact (hc.v i _ (List.getElem?_eq_getElem hi)).1) s3
    have b : below 0 d = true := by
      rcases h with rfl | h
      · rfl
      · exact late_below h 0
    exact ⟨d, s', c_lend1 (k := 0) (M := [srcO s3]) e rfl rfl rfl rfl (by simp) b, h⟩
  obtain ⟨lt, s4, e4, hlt⟩ := e4
  have lC : ∀ M, dLen M (calD false c) = some (.int c.length) := fun M => by simp [calD]
  have lz : ∀ M, dMulT M (.tup [.int 0]) (.int (c.length : Int)) = some (.tup (zer c.length)) := fun M => by
    rw [mul_one M (.int 0) (by omega) (by omega)]
    simp [zer]
  have sb : ∀ s : Src3, belowO 0 (srcO s) = true := fun s => rfl
  have sb1 : ∀ s : Src3, belowO 1 (srcO s) = true := fun s => rfl
  have c1 : ∀ M, dCut M none (some (a : Int)) (.tup (zer c.length)) = some (.tup (zer a)) := fun M => by rw [tcut_to, zer_take c.length a (by omega)]
  have c2 : ∀ M, dCut M (some ((a : Int) + 1)) none (.tup (zer c.length)) = some (.tup (zer (c.length - (a + 1)))) := fun M => by
    have := tcut_from M (zer c.length) (a + 1)
    rw [zer_drop] at this
    exact this
  have dl : ∀ M, dList M (.tup (zer c.length)) = some (.lst (zer c.length)) := fun M => rfl
  have t1 : ∀ M, dAdd M (.tup (zer c.length)) (.tup [.int 0]) = some (.tup (zer c.length ++ [.int 0])) := fun M => tadd_few M (by rw [zer_len]; simp; omega)
  have t2 : ∀ M, dAdd M (.tup (zer a)) (.tup [odd]) = some (.tup (zer a ++ [odd])) := fun M => tadd_few M (by rw [zer_len]; simp; omega)
  have t3 : ∀ M, dAdd M (.tup (zer a)) (.tup [.int (13 + v)]) = some (.tup (zer a ++ [.int (13 + v)])) := fun M => tadd_few M (by rw [zer_len]; simp; omega)
  have t4 : ∀ M, dAdd M (.tup (zer a ++ [.int (13 + v)])) (.tup (zer (c.length - (a + 1)))) = some (.tup (zer a ++ .int (13 + v) :: zer (c.length - (a + 1)))) := fun M => by
    rw [tadd_few M (by simp [zer_len]; omega)]
    simp
  have pw : powOk 10 30 = true := by decide +kernel
  simp only [odds8] at eo
  have fin2 : ∀ s5 : Src3, ∃ P i, BadP c P i ∧ ∀ M, dIx M (.lst (pastsL c.length a odd (13 + v))) (.int (tk s5 15)) = some (.tup [P, .int i]) := fun s5 => by
    obtain ⟨d, hd, ed⟩ := ix_draw (pastsL c.length a odd (13 + v)) s5 (n := 15) (by decide) rfl
    obtain ⟨P, i, rfl, hP⟩ := pastsL_bad hc ha (by omega) ho hd
    exact ⟨P, i, hP, ed⟩
  have e5 := t_0 s4 3 [] (by decide) (by decide)
  have fin3 : ∀ s5 : Src3, ∃ P i, BadP c P i ∧ ∀ M, dIx M (.lst (pastsL c.length a odd (13 + v))) (.int (tk s5 15)) = some (.tup [P, .int i]) := fin2
  simp only [pastsL] at fin3
  have lC' := lC
  generalize zer a ++ .int (13 + v) :: zer (c.length - (a + 1)) = L1 at *
  generalize zer a ++ [.int (13 + v)] = L2 at *
  generalize zer a ++ [odd] = L4 at *
  generalize zer c.length ++ [.int 0] = L5 at *
  generalize zer c.length = ZN at *
  generalize zer (c.length - (a + 1)) = Z2 at *
  generalize zer a = Za at *
  rcases hlt with rfl | hlt
  · obtain ⟨P, i, hP, ed⟩ := fin3 s4
    have e6 := t_0 s4 15 [] (by decide) (by decide)
    have b0 := hP.1
    have b1 := below_up (m := 1) P b0
    refine ⟨P, i, tn s4 15, ?_, hP⟩
    generalize calD false c = CD at *
    simp [-e_ix, -e_addL, -e_mulT, add_few, mul_few, pw, F_law_bad_start, b_law_bad_start, runF, lC, lz, e1, e2, e3, e4, e6, eo, ed, c1, c2, dl, t1, t2, t3, t4, List.replicate, fin, cutOk, retR, sb, sb1, Bk.below, belows, b0, b1]
  · by_cases z : 0 < tk s4 3
    · obtain ⟨P, i, rfl, hP⟩ := late_bad hc hlt
      have b0 := hP.1
      have b1 := below_up (m := 1) P b0
      refine ⟨P, i, tn s4 3, ?_, hP⟩
      have nn : ∀ M, dNotN M (.tup [P, .int i]) .non = some (.bl true) := fun M => rfl
      generalize calD false c = CD at *
      simp [-e_ix, -e_addL, -e_mulT, add_few, mul_few, pw, nn, z, F_law_bad_start, b_law_bad_start, runF, lC, lz, e1, e2, e3, e4, e5, eo, c1, c2, dl, t1, t2, t3, t4, List.replicate, fin, cutOk, retR, sb, sb1, Bk.below, belows, b0, b1]
    · obtain ⟨P, i, hP, ed⟩ := fin3 (tn s4 3)
      have e6 := t_0 (tn s4 3) 15 [] (by decide) (by decide)
      have b0 := hP.1
      have b1 := below_up (m := 1) P b0
      obtain ⟨P', i', rfl, _⟩ := late_bad hc hlt
      refine ⟨P, i, tn (tn s4 3) 15, ?_, hP⟩
      have nn : ∀ M, dNotN M (.tup [P', .int i']) .non = some (.bl true) := fun M => rfl
      generalize calD false c = CD at *
      simp [-e_ix, -e_addL, -e_mulT, add_few, mul_few, pw, nn, z, F_law_bad_start, b_law_bad_start, runF, lC, lz, e1, e2, e3, e4, e5, e6, eo, ed, c1, c2, dl, t1, t2, t3, t4, List.replicate, fin, cutOk, retR, sb, sb1, Bk.below, belows, b0, b1]
end My

set_option Elab.async false
set_option linter.all false
set_option maxRecDepth 100000
set_option maxHeartbeats 16000000
namespace My
open PySem PySem.Spec PyProof.Rows L2 Bk
/-! ### what is told, compared; lambdas pushed; the law's store -/
def fldE : End → Prop
  | .ret => True
  | .err _ d => ∃ p, Dt 0 d p
theorem lay_str : (PyData.str (Str.ofString "calendar")).canLay0 = true ∧ (PyData.str (Str.ofString "row")).canLay0 = true ∧ (PyData.str (Str.ofString "past")).canLay0 = true ∧ (PyData.str (Str.ofString "holidays")).canLay0 = true ∧ (PyData.str (Str.ofString "number")).canLay0 = true ∧ (PyData.str (Str.ofString "none")).canLay0 = true ∧ (PyData.str (Str.ofString "")).canLay0 = true ∧ (PyData.str (Str.ofString "pieces")).canLay0 = true ∧ (PyData.str (Str.ofString "repair")).canLay0 = true ∧ (PyData.str (Str.ofString "days")).canLay0 = true ∧ (PyData.str (Str.ofString "first")).canLay0 = true ∧ (PyData.str (Str.ofString "last")).canLay0 = true := by decide +kernel
theorem Dt.st {s : Str} (h : (PyData.str s).canLay0 = true) : Dt 0 (.str s) (.str s) := ⟨rfl, h, Nat.zero_le _⟩
theorem tellE_dt {d : D} {p : PyData} (h : Dt 0 d p) : ∀ c : Nat, ∃ q, Dt 1 (tellE c d) q := fun c => by
  obtain ⟨a1, a2, a3, a4, a5, _⟩ := lay_str
  unfold tellE
  split
  · exact ⟨_, (Dts.cons (Dt.st a1) (.cons h (.nil 0))).tup⟩
  · exact ⟨_, (Dts.cons (Dt.st a2) (.cons h (.nil 0))).tup⟩
  · exact ⟨_, (Dts.cons (Dt.st a3) (.cons h (.nil 0))).tup⟩
  · exact ⟨_, (Dts.cons (Dt.st a4) (.cons h (.nil 0))).tup⟩
  · exact ⟨_, (Dts.cons (Dt.st a5) (.cons h (.nil 0))).tup⟩
theorem tells_dts : ∀ es : List End, (∀ e ∈ es, fldE e) → ∃ q, Dts 1 (es.map tellR) q
  | [], _ => ⟨_, .nil 1⟩
  | e :: es, h => by
    obtain ⟨q, hq⟩ := tells_dts es fun x hx => h x (by simp [hx])
    have h0 := h e (by simp)
    cases e with
    | ret => exact ⟨_, .cons (Dts.tup (.cons (Dt.st lay_str.2.2.2.2.2.1) (.cons (Dt.st lay_str.2.2.2.2.2.2.1) (.nil 0)))) hq⟩
    | err c d =>
      obtain ⟨p, h0⟩ := h0
      obtain ⟨r, hr⟩ := tellE_dt h0 c
      exact ⟨_, .cons hr hq⟩
theorem told_ne (es : List End) (h : ∀ e ∈ es, fldE e) (M : List MO) : dNeA M (.lst (es.map tellR)) (.lst (es.map tellR)) = some (.bl false) := by
  obtain ⟨q, hq⟩ := tells_dts es h
  exact dNeA_p (eqP_same hq.lst (Dt.deref hq.lst) (Dt.deref hq.lst) (by decide)) (fun _ h => by cases h)
theorem told_eq (es : List End) (h : ∀ e ∈ es, fldE e) (M : List MO) : dEqA M (.lst (es.map tellR)) (.lst (es.map tellR)) = some (.bl true) := by
  obtain ⟨q, hq⟩ := tells_dts es h
  exact dEqA_p (eqP_same hq.lst (Dt.deref hq.lst) (Dt.deref hq.lst) (by decide)) (fun _ h => by cases h)
theorem fld_i (c : Nat) (i : Int) : fldE (.err c (.int i)) := ⟨_, Dt.int 0 i⟩
theorem fld_r : fldE .ret := trivial
theorem fld_s (c : Nat) {s : Str} (h : (PyData.str s).canLay0 = true) : fldE (.err c (.str s)) := ⟨_, Dt.st h⟩
abbrev St5 (s : Src3) (R : List MO) : List MO := .tab "_law_steady_right" :: .tab "_law_check" :: srcO s :: R
theorem take5 (s : Src3) {n : Int} (h0 : 0 < n) (h : n < 1000000) (R : List MO) : callF F_law_take [.ref 2, .int n] (St5 s R) = .ok (.int (tk s n)) (St5 (tn s n) R) := c_take (k := 2) (M := St5 s R) rfl h0 (by omega)
def noRp : List D := [.int (-1), .bl true, .str (Str.ofString "1"), .tup [.int 1], .lst [.int 1], .dct [] [], .bl false]
theorem noRp_bad {d : D} (h : d ∈ noRp) : Pl d ∧ d ≠ .non ∧ below 0 d = true ∧ atlD d 0 = false := by
  simp only [noRp, List.mem_cons, List.not_mem_nil, or_false] at h
  rcases h with rfl | rfl | rfl | rfl | rfl | rfl | rfl <;> simp [Pl, atlD, Bk.below, belows]
def noPc : List D := [.int (-1), .bl true, .non, .str (Str.ofString "1"), .tup [.int 1], .lst [.int 1], .dct [] [], .int (-1000000000000000000000000000000)]
theorem noPc_bad {d : D} (h : d ∈ noPc) (b : Int) : Pl d ∧ below 0 d = true ∧ btwD d 0 b = false := by
  simp only [noPc, List.mem_cons, List.not_mem_nil, or_false] at h
  rcases h with rfl | rfl | rfl | rfl | rfl | rfl | rfl | rfl <;> simp [Pl, btwD, Bk.below, belows]
end My

set_option Elab.async false
set_option linter.all false
set_option maxRecDepth 100000
set_option maxHeartbeats 16000000
namespace My
open PySem PySem.Spec PyProof.Rows L2 Bk
/-! ### steady's errors: every answer is right -/
theorem err_call {F : List D → List MO → Bk.R D} {ds : List D} {c : Nat} {d : D} (h : F ds [] = .exc c d []) (hc : c < 5) (ha : belows 0 ds = true) (hd : below 0 d = true) (M : List MO) : Ends1 (fun M => callF F ds M) M (.err c d) M := ⟨hc, c_flatX h M ha hd⟩
theorem m_steady_right (s : Src3) (R : List MO) : ∃ s' R', F_law_steady_right [.ref 2] (St5 s R) = .ok (.bl true) (St5 s' (R ++ R')) ∧ R' = [.dead] := by
  have e1 := take5 s (n := 8) (by decide) (by decide) R
  obtain ⟨odd, ho, eo⟩ := ix_draw noPc s (n := 8) (by decide) rfl
  generalize tk s 8 = k1 at *
  generalize tn s 8 = s1 at *
  have e2 := take5 s1 (n := 9) (by decide) (by decide) R
  have m0 := tk_lo s1 (n := 9) (by decide)
  have m1 := tk_hi s1 (n := 9) (by decide)
  generalize tk s1 9 = mm at *
  generalize tn s1 9 = s2 at *
  have e3 := take5 s2 (n := 7) (by decide) (by decide) R
  obtain ⟨rp, hrp, er⟩ := ix_draw noRp s2 (n := 7) (by decide) rfl
  generalize tk s2 7 = k3 at *
  generalize tn s2 7 = s3 at *
  have e4 := take5 s3 (n := 12) (by decide) (by decide) R
  obtain ⟨d, hd, ed⟩ := ix_draw (hols (1 + mm)) s3 (n := 12) (by decide) rfl
  obtain ⟨H, j, rfl, hb, hh⟩ := hols_bad (by omega) hd
  generalize tk s3 12 = k4 at *
  generalize tn s3 12 = s4 at *
  refine ⟨s4, [.dead], allF_eq fun cl => ?_, rfl⟩
  have o1 := noPc_bad ho 12
  have o2 := noPc_bad ho 100
  have o3 := noRp_bad hrp
  let Γ : List (Option D) := [some (.ref 2), some odd, some (.int (1 + mm)), some rp, some (.lst (hols (1 + mm))), some H, some (.int j), some (.lst []), none, none]
  have asks : ∀ (L7 L8 : Option D) (M : List MO), Asks lt_law_steady_right cl [some (.ref 2), some odd, some (.int (1 + mm)), some rp, some (.lst (hols (1 + mm))), some H, some (.int j), L7, L8, none] [la_law_steady_right_0, la_law_steady_right_1, la_law_steady_right_2, la_law_steady_right_3, la_law_steady_right_4, la_law_steady_right_5, la_law_steady_right_6]
      [.err 4 (.str (Str.ofString "pieces")), .err 4 (.str (Str.ofString "pieces")), .err 4 (.str (Str.ofString "repair")), .err 4 (.str (Str.ofString "days")), .err 4 (.str (Str.ofString "days")), .err 3 (.int j), .ret] M M := fun L7 L8 M => by
    have bo : below 0 odd = true := o1.2.1
    have br : below 0 rp = true := o3.2.2.1
    refine .cons (g := lg_law_steady_right_0) (M1 := M) (by simp [lt_law_steady_right]) ?_ (.cons (g := lg_law_steady_right_1) (M1 := M) (by simp [lt_law_steady_right]) ?_ (.cons (g := lg_law_steady_right_2) (M1 := M) (by simp [lt_law_steady_right]) ?_ (.cons (g := lg_law_steady_right_3) (M1 := M) (by simp [lt_law_steady_right]) ?_ (.cons (g := lg_law_steady_right_4) (M1 := M) (by simp [lt_law_steady_right]) ?_ (.cons (g := lg_law_steady_right_5) (M1 := M) (by simp [lt_law_steady_right]) ?_ (.cons (g := lg_law_steady_right_6) (M1 := M) (by simp [lt_law_steady_right]) ?_ (.nil M)))))))
    · have := err_call (st_pieces (p := odd) (r := rp) (d := odd) (h := H) o1.1 bo o1.2.2) (by decide) (by simp [belows, bo, br, hb]) rfl M
      exact ⟨by decide, by simpa [lg_law_steady_right_0] using this.2⟩
    · have := err_call (st_pieces (p := .int 13) (r := rp) (d := .int (1 + mm)) (h := H) trivial rfl (by decide)) (by decide) (by simp [belows, Bk.below, br, hb]) rfl M
      exact ⟨by decide, by simpa [lg_law_steady_right_1] using this.2⟩
    · have := err_call (st_repair (i := 3) (r := rp) (d := odd) (h := H) (by decide) (by decide) o3.1 o3.2.1 br o3.2.2.2) (by decide) (by simp [belows, Bk.below, br, bo, hb]) rfl M
      exact ⟨by decide, by simpa [lg_law_steady_right_2] using this.2⟩
    · have := err_call (st_days (i := 3) (r := .int 2) (d := odd) (h := H) (by decide) (by decide) (.inr ⟨2, by decide, rfl⟩) o2.1 bo o2.2.2) (by decide) (by simp [belows, Bk.below, bo, hb]) rfl M
      exact ⟨by decide, by simpa [lg_law_steady_right_3] using this.2⟩
    · have := err_call (st_days (i := 3) (r := .non) (d := .int 101) (h := H) (by decide) (by decide) (.inl rfl) trivial rfl (by decide)) (by decide) (by simp [belows, Bk.below, hb]) rfl M
      exact ⟨by decide, by simpa [lg_law_steady_right_4] using this.2⟩
    · have := err_call (st_hol (i := 0) (j := j) (h := H) (by decide) (by decide) (m := 1 + mm) (by omega) (by omega) hb hh) (by decide) (by simp [belows, Bk.below, hb]) rfl M
      exact ⟨by decide, by simpa [lg_law_steady_right_5] using this.2⟩
    · obtain ⟨d, h⟩ := st_ok M
      have pw : powOk 10 30 = true := by decide +kernel
      exact ⟨d, by simpa [lg_law_steady_right_6, pw] using h⟩
  have L0 : ∀ (x y : MO), (R ++ [x]).set R.length y = R ++ [y] := fun x y => by simp
  have sz := sizeLine_eq
  have pw : powOk 10 30 = true := by decide +kernel
  have ne := told_eq [.err 4 (.str (Str.ofString "pieces")), .err 4 (.str (Str.ofString "pieces")), .err 4 (.str (Str.ofString "repair")), .err 4 (.str (Str.ofString "days")), .err 4 (.str (Str.ofString "days")), .err 3 (.int j), .ret] (by simp [fld_i, fld_r, fld_s, lay_str])
  have ar := fun L8 M => asks_run (i := 9) (by simp) (fun x => rfl) (asks (some (.lst [.lam la_law_steady_right_0 cl, .lam la_law_steady_right_1 cl, .lam la_law_steady_right_2 cl, .lam la_law_steady_right_3 cl, .lam la_law_steady_right_4 cl, .lam la_law_steady_right_5 cl, .lam la_law_steady_right_6 cl])) L8 M) [] (by simp)
  simp only [List.map_cons, List.map_nil, List.nil_append, tellR, tellE] at ne ar
  simp only [noPc] at eo
  simp only [noRp] at er
  simp only [hols, List.cons_append, List.nil_append] at ed ar
  simp only [runW, b_law_steady_right]
  simp [-e_ix, -e_addL, add_few, mul_few, pw, e1, e2, e3, e4, eo, er, ed, listD, mutR, L0, gFz, finW, List.replicate, show 1 < sizeLine by omega, show 2 < sizeLine by omega, show 3 < sizeLine by omega, show 4 < sizeLine by omega, show 5 < sizeLine by omega, show 6 < sizeLine by omega, show 1 ≤ sizeLine by omega, show 7 ≤ sizeLine by omega, ar, ne]
end My

set_option Elab.async false
set_option linter.all false
set_option maxRecDepth 100000
set_option maxHeartbeats 16000000
namespace My
open PySem PySem.Spec PyProof.Rows L2 Bk
/-! ### the other functions' errors: what is asked -/
theorem ends_x {F : List D → List MO → Bk.R D} {ds : List D} {c : Nat} {d : D} (h : F ds [] = .exc c d []) (hc : c < 5) (ha : belows 0 ds = true) (hd : below 0 d = true) {g : GE} {Γ : Bk.Env} {M : List MO} (e : g Γ M = callF F ds M) : Ends1 (fun M => g Γ M) M (.err c d) M := ⟨hc, e.trans (c_flatX h M ha hd)⟩
section
variable {c : Cal} {B L P O : D} {i j k : Int} {x9 x10 x11 : Option D} {cl : List (Str × Addr)}
theorem asks_cal (hB : F_require_calendar [B] [] = .exc 0 (.int i) []) (bB : below 0 B = true) (bL : below 0 L = true) (bP : below 0 P = true) (bO : below 0 O = true) (M : List MO) :
    Asks lt_law_check cl [some (.ref 2), some (calD false c), some B, some (.int i), some L, some (.int j), some P, some (.int k), some O, x9, x10, x11, none] [la_law_check_0, la_law_check_1, la_law_check_2, la_law_check_3, la_law_check_4, la_law_check_5]
      [.err 0 (.int i), .err 0 (.int i), .err 0 (.int i), .err 0 (.int i), .err 0 (.int i), .err 0 (.int i)] M M := by
  refine .cons (g := lg_law_check_0) (M1 := M) (by simp [lt_law_check]) (ends_x (aw_0 (a := P) hB bB) (by decide) (by simp [belows, bB, bP]) rfl ?_) (.cons (g := lg_law_check_1) (M1 := M) (by simp [lt_law_check]) (ends_x (rd_0 (a := P) hB bB) (by decide) (by simp [belows, bB, bP]) rfl ?_) (.cons (g := lg_law_check_2) (M1 := M) (by simp [lt_law_check]) (ends_x (rs_0 (a := P) hB bB) (by decide) (by simp [belows, bB, bP]) rfl ?_)
    (.cons (g := lg_law_check_3) (M1 := M) (by simp [lt_law_check]) (ends_x (ff_0 (a := L) hB bB) (by decide) (by simp [belows, bB, bL]) rfl ?_) (.cons (g := lg_law_check_4) (M1 := M) (by simp [lt_law_check]) (ends_x (lo_0 (a := L) hB bB) (by decide) (by simp [belows, bB, bL]) rfl ?_) (.cons (g := lg_law_check_5) (M1 := M) (by simp [lt_law_check]) (ends_x (wp_0 (a := O) (b := O) (c := O) hB bB) (by decide) (by simp [belows, bB, bO]) rfl ?_) (.nil M))))))
  · simp [lg_law_check_0]
  · simp [lg_law_check_1]
  · simp [lg_law_check_2]
  · simp [lg_law_check_3]
  · simp [lg_law_check_4]
  · simp [lg_law_check_5]
theorem tup_cal (M : List MO) : dTuple M (calD false c) = some (calD true c) := Eq.trans rfl rfl
theorem asks_past (hc : OkC c) (hP : BadP c P k) (hL : BadL c.length L j) (M : List MO) :
    Asks lt_law_check cl [some (.ref 2), some (calD false c), some B, some (.int i), some L, some (.int j), some P, some (.int k), some O, x9, x10, x11, none] [la_law_check_6, la_law_check_7, la_law_check_8, la_law_check_9]
      [.err 2 (.int k), .err 2 (.int k), .err 2 (.int k), .err 1 (.int j)] M M := by
  have bP := hP.1
  have bL := hL.1
  refine .cons (g := lg_law_check_6) (M1 := M) (by simp [lt_law_check]) (ends_x (aw_p false hc (hP.2 false) bP) (by decide) (by simp [belows, bP]) rfl ?_) (.cons (g := lg_law_check_7) (M1 := M) (by simp [lt_law_check]) (ends_x (rd_p false hc (hP.2 false) bP) (by decide) (by simp [belows, bP]) rfl ?_) (.cons (g := lg_law_check_8) (M1 := M) (by simp [lt_law_check]) (ends_x (rs_p true hc (hP.2 true) bP) (by decide) (by simp [belows, bP]) rfl ?_)
    (.cons (g := lg_law_check_9) (M1 := M) (by simp [lt_law_check]) (ends_x (ff_r false hc (hL.2.1 false c rfl) bL) (by decide) (by simp [belows, bL]) rfl ?_) (.nil M))))
  · simp [lg_law_check_6]
  · simp [lg_law_check_7]
  · simp [lg_law_check_8, tup_cal]
  · simp [lg_law_check_9]
end
end My

set_option Elab.async false
set_option linter.all false
set_option maxRecDepth 100000
set_option maxHeartbeats 16000000
namespace My
open PySem PySem.Spec PyProof.Rows L2 Bk
def noOn : List D := [.int (-1), .bl true, .non, .str (Str.ofString "1"), .tup [.int 1], .lst [.int 1], .dct [] [], .int 0]
theorem noOn_bad {d : D} (h : d ∈ noOn) (b : Int) : Pl d ∧ below 0 d = true ∧ btwD d 1 b = false := by
  simp only [noOn, List.mem_cons, List.not_mem_nil, or_false] at h
  rcases h with rfl | rfl | rfl | rfl | rfl | rfl | rfl | rfl <;> simp [Pl, btwD, Bk.below, belows]
section
variable {c : Cal} {B L P O : D} {i j k : Int} {x9 x11 : Option D} {cl : List (Str × Addr)}
theorem first_add {c : Cal} {p : Int × Option Int} {r : Cal} (e : c = p :: r) (v : Int) : (p.1 + v, p.2) ∈ addL 1 1 v 0 c := by
  subst e
  simp [addL]
theorem kind5 (j : Int) : ∃ d : D, (∀ M, dIx M (.lst [.bl true, .non, .str (Str.ofString "1"), .lst [.int 0], .dct [] []]) (.int (j % 5)) = some d) ∧ Pl d ∧ below 0 d = true ∧ intD d = none := by
  have h0 : 0 ≤ j % 5 := Int.emod_nonneg _ (by decide)
  have h1 : j % 5 < 5 := Int.emod_lt_of_pos _ (by decide)
  generalize j % 5 = m at *
  obtain rfl | rfl | rfl | rfl | rfl : m = 0 ∨ m = 1 ∨ m = 2 ∨ m = 3 ∨ m = 4 := by omega
  · exact ⟨.bl true, fun M => Eq.trans rfl rfl, trivial, rfl, rfl⟩
  · exact ⟨.non, fun M => Eq.trans rfl rfl, trivial, rfl, rfl⟩
  · exact ⟨.str (Str.ofString "1"), fun M => Eq.trans rfl rfl, trivial, rfl, rfl⟩
  · exact ⟨.lst [.int 0], fun M => Eq.trans rfl rfl, trivial, rfl, rfl⟩
  · exact ⟨.dct [] [], fun M => Eq.trans rfl rfl, trivial, rfl, rfl⟩
theorem asks_last (hc : OkC c) (hn : 1 ≤ c.length) (hL : BadL c.length L j) (hO : O ∈ noOn) (M : List MO) :
    Asks lt_law_check cl [some (.ref 2), some (calD false c), some B, some (.int i), some L, some (.int j), some P, some (.int k), some O, x9, some (.tup (zer c.length)), x11, none] [la_law_check_10, la_law_check_11, la_law_check_12, la_law_check_13, la_law_check_14, la_law_check_15, la_law_check_16, la_law_check_17, la_law_check_18, la_law_check_19, la_law_check_20]
      [.err 1 (.int (-1)), .err 1 (.int (-1)), .err 1 (.int 1), .err 1 (.int 0), .err 4 (.str (Str.ofString "first")), .err 4 (.str (Str.ofString "first")), .err 4 (.str (Str.ofString "last")), .err 4 (.str (Str.ofString "last")), .err 4 (.str (Str.ofString "pieces")), .err 4 (.str (Str.ofString "pieces")), .err 4 (.str (Str.ofString "pieces"))] M M := by
  have bL := hL.1
  have o := noOn_bad hO c.length
  have nr := hL.2.2 c rfl
  have zb := zer_below 0 c.length
  obtain ⟨d5, k1, k2, k3, k4⟩ := kind5 j
  obtain ⟨p, r, hp⟩ : ∃ p r, c = p :: r := by
    cases c with
    | nil => simp at hn
    | cons p r => exact ⟨p, r, rfl⟩
  have ix0 : ∀ M, dIx M (calD false c) (.int 0) = some (entD p) := fun M => by rw [hp]; simp [calD]
  have ixe : ∀ M, dIx M (entD p) (.int 0) = some (.int p.1) := fun M => by simp [entD]
  have lc : ∀ M, dLen M (calD false c) = some (.int c.length) := fun M => by simp [calD]
  have w19 := wp_range false hc (f := 1) (l := 1) (p := 13 - p.1) (by decide) (by decide) (by omega) ⟨_, first_add hp _, .inr (by simp; omega)⟩
  have w20 := wp_range false hc (f := 1) (l := 1) (p := -1 - p.1) (by decide) (by decide) (by omega) ⟨_, first_add hp _, .inl (by simp; omega)⟩
  have lz : zer c.length = (List.replicate c.length (0 : Int)).map D.int := rfl
  refine .cons (g := lg_law_check_10) (M1 := M) (by simp [lt_law_check]) (ends_x (lo_no false hc (d := .non) (.inl rfl)) (by decide) (by simp [belows, Bk.below]) rfl ?_)
    (.cons (g := lg_law_check_11) (M1 := M) (by simp [lt_law_check]) (ends_x (lo_no false hc (d := .dct [] []) (.inr rfl)) (by decide) (by simp [belows, Bk.below]) rfl ?_)
    (.cons (g := lg_law_check_12) (M1 := M) (by simp [lt_law_check]) (ends_x (lo_second false hc false (d := L) (ns := List.replicate c.length 0) (fun n hn => by rw [(List.mem_replicate.mp hn).2]; decide) (by simp) nr [L]) (by decide) (by rw [← lz]; simp [belows, Bk.below, sqT, zb, bL]) rfl ?_)
    (.cons (g := lg_law_check_13) (M1 := M) (by simp [lt_law_check]) (ends_x (lo_first false hc true (d := L) nr [.tup (zer c.length)]) (by decide) (by simp [belows, Bk.below, sqT, zb, bL]) rfl ?_)
    (.cons (g := lg_law_check_14) (M1 := M) (by simp [lt_law_check]) (ends_x (wp_first false hc (f := O) (l := O) (p := O) o.1 o.2.1 o.2.2) (by decide) (by simp [belows, o.2.1]) rfl ?_)
    (.cons (g := lg_law_check_15) (M1 := M) (by simp [lt_law_check]) (ends_x (wp_first false hc (f := .int ((c.length : Int) + 1)) (l := O) (p := O) trivial rfl (by simp [btwD]; omega)) (by decide) (by simp [belows, Bk.below, o.2.1]) rfl ?_)
    (.cons (g := lg_law_check_16) (M1 := M) (by simp [lt_law_check]) (ends_x (wp_last false hc (a := 1) (l := O) (p := O) (by decide) (by omega) o.1 o.2.1 o.2.2) (by decide) (by simp [belows, Bk.below, o.2.1]) rfl ?_)
    (.cons (g := lg_law_check_17) (M1 := M) (by simp [lt_law_check]) (ends_x (wp_last false hc (a := c.length) (l := .int ((c.length : Int) - 1)) (p := .int 0) (by omega) (by omega) trivial rfl (by simp [btwD]; omega)) (by decide) (by simp [belows, Bk.below]) rfl ?_)
    (.cons (g := lg_law_check_18) (M1 := M) (by simp [lt_law_check]) (ends_x (wp_kind false hc (a := 1) (b := c.length) (p := d5) (by decide) (by omega) (by omega) k2 k3 k4) (by decide) (by simp [belows, Bk.below, k3]) rfl ?_)
    (.cons (g := lg_law_check_19) (M1 := M) (by simp [lt_law_check]) (ends_x w19 (by decide) (by simp [belows, Bk.below]) rfl ?_)
    (.cons (g := lg_law_check_20) (M1 := M) (by simp [lt_law_check]) (ends_x w20 (by decide) (by simp [belows, Bk.below]) rfl ?_) (.nil M)))))))))))
  · simp [lg_law_check_10]
  · simp [lg_law_check_11]
  · have := sizeLine_eq
    simp [lg_law_check_12, sqT, zer, show 3 ≤ sizeLine by omega]
  · have := sizeLine_eq
    simp [lg_law_check_13, sqT, show 2 ≤ sizeLine by omega]
  · simp [lg_law_check_14]
  · simp [lg_law_check_15, lc]
  · simp [lg_law_check_16]
  · simp [lg_law_check_17, lc]
  · have := sizeLine_eq
    simp [-e_ix, lg_law_check_18, lc, k1, show 5 ≤ sizeLine by omega]
  · simp [-e_ix, lg_law_check_19, ix0, ixe]
  · simp [-e_ix, lg_law_check_20, ix0, ixe]
end
end My

set_option Elab.async false
set_option linter.all false
set_option maxRecDepth 100000
set_option maxHeartbeats 16000000
namespace My
open PySem PySem.Spec PyProof.Rows L2 Bk
/-! ### the law's check, walked -/
theorem okc_more {c : Cal} (hc : OkC c) (hl : c.length ≤ 50) {x : Int} (x0 : 0 ≤ x) (x1 : x ≤ 12) : OkC (c ++ [(x, some 1000000000000000000000000000000)]) := ⟨by simp; omega, fun i p hp => by
  rw [List.getElem?_append] at hp
  split at hp
  · exact hc.v i p hp
  · rename_i h
    have : i - c.length = 0 := by
      have := (List.getElem?_eq_some_iff.mp hp).1
      simp at this
      omega
    rw [this] at hp
    cases hp
    exact ⟨x0, x1, fun b hb => by cases hb; omega⟩⟩
theorem m_check (s : Src3) (R : List MO) : ∃ s' R', F_law_check [.ref 2] (St5 s R) = .ok (.bl true) (St5 s' (R ++ R')) ∧ R' = [.dead, .dead, .dead] := by
  obtain ⟨c0, s1, e1, oc, l7, _⟩ := c_stock (k := 2) (M := St5 s R) s rfl (most := 7) (high := 5) (by decide) (by decide) (by decide) (by decide)
  have e1 : callF F_law_stock [.ref 2, .int 7, .int 5] (St5 s R) = .ok (calD false c0) (St5 s1 R) := e1
  have e2 := take5 s1 (n := 6) (by decide) (by decide) R
  have x0 := tk_lo s1 (n := 6) (by decide)
  have x5 := tk_hi s1 (n := 6) (by decide)
  generalize tk s1 6 = x at *
  generalize tn s1 6 = s2 at *
  have hc := okc_more oc (by omega) x0 (by omega : x ≤ 12)
  have hl : (c0 ++ [(x, some 1000000000000000000000000000000)]).length = c0.length + 1 := by simp
  have ad0 : ∀ M, dAdd M (calD false c0) (.lst [.tup [.int x, .int 1000000000000000000000000000000]]) = some (calD false (c0 ++ [(x, some 1000000000000000000000000000000)])) := fun M => by
    show dAdd M (.lst (c0.map entD)) _ = _
    rw [add_few M (by simp; omega)]
    simp [calD, entD, optD]
  generalize c0 ++ [(x, some 1000000000000000000000000000000)] = c at *
  have n1 : 1 ≤ c.length := by omega
  obtain ⟨B, i, s3, e3, hB, bB⟩ := m_bad_stock hc (by omega) s2
  have e3 : callF F_law_bad_stock [.ref 2, calD false c] (St5 s2 R) = .ok (.tup [B, .int i]) (St5 s3 R) := c_lend1 (k := 2) (M := St5 s2 R) e3 rfl rfl rfl rfl (by simp) (by simp [Bk.below, belows, bB])
  obtain ⟨L, j, s4, e4, hL⟩ := m_bad_line n1 (by omega) s3
  have bL := hL.1
  have e4 : callF F_law_bad_line [.ref 2, .tup (zer c.length)] (St5 s3 R) = .ok (.tup [L, .int j]) (St5 s4 R) := c_lend1 (k := 2) (M := St5 s3 R) e4 rfl rfl rfl rfl (by simp [belows, Bk.below, zer_below]) (by simp [Bk.below, belows, bL])
  obtain ⟨P, k, s5, e5, hP⟩ := m_bad_start hc n1 (by omega) s4
  have bP := hP.1
  have e5 : callF F_law_bad_start [.ref 2, calD false c] (St5 s4 R) = .ok (.tup [P, .int k]) (St5 s5 R) := c_lend1 (k := 2) (M := St5 s4 R) e5 rfl rfl rfl rfl (by simp) (by simp [Bk.below, belows, bP])
  have e6 := take5 s5 (n := 8) (by decide) (by decide) R
  obtain ⟨O, hO, eO⟩ := ix_draw noOn s5 (n := 8) (by decide) rfl
  have bO := (noOn_bad hO 1).2.1
  generalize tk s5 8 = k8 at *
  generalize tn s5 8 = s6 at *
  refine ⟨s6, [.dead, .dead, .dead], allF_eq fun cl => ?_, rfl⟩
  have lz : ∀ M, dMulT M (.tup [.int 0]) (.int (c.length : Int)) = some (.tup (zer c.length)) := fun M => by
    rw [mul_one M (.int 0) (by omega) (by omega)]
    simp [zer]
  have lC : ∀ M, dLen M (calD false c) = some (.int c.length) := fun M => by simp [calD]
  have sz := sizeLine_eq
  have pw : powOk 10 30 = true := by decide +kernel
  have n1 := told_ne [.err 0 (.int i), .err 0 (.int i), .err 0 (.int i), .err 0 (.int i), .err 0 (.int i), .err 0 (.int i)] (by simp [fld_i])
  have n2 := told_ne [.err 2 (.int k), .err 2 (.int k), .err 2 (.int k), .err 1 (.int j)] (by simp [fld_i])
  have n3 := told_eq [.err 1 (.int (-1)), .err 1 (.int (-1)), .err 1 (.int 1), .err 1 (.int 0), .err 4 (.str (Str.ofString "first")), .err 4 (.str (Str.ofString "first")), .err 4 (.str (Str.ofString "last")), .err 4 (.str (Str.ofString "last")), .err 4 (.str (Str.ofString "pieces")), .err 4 (.str (Str.ofString "pieces")), .err 4 (.str (Str.ofString "pieces"))] (by simp [fld_i, fld_s, lay_str])
  have a1 := fun x9 x10 x11 M => asks_run (i := 12) (by simp) (fun x => rfl) (asks_cal (c := c) (B := B) (L := L) (P := P) (O := O) (i := i) (j := j) (k := k) (x9 := x9) (x10 := x10) (x11 := x11) (cl := cl) hB bB bL bP bO M) [] (by simp)
  have a2 := fun x9 x10 x11 M => asks_run (i := 12) (by simp) (fun x => rfl) (asks_past (c := c) (B := B) (L := L) (P := P) (O := O) (i := i) (j := j) (k := k) (x9 := x9) (x10 := x10) (x11 := x11) (cl := cl) hc hP hL M) [] (by simp)
  have a3 := fun x9 x11 M => asks_run (i := 12) (by simp) (fun x => rfl) (asks_last (c := c) (B := B) (L := L) (P := P) (O := O) (i := i) (j := j) (k := k) (x9 := x9) (x11 := x11) (cl := cl) hc (by omega) hL hO M) [] (by simp)
  have L0 : ∀ (Q : List MO) (x y : MO), (Q ++ [x]).set Q.length y = Q ++ [y] := fun Q x y => by simp
  simp only [List.map_cons, List.map_nil, List.nil_append, tellR, tellE] at n1 n2 n3 a1 a2 a3
  simp only [noOn] at eO
  generalize calD false c = CD at *
  generalize zer c.length = ZN at *
  simp only [runW, b_law_check]
  simp [-e_ix, -e_addL, add_few, mul_few, pw, ad0, lz, lC, e1, e2, e3, e4, e5, e6, eO, listD, mutR, L0, gFz, finW, List.replicate, show 1 < sizeLine by omega, show 2 < sizeLine by omega, show 3 < sizeLine by omega, show 4 < sizeLine by omega, show 5 < sizeLine by omega, show 6 < sizeLine by omega, show 7 < sizeLine by omega, show 8 < sizeLine by omega, show 9 < sizeLine by omega, show 10 < sizeLine by omega, show 1 ≤ sizeLine by omega, show 8 ≤ sizeLine by omega, a1, a2, a3, n1, n2, n3]
end My

set_option Elab.async false
set_option linter.all false
set_option maxRecDepth 100000
set_option maxHeartbeats 16000000
namespace My
open PySem PySem.Spec PyProof.Rows L2 Bk
/-! ### the law -/
abbrev Tabs : List MO := [.tab "_law_steady_right", .tab "_law_check"]
theorem turn05 (S : D) (hS : below 2 S = true) (v : Int) : lb_law_1 [some S, some (.int v), none] Tabs = .nx [some S, none, none] Tabs := by
  have c0 : callF F_law_source [.int v] Tabs = .ok (.ref 2) (St5 (v, v, 0) []) := c_source v Tabs
  obtain ⟨s1, R1, e1, rfl⟩ := m_steady_right (v, v, 0) []
  obtain ⟨s2, R2, e2, rfl⟩ := m_check s1 ([] ++ [.dead])
  simp only [List.nil_append, List.cons_append] at e1 e2
  simp [lb_law_1, c0, callW, e1, e2, clean, hS, cutOk, belowO]
theorem loop05 (S : D) (hS : below 2 S = true) : ∀ is : List Int, gForL (gTo 1) lb_law_1 (is.map D.int) [some S, none, none] Tabs = .nx [some S, none, none] Tabs
  | [] => by simp
  | i :: is => by
    rw [List.map_cons]
    exact (forL_cons (Γ1 := [some S, some (.int i), none]) (by simp) (turn05 S hS i)).trans (loop05 S hS is)
theorem law_true (ns : List Int) (h : ns.length ≤ 63) : ∃ M', F_law [.lst (ns.map D.int)] [.tab "_law_steady_right", .tab "_law_check"] = .ok (.bl true) M' := by
  have e4 : below 2 (D.lst (ns.map D.int)) = true := by simp
  have ad : dAdd Tabs (.lst (ns.map D.int)) (.lst [.int 0]) = some (.lst ((ns ++ [0]).map D.int)) := by
    rw [add_few _ (by simp; omega)]
    simp
  have cu : dCut Tabs none (some 5) (.lst ((ns ++ [0]).map D.int)) = some (.lst (((ns ++ [0]).take 5).map D.int)) := by
    have := cutD_upto (ds := (ns ++ [0]).map D.int) (n := 5)
    rw [← List.map_take] at this
    simp only [dCut, listD, Option.map_some, this]
    rw [← this]
    rfl
  have k := loop05 (.lst (ns.map D.int)) e4 ((ns ++ [0]).take 5)
  refine ⟨Tabs, ?_⟩
  generalize ((ns ++ [0]).take 5).map D.int = L at *
  generalize (ns ++ [0]).map D.int = L1 at *
  simp [-e_addL, F_law, b_law, runW, finW, ad, cu, k]
end My

set_option Elab.async false
set_option linter.all false
set_option maxRecDepth 100000
set_option maxHeartbeats 8000000
namespace My
open PySem PySem.Spec PyProof.Rows L2 Bk
theorem all_mk {l : PySem.W.OpenLaw} {w : World} {K : PySem.W.Frag} {h : Heap} {mg : Str → Option Value} {fa : Addr} (X : K.In h) (G : h.Ns mainGlobals mg) (hfa : mg "law" = some (.ref fa))
    {X_InvalidCalendar : Addr} (aX_InvalidCalendar : PySem.W.nsIn K mainGlobals "InvalidCalendar" = some (some (.ref X_InvalidCalendar)))
    {X_InvalidRow : Addr} (aX_InvalidRow : PySem.W.nsIn K mainGlobals "InvalidRow" = some (some (.ref X_InvalidRow)))
    {X_InvalidPast : Addr} (aX_InvalidPast : PySem.W.nsIn K mainGlobals "InvalidPast" = some (some (.ref X_InvalidPast)))
    {X_InvalidHolidays : Addr} (aX_InvalidHolidays : PySem.W.nsIn K mainGlobals "InvalidHolidays" = some (some (.ref X_InvalidHolidays)))
    {X_InvalidNumber : Addr} (aX_InvalidNumber : PySem.W.nsIn K mainGlobals "InvalidNumber" = some (some (.ref X_InvalidNumber)))
    {X_BreakError : Addr} (aX_BreakError : PySem.W.nsIn K mainGlobals "BreakError" = some (some (.ref X_BreakError)))
    {X_TooLarge : Addr} (aX_TooLarge : PySem.W.nsIn K mainGlobals "TooLarge" = some (some (.ref X_TooLarge)))
    {X_InvalidPlan : Addr} (aX_InvalidPlan : PySem.W.nsIn K mainGlobals "InvalidPlan" = some (some (.ref X_InvalidPlan)))
    {X_InvalidTest : Addr} (aX_InvalidTest : PySem.W.nsIn K mainGlobals "InvalidTest" = some (some (.ref X_InvalidTest)))
    {X_Mismatch : Addr} (aX_Mismatch : PySem.W.nsIn K mainGlobals "Mismatch" = some (some (.ref X_Mismatch)))
    {de_InvalidCalendar : Option Addr} {ke_InvalidCalendar : ClassData} {ae_InvalidCalendar : Array (Option Value)} (lo_InvalidCalendar : K.lookup X_InvalidCalendar = some ⟨.type "type", de_InvalidCalendar, .cls ke_InvalidCalendar, ae_InvalidCalendar⟩) (eo_InvalidCalendar : Bk.errOk X_InvalidCalendar ke_InvalidCalendar ae_InvalidCalendar = true) (hx_InvalidCalendar : PySem.W.hasDictIn K X_InvalidCalendar = true) (ga_InvalidCalendar : PySem.W.findIn K (.ref X_InvalidCalendar) "__getattribute__" = some (some (.builtin "BaseException.__getattribute__"))) (gt_InvalidCalendar : PySem.W.findIn K (.ref X_InvalidCalendar) "__getattr__" = some none) (sx_InvalidCalendar : PySem.W.findIn K (.ref X_InvalidCalendar) "__setattr__" = some (some (.builtin "object.__setattr__"))) (bx_InvalidCalendar : PySem.W.subIn K (.ref X_InvalidCalendar) (.type "BaseException") = some true) (ty_InvalidCalendar : PySem.W.typeIn K (.ref X_InvalidCalendar) = some (.type "type")) (kx_InvalidCalendar : PySem.W.keepIn K (.ref X_InvalidCalendar) = true) (nx_InvalidCalendar : PySem.W.findIn K (.ref X_InvalidCalendar) "index" = some none)
    {xf_InvalidCalendar : Addr} {od_InvalidCalendar an_InvalidCalendar : Option Addr} {sl_InvalidCalendar : Array (Option Value)} {oc_InvalidCalendar kV_InvalidCalendar dc_InvalidCalendar pm_InvalidCalendar cd_InvalidCalendar ct_InvalidCalendar : Value}
    (ix_InvalidCalendar : PySem.W.findIn K (.ref X_InvalidCalendar) "__init__" = some (some (.ref xf_InvalidCalendar))) (tx_InvalidCalendar : PySem.W.typeIn K (.ref xf_InvalidCalendar) = some (.type "function")) (lx_InvalidCalendar : K.lookup xf_InvalidCalendar = some ⟨oc_InvalidCalendar, od_InvalidCalendar, .func (PySem.W.fnOf "__init__" "InvalidCalendar.__init__" (defArgs s_InvalidCalendar_init) (defBody s_InvalidCalendar_init) (defScope s_InvalidCalendar_init) .none kV_InvalidCalendar dc_InvalidCalendar pm_InvalidCalendar an_InvalidCalendar cd_InvalidCalendar ct_InvalidCalendar), sl_InvalidCalendar⟩) (cx_InvalidCalendar : PySem.W.codeIn K cd_InvalidCalendar "InvalidCalendar.__init__" = true) (ox_InvalidCalendar : PySem.W.keepIn K (.ref xf_InvalidCalendar) = true)
    {de_InvalidRow : Option Addr} {ke_InvalidRow : ClassData} {ae_InvalidRow : Array (Option Value)} (lo_InvalidRow : K.lookup X_InvalidRow = some ⟨.type "type", de_InvalidRow, .cls ke_InvalidRow, ae_InvalidRow⟩) (eo_InvalidRow : Bk.errOk X_InvalidRow ke_InvalidRow ae_InvalidRow = true) (hx_InvalidRow : PySem.W.hasDictIn K X_InvalidRow = true) (ga_InvalidRow : PySem.W.findIn K (.ref X_InvalidRow) "__getattribute__" = some (some (.builtin "BaseException.__getattribute__"))) (gt_InvalidRow : PySem.W.findIn K (.ref X_InvalidRow) "__getattr__" = some none) (sx_InvalidRow : PySem.W.findIn K (.ref X_InvalidRow) "__setattr__" = some (some (.builtin "object.__setattr__"))) (bx_InvalidRow : PySem.W.subIn K (.ref X_InvalidRow) (.type "BaseException") = some true) (ty_InvalidRow : PySem.W.typeIn K (.ref X_InvalidRow) = some (.type "type")) (kx_InvalidRow : PySem.W.keepIn K (.ref X_InvalidRow) = true) (nx_InvalidRow : PySem.W.findIn K (.ref X_InvalidRow) "index" = some none)
    {xf_InvalidRow : Addr} {od_InvalidRow an_InvalidRow : Option Addr} {sl_InvalidRow : Array (Option Value)} {oc_InvalidRow kV_InvalidRow dc_InvalidRow pm_InvalidRow cd_InvalidRow ct_InvalidRow : Value}
    (ix_InvalidRow : PySem.W.findIn K (.ref X_InvalidRow) "__init__" = some (some (.ref xf_InvalidRow))) (tx_InvalidRow : PySem.W.typeIn K (.ref xf_InvalidRow) = some (.type "function")) (lx_InvalidRow : K.lookup xf_InvalidRow = some ⟨oc_InvalidRow, od_InvalidRow, .func (PySem.W.fnOf "__init__" "InvalidRow.__init__" (defArgs s_InvalidRow_init) (defBody s_InvalidRow_init) (defScope s_InvalidRow_init) .none kV_InvalidRow dc_InvalidRow pm_InvalidRow an_InvalidRow cd_InvalidRow ct_InvalidRow), sl_InvalidRow⟩) (cx_InvalidRow : PySem.W.codeIn K cd_InvalidRow "InvalidRow.__init__" = true) (ox_InvalidRow : PySem.W.keepIn K (.ref xf_InvalidRow) = true)
    {de_InvalidPast : Option Addr} {ke_InvalidPast : ClassData} {ae_InvalidPast : Array (Option Value)} (lo_InvalidPast : K.lookup X_InvalidPast = some ⟨.type "type", de_InvalidPast, .cls ke_InvalidPast, ae_InvalidPast⟩) (eo_InvalidPast : Bk.errOk X_InvalidPast ke_InvalidPast ae_InvalidPast = true) (hx_InvalidPast : PySem.W.hasDictIn K X_InvalidPast = true) (ga_InvalidPast : PySem.W.findIn K (.ref X_InvalidPast) "__getattribute__" = some (some (.builtin "BaseException.__getattribute__"))) (gt_InvalidPast : PySem.W.findIn K (.ref X_InvalidPast) "__getattr__" = some none) (sx_InvalidPast : PySem.W.findIn K (.ref X_InvalidPast) "__setattr__" = some (some (.builtin "object.__setattr__"))) (bx_InvalidPast : PySem.W.subIn K (.ref X_InvalidPast) (.type "BaseException") = some true) (ty_InvalidPast : PySem.W.typeIn K (.ref X_InvalidPast) = some (.type "type")) (kx_InvalidPast : PySem.W.keepIn K (.ref X_InvalidPast) = true) (nx_InvalidPast : PySem.W.findIn K (.ref X_InvalidPast) "day" = some none)
    {xf_InvalidPast : Addr} {od_InvalidPast an_InvalidPast : Option Addr} {sl_InvalidPast : Array (Option Value)} {oc_InvalidPast kV_InvalidPast dc_InvalidPast pm_InvalidPast cd_InvalidPast ct_InvalidPast : Value}
    (ix_InvalidPast : PySem.W.findIn K (.ref X_InvalidPast) "__init__" = some (some (.ref xf_InvalidPast))) (tx_InvalidPast : PySem.W.typeIn K (.ref xf_InvalidPast) = some (.type "function")) (lx_InvalidPast : K.lookup xf_InvalidPast = some ⟨oc_InvalidPast, od_InvalidPast, .func (PySem.W.fnOf "__init__" "InvalidPast.__init__" (defArgs s_InvalidPast_init) (defBody s_InvalidPast_init) (defScope s_InvalidPast_init) .none kV_InvalidPast dc_InvalidPast pm_InvalidPast an_InvalidPast cd_InvalidPast ct_InvalidPast), sl_InvalidPast⟩) (cx_InvalidPast : PySem.W.codeIn K cd_InvalidPast "InvalidPast.__init__" = true) (ox_InvalidPast : PySem.W.keepIn K (.ref xf_InvalidPast) = true)
    {de_InvalidHolidays : Option Addr} {ke_InvalidHolidays : ClassData} {ae_InvalidHolidays : Array (Option Value)} (lo_InvalidHolidays : K.lookup X_InvalidHolidays = some ⟨.type "type", de_InvalidHolidays, .cls ke_InvalidHolidays, ae_InvalidHolidays⟩) (eo_InvalidHolidays : Bk.errOk X_InvalidHolidays ke_InvalidHolidays ae_InvalidHolidays = true) (hx_InvalidHolidays : PySem.W.hasDictIn K X_InvalidHolidays = true) (ga_InvalidHolidays : PySem.W.findIn K (.ref X_InvalidHolidays) "__getattribute__" = some (some (.builtin "BaseException.__getattribute__"))) (gt_InvalidHolidays : PySem.W.findIn K (.ref X_InvalidHolidays) "__getattr__" = some none) (sx_InvalidHolidays : PySem.W.findIn K (.ref X_InvalidHolidays) "__setattr__" = some (some (.builtin "object.__setattr__"))) (bx_InvalidHolidays : PySem.W.subIn K (.ref X_InvalidHolidays) (.type "BaseException") = some true) (ty_InvalidHolidays : PySem.W.typeIn K (.ref X_InvalidHolidays) = some (.type "type")) (kx_InvalidHolidays : PySem.W.keepIn K (.ref X_InvalidHolidays) = true) (nx_InvalidHolidays : PySem.W.findIn K (.ref X_InvalidHolidays) "index" = some none)
    {xf_InvalidHolidays : Addr} {od_InvalidHolidays an_InvalidHolidays : Option Addr} {sl_InvalidHolidays : Array (Option Value)} {oc_InvalidHolidays kV_InvalidHolidays dc_InvalidHolidays pm_InvalidHolidays cd_InvalidHolidays ct_InvalidHolidays : Value}
    (ix_InvalidHolidays : PySem.W.findIn K (.ref X_InvalidHolidays) "__init__" = some (some (.ref xf_InvalidHolidays))) (tx_InvalidHolidays : PySem.W.typeIn K (.ref xf_InvalidHolidays) = some (.type "function")) (lx_InvalidHolidays : K.lookup xf_InvalidHolidays = some ⟨oc_InvalidHolidays, od_InvalidHolidays, .func (PySem.W.fnOf "__init__" "InvalidHolidays.__init__" (defArgs s_InvalidHolidays_init) (defBody s_InvalidHolidays_init) (defScope s_InvalidHolidays_init) .none kV_InvalidHolidays dc_InvalidHolidays pm_InvalidHolidays an_InvalidHolidays cd_InvalidHolidays ct_InvalidHolidays), sl_InvalidHolidays⟩) (cx_InvalidHolidays : PySem.W.codeIn K cd_InvalidHolidays "InvalidHolidays.__init__" = true) (ox_InvalidHolidays : PySem.W.keepIn K (.ref xf_InvalidHolidays) = true)
    {de_InvalidNumber : Option Addr} {ke_InvalidNumber : ClassData} {ae_InvalidNumber : Array (Option Value)} (lo_InvalidNumber : K.lookup X_InvalidNumber = some ⟨.type "type", de_InvalidNumber, .cls ke_InvalidNumber, ae_InvalidNumber⟩) (eo_InvalidNumber : Bk.errOk X_InvalidNumber ke_InvalidNumber ae_InvalidNumber = true) (hx_InvalidNumber : PySem.W.hasDictIn K X_InvalidNumber = true) (ga_InvalidNumber : PySem.W.findIn K (.ref X_InvalidNumber) "__getattribute__" = some (some (.builtin "BaseException.__getattribute__"))) (gt_InvalidNumber : PySem.W.findIn K (.ref X_InvalidNumber) "__getattr__" = some none) (sx_InvalidNumber : PySem.W.findIn K (.ref X_InvalidNumber) "__setattr__" = some (some (.builtin "object.__setattr__"))) (bx_InvalidNumber : PySem.W.subIn K (.ref X_InvalidNumber) (.type "BaseException") = some true) (ty_InvalidNumber : PySem.W.typeIn K (.ref X_InvalidNumber) = some (.type "type")) (kx_InvalidNumber : PySem.W.keepIn K (.ref X_InvalidNumber) = true) (nx_InvalidNumber : PySem.W.findIn K (.ref X_InvalidNumber) "name" = some none)
    {xf_InvalidNumber : Addr} {od_InvalidNumber an_InvalidNumber : Option Addr} {sl_InvalidNumber : Array (Option Value)} {oc_InvalidNumber kV_InvalidNumber dc_InvalidNumber pm_InvalidNumber cd_InvalidNumber ct_InvalidNumber : Value}
    (ix_InvalidNumber : PySem.W.findIn K (.ref X_InvalidNumber) "__init__" = some (some (.ref xf_InvalidNumber))) (tx_InvalidNumber : PySem.W.typeIn K (.ref xf_InvalidNumber) = some (.type "function")) (lx_InvalidNumber : K.lookup xf_InvalidNumber = some ⟨oc_InvalidNumber, od_InvalidNumber, .func (PySem.W.fnOf "__init__" "InvalidNumber.__init__" (defArgs s_InvalidNumber_init) (defBody s_InvalidNumber_init) (defScope s_InvalidNumber_init) .none kV_InvalidNumber dc_InvalidNumber pm_InvalidNumber an_InvalidNumber cd_InvalidNumber ct_InvalidNumber), sl_InvalidNumber⟩) (cx_InvalidNumber : PySem.W.codeIn K cd_InvalidNumber "InvalidNumber.__init__" = true) (ox_InvalidNumber : PySem.W.keepIn K (.ref xf_InvalidNumber) = true)
    (bx_BreakError : PySem.W.subIn K (.ref X_BreakError) (.type "BaseException") = some true) (ty_BreakError : PySem.W.typeIn K (.ref X_BreakError) = some (.type "type"))
    (hx_BreakError : PySem.W.hasDictIn K X_BreakError = true) (sub_InvalidCalendar_BreakError : PySem.W.subIn K (.ref X_InvalidCalendar) (.ref X_BreakError) = some true) (sub_InvalidRow_BreakError : PySem.W.subIn K (.ref X_InvalidRow) (.ref X_BreakError) = some true) (sub_InvalidPast_BreakError : PySem.W.subIn K (.ref X_InvalidPast) (.ref X_BreakError) = some true) (sub_InvalidHolidays_BreakError : PySem.W.subIn K (.ref X_InvalidHolidays) (.ref X_BreakError) = some true) (sub_InvalidNumber_BreakError : PySem.W.subIn K (.ref X_InvalidNumber) (.ref X_BreakError) = some true)
    (sub_InvalidCalendar_InvalidCalendar : PySem.W.subIn K (.ref X_InvalidCalendar) (.ref X_InvalidCalendar) = some true) (sub_InvalidRow_InvalidCalendar : PySem.W.subIn K (.ref X_InvalidRow) (.ref X_InvalidCalendar) = some false) (sub_InvalidPast_InvalidCalendar : PySem.W.subIn K (.ref X_InvalidPast) (.ref X_InvalidCalendar) = some false) (sub_InvalidHolidays_InvalidCalendar : PySem.W.subIn K (.ref X_InvalidHolidays) (.ref X_InvalidCalendar) = some false) (sub_InvalidNumber_InvalidCalendar : PySem.W.subIn K (.ref X_InvalidNumber) (.ref X_InvalidCalendar) = some false)
    (sub_InvalidCalendar_InvalidRow : PySem.W.subIn K (.ref X_InvalidCalendar) (.ref X_InvalidRow) = some false) (sub_InvalidRow_InvalidRow : PySem.W.subIn K (.ref X_InvalidRow) (.ref X_InvalidRow) = some true) (sub_InvalidPast_InvalidRow : PySem.W.subIn K (.ref X_InvalidPast) (.ref X_InvalidRow) = some false) (sub_InvalidHolidays_InvalidRow : PySem.W.subIn K (.ref X_InvalidHolidays) (.ref X_InvalidRow) = some false) (sub_InvalidNumber_InvalidRow : PySem.W.subIn K (.ref X_InvalidNumber) (.ref X_InvalidRow) = some false)
    (sub_InvalidCalendar_InvalidHolidays : PySem.W.subIn K (.ref X_InvalidCalendar) (.ref X_InvalidHolidays) = some false) (sub_InvalidRow_InvalidHolidays : PySem.W.subIn K (.ref X_InvalidRow) (.ref X_InvalidHolidays) = some false) (sub_InvalidPast_InvalidHolidays : PySem.W.subIn K (.ref X_InvalidPast) (.ref X_InvalidHolidays) = some false) (sub_InvalidHolidays_InvalidHolidays : PySem.W.subIn K (.ref X_InvalidHolidays) (.ref X_InvalidHolidays) = some true) (sub_InvalidNumber_InvalidHolidays : PySem.W.subIn K (.ref X_InvalidNumber) (.ref X_InvalidHolidays) = some false)
    (sub_InvalidCalendar_InvalidPast : PySem.W.subIn K (.ref X_InvalidCalendar) (.ref X_InvalidPast) = some false) (sub_InvalidRow_InvalidPast : PySem.W.subIn K (.ref X_InvalidRow) (.ref X_InvalidPast) = some false) (sub_InvalidPast_InvalidPast : PySem.W.subIn K (.ref X_InvalidPast) (.ref X_InvalidPast) = some true) (sub_InvalidHolidays_InvalidPast : PySem.W.subIn K (.ref X_InvalidHolidays) (.ref X_InvalidPast) = some false) (sub_InvalidNumber_InvalidPast : PySem.W.subIn K (.ref X_InvalidNumber) (.ref X_InvalidPast) = some false)
    (sub_InvalidCalendar_InvalidNumber : PySem.W.subIn K (.ref X_InvalidCalendar) (.ref X_InvalidNumber) = some false) (sub_InvalidRow_InvalidNumber : PySem.W.subIn K (.ref X_InvalidRow) (.ref X_InvalidNumber) = some false) (sub_InvalidPast_InvalidNumber : PySem.W.subIn K (.ref X_InvalidPast) (.ref X_InvalidNumber) = some false) (sub_InvalidHolidays_InvalidNumber : PySem.W.subIn K (.ref X_InvalidHolidays) (.ref X_InvalidNumber) = some false) (sub_InvalidNumber_InvalidNumber : PySem.W.subIn K (.ref X_InvalidNumber) (.ref X_InvalidNumber) = some true)
    (bx_TooLarge : PySem.W.subIn K (.ref X_TooLarge) (.type "BaseException") = some true) (ty_TooLarge : PySem.W.typeIn K (.ref X_TooLarge) = some (.type "type"))
    (hx_TooLarge : PySem.W.hasDictIn K X_TooLarge = true) (sub_InvalidCalendar_TooLarge : PySem.W.subIn K (.ref X_InvalidCalendar) (.ref X_TooLarge) = some false) (sub_InvalidRow_TooLarge : PySem.W.subIn K (.ref X_InvalidRow) (.ref X_TooLarge) = some false) (sub_InvalidPast_TooLarge : PySem.W.subIn K (.ref X_InvalidPast) (.ref X_TooLarge) = some false) (sub_InvalidHolidays_TooLarge : PySem.W.subIn K (.ref X_InvalidHolidays) (.ref X_TooLarge) = some false) (sub_InvalidNumber_TooLarge : PySem.W.subIn K (.ref X_InvalidNumber) (.ref X_TooLarge) = some false)
    (bx_InvalidPlan : PySem.W.subIn K (.ref X_InvalidPlan) (.type "BaseException") = some true) (ty_InvalidPlan : PySem.W.typeIn K (.ref X_InvalidPlan) = some (.type "type"))
    (hx_InvalidPlan : PySem.W.hasDictIn K X_InvalidPlan = true) (sub_InvalidCalendar_InvalidPlan : PySem.W.subIn K (.ref X_InvalidCalendar) (.ref X_InvalidPlan) = some false) (sub_InvalidRow_InvalidPlan : PySem.W.subIn K (.ref X_InvalidRow) (.ref X_InvalidPlan) = some false) (sub_InvalidPast_InvalidPlan : PySem.W.subIn K (.ref X_InvalidPast) (.ref X_InvalidPlan) = some false) (sub_InvalidHolidays_InvalidPlan : PySem.W.subIn K (.ref X_InvalidHolidays) (.ref X_InvalidPlan) = some false) (sub_InvalidNumber_InvalidPlan : PySem.W.subIn K (.ref X_InvalidNumber) (.ref X_InvalidPlan) = some false)
    (bx_InvalidTest : PySem.W.subIn K (.ref X_InvalidTest) (.type "BaseException") = some true) (ty_InvalidTest : PySem.W.typeIn K (.ref X_InvalidTest) = some (.type "type"))
    (hx_InvalidTest : PySem.W.hasDictIn K X_InvalidTest = true) (sub_InvalidCalendar_InvalidTest : PySem.W.subIn K (.ref X_InvalidCalendar) (.ref X_InvalidTest) = some false) (sub_InvalidRow_InvalidTest : PySem.W.subIn K (.ref X_InvalidRow) (.ref X_InvalidTest) = some false) (sub_InvalidPast_InvalidTest : PySem.W.subIn K (.ref X_InvalidPast) (.ref X_InvalidTest) = some false) (sub_InvalidHolidays_InvalidTest : PySem.W.subIn K (.ref X_InvalidHolidays) (.ref X_InvalidTest) = some false) (sub_InvalidNumber_InvalidTest : PySem.W.subIn K (.ref X_InvalidNumber) (.ref X_InvalidTest) = some false)
    (bx_Mismatch : PySem.W.subIn K (.ref X_Mismatch) (.type "BaseException") = some true) (ty_Mismatch : PySem.W.typeIn K (.ref X_Mismatch) = some (.type "type"))
    (hx_Mismatch : PySem.W.hasDictIn K X_Mismatch = true) (sub_InvalidCalendar_Mismatch : PySem.W.subIn K (.ref X_InvalidCalendar) (.ref X_Mismatch) = some false) (sub_InvalidRow_Mismatch : PySem.W.subIn K (.ref X_InvalidRow) (.ref X_Mismatch) = some false) (sub_InvalidPast_Mismatch : PySem.W.subIn K (.ref X_InvalidPast) (.ref X_Mismatch) = some false) (sub_InvalidHolidays_Mismatch : PySem.W.subIn K (.ref X_InvalidHolidays) (.ref X_Mismatch) = some false) (sub_InvalidNumber_Mismatch : PySem.W.subIn K (.ref X_InvalidNumber) (.ref X_Mismatch) = some false)
    {f_is_integer : Addr} {od_is_integer an_is_integer : Option Addr} {sl_is_integer : Array (Option Value)} {oc_is_integer kV_is_integer dc_is_integer pm_is_integer cd_is_integer ct_is_integer : Value}
    (a_is_integer : PySem.W.nsIn K mainGlobals "is_integer" = some (some (.ref f_is_integer))) (l_is_integer : K.lookup f_is_integer = some ⟨oc_is_integer, od_is_integer, .func (PySem.W.fnOf "is_integer" "is_integer" (defArgs s_is_integer) (defBody s_is_integer) (defScope s_is_integer) .none kV_is_integer dc_is_integer pm_is_integer an_is_integer cd_is_integer ct_is_integer), sl_is_integer⟩) (c_is_integer : PySem.W.codeIn K cd_is_integer "is_integer" = true) (k_is_integer : PySem.W.keepIn K (.ref f_is_integer) = true)
    {f_is_at_least : Addr} {od_is_at_least an_is_at_least : Option Addr} {sl_is_at_least : Array (Option Value)} {oc_is_at_least kV_is_at_least dc_is_at_least pm_is_at_least cd_is_at_least ct_is_at_least : Value}
    (a_is_at_least : PySem.W.nsIn K mainGlobals "is_at_least" = some (some (.ref f_is_at_least))) (l_is_at_least : K.lookup f_is_at_least = some ⟨oc_is_at_least, od_is_at_least, .func (PySem.W.fnOf "is_at_least" "is_at_least" (defArgs s_is_at_least) (defBody s_is_at_least) (defScope s_is_at_least) .none kV_is_at_least dc_is_at_least pm_is_at_least an_is_at_least cd_is_at_least ct_is_at_least), sl_is_at_least⟩) (c_is_at_least : PySem.W.codeIn K cd_is_at_least "is_at_least" = true) (k_is_at_least : PySem.W.keepIn K (.ref f_is_at_least) = true)
    {f_is_between : Addr} {od_is_between an_is_between : Option Addr} {sl_is_between : Array (Option Value)} {oc_is_between kV_is_between dc_is_between pm_is_between cd_is_between ct_is_between : Value}
    (a_is_between : PySem.W.nsIn K mainGlobals "is_between" = some (some (.ref f_is_between))) (l_is_between : K.lookup f_is_between = some ⟨oc_is_between, od_is_between, .func (PySem.W.fnOf "is_between" "is_between" (defArgs s_is_between) (defBody s_is_between) (defScope s_is_between) .none kV_is_between dc_is_between pm_is_between an_is_between cd_is_between ct_is_between), sl_is_between⟩) (c_is_between : PySem.W.codeIn K cd_is_between "is_between" = true) (k_is_between : PySem.W.keepIn K (.ref f_is_between) = true)
    {f_is_day : Addr} {od_is_day an_is_day : Option Addr} {sl_is_day : Array (Option Value)} {oc_is_day kV_is_day dc_is_day pm_is_day cd_is_day ct_is_day : Value}
    (a_is_day : PySem.W.nsIn K mainGlobals "is_day" = some (some (.ref f_is_day))) (l_is_day : K.lookup f_is_day = some ⟨oc_is_day, od_is_day, .func (PySem.W.fnOf "is_day" "is_day" (defArgs s_is_day) (defBody s_is_day) (defScope s_is_day) .none kV_is_day dc_is_day pm_is_day an_is_day cd_is_day ct_is_day), sl_is_day⟩) (c_is_day : PySem.W.codeIn K cd_is_day "is_day" = true) (k_is_day : PySem.W.keepIn K (.ref f_is_day) = true)
    {f_are_numbers : Addr} {od_are_numbers an_are_numbers : Option Addr} {sl_are_numbers : Array (Option Value)} {oc_are_numbers kV_are_numbers dc_are_numbers pm_are_numbers cd_are_numbers ct_are_numbers : Value}
    (a_are_numbers : PySem.W.nsIn K mainGlobals "are_numbers" = some (some (.ref f_are_numbers))) (l_are_numbers : K.lookup f_are_numbers = some ⟨oc_are_numbers, od_are_numbers, .func (PySem.W.fnOf "are_numbers" "are_numbers" (defArgs s_are_numbers) (defBody s_are_numbers) (defScope s_are_numbers) .none kV_are_numbers dc_are_numbers pm_are_numbers an_are_numbers cd_are_numbers ct_are_numbers), sl_are_numbers⟩) (c_are_numbers : PySem.W.codeIn K cd_are_numbers "are_numbers" = true) (k_are_numbers : PySem.W.keepIn K (.ref f_are_numbers) = true)
    {f_require_calendar : Addr} {od_require_calendar an_require_calendar : Option Addr} {sl_require_calendar : Array (Option Value)} {oc_require_calendar kV_require_calendar dc_require_calendar pm_require_calendar cd_require_calendar ct_require_calendar : Value}
    (a_require_calendar : PySem.W.nsIn K mainGlobals "require_calendar" = some (some (.ref f_require_calendar))) (l_require_calendar : K.lookup f_require_calendar = some ⟨oc_require_calendar, od_require_calendar, .func (PySem.W.fnOf "require_calendar" "require_calendar" (defArgs s_require_calendar) (defBody s_require_calendar) (defScope s_require_calendar) .none kV_require_calendar dc_require_calendar pm_require_calendar an_require_calendar cd_require_calendar ct_require_calendar), sl_require_calendar⟩) (c_require_calendar : PySem.W.codeIn K cd_require_calendar "require_calendar" = true) (k_require_calendar : PySem.W.keepIn K (.ref f_require_calendar) = true)
    {f_require_row : Addr} {od_require_row an_require_row : Option Addr} {sl_require_row : Array (Option Value)} {oc_require_row kV_require_row dc_require_row pm_require_row cd_require_row ct_require_row : Value}
    (a_require_row : PySem.W.nsIn K mainGlobals "require_row" = some (some (.ref f_require_row))) (l_require_row : K.lookup f_require_row = some ⟨oc_require_row, od_require_row, .func (PySem.W.fnOf "require_row" "require_row" (defArgs s_require_row) (defBody s_require_row) (defScope s_require_row) .none kV_require_row dc_require_row pm_require_row an_require_row cd_require_row ct_require_row), sl_require_row⟩) (c_require_row : PySem.W.codeIn K cd_require_row "require_row" = true) (k_require_row : PySem.W.keepIn K (.ref f_require_row) = true)
    {f_away_on : Addr} {od_away_on an_away_on : Option Addr} {sl_away_on : Array (Option Value)} {oc_away_on kV_away_on dc_away_on pm_away_on cd_away_on ct_away_on : Value}
    (a_away_on : PySem.W.nsIn K mainGlobals "away_on" = some (some (.ref f_away_on))) (l_away_on : K.lookup f_away_on = some ⟨oc_away_on, od_away_on, .func (PySem.W.fnOf "away_on" "away_on" (defArgs s_away_on) (defBody s_away_on) (defScope s_away_on) .none kV_away_on dc_away_on pm_away_on an_away_on cd_away_on ct_away_on), sl_away_on⟩) (c_away_on : PySem.W.codeIn K cd_away_on "away_on" = true) (k_away_on : PySem.W.keepIn K (.ref f_away_on) = true)
    {f_first_over : Addr} {od_first_over an_first_over : Option Addr} {sl_first_over : Array (Option Value)} {oc_first_over kV_first_over dc_first_over pm_first_over cd_first_over ct_first_over : Value}
    (a_first_over : PySem.W.nsIn K mainGlobals "first_over" = some (some (.ref f_first_over))) (l_first_over : K.lookup f_first_over = some ⟨oc_first_over, od_first_over, .func (PySem.W.fnOf "first_over" "first_over" (defArgs s_first_over) (defBody s_first_over) (defScope s_first_over) .none kV_first_over dc_first_over pm_first_over an_first_over cd_first_over ct_first_over), sl_first_over⟩) (c_first_over : PySem.W.codeIn K cd_first_over "first_over" = true) (k_first_over : PySem.W.keepIn K (.ref f_first_over) = true)
    {f_require_past : Addr} {od_require_past an_require_past : Option Addr} {sl_require_past : Array (Option Value)} {oc_require_past kV_require_past dc_require_past pm_require_past cd_require_past ct_require_past : Value}
    (a_require_past : PySem.W.nsIn K mainGlobals "require_past" = some (some (.ref f_require_past))) (l_require_past : K.lookup f_require_past = some ⟨oc_require_past, od_require_past, .func (PySem.W.fnOf "require_past" "require_past" (defArgs s_require_past) (defBody s_require_past) (defScope s_require_past) .none kV_require_past dc_require_past pm_require_past an_require_past cd_require_past ct_require_past), sl_require_past⟩) (c_require_past : PySem.W.codeIn K cd_require_past "require_past" = true) (k_require_past : PySem.W.keepIn K (.ref f_require_past) = true)
    {f_require_holidays : Addr} {od_require_holidays an_require_holidays : Option Addr} {sl_require_holidays : Array (Option Value)} {oc_require_holidays kV_require_holidays dc_require_holidays pm_require_holidays cd_require_holidays ct_require_holidays : Value}
    (a_require_holidays : PySem.W.nsIn K mainGlobals "require_holidays" = some (some (.ref f_require_holidays))) (l_require_holidays : K.lookup f_require_holidays = some ⟨oc_require_holidays, od_require_holidays, .func (PySem.W.fnOf "require_holidays" "require_holidays" (defArgs s_require_holidays) (defBody s_require_holidays) (defScope s_require_holidays) .none kV_require_holidays dc_require_holidays pm_require_holidays an_require_holidays cd_require_holidays ct_require_holidays), sl_require_holidays⟩) (c_require_holidays : PySem.W.codeIn K cd_require_holidays "require_holidays" = true) (k_require_holidays : PySem.W.keepIn K (.ref f_require_holidays) = true)
    {f_back_day : Addr} {od_back_day an_back_day : Option Addr} {sl_back_day : Array (Option Value)} {oc_back_day kV_back_day dc_back_day pm_back_day cd_back_day ct_back_day : Value}
    (a_back_day : PySem.W.nsIn K mainGlobals "back_day" = some (some (.ref f_back_day))) (l_back_day : K.lookup f_back_day = some ⟨oc_back_day, od_back_day, .func (PySem.W.fnOf "back_day" "back_day" (defArgs s_back_day) (defBody s_back_day) (defScope s_back_day) .none kV_back_day dc_back_day pm_back_day an_back_day cd_back_day ct_back_day), sl_back_day⟩) (c_back_day : PySem.W.codeIn K cd_back_day "back_day" = true) (k_back_day : PySem.W.keepIn K (.ref f_back_day) = true)
    {f_steady : Addr} {od_steady an_steady : Option Addr} {sl_steady : Array (Option Value)} {oc_steady kV_steady dc_steady pm_steady cd_steady ct_steady : Value}
    (a_steady : PySem.W.nsIn K mainGlobals "steady" = some (some (.ref f_steady))) (l_steady : K.lookup f_steady = some ⟨oc_steady, od_steady, .func (PySem.W.fnOf "steady" "steady" (defArgs s_steady) (defBody s_steady) (defScope s_steady) .none kV_steady dc_steady pm_steady an_steady cd_steady ct_steady), sl_steady⟩) (c_steady : PySem.W.codeIn K cd_steady "steady" = true) (k_steady : PySem.W.keepIn K (.ref f_steady) = true)
    {f_with_pieces : Addr} {od_with_pieces an_with_pieces : Option Addr} {sl_with_pieces : Array (Option Value)} {oc_with_pieces kV_with_pieces dc_with_pieces pm_with_pieces cd_with_pieces ct_with_pieces : Value}
    (a_with_pieces : PySem.W.nsIn K mainGlobals "with_pieces" = some (some (.ref f_with_pieces))) (l_with_pieces : K.lookup f_with_pieces = some ⟨oc_with_pieces, od_with_pieces, .func (PySem.W.fnOf "with_pieces" "with_pieces" (defArgs s_with_pieces) (defBody s_with_pieces) (defScope s_with_pieces) .none kV_with_pieces dc_with_pieces pm_with_pieces an_with_pieces cd_with_pieces ct_with_pieces), sl_with_pieces⟩) (c_with_pieces : PySem.W.codeIn K cd_with_pieces "with_pieces" = true) (k_with_pieces : PySem.W.keepIn K (.ref f_with_pieces) = true)
    {f_away : Addr} {od_away an_away : Option Addr} {sl_away : Array (Option Value)} {oc_away kV_away dc_away pm_away cd_away ct_away : Value}
    (a_away : PySem.W.nsIn K mainGlobals "away" = some (some (.ref f_away))) (l_away : K.lookup f_away = some ⟨oc_away, od_away, .func (PySem.W.fnOf "away" "away" (defArgs s_away) (defBody s_away) (defScope s_away) .none kV_away dc_away pm_away an_away cd_away ct_away), sl_away⟩) (c_away : PySem.W.codeIn K cd_away "away" = true) (k_away : PySem.W.keepIn K (.ref f_away) = true)
    {f_greatest_next : Addr} {od_greatest_next an_greatest_next : Option Addr} {sl_greatest_next : Array (Option Value)} {oc_greatest_next kV_greatest_next dc_greatest_next pm_greatest_next cd_greatest_next ct_greatest_next : Value}
    (a_greatest_next : PySem.W.nsIn K mainGlobals "greatest_next" = some (some (.ref f_greatest_next))) (l_greatest_next : K.lookup f_greatest_next = some ⟨oc_greatest_next, od_greatest_next, .func (PySem.W.fnOf "greatest_next" "greatest_next" (defArgs s_greatest_next) (defBody s_greatest_next) (defScope s_greatest_next) .none kV_greatest_next dc_greatest_next pm_greatest_next an_greatest_next cd_greatest_next ct_greatest_next), sl_greatest_next⟩) (c_greatest_next : PySem.W.codeIn K cd_greatest_next "greatest_next" = true) (k_greatest_next : PySem.W.keepIn K (.ref f_greatest_next) = true)
    {f_ready : Addr} {od_ready an_ready : Option Addr} {sl_ready : Array (Option Value)} {oc_ready kV_ready dc_ready pm_ready cd_ready ct_ready : Value}
    (a_ready : PySem.W.nsIn K mainGlobals "ready" = some (some (.ref f_ready))) (l_ready : K.lookup f_ready = some ⟨oc_ready, od_ready, .func (PySem.W.fnOf "ready" "ready" (defArgs s_ready) (defBody s_ready) (defScope s_ready) .none kV_ready dc_ready pm_ready an_ready cd_ready ct_ready), sl_ready⟩) (c_ready : PySem.W.codeIn K cd_ready "ready" = true) (k_ready : PySem.W.keepIn K (.ref f_ready) = true)
    {f_first_fault : Addr} {od_first_fault an_first_fault : Option Addr} {sl_first_fault : Array (Option Value)} {oc_first_fault kV_first_fault dc_first_fault pm_first_fault cd_first_fault ct_first_fault : Value}
    (a_first_fault : PySem.W.nsIn K mainGlobals "first_fault" = some (some (.ref f_first_fault))) (l_first_fault : K.lookup f_first_fault = some ⟨oc_first_fault, od_first_fault, .func (PySem.W.fnOf "first_fault" "first_fault" (defArgs s_first_fault) (defBody s_first_fault) (defScope s_first_fault) .none kV_first_fault dc_first_fault pm_first_fault an_first_fault cd_first_fault ct_first_fault), sl_first_fault⟩) (c_first_fault : PySem.W.codeIn K cd_first_fault "first_fault" = true) (k_first_fault : PySem.W.keepIn K (.ref f_first_fault) = true)
    {f_rest_of : Addr} {od_rest_of an_rest_of : Option Addr} {sl_rest_of : Array (Option Value)} {oc_rest_of kV_rest_of dc_rest_of pm_rest_of cd_rest_of ct_rest_of : Value}
    (a_rest_of : PySem.W.nsIn K mainGlobals "rest_of" = some (some (.ref f_rest_of))) (l_rest_of : K.lookup f_rest_of = some ⟨oc_rest_of, od_rest_of, .func (PySem.W.fnOf "rest_of" "rest_of" (defArgs s_rest_of) (defBody s_rest_of) (defScope s_rest_of) .none kV_rest_of dc_rest_of pm_rest_of an_rest_of cd_rest_of ct_rest_of), sl_rest_of⟩) (c_rest_of : PySem.W.codeIn K cd_rest_of "rest_of" = true) (k_rest_of : PySem.W.keepIn K (.ref f_rest_of) = true)
    {f_least_owned : Addr} {od_least_owned an_least_owned : Option Addr} {sl_least_owned : Array (Option Value)} {oc_least_owned kV_least_owned dc_least_owned pm_least_owned cd_least_owned ct_least_owned : Value}
    (a_least_owned : PySem.W.nsIn K mainGlobals "least_owned" = some (some (.ref f_least_owned))) (l_least_owned : K.lookup f_least_owned = some ⟨oc_least_owned, od_least_owned, .func (PySem.W.fnOf "least_owned" "least_owned" (defArgs s_least_owned) (defBody s_least_owned) (defScope s_least_owned) .none kV_least_owned dc_least_owned pm_least_owned an_least_owned cd_least_owned ct_least_owned), sl_least_owned⟩) (c_least_owned : PySem.W.codeIn K cd_least_owned "least_owned" = true) (k_least_owned : PySem.W.keepIn K (.ref f_least_owned) = true)
    {f_law_mixed : Addr} {od_law_mixed an_law_mixed : Option Addr} {sl_law_mixed : Array (Option Value)} {oc_law_mixed kV_law_mixed dc_law_mixed pm_law_mixed cd_law_mixed ct_law_mixed : Value}
    (a_law_mixed : PySem.W.nsIn K mainGlobals "_law_mixed" = some (some (.ref f_law_mixed))) (l_law_mixed : K.lookup f_law_mixed = some ⟨oc_law_mixed, od_law_mixed, .func (PySem.W.fnOf "_law_mixed" "_law_mixed" (defArgs s_law_mixed) (defBody s_law_mixed) (defScope s_law_mixed) .none kV_law_mixed dc_law_mixed pm_law_mixed an_law_mixed cd_law_mixed ct_law_mixed), sl_law_mixed⟩) (c_law_mixed : PySem.W.codeIn K cd_law_mixed "_law_mixed" = true) (k_law_mixed : PySem.W.keepIn K (.ref f_law_mixed) = true)
    {f_law_source : Addr} {od_law_source an_law_source : Option Addr} {sl_law_source : Array (Option Value)} {oc_law_source kV_law_source dc_law_source pm_law_source cd_law_source ct_law_source : Value}
    (a_law_source : PySem.W.nsIn K mainGlobals "_law_source" = some (some (.ref f_law_source))) (l_law_source : K.lookup f_law_source = some ⟨oc_law_source, od_law_source, .func (PySem.W.fnOf "_law_source" "_law_source" (defArgs s_law_source) (defBody s_law_source) (defScope s_law_source) .none kV_law_source dc_law_source pm_law_source an_law_source cd_law_source ct_law_source), sl_law_source⟩) (c_law_source : PySem.W.codeIn K cd_law_source "_law_source" = true) (k_law_source : PySem.W.keepIn K (.ref f_law_source) = true)
    {f_law_take : Addr} {od_law_take an_law_take : Option Addr} {sl_law_take : Array (Option Value)} {oc_law_take kV_law_take dc_law_take pm_law_take cd_law_take ct_law_take : Value}
    (a_law_take : PySem.W.nsIn K mainGlobals "_law_take" = some (some (.ref f_law_take))) (l_law_take : K.lookup f_law_take = some ⟨oc_law_take, od_law_take, .func (PySem.W.fnOf "_law_take" "_law_take" (defArgs s_law_take) (defBody s_law_take) (defScope s_law_take) .none kV_law_take dc_law_take pm_law_take an_law_take cd_law_take ct_law_take), sl_law_take⟩) (c_law_take : PySem.W.codeIn K cd_law_take "_law_take" = true) (k_law_take : PySem.W.keepIn K (.ref f_law_take) = true)
    {f_law_stock : Addr} {od_law_stock an_law_stock : Option Addr} {sl_law_stock : Array (Option Value)} {oc_law_stock kV_law_stock dc_law_stock pm_law_stock cd_law_stock ct_law_stock : Value}
    (a_law_stock : PySem.W.nsIn K mainGlobals "_law_stock" = some (some (.ref f_law_stock))) (l_law_stock : K.lookup f_law_stock = some ⟨oc_law_stock, od_law_stock, .func (PySem.W.fnOf "_law_stock" "_law_stock" (defArgs s_law_stock) (defBody s_law_stock) (defScope s_law_stock) .none kV_law_stock dc_law_stock pm_law_stock an_law_stock cd_law_stock ct_law_stock), sl_law_stock⟩) (c_law_stock : PySem.W.codeIn K cd_law_stock "_law_stock" = true) (k_law_stock : PySem.W.keepIn K (.ref f_law_stock) = true)
    {f_law_gone : Addr} {od_law_gone an_law_gone : Option Addr} {sl_law_gone : Array (Option Value)} {oc_law_gone kV_law_gone dc_law_gone pm_law_gone cd_law_gone ct_law_gone : Value}
    (a_law_gone : PySem.W.nsIn K mainGlobals "_law_gone" = some (some (.ref f_law_gone))) (l_law_gone : K.lookup f_law_gone = some ⟨oc_law_gone, od_law_gone, .func (PySem.W.fnOf "_law_gone" "_law_gone" (defArgs s_law_gone) (defBody s_law_gone) (defScope s_law_gone) .none kV_law_gone dc_law_gone pm_law_gone an_law_gone cd_law_gone ct_law_gone), sl_law_gone⟩) (c_law_gone : PySem.W.codeIn K cd_law_gone "_law_gone" = true) (k_law_gone : PySem.W.keepIn K (.ref f_law_gone) = true)
    {f_law_over : Addr} {od_law_over an_law_over : Option Addr} {sl_law_over : Array (Option Value)} {oc_law_over kV_law_over dc_law_over pm_law_over cd_law_over ct_law_over : Value}
    (a_law_over : PySem.W.nsIn K mainGlobals "_law_over" = some (some (.ref f_law_over))) (l_law_over : K.lookup f_law_over = some ⟨oc_law_over, od_law_over, .func (PySem.W.fnOf "_law_over" "_law_over" (defArgs s_law_over) (defBody s_law_over) (defScope s_law_over) .none kV_law_over dc_law_over pm_law_over an_law_over cd_law_over ct_law_over), sl_law_over⟩) (c_law_over : PySem.W.codeIn K cd_law_over "_law_over" = true) (k_law_over : PySem.W.keepIn K (.ref f_law_over) = true)
    {f_law_raised : Addr} {od_law_raised an_law_raised : Option Addr} {sl_law_raised : Array (Option Value)} {oc_law_raised kV_law_raised dc_law_raised pm_law_raised cd_law_raised ct_law_raised : Value}
    (a_law_raised : PySem.W.nsIn K mainGlobals "_law_raised" = some (some (.ref f_law_raised))) (l_law_raised : K.lookup f_law_raised = some ⟨oc_law_raised, od_law_raised, .func (PySem.W.fnOf "_law_raised" "_law_raised" (defArgs s_law_raised) (defBody s_law_raised) (defScope s_law_raised) .none kV_law_raised dc_law_raised pm_law_raised an_law_raised cd_law_raised ct_law_raised), sl_law_raised⟩) (c_law_raised : PySem.W.codeIn K cd_law_raised "_law_raised" = true) (k_law_raised : PySem.W.keepIn K (.ref f_law_raised) = true)
    {f_law_bad_stock : Addr} {od_law_bad_stock an_law_bad_stock : Option Addr} {sl_law_bad_stock : Array (Option Value)} {oc_law_bad_stock kV_law_bad_stock dc_law_bad_stock pm_law_bad_stock cd_law_bad_stock ct_law_bad_stock : Value}
    (a_law_bad_stock : PySem.W.nsIn K mainGlobals "_law_bad_stock" = some (some (.ref f_law_bad_stock))) (l_law_bad_stock : K.lookup f_law_bad_stock = some ⟨oc_law_bad_stock, od_law_bad_stock, .func (PySem.W.fnOf "_law_bad_stock" "_law_bad_stock" (defArgs s_law_bad_stock) (defBody s_law_bad_stock) (defScope s_law_bad_stock) .none kV_law_bad_stock dc_law_bad_stock pm_law_bad_stock an_law_bad_stock cd_law_bad_stock ct_law_bad_stock), sl_law_bad_stock⟩) (c_law_bad_stock : PySem.W.codeIn K cd_law_bad_stock "_law_bad_stock" = true) (k_law_bad_stock : PySem.W.keepIn K (.ref f_law_bad_stock) = true)
    {f_law_bad_line : Addr} {od_law_bad_line an_law_bad_line : Option Addr} {sl_law_bad_line : Array (Option Value)} {oc_law_bad_line kV_law_bad_line dc_law_bad_line pm_law_bad_line cd_law_bad_line ct_law_bad_line : Value}
    (a_law_bad_line : PySem.W.nsIn K mainGlobals "_law_bad_line" = some (some (.ref f_law_bad_line))) (l_law_bad_line : K.lookup f_law_bad_line = some ⟨oc_law_bad_line, od_law_bad_line, .func (PySem.W.fnOf "_law_bad_line" "_law_bad_line" (defArgs s_law_bad_line) (defBody s_law_bad_line) (defScope s_law_bad_line) .none kV_law_bad_line dc_law_bad_line pm_law_bad_line an_law_bad_line cd_law_bad_line ct_law_bad_line), sl_law_bad_line⟩) (c_law_bad_line : PySem.W.codeIn K cd_law_bad_line "_law_bad_line" = true) (k_law_bad_line : PySem.W.keepIn K (.ref f_law_bad_line) = true)
    {f_law_late : Addr} {od_law_late an_law_late : Option Addr} {sl_law_late : Array (Option Value)} {oc_law_late kV_law_late dc_law_late pm_law_late cd_law_late ct_law_late : Value}
    (a_law_late : PySem.W.nsIn K mainGlobals "_law_late" = some (some (.ref f_law_late))) (l_law_late : K.lookup f_law_late = some ⟨oc_law_late, od_law_late, .func (PySem.W.fnOf "_law_late" "_law_late" (defArgs s_law_late) (defBody s_law_late) (defScope s_law_late) .none kV_law_late dc_law_late pm_law_late an_law_late cd_law_late ct_law_late), sl_law_late⟩) (c_law_late : PySem.W.codeIn K cd_law_late "_law_late" = true) (k_law_late : PySem.W.keepIn K (.ref f_law_late) = true)
    {f_law_bad_start : Addr} {od_law_bad_start an_law_bad_start : Option Addr} {sl_law_bad_start : Array (Option Value)} {oc_law_bad_start kV_law_bad_start dc_law_bad_start pm_law_bad_start cd_law_bad_start ct_law_bad_start : Value}
    (a_law_bad_start : PySem.W.nsIn K mainGlobals "_law_bad_start" = some (some (.ref f_law_bad_start))) (l_law_bad_start : K.lookup f_law_bad_start = some ⟨oc_law_bad_start, od_law_bad_start, .func (PySem.W.fnOf "_law_bad_start" "_law_bad_start" (defArgs s_law_bad_start) (defBody s_law_bad_start) (defScope s_law_bad_start) .none kV_law_bad_start dc_law_bad_start pm_law_bad_start an_law_bad_start cd_law_bad_start ct_law_bad_start), sl_law_bad_start⟩) (c_law_bad_start : PySem.W.codeIn K cd_law_bad_start "_law_bad_start" = true) (k_law_bad_start : PySem.W.keepIn K (.ref f_law_bad_start) = true)
    {f_law_steady_right : Addr} {od_law_steady_right an_law_steady_right : Option Addr} {sl_law_steady_right : Array (Option Value)} {oc_law_steady_right kV_law_steady_right dc_law_steady_right pm_law_steady_right cd_law_steady_right ct_law_steady_right : Value}
    (a_law_steady_right : PySem.W.nsIn K mainGlobals "_law_steady_right" = some (some (.ref f_law_steady_right))) (l_law_steady_right : K.lookup f_law_steady_right = some ⟨oc_law_steady_right, od_law_steady_right, .func (PySem.W.fnOf "_law_steady_right" "_law_steady_right" (defArgs s_law_steady_right) (defBody s_law_steady_right) (defScope s_law_steady_right) .none kV_law_steady_right dc_law_steady_right pm_law_steady_right an_law_steady_right cd_law_steady_right ct_law_steady_right), sl_law_steady_right⟩) (c_law_steady_right : PySem.W.codeIn K cd_law_steady_right "_law_steady_right" = true) (k_law_steady_right : PySem.W.keepIn K (.ref f_law_steady_right) = true)
    {f_law_check : Addr} {od_law_check an_law_check : Option Addr} {sl_law_check : Array (Option Value)} {oc_law_check kV_law_check dc_law_check pm_law_check cd_law_check ct_law_check : Value}
    (a_law_check : PySem.W.nsIn K mainGlobals "_law_check" = some (some (.ref f_law_check))) (l_law_check : K.lookup f_law_check = some ⟨oc_law_check, od_law_check, .func (PySem.W.fnOf "_law_check" "_law_check" (defArgs s_law_check) (defBody s_law_check) (defScope s_law_check) .none kV_law_check dc_law_check pm_law_check an_law_check cd_law_check ct_law_check), sl_law_check⟩) (c_law_check : PySem.W.codeIn K cd_law_check "_law_check" = true) (k_law_check : PySem.W.keepIn K (.ref f_law_check) = true)
    {f_law : Addr} {od_law an_law : Option Addr} {sl_law : Array (Option Value)} {oc_law kV_law dc_law pm_law cd_law ct_law : Value}
    (a_law : PySem.W.nsIn K mainGlobals "law" = some (some (.ref f_law))) (l_law : K.lookup f_law = some ⟨oc_law, od_law, .func (PySem.W.fnOf "law" "law" (defArgs s_law) (defBody s_law) (defScope s_law) .none kV_law dc_law pm_law an_law cd_law ct_law), sl_law⟩) (c_law : PySem.W.codeIn K cd_law "law" = true) (k_law : PySem.W.keepIn K (.ref f_law) = true)
    {t_MAX_DAYS : Tok} (v_MAX_DAYS : PySem.W.nsIn K mainGlobals "MAX_DAYS" = some (some (.int 100 t_MAX_DAYS)))
    {t_MAX_OWNED : Tok} (v_MAX_OWNED : PySem.W.nsIn K mainGlobals "MAX_OWNED" = some (some (.int 12 t_MAX_OWNED)))
    (z_ValueError : PySem.W.nsIn K mainGlobals "ValueError" = some none)
    (z_all : PySem.W.nsIn K mainGlobals "all" = some none)
    (z_bool : PySem.W.nsIn K mainGlobals "bool" = some none)
    (z_enumerate : PySem.W.nsIn K mainGlobals "enumerate" = some none)
    (z_int : PySem.W.nsIn K mainGlobals "int" = some none)
    (z_isinstance : PySem.W.nsIn K mainGlobals "isinstance" = some none)
    (z_len : PySem.W.nsIn K mainGlobals "len" = some none)
    (z_list : PySem.W.nsIn K mainGlobals "list" = some none)
    (z_max : PySem.W.nsIn K mainGlobals "max" = some none)
    (z_min : PySem.W.nsIn K mainGlobals "min" = some none)
    (z_range : PySem.W.nsIn K mainGlobals "range" = some none)
    (z_tuple : PySem.W.nsIn K mainGlobals "tuple" = some none)
    (z_zip : PySem.W.nsIn K mainGlobals "zip" = some none)
    (sp_class : PySem.W.specialIn K (.builtin "object.__class__") "__get__" = some (some (.builtin "getset_descriptor.__get__"))) (tk_class : PySem.W.takesIn K (.builtin "object.__class__") = some true)
    (ca_InvalidCalendar : PySem.W.findIn K (.ref X_InvalidCalendar) "__class__" = some (some (.builtin "object.__class__"))) (mo_InvalidCalendar : PySem.W.mroIn K X_InvalidCalendar (.type "object") = some true) (nf_InvalidCalendar_day : PySem.W.findIn K (.ref X_InvalidCalendar) "day" = some none) (nf_InvalidCalendar_index : PySem.W.findIn K (.ref X_InvalidCalendar) "index" = some none) (nf_InvalidCalendar_limit : PySem.W.findIn K (.ref X_InvalidCalendar) "limit" = some none) (nf_InvalidCalendar_name : PySem.W.findIn K (.ref X_InvalidCalendar) "name" = some none) (kv_InvalidCalendar : PySem.W.subIn K (.ref X_InvalidCalendar) (.type "ValueError") = some true)
    (ca_InvalidRow : PySem.W.findIn K (.ref X_InvalidRow) "__class__" = some (some (.builtin "object.__class__"))) (mo_InvalidRow : PySem.W.mroIn K X_InvalidRow (.type "object") = some true) (nf_InvalidRow_day : PySem.W.findIn K (.ref X_InvalidRow) "day" = some none) (nf_InvalidRow_index : PySem.W.findIn K (.ref X_InvalidRow) "index" = some none) (nf_InvalidRow_limit : PySem.W.findIn K (.ref X_InvalidRow) "limit" = some none) (nf_InvalidRow_name : PySem.W.findIn K (.ref X_InvalidRow) "name" = some none) (kv_InvalidRow : PySem.W.subIn K (.ref X_InvalidRow) (.type "ValueError") = some true)
    (ca_InvalidPast : PySem.W.findIn K (.ref X_InvalidPast) "__class__" = some (some (.builtin "object.__class__"))) (mo_InvalidPast : PySem.W.mroIn K X_InvalidPast (.type "object") = some true) (nf_InvalidPast_day : PySem.W.findIn K (.ref X_InvalidPast) "day" = some none) (nf_InvalidPast_index : PySem.W.findIn K (.ref X_InvalidPast) "index" = some none) (nf_InvalidPast_limit : PySem.W.findIn K (.ref X_InvalidPast) "limit" = some none) (nf_InvalidPast_name : PySem.W.findIn K (.ref X_InvalidPast) "name" = some none) (kv_InvalidPast : PySem.W.subIn K (.ref X_InvalidPast) (.type "ValueError") = some true)
    (ca_InvalidHolidays : PySem.W.findIn K (.ref X_InvalidHolidays) "__class__" = some (some (.builtin "object.__class__"))) (mo_InvalidHolidays : PySem.W.mroIn K X_InvalidHolidays (.type "object") = some true) (nf_InvalidHolidays_day : PySem.W.findIn K (.ref X_InvalidHolidays) "day" = some none) (nf_InvalidHolidays_index : PySem.W.findIn K (.ref X_InvalidHolidays) "index" = some none) (nf_InvalidHolidays_limit : PySem.W.findIn K (.ref X_InvalidHolidays) "limit" = some none) (nf_InvalidHolidays_name : PySem.W.findIn K (.ref X_InvalidHolidays) "name" = some none) (kv_InvalidHolidays : PySem.W.subIn K (.ref X_InvalidHolidays) (.type "ValueError") = some true)
    (ca_InvalidNumber : PySem.W.findIn K (.ref X_InvalidNumber) "__class__" = some (some (.builtin "object.__class__"))) (mo_InvalidNumber : PySem.W.mroIn K X_InvalidNumber (.type "object") = some true) (nf_InvalidNumber_day : PySem.W.findIn K (.ref X_InvalidNumber) "day" = some none) (nf_InvalidNumber_index : PySem.W.findIn K (.ref X_InvalidNumber) "index" = some none) (nf_InvalidNumber_limit : PySem.W.findIn K (.ref X_InvalidNumber) "limit" = some none) (nf_InvalidNumber_name : PySem.W.findIn K (.ref X_InvalidNumber) "name" = some none) (kv_InvalidNumber : PySem.W.subIn K (.ref X_InvalidNumber) (.type "ValueError") = some true)
    {mc_law_steady_right mP_law_steady_right : Addr} {xc_law_steady_right : Value} {xd_law_steady_right : Option Addr} {vs_law_steady_right : Array Value} {xl_law_steady_right : Array (Option Value)} (m1_law_steady_right : cd_law_steady_right = .ref mc_law_steady_right) (m2_law_steady_right : K.lookup mc_law_steady_right = some ⟨xc_law_steady_right, xd_law_steady_right, .fields vs_law_steady_right, xl_law_steady_right⟩) (m3_law_steady_right : vs_law_steady_right[11]? = some (.ref mP_law_steady_right)) (m4_law_steady_right : K.lookup mP_law_steady_right = none) (m5_law_steady_right : h.get? mP_law_steady_right = some { cls := .none, data := .fields #[] }) (m6_law_steady_right : PySem.W.codeHdIn K mc_law_steady_right mP_law_steady_right = true)
    {mc_law_check mP_law_check : Addr} {xc_law_check : Value} {xd_law_check : Option Addr} {vs_law_check : Array Value} {xl_law_check : Array (Option Value)} (m1_law_check : cd_law_check = .ref mc_law_check) (m2_law_check : K.lookup mc_law_check = some ⟨xc_law_check, xd_law_check, .fields vs_law_check, xl_law_check⟩) (m3_law_check : vs_law_check[11]? = some (.ref mP_law_check)) (m4_law_check : K.lookup mP_law_check = none) (m5_law_check : h.get? mP_law_check = some { cls := .none, data := .fields #[] }) (m6_law_check : PySem.W.codeHdIn K mc_law_check mP_law_check = true)
    (mNd : [mP_law_steady_right, mP_law_check].Nodup)
    : ∃ (fd : FuncData) (C : CT) (ms : List Mkr), ms.map (·.1) = [("_law_steady_right" : Str), ("_law_check" : Str)] ∧ (∀ p ∈ ms, h.get? p.2.2 = some { cls := .none, data := .fields #[] } ∧ K.lookup p.2.2 = none ∧ PySem.W.CodeHd h p.2.1 p.2.2 ∧ PySem.W.tabIn K p.1 = some (p.2.1, p.2.2)) ∧ (ms.map (·.2.2)).Nodup ∧ (∀ (s : Shared) (v : Value), BindsTo s fd ⟨[v], []⟩ [("_law_script", v)]) ∧ ∀ base : Heap, K.In base → base.Ns mainGlobals mg → (∀ p ∈ ms, LamX.TabB base mg p.2.1 p.2.2) → FnQ l.prog w K mg base C 10 fa fd ["_law_script"] F_law := by
  subst m1_law_steady_right
  subst m1_law_check
  have e2 : fa = f_law := by
    have e := hfa.symm.trans (PySem.W.mg_of X G a_law)
    cases e
    rfl
  rw [e2]
  have F_is_integer := fun_mk (st := s_is_integer) l_is_integer c_is_integer k_is_integer
  have F_is_at_least := fun_mk (st := s_is_at_least) l_is_at_least c_is_at_least k_is_at_least
  have F_is_between := fun_mk (st := s_is_between) l_is_between c_is_between k_is_between
  have F_is_day := fun_mk (st := s_is_day) l_is_day c_is_day k_is_day
  have F_are_numbers := fun_mk (st := s_are_numbers) l_are_numbers c_are_numbers k_are_numbers
  have F_require_calendar := fun_mk (st := s_require_calendar) l_require_calendar c_require_calendar k_require_calendar
  have F_require_row := fun_mk (st := s_require_row) l_require_row c_require_row k_require_row
  have F_away_on := fun_mk (st := s_away_on) l_away_on c_away_on k_away_on
  have F_first_over := fun_mk (st := s_first_over) l_first_over c_first_over k_first_over
  have F_require_past := fun_mk (st := s_require_past) l_require_past c_require_past k_require_past
  have F_require_holidays := fun_mk (st := s_require_holidays) l_require_holidays c_require_holidays k_require_holidays
  have F_back_day := fun_mk (st := s_back_day) l_back_day c_back_day k_back_day
  have F_steady := fun_mk (st := s_steady) l_steady c_steady k_steady
  have F_with_pieces := fun_mk (st := s_with_pieces) l_with_pieces c_with_pieces k_with_pieces
  have F_away := fun_mk (st := s_away) l_away c_away k_away
  have F_greatest_next := fun_mk (st := s_greatest_next) l_greatest_next c_greatest_next k_greatest_next
  have F_ready := fun_mk (st := s_ready) l_ready c_ready k_ready
  have F_first_fault := fun_mk (st := s_first_fault) l_first_fault c_first_fault k_first_fault
  have F_rest_of := fun_mk (st := s_rest_of) l_rest_of c_rest_of k_rest_of
  have F_least_owned := fun_mk (st := s_least_owned) l_least_owned c_least_owned k_least_owned
  have F_law_mixed := fun_mk (st := s_law_mixed) l_law_mixed c_law_mixed k_law_mixed
  have F_law_source := fun_mk (st := s_law_source) l_law_source c_law_source k_law_source
  have F_law_take := fun_mk (st := s_law_take) l_law_take c_law_take k_law_take
  have F_law_stock := fun_mk (st := s_law_stock) l_law_stock c_law_stock k_law_stock
  have F_law_gone := fun_mk (st := s_law_gone) l_law_gone c_law_gone k_law_gone
  have F_law_over := fun_mk (st := s_law_over) l_law_over c_law_over k_law_over
  have F_law_raised := fun_mk (st := s_law_raised) l_law_raised c_law_raised k_law_raised
  have F_law_bad_stock := fun_mk (st := s_law_bad_stock) l_law_bad_stock c_law_bad_stock k_law_bad_stock
  have F_law_bad_line := fun_mk (st := s_law_bad_line) l_law_bad_line c_law_bad_line k_law_bad_line
  have F_law_late := fun_mk (st := s_law_late) l_law_late c_law_late k_law_late
  have F_law_bad_start := fun_mk (st := s_law_bad_start) l_law_bad_start c_law_bad_start k_law_bad_start
  have F_law_steady_right := fun_mk (st := s_law_steady_right) l_law_steady_right c_law_steady_right k_law_steady_right
  have F_law_check := fun_mk (st := s_law_check) l_law_check c_law_check k_law_check
  have F_law := fun_mk (st := s_law) l_law c_law k_law
  have FX_InvalidCalendar := fun_mk (st := s_InvalidCalendar_init) lx_InvalidCalendar cx_InvalidCalendar ox_InvalidCalendar
  have FX_InvalidRow := fun_mk (st := s_InvalidRow_init) lx_InvalidRow cx_InvalidRow ox_InvalidRow
  have FX_InvalidPast := fun_mk (st := s_InvalidPast_init) lx_InvalidPast cx_InvalidPast ox_InvalidPast
  have FX_InvalidHolidays := fun_mk (st := s_InvalidHolidays_init) lx_InvalidHolidays cx_InvalidHolidays ox_InvalidHolidays
  have FX_InvalidNumber := fun_mk (st := s_InvalidNumber_init) lx_InvalidNumber cx_InvalidNumber ox_InvalidNumber
  have T : Tx K mg ⟨f_is_integer, _, f_is_at_least, _, f_is_between, _, f_is_day, _, f_are_numbers, _, f_require_calendar, _, f_require_row, _, f_away_on, _, f_first_over, _, f_require_past, _, f_require_holidays, _, f_back_day, _, f_steady, _, f_with_pieces, _, f_away, _, f_greatest_next, _, f_ready, _, f_first_fault, _, f_rest_of, _, f_least_owned, _, f_law_mixed, _, f_law_source, _, f_law_take, _, f_law_stock, _, f_law_gone, _, f_law_over, _, f_law_raised, _, f_law_bad_stock, _, f_law_bad_line, _, f_law_late, _, f_law_bad_start, _, f_law_steady_right, _, f_law_check, _, f_law, _, xf_InvalidCalendar, _, xf_InvalidRow, _, xf_InvalidPast, _, xf_InvalidHolidays, _, xf_InvalidNumber, _, X_InvalidCalendar, X_InvalidRow, X_InvalidPast, X_InvalidHolidays, X_InvalidNumber, X_BreakError, X_TooLarge, X_InvalidPlan, X_InvalidTest, X_Mismatch, t_MAX_DAYS, t_MAX_OWNED, mc_law_steady_right, mP_law_steady_right, mc_law_check, mP_law_check⟩ :=
    { g_is_integer := PySem.W.mg_of X G a_is_integer,
      F_is_integer := F_is_integer, b_is_integer := F_is_integer.binds fun _ _ _ _ _ _ us hl => match us, hl with | [_], _ => rfl,
      g_is_at_least := PySem.W.mg_of X G a_is_at_least,
      F_is_at_least := F_is_at_least, b_is_at_least := F_is_at_least.binds fun _ _ _ _ _ _ us hl => match us, hl with | [_, _], _ => rfl,
      g_is_between := PySem.W.mg_of X G a_is_between,
      F_is_between := F_is_between, b_is_between := F_is_between.binds fun _ _ _ _ _ _ us hl => match us, hl with | [_, _, _], _ => rfl,
      g_is_day := PySem.W.mg_of X G a_is_day,
      F_is_day := F_is_day, b_is_day := F_is_day.binds fun _ _ _ _ _ _ us hl => match us, hl with | [_, _], _ => rfl,
      g_are_numbers := PySem.W.mg_of X G a_are_numbers,
      F_are_numbers := F_are_numbers, b_are_numbers := F_are_numbers.binds fun _ _ _ _ _ _ us hl => match us, hl with | [_], _ => rfl,
      g_require_calendar := PySem.W.mg_of X G a_require_calendar,
      F_require_calendar := F_require_calendar, b_require_calendar := F_require_calendar.binds fun _ _ _ _ _ _ us hl => match us, hl with | [_], _ => rfl,
      g_require_row := PySem.W.mg_of X G a_require_row,
      F_require_row := F_require_row, b_require_row := F_require_row.binds fun _ _ _ _ _ _ us hl => match us, hl with | [_, _], _ => rfl,
      g_away_on := PySem.W.mg_of X G a_away_on,
      F_away_on := F_away_on, b_away_on := F_away_on.binds fun _ _ _ _ _ _ us hl => match us, hl with | [_, _, _], _ => rfl,
      g_first_over := PySem.W.mg_of X G a_first_over,
      F_first_over := F_first_over, b_first_over := F_first_over.binds fun _ _ _ _ _ _ us hl => match us, hl with | [_, _], _ => rfl,
      g_require_past := PySem.W.mg_of X G a_require_past,
      F_require_past := F_require_past, b_require_past := F_require_past.binds fun _ _ _ _ _ _ us hl => match us, hl with | [_, _], _ => rfl,
      g_require_holidays := PySem.W.mg_of X G a_require_holidays,
      F_require_holidays := F_require_holidays, b_require_holidays := F_require_holidays.binds fun _ _ _ _ _ _ us hl => match us, hl with | [_, _], _ => rfl,
      g_back_day := PySem.W.mg_of X G a_back_day,
      F_back_day := F_back_day, b_back_day := F_back_day.binds fun _ _ _ _ _ _ us hl => match us, hl with | [_, _, _, _], _ => rfl,
      g_steady := PySem.W.mg_of X G a_steady,
      F_steady := F_steady, b_steady := F_steady.binds fun _ _ _ _ _ _ us hl => match us, hl with | [_, _, _, _], _ => rfl,
      g_with_pieces := PySem.W.mg_of X G a_with_pieces,
      F_with_pieces := F_with_pieces, b_with_pieces := F_with_pieces.binds fun _ _ _ _ _ _ us hl => match us, hl with | [_, _, _, _], _ => rfl,
      g_away := PySem.W.mg_of X G a_away,
      F_away := F_away, b_away := F_away.binds fun _ _ _ _ _ _ us hl => match us, hl with | [_, _], _ => rfl,
      g_greatest_next := PySem.W.mg_of X G a_greatest_next,
      F_greatest_next := F_greatest_next, b_greatest_next := F_greatest_next.binds fun _ _ _ _ _ _ us hl => match us, hl with | [_, _], _ => rfl,
      g_ready := PySem.W.mg_of X G a_ready,
      F_ready := F_ready, b_ready := F_ready.binds fun _ _ _ _ _ _ us hl => match us, hl with | [_, _], _ => rfl,
      g_first_fault := PySem.W.mg_of X G a_first_fault,
      F_first_fault := F_first_fault, b_first_fault := F_first_fault.binds fun _ _ _ _ _ _ us hl => match us, hl with | [_, _], _ => rfl,
      g_rest_of := PySem.W.mg_of X G a_rest_of,
      F_rest_of := F_rest_of, b_rest_of := F_rest_of.binds fun _ _ _ _ _ _ us hl => match us, hl with | [_, _], _ => rfl,
      g_least_owned := PySem.W.mg_of X G a_least_owned,
      F_least_owned := F_least_owned, b_least_owned := F_least_owned.binds fun _ _ _ _ _ _ us hl => match us, hl with | [_, _], _ => rfl,
      g_law_mixed := PySem.W.mg_of X G a_law_mixed,
      F_law_mixed := F_law_mixed, b_law_mixed := F_law_mixed.binds fun _ _ _ _ _ _ us hl => match us, hl with | [_, _], _ => rfl,
      g_law_source := PySem.W.mg_of X G a_law_source,
      F_law_source := F_law_source, b_law_source := F_law_source.binds fun _ _ _ _ _ _ us hl => match us, hl with | [_], _ => rfl,
      g_law_take := PySem.W.mg_of X G a_law_take,
      F_law_take := F_law_take, b_law_take := F_law_take.binds fun _ _ _ _ _ _ us hl => match us, hl with | [_, _], _ => rfl,
      g_law_stock := PySem.W.mg_of X G a_law_stock,
      F_law_stock := F_law_stock, b_law_stock := F_law_stock.binds fun _ _ _ _ _ _ us hl => match us, hl with | [_, _, _], _ => rfl,
      g_law_gone := PySem.W.mg_of X G a_law_gone,
      F_law_gone := F_law_gone, b_law_gone := F_law_gone.binds fun _ _ _ _ _ _ us hl => match us, hl with | [_, _, _], _ => rfl,
      g_law_over := PySem.W.mg_of X G a_law_over,
      F_law_over := F_law_over, b_law_over := F_law_over.binds fun _ _ _ _ _ _ us hl => match us, hl with | [_, _], _ => rfl,
      g_law_raised := PySem.W.mg_of X G a_law_raised,
      F_law_raised := F_law_raised, b_law_raised := F_law_raised.binds fun _ _ _ _ _ _ us hl => match us, hl with | [_], _ => rfl,
      g_law_bad_stock := PySem.W.mg_of X G a_law_bad_stock,
      F_law_bad_stock := F_law_bad_stock, b_law_bad_stock := F_law_bad_stock.binds fun _ _ _ _ _ _ us hl => match us, hl with | [_, _], _ => rfl,
      g_law_bad_line := PySem.W.mg_of X G a_law_bad_line,
      F_law_bad_line := F_law_bad_line, b_law_bad_line := F_law_bad_line.binds fun _ _ _ _ _ _ us hl => match us, hl with | [_, _], _ => rfl,
      g_law_late := PySem.W.mg_of X G a_law_late,
      F_law_late := F_law_late, b_law_late := F_law_late.binds fun _ _ _ _ _ _ us hl => match us, hl with | [_, _], _ => rfl,
      g_law_bad_start := PySem.W.mg_of X G a_law_bad_start,
      F_law_bad_start := F_law_bad_start, b_law_bad_start := F_law_bad_start.binds fun _ _ _ _ _ _ us hl => match us, hl with | [_, _], _ => rfl,
      g_law_steady_right := PySem.W.mg_of X G a_law_steady_right,
      F_law_steady_right := F_law_steady_right, b_law_steady_right := F_law_steady_right.binds fun _ _ _ _ _ _ us hl => match us, hl with | [_], _ => rfl,
      g_law_check := PySem.W.mg_of X G a_law_check,
      F_law_check := F_law_check, b_law_check := F_law_check.binds fun _ _ _ _ _ _ us hl => match us, hl with | [_], _ => rfl,
      g_law := PySem.W.mg_of X G a_law,
      F_law := F_law, b_law := F_law.binds fun _ _ _ _ _ _ us hl => match us, hl with | [_], _ => rfl,
      x_InvalidCalendar := ⟨⟨Bk.errOk_cls lo_InvalidCalendar eo_InvalidCalendar, sx_InvalidCalendar, bx_InvalidCalendar, ty_InvalidCalendar, kx_InvalidCalendar⟩, ⟨ga_InvalidCalendar, gt_InvalidCalendar, bx_InvalidCalendar, hx_InvalidCalendar⟩, nx_InvalidCalendar, ix_InvalidCalendar, tx_InvalidCalendar, FX_InvalidCalendar, FX_InvalidCalendar.binds fun _ _ _ _ _ _ us hl => match us, hl with | [_, _], _ => rfl⟩,
      x_InvalidRow := ⟨⟨Bk.errOk_cls lo_InvalidRow eo_InvalidRow, sx_InvalidRow, bx_InvalidRow, ty_InvalidRow, kx_InvalidRow⟩, ⟨ga_InvalidRow, gt_InvalidRow, bx_InvalidRow, hx_InvalidRow⟩, nx_InvalidRow, ix_InvalidRow, tx_InvalidRow, FX_InvalidRow, FX_InvalidRow.binds fun _ _ _ _ _ _ us hl => match us, hl with | [_, _], _ => rfl⟩,
      x_InvalidPast := ⟨⟨Bk.errOk_cls lo_InvalidPast eo_InvalidPast, sx_InvalidPast, bx_InvalidPast, ty_InvalidPast, kx_InvalidPast⟩, ⟨ga_InvalidPast, gt_InvalidPast, bx_InvalidPast, hx_InvalidPast⟩, nx_InvalidPast, ix_InvalidPast, tx_InvalidPast, FX_InvalidPast, FX_InvalidPast.binds fun _ _ _ _ _ _ us hl => match us, hl with | [_, _], _ => rfl⟩,
      x_InvalidHolidays := ⟨⟨Bk.errOk_cls lo_InvalidHolidays eo_InvalidHolidays, sx_InvalidHolidays, bx_InvalidHolidays, ty_InvalidHolidays, kx_InvalidHolidays⟩, ⟨ga_InvalidHolidays, gt_InvalidHolidays, bx_InvalidHolidays, hx_InvalidHolidays⟩, nx_InvalidHolidays, ix_InvalidHolidays, tx_InvalidHolidays, FX_InvalidHolidays, FX_InvalidHolidays.binds fun _ _ _ _ _ _ us hl => match us, hl with | [_, _], _ => rfl⟩,
      x_InvalidNumber := ⟨⟨Bk.errOk_cls lo_InvalidNumber eo_InvalidNumber, sx_InvalidNumber, bx_InvalidNumber, ty_InvalidNumber, kx_InvalidNumber⟩, ⟨ga_InvalidNumber, gt_InvalidNumber, bx_InvalidNumber, hx_InvalidNumber⟩, nx_InvalidNumber, ix_InvalidNumber, tx_InvalidNumber, FX_InvalidNumber, FX_InvalidNumber.binds fun _ _ _ _ _ _ us hl => match us, hl with | [_, _], _ => rfl⟩,
      gx_InvalidCalendar := PySem.W.mg_of X G aX_InvalidCalendar,
      gx_InvalidRow := PySem.W.mg_of X G aX_InvalidRow,
      gx_InvalidPast := PySem.W.mg_of X G aX_InvalidPast,
      gx_InvalidHolidays := PySem.W.mg_of X G aX_InvalidHolidays,
      gx_InvalidNumber := PySem.W.mg_of X G aX_InvalidNumber,
      gx_BreakError := PySem.W.mg_of X G aX_BreakError,
      gx_TooLarge := PySem.W.mg_of X G aX_TooLarge,
      gx_InvalidPlan := PySem.W.mg_of X G aX_InvalidPlan,
      gx_InvalidTest := PySem.W.mg_of X G aX_InvalidTest,
      gx_Mismatch := PySem.W.mg_of X G aX_Mismatch,
      e_BreakError := fun j hj => match j, hj with | 0, _ => PySem.W.exm_ref bx_BreakError hx_BreakError ty_BreakError sub_InvalidCalendar_BreakError | 1, _ => PySem.W.exm_ref bx_BreakError hx_BreakError ty_BreakError sub_InvalidRow_BreakError | 2, _ => PySem.W.exm_ref bx_BreakError hx_BreakError ty_BreakError sub_InvalidPast_BreakError | 3, _ => PySem.W.exm_ref bx_BreakError hx_BreakError ty_BreakError sub_InvalidHolidays_BreakError | 4, _ => PySem.W.exm_ref bx_BreakError hx_BreakError ty_BreakError sub_InvalidNumber_BreakError | n + 5, h => absurd h (by omega),
      e_InvalidCalendar := fun j hj => match j, hj with | 0, _ => PySem.W.exm_ref bx_InvalidCalendar hx_InvalidCalendar ty_InvalidCalendar sub_InvalidCalendar_InvalidCalendar | 1, _ => PySem.W.exm_ref bx_InvalidCalendar hx_InvalidCalendar ty_InvalidCalendar sub_InvalidRow_InvalidCalendar | 2, _ => PySem.W.exm_ref bx_InvalidCalendar hx_InvalidCalendar ty_InvalidCalendar sub_InvalidPast_InvalidCalendar | 3, _ => PySem.W.exm_ref bx_InvalidCalendar hx_InvalidCalendar ty_InvalidCalendar sub_InvalidHolidays_InvalidCalendar | 4, _ => PySem.W.exm_ref bx_InvalidCalendar hx_InvalidCalendar ty_InvalidCalendar sub_InvalidNumber_InvalidCalendar | n + 5, h => absurd h (by omega),
      e_InvalidRow := fun j hj => match j, hj with | 0, _ => PySem.W.exm_ref bx_InvalidRow hx_InvalidRow ty_InvalidRow sub_InvalidCalendar_InvalidRow | 1, _ => PySem.W.exm_ref bx_InvalidRow hx_InvalidRow ty_InvalidRow sub_InvalidRow_InvalidRow | 2, _ => PySem.W.exm_ref bx_InvalidRow hx_InvalidRow ty_InvalidRow sub_InvalidPast_InvalidRow | 3, _ => PySem.W.exm_ref bx_InvalidRow hx_InvalidRow ty_InvalidRow sub_InvalidHolidays_InvalidRow | 4, _ => PySem.W.exm_ref bx_InvalidRow hx_InvalidRow ty_InvalidRow sub_InvalidNumber_InvalidRow | n + 5, h => absurd h (by omega),
      e_InvalidHolidays := fun j hj => match j, hj with | 0, _ => PySem.W.exm_ref bx_InvalidHolidays hx_InvalidHolidays ty_InvalidHolidays sub_InvalidCalendar_InvalidHolidays | 1, _ => PySem.W.exm_ref bx_InvalidHolidays hx_InvalidHolidays ty_InvalidHolidays sub_InvalidRow_InvalidHolidays | 2, _ => PySem.W.exm_ref bx_InvalidHolidays hx_InvalidHolidays ty_InvalidHolidays sub_InvalidPast_InvalidHolidays | 3, _ => PySem.W.exm_ref bx_InvalidHolidays hx_InvalidHolidays ty_InvalidHolidays sub_InvalidHolidays_InvalidHolidays | 4, _ => PySem.W.exm_ref bx_InvalidHolidays hx_InvalidHolidays ty_InvalidHolidays sub_InvalidNumber_InvalidHolidays | n + 5, h => absurd h (by omega),
      e_InvalidPast := fun j hj => match j, hj with | 0, _ => PySem.W.exm_ref bx_InvalidPast hx_InvalidPast ty_InvalidPast sub_InvalidCalendar_InvalidPast | 1, _ => PySem.W.exm_ref bx_InvalidPast hx_InvalidPast ty_InvalidPast sub_InvalidRow_InvalidPast | 2, _ => PySem.W.exm_ref bx_InvalidPast hx_InvalidPast ty_InvalidPast sub_InvalidPast_InvalidPast | 3, _ => PySem.W.exm_ref bx_InvalidPast hx_InvalidPast ty_InvalidPast sub_InvalidHolidays_InvalidPast | 4, _ => PySem.W.exm_ref bx_InvalidPast hx_InvalidPast ty_InvalidPast sub_InvalidNumber_InvalidPast | n + 5, h => absurd h (by omega),
      e_InvalidNumber := fun j hj => match j, hj with | 0, _ => PySem.W.exm_ref bx_InvalidNumber hx_InvalidNumber ty_InvalidNumber sub_InvalidCalendar_InvalidNumber | 1, _ => PySem.W.exm_ref bx_InvalidNumber hx_InvalidNumber ty_InvalidNumber sub_InvalidRow_InvalidNumber | 2, _ => PySem.W.exm_ref bx_InvalidNumber hx_InvalidNumber ty_InvalidNumber sub_InvalidPast_InvalidNumber | 3, _ => PySem.W.exm_ref bx_InvalidNumber hx_InvalidNumber ty_InvalidNumber sub_InvalidHolidays_InvalidNumber | 4, _ => PySem.W.exm_ref bx_InvalidNumber hx_InvalidNumber ty_InvalidNumber sub_InvalidNumber_InvalidNumber | n + 5, h => absurd h (by omega),
      e_TooLarge := fun j hj => match j, hj with | 0, _ => PySem.W.exm_ref bx_TooLarge hx_TooLarge ty_TooLarge sub_InvalidCalendar_TooLarge | 1, _ => PySem.W.exm_ref bx_TooLarge hx_TooLarge ty_TooLarge sub_InvalidRow_TooLarge | 2, _ => PySem.W.exm_ref bx_TooLarge hx_TooLarge ty_TooLarge sub_InvalidPast_TooLarge | 3, _ => PySem.W.exm_ref bx_TooLarge hx_TooLarge ty_TooLarge sub_InvalidHolidays_TooLarge | 4, _ => PySem.W.exm_ref bx_TooLarge hx_TooLarge ty_TooLarge sub_InvalidNumber_TooLarge | n + 5, h => absurd h (by omega),
      e_InvalidPlan := fun j hj => match j, hj with | 0, _ => PySem.W.exm_ref bx_InvalidPlan hx_InvalidPlan ty_InvalidPlan sub_InvalidCalendar_InvalidPlan | 1, _ => PySem.W.exm_ref bx_InvalidPlan hx_InvalidPlan ty_InvalidPlan sub_InvalidRow_InvalidPlan | 2, _ => PySem.W.exm_ref bx_InvalidPlan hx_InvalidPlan ty_InvalidPlan sub_InvalidPast_InvalidPlan | 3, _ => PySem.W.exm_ref bx_InvalidPlan hx_InvalidPlan ty_InvalidPlan sub_InvalidHolidays_InvalidPlan | 4, _ => PySem.W.exm_ref bx_InvalidPlan hx_InvalidPlan ty_InvalidPlan sub_InvalidNumber_InvalidPlan | n + 5, h => absurd h (by omega),
      e_InvalidTest := fun j hj => match j, hj with | 0, _ => PySem.W.exm_ref bx_InvalidTest hx_InvalidTest ty_InvalidTest sub_InvalidCalendar_InvalidTest | 1, _ => PySem.W.exm_ref bx_InvalidTest hx_InvalidTest ty_InvalidTest sub_InvalidRow_InvalidTest | 2, _ => PySem.W.exm_ref bx_InvalidTest hx_InvalidTest ty_InvalidTest sub_InvalidPast_InvalidTest | 3, _ => PySem.W.exm_ref bx_InvalidTest hx_InvalidTest ty_InvalidTest sub_InvalidHolidays_InvalidTest | 4, _ => PySem.W.exm_ref bx_InvalidTest hx_InvalidTest ty_InvalidTest sub_InvalidNumber_InvalidTest | n + 5, h => absurd h (by omega),
      e_Mismatch := fun j hj => match j, hj with | 0, _ => PySem.W.exm_ref bx_Mismatch hx_Mismatch ty_Mismatch sub_InvalidCalendar_Mismatch | 1, _ => PySem.W.exm_ref bx_Mismatch hx_Mismatch ty_Mismatch sub_InvalidRow_Mismatch | 2, _ => PySem.W.exm_ref bx_Mismatch hx_Mismatch ty_Mismatch sub_InvalidPast_Mismatch | 3, _ => PySem.W.exm_ref bx_Mismatch hx_Mismatch ty_Mismatch sub_InvalidHolidays_Mismatch | 4, _ => PySem.W.exm_ref bx_Mismatch hx_Mismatch ty_Mismatch sub_InvalidNumber_Mismatch | n + 5, h => absurd h (by omega),
      na_law_steady_right := a_law_steady_right, ti_law_steady_right := tab_of3 a_law_steady_right l_law_steady_right rfl m2_law_steady_right m3_law_steady_right,
      na_law_check := a_law_check, ti_law_check := tab_of3 a_law_check l_law_check rfl m2_law_check m3_law_check,
      xc_InvalidCalendar := ⟨ga_InvalidCalendar, gt_InvalidCalendar, bx_InvalidCalendar, hx_InvalidCalendar, ca_InvalidCalendar, sp_class, tk_class, mo_InvalidCalendar⟩, nf_InvalidCalendar_day := nf_InvalidCalendar_day, nf_InvalidCalendar_index := nf_InvalidCalendar_index, nf_InvalidCalendar_limit := nf_InvalidCalendar_limit, nf_InvalidCalendar_name := nf_InvalidCalendar_name, kv_InvalidCalendar := kv_InvalidCalendar,
      xc_InvalidRow := ⟨ga_InvalidRow, gt_InvalidRow, bx_InvalidRow, hx_InvalidRow, ca_InvalidRow, sp_class, tk_class, mo_InvalidRow⟩, nf_InvalidRow_day := nf_InvalidRow_day, nf_InvalidRow_index := nf_InvalidRow_index, nf_InvalidRow_limit := nf_InvalidRow_limit, nf_InvalidRow_name := nf_InvalidRow_name, kv_InvalidRow := kv_InvalidRow,
      xc_InvalidPast := ⟨ga_InvalidPast, gt_InvalidPast, bx_InvalidPast, hx_InvalidPast, ca_InvalidPast, sp_class, tk_class, mo_InvalidPast⟩, nf_InvalidPast_day := nf_InvalidPast_day, nf_InvalidPast_index := nf_InvalidPast_index, nf_InvalidPast_limit := nf_InvalidPast_limit, nf_InvalidPast_name := nf_InvalidPast_name, kv_InvalidPast := kv_InvalidPast,
      xc_InvalidHolidays := ⟨ga_InvalidHolidays, gt_InvalidHolidays, bx_InvalidHolidays, hx_InvalidHolidays, ca_InvalidHolidays, sp_class, tk_class, mo_InvalidHolidays⟩, nf_InvalidHolidays_day := nf_InvalidHolidays_day, nf_InvalidHolidays_index := nf_InvalidHolidays_index, nf_InvalidHolidays_limit := nf_InvalidHolidays_limit, nf_InvalidHolidays_name := nf_InvalidHolidays_name, kv_InvalidHolidays := kv_InvalidHolidays,
      xc_InvalidNumber := ⟨ga_InvalidNumber, gt_InvalidNumber, bx_InvalidNumber, hx_InvalidNumber, ca_InvalidNumber, sp_class, tk_class, mo_InvalidNumber⟩, nf_InvalidNumber_day := nf_InvalidNumber_day, nf_InvalidNumber_index := nf_InvalidNumber_index, nf_InvalidNumber_limit := nf_InvalidNumber_limit, nf_InvalidNumber_name := nf_InvalidNumber_name, kv_InvalidNumber := kv_InvalidNumber,
      m_ValueError := PySem.W.mg_none_of X G z_ValueError,
      m_all := PySem.W.mg_none_of X G z_all,
      m_bool := PySem.W.mg_none_of X G z_bool,
      m_enumerate := PySem.W.mg_none_of X G z_enumerate,
      m_int := PySem.W.mg_none_of X G z_int,
      m_isinstance := PySem.W.mg_none_of X G z_isinstance,
      m_len := PySem.W.mg_none_of X G z_len,
      m_list := PySem.W.mg_none_of X G z_list,
      m_max := PySem.W.mg_none_of X G z_max,
      m_min := PySem.W.mg_none_of X G z_min,
      m_range := PySem.W.mg_none_of X G z_range,
      m_tuple := PySem.W.mg_none_of X G z_tuple,
      m_zip := PySem.W.mg_none_of X G z_zip,
      c_MAX_DAYS := PySem.W.mg_of X G v_MAX_DAYS,
      c_MAX_OWNED := PySem.W.mg_of X G v_MAX_OWNED }
  refine ⟨_, errC _, [("_law_steady_right", mc_law_steady_right, mP_law_steady_right), ("_law_check", mc_law_check, mP_law_check)], rfl, List.forall_mem_cons.mpr ⟨⟨m5_law_steady_right, m4_law_steady_right, PySem.W.codeHd_of_K X m6_law_steady_right, tab_of3 a_law_steady_right l_law_steady_right rfl m2_law_steady_right m3_law_steady_right⟩, List.forall_mem_cons.mpr ⟨⟨m5_law_check, m4_law_check, PySem.W.codeHd_of_K X m6_law_check, tab_of3 a_law_check l_law_check rfl m2_law_check m3_law_check⟩, fun _ z => nomatch z⟩⟩, mNd, fun s v => .of_eq rfl, fun base _ _ hB => ok_law T ?_⟩
  have hB0 := List.forall_mem_cons.mp hB
  have hB1 := List.forall_mem_cons.mp hB0.2
  exact ⟨hB0.1, hB1.1⟩
end My
open PySem PySem.W PyProof.Rows
set_option maxRecDepth 100000 in
set_option maxHeartbeats 0 in
theorem PySem.Challenge.cw_breakrows_k05_invalid_arguments_of_calen_holds : PySem.Challenge.rw_breakrows_k05_invalid_arguments_of_calen.Holds := by
  w_on; o_law; k_head; (case hw => w_witness2)
  k_fill
  refine Bk.walk_qT (l := PySem.Challenge.rw_breakrows_k05_invalid_arguments_of_calen) (n := 63) (k := 10) (x := "_law_script") (nms := [("_law_steady_right" : Str), ("_law_check" : Str)]) (F := My.F_law) rfl (by decide) rfl ⟨rfl, by decide, by decide⟩ (fun w h Y => PySem.W.km_in_of Y) ?F My.law_true
  case F =>
    intro w mg fa h Y KX G hmg
    refine' My.all_mk KX G hmg ?aX_InvalidCalendar ?aX_InvalidRow ?aX_InvalidPast ?aX_InvalidHolidays ?aX_InvalidNumber ?aX_BreakError ?aX_TooLarge ?aX_InvalidPlan ?aX_InvalidTest ?aX_Mismatch ?lo_InvalidCalendar ?eo_InvalidCalendar ?hx_InvalidCalendar ?ga_InvalidCalendar ?gt_InvalidCalendar ?sx_InvalidCalendar ?bx_InvalidCalendar ?ty_InvalidCalendar ?kx_InvalidCalendar ?nx_InvalidCalendar ?ix_InvalidCalendar ?tx_InvalidCalendar ?lx_InvalidCalendar ?cx_InvalidCalendar ?ox_InvalidCalendar ?lo_InvalidRow ?eo_InvalidRow ?hx_InvalidRow ?ga_InvalidRow ?gt_InvalidRow ?sx_InvalidRow ?bx_InvalidRow ?ty_InvalidRow ?kx_InvalidRow ?nx_InvalidRow ?ix_InvalidRow ?tx_InvalidRow ?lx_InvalidRow ?cx_InvalidRow ?ox_InvalidRow ?lo_InvalidPast ?eo_InvalidPast ?hx_InvalidPast ?ga_InvalidPast ?gt_InvalidPast ?sx_InvalidPast ?bx_InvalidPast ?ty_InvalidPast ?kx_InvalidPast ?nx_InvalidPast ?ix_InvalidPast ?tx_InvalidPast ?lx_InvalidPast ?cx_InvalidPast ?ox_InvalidPast ?lo_InvalidHolidays ?eo_InvalidHolidays ?hx_InvalidHolidays ?ga_InvalidHolidays ?gt_InvalidHolidays ?sx_InvalidHolidays ?bx_InvalidHolidays ?ty_InvalidHolidays ?kx_InvalidHolidays ?nx_InvalidHolidays ?ix_InvalidHolidays ?tx_InvalidHolidays ?lx_InvalidHolidays ?cx_InvalidHolidays ?ox_InvalidHolidays ?lo_InvalidNumber ?eo_InvalidNumber ?hx_InvalidNumber ?ga_InvalidNumber ?gt_InvalidNumber ?sx_InvalidNumber ?bx_InvalidNumber ?ty_InvalidNumber ?kx_InvalidNumber ?nx_InvalidNumber ?ix_InvalidNumber ?tx_InvalidNumber ?lx_InvalidNumber ?cx_InvalidNumber ?ox_InvalidNumber ?bx_BreakError ?ty_BreakError ?hx_BreakError ?sub_InvalidCalendar_BreakError ?sub_InvalidRow_BreakError ?sub_InvalidPast_BreakError ?sub_InvalidHolidays_BreakError ?sub_InvalidNumber_BreakError ?sub_InvalidCalendar_InvalidCalendar ?sub_InvalidRow_InvalidCalendar ?sub_InvalidPast_InvalidCalendar ?sub_InvalidHolidays_InvalidCalendar ?sub_InvalidNumber_InvalidCalendar ?sub_InvalidCalendar_InvalidRow ?sub_InvalidRow_InvalidRow ?sub_InvalidPast_InvalidRow ?sub_InvalidHolidays_InvalidRow ?sub_InvalidNumber_InvalidRow ?sub_InvalidCalendar_InvalidHolidays ?sub_InvalidRow_InvalidHolidays ?sub_InvalidPast_InvalidHolidays ?sub_InvalidHolidays_InvalidHolidays ?sub_InvalidNumber_InvalidHolidays ?sub_InvalidCalendar_InvalidPast ?sub_InvalidRow_InvalidPast ?sub_InvalidPast_InvalidPast ?sub_InvalidHolidays_InvalidPast ?sub_InvalidNumber_InvalidPast ?sub_InvalidCalendar_InvalidNumber ?sub_InvalidRow_InvalidNumber ?sub_InvalidPast_InvalidNumber ?sub_InvalidHolidays_InvalidNumber ?sub_InvalidNumber_InvalidNumber ?bx_TooLarge ?ty_TooLarge ?hx_TooLarge ?sub_InvalidCalendar_TooLarge ?sub_InvalidRow_TooLarge ?sub_InvalidPast_TooLarge ?sub_InvalidHolidays_TooLarge ?sub_InvalidNumber_TooLarge ?bx_InvalidPlan ?ty_InvalidPlan ?hx_InvalidPlan ?sub_InvalidCalendar_InvalidPlan ?sub_InvalidRow_InvalidPlan ?sub_InvalidPast_InvalidPlan ?sub_InvalidHolidays_InvalidPlan ?sub_InvalidNumber_InvalidPlan ?bx_InvalidTest ?ty_InvalidTest ?hx_InvalidTest ?sub_InvalidCalendar_InvalidTest ?sub_InvalidRow_InvalidTest ?sub_InvalidPast_InvalidTest ?sub_InvalidHolidays_InvalidTest ?sub_InvalidNumber_InvalidTest ?bx_Mismatch ?ty_Mismatch ?hx_Mismatch ?sub_InvalidCalendar_Mismatch ?sub_InvalidRow_Mismatch ?sub_InvalidPast_Mismatch ?sub_InvalidHolidays_Mismatch ?sub_InvalidNumber_Mismatch ?a_is_integer ?l_is_integer ?c_is_integer ?k_is_integer ?a_is_at_least ?l_is_at_least ?c_is_at_least ?k_is_at_least ?a_is_between ?l_is_between ?c_is_between ?k_is_between ?a_is_day ?l_is_day ?c_is_day ?k_is_day ?a_are_numbers ?l_are_numbers ?c_are_numbers ?k_are_numbers ?a_require_calendar ?l_require_calendar ?c_require_calendar ?k_require_calendar ?a_require_row ?l_require_row ?c_require_row ?k_require_row ?a_away_on ?l_away_on ?c_away_on ?k_away_on ?a_first_over ?l_first_over ?c_first_over ?k_first_over ?a_require_past ?l_require_past ?c_require_past ?k_require_past ?a_require_holidays ?l_require_holidays ?c_require_holidays ?k_require_holidays ?a_back_day ?l_back_day ?c_back_day ?k_back_day ?a_steady ?l_steady ?c_steady ?k_steady ?a_with_pieces ?l_with_pieces ?c_with_pieces ?k_with_pieces ?a_away ?l_away ?c_away ?k_away ?a_greatest_next ?l_greatest_next ?c_greatest_next ?k_greatest_next ?a_ready ?l_ready ?c_ready ?k_ready ?a_first_fault ?l_first_fault ?c_first_fault ?k_first_fault ?a_rest_of ?l_rest_of ?c_rest_of ?k_rest_of ?a_least_owned ?l_least_owned ?c_least_owned ?k_least_owned ?a_law_mixed ?l_law_mixed ?c_law_mixed ?k_law_mixed ?a_law_source ?l_law_source ?c_law_source ?k_law_source ?a_law_take ?l_law_take ?c_law_take ?k_law_take ?a_law_stock ?l_law_stock ?c_law_stock ?k_law_stock ?a_law_gone ?l_law_gone ?c_law_gone ?k_law_gone ?a_law_over ?l_law_over ?c_law_over ?k_law_over ?a_law_raised ?l_law_raised ?c_law_raised ?k_law_raised ?a_law_bad_stock ?l_law_bad_stock ?c_law_bad_stock ?k_law_bad_stock ?a_law_bad_line ?l_law_bad_line ?c_law_bad_line ?k_law_bad_line ?a_law_late ?l_law_late ?c_law_late ?k_law_late ?a_law_bad_start ?l_law_bad_start ?c_law_bad_start ?k_law_bad_start ?a_law_steady_right ?l_law_steady_right ?c_law_steady_right ?k_law_steady_right ?a_law_check ?l_law_check ?c_law_check ?k_law_check ?a_law ?l_law ?c_law ?k_law ?v_MAX_DAYS ?v_MAX_OWNED ?z_ValueError ?z_all ?z_bool ?z_enumerate ?z_int ?z_isinstance ?z_len ?z_list ?z_max ?z_min ?z_range ?z_tuple ?z_zip ?sp_class ?tk_class ?ca_InvalidCalendar ?mo_InvalidCalendar ?nf_InvalidCalendar_day ?nf_InvalidCalendar_index ?nf_InvalidCalendar_limit ?nf_InvalidCalendar_name ?kv_InvalidCalendar ?ca_InvalidRow ?mo_InvalidRow ?nf_InvalidRow_day ?nf_InvalidRow_index ?nf_InvalidRow_limit ?nf_InvalidRow_name ?kv_InvalidRow ?ca_InvalidPast ?mo_InvalidPast ?nf_InvalidPast_day ?nf_InvalidPast_index ?nf_InvalidPast_limit ?nf_InvalidPast_name ?kv_InvalidPast ?ca_InvalidHolidays ?mo_InvalidHolidays ?nf_InvalidHolidays_day ?nf_InvalidHolidays_index ?nf_InvalidHolidays_limit ?nf_InvalidHolidays_name ?kv_InvalidHolidays ?ca_InvalidNumber ?mo_InvalidNumber ?nf_InvalidNumber_day ?nf_InvalidNumber_index ?nf_InvalidNumber_limit ?nf_InvalidNumber_name ?kv_InvalidNumber ?m1_law_steady_right ?m2_law_steady_right ?m3_law_steady_right ?m4_law_steady_right ?m5_law_steady_right ?m6_law_steady_right ?m1_law_check ?m2_law_check ?m3_law_check ?m4_law_check ?m5_law_check ?m6_law_check ?mNd
    (case aX_InvalidCalendar => k_is); (case aX_InvalidRow => k_is); (case aX_InvalidPast => k_is); (case aX_InvalidHolidays => k_is); (case aX_InvalidNumber => k_is); (case aX_BreakError => k_is); (case aX_TooLarge => k_is); (case aX_InvalidPlan => k_is); (case aX_InvalidTest => k_is); (case aX_Mismatch => k_is); (case lo_InvalidCalendar => k_is); (case eo_InvalidCalendar => decide +kernel); (case hx_InvalidCalendar => k_is); (case ga_InvalidCalendar => k_is); (case gt_InvalidCalendar => k_is); (case sx_InvalidCalendar => k_is); (case bx_InvalidCalendar => k_is); (case ty_InvalidCalendar => k_is); (case kx_InvalidCalendar => k_is); (case nx_InvalidCalendar => k_is); (case ix_InvalidCalendar => k_is); (case tx_InvalidCalendar => k_is); (case lx_InvalidCalendar => k_is); (case cx_InvalidCalendar => k_is); (case ox_InvalidCalendar => k_is); (case lo_InvalidRow => k_is); (case eo_InvalidRow => decide +kernel); (case hx_InvalidRow => k_is); (case ga_InvalidRow => k_is); (case gt_InvalidRow => k_is); (case sx_InvalidRow => k_is); (case bx_InvalidRow => k_is); (case ty_InvalidRow => k_is); (case kx_InvalidRow => k_is); (case nx_InvalidRow => k_is); (case ix_InvalidRow => k_is); (case tx_InvalidRow => k_is); (case lx_InvalidRow => k_is); (case cx_InvalidRow => k_is); (case ox_InvalidRow => k_is); (case lo_InvalidPast => k_is); (case eo_InvalidPast => decide +kernel); (case hx_InvalidPast => k_is); (case ga_InvalidPast => k_is); (case gt_InvalidPast => k_is); (case sx_InvalidPast => k_is); (case bx_InvalidPast => k_is); (case ty_InvalidPast => k_is); (case kx_InvalidPast => k_is); (case nx_InvalidPast => k_is); (case ix_InvalidPast => k_is); (case tx_InvalidPast => k_is); (case lx_InvalidPast => k_is); (case cx_InvalidPast => k_is); (case ox_InvalidPast => k_is); (case lo_InvalidHolidays => k_is); (case eo_InvalidHolidays => decide +kernel); (case hx_InvalidHolidays => k_is); (case ga_InvalidHolidays => k_is); (case gt_InvalidHolidays => k_is); (case sx_InvalidHolidays => k_is); (case bx_InvalidHolidays => k_is); (case ty_InvalidHolidays => k_is); (case kx_InvalidHolidays => k_is); (case nx_InvalidHolidays => k_is); (case ix_InvalidHolidays => k_is); (case tx_InvalidHolidays => k_is); (case lx_InvalidHolidays => k_is); (case cx_InvalidHolidays => k_is); (case ox_InvalidHolidays => k_is); (case lo_InvalidNumber => k_is); (case eo_InvalidNumber => decide +kernel); (case hx_InvalidNumber => k_is); (case ga_InvalidNumber => k_is); (case gt_InvalidNumber => k_is); (case sx_InvalidNumber => k_is); (case bx_InvalidNumber => k_is); (case ty_InvalidNumber => k_is); (case kx_InvalidNumber => k_is); (case nx_InvalidNumber => k_is); (case ix_InvalidNumber => k_is); (case tx_InvalidNumber => k_is); (case lx_InvalidNumber => k_is); (case cx_InvalidNumber => k_is); (case ox_InvalidNumber => k_is); (case bx_BreakError => k_is); (case ty_BreakError => k_is); (case hx_BreakError => k_is); (case sub_InvalidCalendar_BreakError => k_is); (case sub_InvalidRow_BreakError => k_is); (case sub_InvalidPast_BreakError => k_is); (case sub_InvalidHolidays_BreakError => k_is); (case sub_InvalidNumber_BreakError => k_is); (case sub_InvalidCalendar_InvalidCalendar => k_is); (case sub_InvalidRow_InvalidCalendar => k_is); (case sub_InvalidPast_InvalidCalendar => k_is); (case sub_InvalidHolidays_InvalidCalendar => k_is); (case sub_InvalidNumber_InvalidCalendar => k_is); (case sub_InvalidCalendar_InvalidRow => k_is); (case sub_InvalidRow_InvalidRow => k_is); (case sub_InvalidPast_InvalidRow => k_is); (case sub_InvalidHolidays_InvalidRow => k_is); (case sub_InvalidNumber_InvalidRow => k_is); (case sub_InvalidCalendar_InvalidHolidays => k_is); (case sub_InvalidRow_InvalidHolidays => k_is); (case sub_InvalidPast_InvalidHolidays => k_is); (case sub_InvalidHolidays_InvalidHolidays => k_is); (case sub_InvalidNumber_InvalidHolidays => k_is); (case sub_InvalidCalendar_InvalidPast => k_is); (case sub_InvalidRow_InvalidPast => k_is); (case sub_InvalidPast_InvalidPast => k_is); (case sub_InvalidHolidays_InvalidPast => k_is); (case sub_InvalidNumber_InvalidPast => k_is); (case sub_InvalidCalendar_InvalidNumber => k_is); (case sub_InvalidRow_InvalidNumber => k_is); (case sub_InvalidPast_InvalidNumber => k_is); (case sub_InvalidHolidays_InvalidNumber => k_is); (case sub_InvalidNumber_InvalidNumber => k_is); (case bx_TooLarge => k_is); (case ty_TooLarge => k_is); (case hx_TooLarge => k_is); (case sub_InvalidCalendar_TooLarge => k_is); (case sub_InvalidRow_TooLarge => k_is); (case sub_InvalidPast_TooLarge => k_is); (case sub_InvalidHolidays_TooLarge => k_is); (case sub_InvalidNumber_TooLarge => k_is); (case bx_InvalidPlan => k_is); (case ty_InvalidPlan => k_is); (case hx_InvalidPlan => k_is); (case sub_InvalidCalendar_InvalidPlan => k_is); (case sub_InvalidRow_InvalidPlan => k_is); (case sub_InvalidPast_InvalidPlan => k_is); (case sub_InvalidHolidays_InvalidPlan => k_is); (case sub_InvalidNumber_InvalidPlan => k_is); (case bx_InvalidTest => k_is); (case ty_InvalidTest => k_is); (case hx_InvalidTest => k_is); (case sub_InvalidCalendar_InvalidTest => k_is); (case sub_InvalidRow_InvalidTest => k_is); (case sub_InvalidPast_InvalidTest => k_is); (case sub_InvalidHolidays_InvalidTest => k_is); (case sub_InvalidNumber_InvalidTest => k_is); (case bx_Mismatch => k_is); (case ty_Mismatch => k_is); (case hx_Mismatch => k_is); (case sub_InvalidCalendar_Mismatch => k_is); (case sub_InvalidRow_Mismatch => k_is); (case sub_InvalidPast_Mismatch => k_is); (case sub_InvalidHolidays_Mismatch => k_is); (case sub_InvalidNumber_Mismatch => k_is); (case a_is_integer => k_is); (case l_is_integer => k_is); (case c_is_integer => k_is); (case k_is_integer => k_is); (case a_is_at_least => k_is); (case l_is_at_least => k_is); (case c_is_at_least => k_is); (case k_is_at_least => k_is); (case a_is_between => k_is); (case l_is_between => k_is); (case c_is_between => k_is); (case k_is_between => k_is); (case a_is_day => k_is); (case l_is_day => k_is); (case c_is_day => k_is); (case k_is_day => k_is); (case a_are_numbers => k_is); (case l_are_numbers => k_is); (case c_are_numbers => k_is); (case k_are_numbers => k_is); (case a_require_calendar => k_is); (case l_require_calendar => k_is); (case c_require_calendar => k_is); (case k_require_calendar => k_is); (case a_require_row => k_is); (case l_require_row => k_is); (case c_require_row => k_is); (case k_require_row => k_is); (case a_away_on => k_is); (case l_away_on => k_is); (case c_away_on => k_is); (case k_away_on => k_is); (case a_first_over => k_is); (case l_first_over => k_is); (case c_first_over => k_is); (case k_first_over => k_is); (case a_require_past => k_is); (case l_require_past => k_is); (case c_require_past => k_is); (case k_require_past => k_is); (case a_require_holidays => k_is); (case l_require_holidays => k_is); (case c_require_holidays => k_is); (case k_require_holidays => k_is); (case a_back_day => k_is); (case l_back_day => k_is); (case c_back_day => k_is); (case k_back_day => k_is); (case a_steady => k_is); (case l_steady => k_is); (case c_steady => k_is); (case k_steady => k_is); (case a_with_pieces => k_is); (case l_with_pieces => k_is); (case c_with_pieces => k_is); (case k_with_pieces => k_is); (case a_away => k_is); (case l_away => k_is); (case c_away => k_is); (case k_away => k_is); (case a_greatest_next => k_is); (case l_greatest_next => k_is); (case c_greatest_next => k_is); (case k_greatest_next => k_is); (case a_ready => k_is); (case l_ready => k_is); (case c_ready => k_is); (case k_ready => k_is); (case a_first_fault => k_is); (case l_first_fault => k_is); (case c_first_fault => k_is); (case k_first_fault => k_is); (case a_rest_of => k_is); (case l_rest_of => k_is); (case c_rest_of => k_is); (case k_rest_of => k_is); (case a_least_owned => k_is); (case l_least_owned => k_is); (case c_least_owned => k_is); (case k_least_owned => k_is); (case a_law_mixed => k_is); (case l_law_mixed => k_is); (case c_law_mixed => k_is); (case k_law_mixed => k_is); (case a_law_source => k_is); (case l_law_source => k_is); (case c_law_source => k_is); (case k_law_source => k_is); (case a_law_take => k_is); (case l_law_take => k_is); (case c_law_take => k_is); (case k_law_take => k_is); (case a_law_stock => k_is); (case l_law_stock => k_is); (case c_law_stock => k_is); (case k_law_stock => k_is); (case a_law_gone => k_is); (case l_law_gone => k_is); (case c_law_gone => k_is); (case k_law_gone => k_is); (case a_law_over => k_is); (case l_law_over => k_is); (case c_law_over => k_is); (case k_law_over => k_is); (case a_law_raised => k_is); (case l_law_raised => k_is); (case c_law_raised => k_is); (case k_law_raised => k_is); (case a_law_bad_stock => k_is); (case l_law_bad_stock => k_is); (case c_law_bad_stock => k_is); (case k_law_bad_stock => k_is); (case a_law_bad_line => k_is); (case l_law_bad_line => k_is); (case c_law_bad_line => k_is); (case k_law_bad_line => k_is); (case a_law_late => k_is); (case l_law_late => k_is); (case c_law_late => k_is); (case k_law_late => k_is); (case a_law_bad_start => k_is); (case l_law_bad_start => k_is); (case c_law_bad_start => k_is); (case k_law_bad_start => k_is); (case a_law_steady_right => k_is); (case l_law_steady_right => k_is); (case c_law_steady_right => k_is); (case k_law_steady_right => k_is); (case a_law_check => k_is); (case l_law_check => k_is); (case c_law_check => k_is); (case k_law_check => k_is); (case a_law => k_is); (case l_law => k_is); (case c_law => k_is); (case k_law => k_is); (case v_MAX_DAYS => k_is); (case v_MAX_OWNED => k_is); (case z_ValueError => k_is); (case z_all => k_is); (case z_bool => k_is); (case z_enumerate => k_is); (case z_int => k_is); (case z_isinstance => k_is); (case z_len => k_is); (case z_list => k_is); (case z_max => k_is); (case z_min => k_is); (case z_range => k_is); (case z_tuple => k_is); (case z_zip => k_is); (case sp_class => k_is); (case tk_class => k_is); (case ca_InvalidCalendar => k_is); (case mo_InvalidCalendar => k_is); (case nf_InvalidCalendar_day => k_is); (case nf_InvalidCalendar_index => k_is); (case nf_InvalidCalendar_limit => k_is); (case nf_InvalidCalendar_name => k_is); (case kv_InvalidCalendar => k_is); (case ca_InvalidRow => k_is); (case mo_InvalidRow => k_is); (case nf_InvalidRow_day => k_is); (case nf_InvalidRow_index => k_is); (case nf_InvalidRow_limit => k_is); (case nf_InvalidRow_name => k_is); (case kv_InvalidRow => k_is); (case ca_InvalidPast => k_is); (case mo_InvalidPast => k_is); (case nf_InvalidPast_day => k_is); (case nf_InvalidPast_index => k_is); (case nf_InvalidPast_limit => k_is); (case nf_InvalidPast_name => k_is); (case kv_InvalidPast => k_is); (case ca_InvalidHolidays => k_is); (case mo_InvalidHolidays => k_is); (case nf_InvalidHolidays_day => k_is); (case nf_InvalidHolidays_index => k_is); (case nf_InvalidHolidays_limit => k_is); (case nf_InvalidHolidays_name => k_is); (case kv_InvalidHolidays => k_is); (case ca_InvalidNumber => k_is); (case mo_InvalidNumber => k_is); (case nf_InvalidNumber_day => k_is); (case nf_InvalidNumber_index => k_is); (case nf_InvalidNumber_limit => k_is); (case nf_InvalidNumber_name => k_is); (case kv_InvalidNumber => k_is); (case m1_law_steady_right => exact rfl); (case m2_law_steady_right => k_is); (case m3_law_steady_right => exact rfl); (case m4_law_steady_right => kernel_rfl); (case m5_law_steady_right => exact PySem.W.km_tabs_of Y _ (by decide)); (case m6_law_steady_right => kernel_rfl); (case m1_law_check => exact rfl); (case m2_law_check => k_is); (case m3_law_check => exact rfl); (case m4_law_check => kernel_rfl); (case m5_law_check => exact PySem.W.km_tabs_of Y _ (by decide)); (case m6_law_check => kernel_rfl); (case mNd => decide)

