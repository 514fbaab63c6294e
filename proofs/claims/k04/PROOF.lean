import PyProof.Rows.All
import HandS.Codes
import HandS.Conv
import HandS.Deep
import HandS.DictComp
import HandS.EndTab
import HandS.ExcField
import HandS.ExcInit
import HandS.ExcIs
import HandS.ExcOwn
import HandS.ForExc
import HandS.ForMost
import HandS.IsInst
import HandS.Iter
import HandS.Lambda
import HandS.RaiseMore
import HandS.Rev
import HandS.SetBool
import HandS.SetFor
import HandS.SortInts
import HandS.SortKw
import HandS.SortRule
import HandS.Strs
import HandS.Style
import HandS.TupAny
import HandS.TupLe
import HandS.TupLen
import HandS.TupMul
import HandS.TupSets
import HandS.Wide
import KE.DataCmp
import KE.DataMinMax
import KE.GoesEnum
import KE.GoesEnumKw
import KE.GoesMore
import KE.GoesZip
import KE.KDictCopyH
import KE.KDictDisplayH
import KE.KDictKeyed
import KE.KDictPairs
import KE.KDictSum
import KE.KDictWalk
import KE.KDictZip
import KE.KNestM
import KE.KTryMore
import KE.KTupSum
import KE.KeyNested
import KE.SortCalls
import KE.SortData
import OpenK.AllK
import OpenK.KMore
import PyProof.DictRoadsH
import PyProof.Rows.SetFrom
import PyProof.SetRoads
import PySem.Challenge.RW_breakrows_k04_error_types
import Wide.All
import Wide.FinOn
set_option Elab.async false
set_option linter.all false
set_option maxRecDepth 100000
set_option maxHeartbeats 1000000
/-! A layer of trees over the hand layer: values are trees D, what may be changed lies in a small store M of our own; each construct has a function that computes its result, and a theorem that the hand layer's reading follows from it. -/
namespace Bk
open PySem PySem.Spec PyProof.Rows L2

/-! ### data, the store, results -/
/-- the words of a lambda: its maker's name, parameters, body, names -/
structure LSy where
  ix : Nat
  qual : Str
  params : Arguments
  body : Expr
  scope : Scope
inductive D where
  | non | bl (b : Bool) | int (i : Int) | str (x : Str)
  | tup (xs : List D) | lst (xs : List D) | ref (k : Nat) | dct (ks vs : List D) | ptu (xs : List D)
  | lam (l : LSy) (cl : List (Str × Addr)) | exn (nm f : Str) (d : D) | exv (a dx : Addr) (f : Str) (d : D) | dcx (k : Key) (d : D)
inductive MO where
  | dead | lst (xs : List D) | obj (nm : Str) (fs : List (Str × D)) | dct (ks vs : List D) | dki (kvs : List (Int × D)) | tab (nm : Str)
inductive R (α : Type) where
  | ok (a : α) (M : List MO) | exc (c : Nat) (d : D) (M : List MO) | bad
def R.bind {α β : Type} (r : R α) (f : α → List MO → R β) : R β := match r with
  | .ok a M => f a M
  | .exc c d M => .exc c d M
  | .bad => .bad
abbrev Env := List (Option D)
abbrev GE := Env → List MO → R D
abbrev GT := Env → List MO → R Bool
abbrev GA := Env → List MO → R (List D)
inductive RS where
  | nx (Γ : Env) (M : List MO) | rt (d : D) (M : List MO) | bk (Γ : Env) (M : List MO) | ct (Γ : Env) (M : List MO)
  | exc (c : Nat) (d : D) (Γ : Env) (M : List MO) | bad
abbrev GS := Env → List MO → RS

/-- a list, tracked or written, and no more than that -/
def ExL (K : PySem.W.Frag) (H : Hp) (a : Addr) (xs : List V) : Prop :=
  Rd H a (.lst xs) ∨ ∃ (its : Array Value) (m : Nat), K.lookup a = some { cls := .type "list", data := .seq its m } ∧ its.size ≤ sizeLine ∧ Vals xs its.toList
theorem ExL.sq {K : PySem.W.Frag} {H : Hp} {a : Addr} {xs : List V} : ExL K H a xs → SqL K H a xs
  | .inl h => .inl h
  | .inr ⟨its, m, h1, h2, h3⟩ => .inr ⟨_, its, m, h1, rfl, rfl, rfl, h2, h3⟩
theorem ExL.at_ {X : Cx} {pins : List (Addr × Obj)} {σ : L2.St} {H : Hp} {s : Shared} {a : Addr} {xs : List V} (I : Inv X pins σ H s) (h : ExL X.K H a xs) : ∃ (its : List Value) (m : Nat), Vals xs its ∧ s.heap.get? a = some { cls := .type "list", data := .seq its.toArray m } ∧ xs.length ≤ sizeLine := by
  rcases h with h | ⟨its, m, h1, h2, h3⟩
  · obtain ⟨z, its, m, r, e⟩ := h.ok I.hok
    exact ⟨its, m, r, e, z⟩
  · refine ⟨its.toList, m, h3, by simpa using I.kIn a _ h1, ?_⟩
    have e := h3.length
    rw [Array.length_toList] at e
    exact Nat.le_trans (Nat.le_of_eq e) h2
/-! dicts: their keys nested tuples of whole numbers and None -/
section
variable (K : PySem.W.Frag) (Z : Hp)
mutual
inductive KeyV : NestedKey → V → Prop
  | non : KeyV .none .non
  | int (i : Int) : KeyV (.num i) (.int i)
  | tup {ks : List NestedKey} {a : Addr} {xs : List V} : SqT K Z a xs → KeyVs ks xs → KeyV (.tup ks) (.ref a)
inductive KeyVs : List NestedKey → List V → Prop
  | nil : KeyVs [] []
  | cons {k : NestedKey} {v : V} {ks : List NestedKey} {vs : List V} : KeyV k v → KeyVs ks vs → KeyVs (k :: ks) (v :: vs)
end
/-- the entries of a dict: keys, where they stand, values -/
inductive Ents : List NestedKey → List V → List V → List DictEntry → Prop
  | nil : Ents [] [] [] []
  | cons {k : NestedKey} {y : V} {ku : Value} {v : V} {u : Value} {hs : Int} {ks : List NestedKey} {kv vs : List V} {es : List DictEntry} : KeyV K Z k y → RelV y ku → k.depth ≤ 8 → (∀ w : World, hs = k.hash w) → RelV v u → Ents ks kv vs es → Ents (k :: ks) (y :: kv) (v :: vs) (⟨hs, ku, u⟩ :: es)
end
/-- a tuple that is known to have no dict of its own -/
def PlT (Z : Hp) (a : Addr) (xs : List V) : Prop := ∃ o : Obj, Z a = some (.frz o (.tup xs)) ∧ o.dict = none
theorem PlT.sq {K : PySem.W.Frag} {Z : Hp} {a : Addr} {xs : List V} : PlT Z a xs → SqT K Z a xs
  | ⟨o, h, _⟩ => .inl (.inr ⟨o, h⟩)
def dnO (a : Addr) (es : Array DictEntry) (ep : Nat) : HO := .ext fun h => ∃ o, h.get? a = some o ∧ o.ExactDict ∧ o.data = .dict es ep
/-- all keys are objects -/
def AllRef (ks : List V) : Prop := ∀ x ∈ ks, ∃ b, x = V.ref b
/-- a dict that stands at a and may change: its keys lean on what is frozen -/
def DR (K : PySem.W.Frag) (H Z : Hp) (a : Addr) (nks : List NestedKey) (ks vs : List V) : Prop := ∃ (es : Array DictEntry) (ep : Nat), H a = some (dnO a es ep) ∧ (a == sysModules) = false ∧ ks.length ≤ sizeLine ∧ nks.Nodup ∧ Ents K Z nks ks vs es.toList
/-- a dict that stands at a -/
def ExD (K : PySem.W.Frag) (Z : Hp) (a : Addr) (nks : List NestedKey) (ks vs : List V) : Prop := ∃ (es : Array DictEntry) (ep : Nat), Z a = some (dnO a es ep) ∧ (a == sysModules) = false ∧ ks.length ≤ sizeLine ∧ nks.Nodup ∧ Ents K Z nks ks vs es.toList
/-- the object at a is a function made of the lambda l, its captured names in cl, its code object at c -/
def LamO (a : Addr) (l : LSy) (cl : List (Str × Addr)) (c : Addr) : HO := .ext fun h => ∃ pm ct : Value, h.get? a = some (PySem.W.kla_obj "<lambda>" (l.qual ++ "<lambda>") l.params l.body l.scope (cloFrom cl l.scope.names []) pm c ct)
section
variable (K : PySem.W.Frag) (Z : Hp) (ι : Nat → Addr) (n : Nat)
mutual
inductive Rp : D → V → Prop
  | non : Rp .non .non
  | bl (b : Bool) : Rp (.bl b) (.bl b)
  | int (i : Int) : Rp (.int i) (.int i)
  | str (x : Str) : Rp (.str x) (.str x)
  | tup {ds : List D} {a : Addr} {xs : List V} : SqT K Z a xs → Rps ds xs → Rp (.tup ds) (.ref a)
  | lst {ds : List D} {a : Addr} {xs : List V} : ExL K Z a xs → Rps ds xs → Rp (.lst ds) (.ref a)
  | ref {k : Nat} : k < n → Rp (.ref k) (.ref (ι k))
  | dct {ks vs : List D} {a : Addr} {nks : List NestedKey} {kx xs : List V} : ExD K Z a nks kx xs → Rps ks kx → Rps vs xs → Rp (.dct ks vs) (.ref a)
  | ptu {ds : List D} {a : Addr} {xs : List V} : PlT Z a xs → Rps ds xs → Rp (.ptu ds) (.ref a)
  | lam {l : LSy} {cl : List (Str × Addr)} {a c : Addr} : Z a = some (LamO a l cl c) → Z c = some (LamX.CodeO c (l.qual ++ "<lambda>")) → Rp (.lam l cl) (.ref a)
  | exn {nm f : Str} {d : D} {a dx B : Addr} {v : V} : PySem.W.nsIn K mainGlobals nm = some (some (.ref B)) → Z a = some (exo a B (some dx)) → Z dx = some (.xd [(f, v)]) → Rp d v → Rp (.exn nm f d) (.ref a)
  | exv {a dx : Addr} {f : Str} {d : D} {v : V} : Z dx = some (.xd [(f, v)]) → Rp d v → Rp (.exv a dx f d) (.ref a)
  | dcx {k : Key} {d : D} {a : Addr} {v : V} : Z a = some (.dK [(k, v)]) → Rp d v → Rp (.dcx k d) (.ref a)
inductive Rps : List D → List V → Prop
  | nil : Rps [] []
  | cons {d : D} {v : V} {ds : List D} {vs : List V} : Rp d v → Rps ds vs → Rps (d :: ds) (v :: vs)
end
end

abbrev Sub (Z Z' : Hp) : Prop := ∀ a o, Z a = some o → Z' a = some o
theorem subL {K : PySem.W.Frag} {Z Z' : Hp} (h : Sub Z Z') {a : Addr} {xs : List V} : ExL K Z a xs → ExL K Z' a xs
  | .inl (.inl e) => .inl (.inl (h _ _ e))
  | .inl (.inr ⟨o, e⟩) => .inl (.inr ⟨o, h _ _ e⟩)
  | .inr q => .inr q
theorem subT {K : PySem.W.Frag} {Z Z' : Hp} (h : Sub Z Z') {a : Addr} {xs : List V} : SqT K Z a xs → SqT K Z' a xs
  | .inl (.inl e) => .inl (.inl (h _ _ e))
  | .inl (.inr ⟨o, e⟩) => .inl (.inr ⟨o, h _ _ e⟩)
  | .inr q => .inr q

section
variable {K : PySem.W.Frag} {Z Z' : Hp}
mutual
theorem KeyV.sub (hz : Sub Z Z') : ∀ (k : NestedKey) (v : V), KeyV K Z k v → KeyV K Z' k v
  | .none, _, h => by cases h; exact .non
  | .num i, _, h => by cases h; exact .int i
  | .text x, _, h => by cases h
  | .tup ks, _, h => by
    cases h with
    | tup s r => exact .tup (subT hz s) (KeyVs.sub hz ks _ r)
theorem KeyVs.sub (hz : Sub Z Z') : ∀ (ks : List NestedKey) (vs : List V), KeyVs K Z ks vs → KeyVs K Z' ks vs
  | [], _, h => by cases h; exact .nil
  | k :: ks, _, h => by
    cases h with
    | cons r s => exact .cons (KeyV.sub hz k _ r) (KeyVs.sub hz ks _ s)
end
theorem Ents.sub (hz : Sub Z Z') : ∀ {ks : List NestedKey} {kv vs : List V} {es : List DictEntry}, Ents K Z ks kv vs es → Ents K Z' ks kv vs es
  | _, _, _, _, .nil => .nil
  | _, _, _, _, .cons a y b c d e => .cons (KeyV.sub hz _ _ a) y b c d (Ents.sub hz e)
theorem subD (hz : Sub Z Z') {a : Addr} {nks : List NestedKey} {ks vs : List V} : ExD K Z a nks ks vs → ExD K Z' a nks ks vs
  | ⟨es, ep, h1, h2, h3, h4, h5⟩ => ⟨es, ep, hz _ _ h1, h2, h3, h4, h5.sub hz⟩
end

section
variable {K : PySem.W.Frag} {Z Z' : Hp} {ι ι' : Nat → Addr} {n n' : Nat}
mutual
theorem Rp.mono (hz : Sub Z Z') (hi : ∀ k, k < n → ι' k = ι k) (hn : n ≤ n') : ∀ (d : D) (v : V), Rp K Z ι n d v → Rp K Z' ι' n' d v
  | .non, _, h => by cases h; exact .non
  | .bl b, _, h => by cases h; exact .bl b
  | .int i, _, h => by cases h; exact .int i
  | .str x, _, h => by cases h; exact .str x
  | .tup ds, _, h => by
    cases h with
    | tup s r => exact .tup (subT hz s) (Rps.mono hz hi hn ds _ r)
  | .lst ds, _, h => by
    cases h with
    | lst s r => exact .lst (subL hz s) (Rps.mono hz hi hn ds _ r)
  | .ref k, _, h => by
    cases h with
    | ref q => rw [← hi k q]; exact .ref (Nat.lt_of_lt_of_le q hn)
  | .dct ks vs, _, h => by
    cases h with
    | dct s r t => exact .dct (subD hz s) (Rps.mono hz hi hn ks _ r) (Rps.mono hz hi hn vs _ t)
  | .ptu ds, _, h => by
    cases h with
    | ptu s r => exact .ptu (let ⟨o, a, b⟩ := s; ⟨o, hz _ _ a, b⟩) (Rps.mono hz hi hn ds _ r)
  | .lam _ _, _, h => by
    cases h with
    | lam s r => exact .lam (hz _ _ s) (hz _ _ r)
  | .exn _ _ d, _, h => by
    cases h with
    | exn s r q w => exact .exn s (hz _ _ r) (hz _ _ q) (Rp.mono hz hi hn d _ w)
  | .exv _ _ _ d, _, h => by
    cases h with
    | exv q w => exact .exv (hz _ _ q) (Rp.mono hz hi hn d _ w)
  | .dcx _ d, _, h => by
    cases h with
    | dcx q w => exact .dcx (hz _ _ q) (Rp.mono hz hi hn d _ w)
theorem Rps.mono (hz : Sub Z Z') (hi : ∀ k, k < n → ι' k = ι k) (hn : n ≤ n') : ∀ (ds : List D) (vs : List V), Rps K Z ι n ds vs → Rps K Z' ι' n' ds vs
  | [], _, h => by cases h; exact .nil
  | d :: ds, _, h => by
    cases h with
    | cons r s => exact .cons (Rp.mono hz hi hn d _ r) (Rps.mono hz hi hn ds _ s)
end
theorem Rps.length : ∀ {ds : List D} {vs : List V}, Rps K Z ι n ds vs → ds.length = vs.length
  | [], _, h => by cases h; rfl
  | _ :: _, _, h => by
    cases h with
    | cons _ s => rw [List.length_cons, List.length_cons, Rps.length s]
theorem Rps.get : ∀ {ds : List D} {vs : List V} {i : Nat} {d : D}, Rps K Z ι n ds vs → ds[i]? = some d → ∃ v, vs[i]? = some v ∧ Rp K Z ι n d v
  | [], _, _, _, _, e => by simp at e
  | _ :: _, _, 0, _, h, e => by
    cases h with
    | cons r _ =>
      simp at e
      subst e
      exact ⟨_, rfl, r⟩
  | _ :: _, _, i + 1, _, h, e => by
    cases h with
    | cons _ s =>
      obtain ⟨v, h1, h2⟩ := Rps.get s (i := i) (by simpa using e)
      exact ⟨v, by simpa using h1, h2⟩
theorem Rps.append : ∀ {ds es : List D} {vs us : List V}, Rps K Z ι n ds vs → Rps K Z ι n es us → Rps K Z ι n (ds ++ es) (vs ++ us)
  | [], _, _, _, h, q => by cases h; exact q
  | _ :: _, _, _, _, h, q => by
    cases h with
    | cons r s => exact .cons r (Rps.append s q)
theorem Rps.set : ∀ {ds : List D} {vs : List V} {d : D} {v : V} (i : Nat), Rps K Z ι n ds vs → Rp K Z ι n d v → Rps K Z ι n (ds.set i d) (vs.set i v)
  | [], _, _, _, _, h, _ => by cases h; exact .nil
  | _ :: _, _, _, _, 0, h, q => by
    cases h with
    | cons _ s => exact .cons q s
  | _ :: _, _, _, _, i + 1, h, q => by
    cases h with
    | cons r s => exact .cons r (Rps.set i s q)
theorem Rps.take : ∀ {ds : List D} {vs : List V} (i : Nat), Rps K Z ι n ds vs → Rps K Z ι n (ds.take i) (vs.take i)
  | _, _, 0, _ => by rw [List.take_zero, List.take_zero]; exact .nil
  | [], _, _ + 1, h => by cases h; exact .nil
  | _ :: _, _, i + 1, h => by
    cases h with
    | cons r s => exact .cons r (Rps.take i s)
theorem Rps.drop : ∀ {ds : List D} {vs : List V} (i : Nat), Rps K Z ι n ds vs → Rps K Z ι n (ds.drop i) (vs.drop i)
  | _, _, 0, h => h
  | [], _, _ + 1, h => by cases h; exact .nil
  | _ :: _, _, i + 1, h => by
    cases h with
    | cons r s => exact Rps.drop i s
theorem Rps.rep {ds : List D} {vs : List V} (h : Rps K Z ι n ds vs) : ∀ k : Nat, Rps K Z ι n (List.replicate k ds).flatten (List.replicate k vs).flatten
  | 0 => .nil
  | k + 1 => by
    rw [List.replicate_succ, List.replicate_succ, List.flatten_cons, List.flatten_cons]
    exact h.append (Rps.rep h k)
theorem Rps.ints : ∀ {is : List Int} {vs : List V}, Rps K Z ι n (is.map D.int) vs → vs = is.map V.int
  | [], _, h => by cases h; rfl
  | _ :: _, _, h => by
    cases h with
    | cons r s =>
      cases r
      rw [List.map_cons, Rps.ints s]
theorem Rps.of_ints : ∀ (is : List Int), Rps K Z ι n (is.map D.int) (is.map V.int)
  | [] => .nil
  | i :: is => .cons (.int i) (Rps.of_ints is)
end

/-! refs below a bound -/
mutual
def below (m : Nat) : D → Bool
  | .tup ds => belows m ds
  | .lst ds => belows m ds
  | .ref k => decide (k < m)
  | .dct ks vs => belows m ks && belows m vs
  | .ptu ds => belows m ds
  | .exn _ _ d => below m d
  | .exv _ _ _ d => below m d
  | .dcx _ d => below m d
  | _ => true
def belows (m : Nat) : List D → Bool
  | [] => true
  | d :: ds => below m d && belows m ds
end
section
variable {K : PySem.W.Frag} {Z : Hp} {ι : Nat → Addr} {n m : Nat}
mutual
theorem Rp.shrink : ∀ (d : D) (v : V), Rp K Z ι n d v → below m d = true → Rp K Z ι m d v
  | .non, _, h, _ => by cases h; exact .non
  | .bl b, _, h, _ => by cases h; exact .bl b
  | .int i, _, h, _ => by cases h; exact .int i
  | .str x, _, h, _ => by cases h; exact .str x
  | .tup ds, _, h, b => by
    cases h with
    | tup s r => exact .tup s (Rps.shrink ds _ r (by simpa [below] using b))
  | .lst ds, _, h, b => by
    cases h with
    | lst s r => exact .lst s (Rps.shrink ds _ r (by simpa [below] using b))
  | .ref k, _, h, b => by
    cases h with
    | ref q => exact .ref (by simpa [below] using b)
  | .dct ks vs, _, h, b => by
    cases h with
    | dct s r t =>
      have b' : (belows m ks && belows m vs) = true := b
      rw [Bool.and_eq_true] at b'
      exact .dct s (Rps.shrink ks _ r b'.1) (Rps.shrink vs _ t b'.2)
  | .ptu ds, _, h, b => by
    cases h with
    | ptu s r => exact .ptu s (Rps.shrink ds _ r (by simpa [below] using b))
  | .lam _ _, _, h, b => by
    cases h with
    | lam s r => exact .lam s r
  | .exn _ _ d, _, h, b => by
    cases h with
    | exn s r q w => exact .exn s r q (Rp.shrink d _ w (by simpa [below] using b))
  | .exv _ _ _ d, _, h, b => by
    cases h with
    | exv q w => exact .exv q (Rp.shrink d _ w (by simpa [below] using b))
  | .dcx _ d, _, h, b => by
    cases h with
    | dcx q w => exact .dcx q (Rp.shrink d _ w (by simpa [below] using b))
theorem Rps.shrink : ∀ (ds : List D) (vs : List V), Rps K Z ι n ds vs → belows m ds = true → Rps K Z ι m ds vs
  | [], _, h, _ => by cases h; exact .nil
  | d :: ds, _, h, b => by
    cases h with
    | cons r s =>
      simp only [belows, Bool.and_eq_true] at b
      exact .cons (Rp.shrink d _ r b.1) (Rps.shrink ds _ s b.2)
end
end

/-! ### the heap holds the store -/
def belowO (m : Nat) : MO → Bool
  | .dead => true
  | .lst ds => belows m ds
  | .obj _ fs => belows m (fs.map (·.2))
  | .dct ks vs => belows m ks && belows m vs
  | .dki kvs => belows m (kvs.map (·.2))
  | .tab _ => true
/-- at a stands the table of the code objects that the def nm makes -/
def TabZ (K : PySem.W.Frag) (H Z : Hp) (nm : Str) (a : Addr) : Prop := (∃ c, PySem.W.tabIn K nm = some (c, a)) ∧ ∃ ps : Array Value, H a = some (.tbl ps) ∧ TriplesOk ps.toList ∧ ∀ (pos : Pos) (cv : Value), codeAmong pos ps.toList = some cv → ∃ c, cv = .ref c ∧ Z c = some (LamX.CodeO c (nm ++ ".<locals>." ++ "<lambda>"))
def OR (K : PySem.W.Frag) (H Z : Hp) (ι : Nat → Addr) (n : Nat) : MO → Addr → Prop
  | .dead, _ => True
  | .lst ds, a => ∃ xs, H a = some (.lst xs) ∧ Rps K Z ι n ds xs
  | .obj nm fs, a => ∃ C dx gs, PySem.W.nsIn K mainGlobals nm = some (some (.ref C)) ∧ H a = some (.ins C dx gs) ∧ gs.map (·.1) = fs.map (·.1) ∧ Rps K Z ι n (fs.map (·.2)) (gs.map (·.2))
  | .dct ks vs, a => ∃ nks kx xs, DR K H Z a nks kx xs ∧ Rps K Z ι n ks kx ∧ Rps K Z ι n vs xs
  | .dki kvs, a => ∃ gs : List (L2.Key × V), H a = some (.dK gs) ∧ gs.map (·.1) = kvs.map (fun p => Sum.inl p.1) ∧ Rps K Z ι n (kvs.map (·.2)) (gs.map (·.2))
  | .tab nm, a => TabZ K H Z nm a
section
variable {K : PySem.W.Frag} {H Z : Hp} {ι : Nat → Addr} {n : Nat}
theorem OR.mono {Z' : Hp} {ι' : Nat → Addr} {n' : Nat} {H' : Hp} {u : MO} {a : Addr} (hz : Sub Z Z') (hi : ∀ k, k < n → ι' k = ι k) (hn : n ≤ n') (hh : ∀ o, H a = some o → H' a = some o) (h : OR K H Z ι n u a) : OR K H' Z' ι' n' u a := by
  cases u with
  | dead => trivial
  | lst ds =>
    obtain ⟨xs, e1, r⟩ := h
    exact ⟨xs, hh _ e1, Rps.mono hz hi hn _ _ r⟩
  | obj nm fs =>
    obtain ⟨C, dx, gs, e0, e1, e2, r⟩ := h
    exact ⟨C, dx, gs, e0, hh _ e1, e2, Rps.mono hz hi hn _ _ r⟩
  | dct ks vs =>
    obtain ⟨nks, kx, xs, ⟨es, ep, h1, h2, h3, h4, h5⟩, r, q⟩ := h
    exact ⟨nks, kx, xs, ⟨es, ep, hh _ h1, h2, h3, h4, h5.sub hz⟩, Rps.mono hz hi hn _ _ r, Rps.mono hz hi hn _ _ q⟩
  | dki kvs =>
    obtain ⟨gs, e1, e2, r⟩ := h
    exact ⟨gs, hh _ e1, e2, Rps.mono hz hi hn _ _ r⟩
  | tab nm =>
    obtain ⟨c, ps, e1, e2, e3⟩ := h
    exact ⟨c, ps, hh _ e1, e2, fun pos cv q => let ⟨b, q1, q2⟩ := e3 pos cv q; ⟨b, q1, hz _ _ q2⟩⟩
theorem OR.shrink {u : MO} {a : Addr} {m : Nat} (h : OR K H Z ι n u a) (b : belowO m u = true) : OR K H Z ι m u a := by
  cases u with
  | dead => trivial
  | lst ds =>
    obtain ⟨xs, e1, r⟩ := h
    exact ⟨xs, e1, Rps.shrink _ _ r b⟩
  | obj nm fs =>
    obtain ⟨C, dx, gs, e0, e1, e2, r⟩ := h
    exact ⟨C, dx, gs, e0, e1, e2, Rps.shrink _ _ r b⟩
  | dct ks vs =>
    obtain ⟨nks, kx, xs, d, r, q⟩ := h
    have b' : (belows m ks && belows m vs) = true := b
    rw [Bool.and_eq_true] at b'
    exact ⟨nks, kx, xs, d, Rps.shrink _ _ r b'.1, Rps.shrink _ _ q b'.2⟩
  | dki kvs =>
    obtain ⟨gs, e1, e2, r⟩ := h
    exact ⟨gs, e1, e2, Rps.shrink _ _ r b⟩
  | tab nm => exact h
/-- what leans on nothing of ours -/
theorem OR.low {ι' : Nat → Addr} {n' : Nat} {u : MO} {a : Addr} (h : OR K H Z ι n u a) (b : belowO 0 u = true) : OR K H Z ι' n' u a :=
  OR.mono (fun _ _ z => z) (fun _ z => absurd z (Nat.not_lt_zero _)) (Nat.zero_le _) (fun _ z => z) (h.shrink b)
end
structure HR (K : PySem.W.Frag) (H Z : Hp) (ι : Nat → Addr) (M : List MO) : Prop where
  sub : Sub Z H
  ali : ∀ k, k < M.length → ∃ o, H (ι k) = some o
  sep : ∀ (k : Nat) (o : MO), M[k]? = some o → o ≠ .dead → Z (ι k) = none
  inj : ∀ (j k : Nat) (o u : MO), M[j]? = some o → M[k]? = some u → o ≠ .dead → u ≠ .dead → ι j = ι k → j = k
  obj : ∀ (k : Nat) (o : MO), M[k]? = some o → OR K H Z ι M.length o (ι k)
  ded : ∀ (k : Nat), M[k]? = some .dead → ∃ o, Z (ι k) = some o
theorem HR.apart {K : PySem.W.Frag} {H Z : Hp} {ι : Nat → Addr} {M : List MO} (h : HR K H Z ι M) {j k : Nat} {o : MO} (hj : j < M.length) (hk : M[k]? = some o) (d : o ≠ .dead) (ne : j ≠ k) : ι j ≠ ι k := fun e => by
  have ej : M[j]? = some M[j] := List.getElem?_eq_getElem hj
  by_cases dj : M[j] = .dead
  · rw [dj] at ej
    obtain ⟨u, hu⟩ := h.ded j ej
    rw [e, h.sep k o hk d] at hu
    cases hu
  · exact ne (h.inj j k _ o ej hk dj d e)
structure Ext (H Z : Hp) (ι : Nat → Addr) (n : Nat) (H' Z' : Hp) (ι' : Nat → Addr) (n' : Nat) : Prop where
  zz : Sub Z Z'
  ii : ∀ k, k < n → ι' k = ι k
  fr : ∀ a o, H a = some o → (∀ k, k < n → a ≠ ι k) → H' a = some o
  nw : ∀ k, n ≤ k → k < n' → H (ι' k) = none
  ln : n ≤ n'
  zn : ∀ a o, Z' a = some o → Z a = some o ∨ H a = none ∨ ∃ k, k < n ∧ a = ι k
theorem Ext.refl {H Z : Hp} {ι : Nat → Addr} {n : Nat} : Ext H Z ι n H Z ι n :=
  ⟨fun _ _ h => h, fun _ _ => rfl, fun _ _ h _ => h, fun k h1 h2 => absurd h2 (Nat.not_lt.mpr h1), Nat.le_refl _, fun _ _ h => .inl h⟩
theorem Ext.trans {H Z H1 Z1 H2 Z2 : Hp} {ι ι1 ι2 : Nat → Addr} {n n1 n2 : Nat} (a : Ext H Z ι n H1 Z1 ι1 n1) (b : Ext H1 Z1 ι1 n1 H2 Z2 ι2 n2) (al : ∀ k, k < n1 → ∃ o, H1 (ι1 k) = some o) : Ext H Z ι n H2 Z2 ι2 n2 where
  zz := fun x o h => b.zz x o (a.zz x o h)
  ii := fun k h => (b.ii k (Nat.lt_of_lt_of_le h a.ln)).trans (a.ii k h)
  fr := fun x o h hk => by
    refine b.fr x o (a.fr x o h hk) fun k hk1 e => ?_
    by_cases hn : k < n
    · exact hk k hn (e.trans (a.ii k hn))
    · have q := a.nw k (Nat.le_of_not_lt hn) hk1
      rw [← e, h] at q
      cases q
  nw := fun k h1 h2 => by
    by_cases hn : k < n1
    · rw [b.ii k hn]
      exact a.nw k h1 hn
    · have q := b.nw k (Nat.le_of_not_lt hn) h2
      cases e : H (ι2 k) with
      | none => rfl
      | some o =>
        by_cases z : ∀ j, j < n → ι2 k ≠ ι j
        · rw [a.fr _ _ e z] at q
          cases q
        · exfalso
          apply z
          intro j hj ej
          obtain ⟨u, hu⟩ := al j (Nat.lt_of_lt_of_le hj a.ln)
          rw [a.ii j hj, ← ej, q] at hu
          cases hu
  ln := Nat.le_trans a.ln b.ln
  zn := fun x o h => by
    have low : ∀ u, H1 x = none → H x = some u → ∃ k, k < n ∧ x = ι k := fun u h1 hu => by
      refine Classical.byContradiction fun z => ?_
      rw [a.fr x u hu fun k hk e => z ⟨k, hk, e⟩] at h1
      cases h1
    have fin : H1 x = none → Z x = some o ∨ H x = none ∨ ∃ k, k < n ∧ x = ι k := fun h1 => by
      cases e : H x with
      | none => exact .inr (.inl rfl)
      | some u => exact .inr (.inr (low u h1 e))
    rcases b.zn x o h with h | h | ⟨k, hk, e⟩
    · exact a.zn x o h
    · exact fin h
    · by_cases hn : k < n
      · exact .inr (.inr ⟨k, hn, e.trans (a.ii k hn)⟩)
      · exact .inr (.inl (by rw [e]; exact a.nw k (Nat.le_of_not_lt hn) hk))
/-- the store is cut -/
theorem Ext.cut {H Z H1 Z1 : Hp} {ι ι1 : Nat → Addr} {n n1 m : Nat} (a : Ext H Z ι n H1 Z1 ι1 n1) (h1 : n ≤ m) (h2 : m ≤ n1) : Ext H Z ι n H1 Z1 ι1 m :=
  ⟨a.zz, a.ii, a.fr, fun k q1 q2 => a.nw k q1 (Nat.lt_of_lt_of_le q2 h2), h1, a.zn⟩
section
variable {K : PySem.W.Frag} {H Z H' Z' : Hp} {ι ι' : Nat → Addr} {M : List MO} {n' : Nat}
theorem Rp.ext {d : D} {v : V} {n : Nat} (r : Rp K Z ι n d v) (e : Ext H Z ι n H' Z' ι' n') : Rp K Z' ι' n' d v := Rp.mono e.zz e.ii e.ln d v r
theorem Rps.ext {ds : List D} {vs : List V} {n : Nat} (r : Rps K Z ι n ds vs) (e : Ext H Z ι n H' Z' ι' n') : Rps K Z' ι' n' ds vs := Rps.mono e.zz e.ii e.ln ds vs r
/-- a new thing that will not be changed -/
theorem HR.frozen (h : HR K H Z ι M) {p : Addr} {o : HO} (hp : H p = none) : HR K (upd H p o) (upd Z p o) ι M ∧ Ext H Z ι M.length (upd H p o) (upd Z p o) ι M.length := by
  have zp : Z p = none := by
    cases e : Z p with
    | none => rfl
    | some u =>
      rw [h.sub _ _ e] at hp
      cases hp
  have ne : ∀ k, k < M.length → ι k ≠ p := fun k hk e => by
    obtain ⟨u, hu⟩ := h.ali k hk
    rw [e, hp] at hu
    cases hu
  have lt : ∀ {k : Nat} {u : MO}, M[k]? = some u → k < M.length := fun e => (List.getElem?_eq_some_iff.mp e).1
  have s1 : Sub Z (upd Z p o) := fun a u e => by rw [upd_ne (ne_of_none e zp)]; exact e
  refine ⟨⟨fun a u e => ?_, fun k hk => ?_, fun k u e d => ?_, h.inj, fun k u e => ?_, fun k e => ?_⟩, s1, fun _ _ => rfl, fun a u e _ => ?_, fun k h1 h2 => absurd h2 (Nat.not_lt.mpr h1), Nat.le_refl _, fun a u e => ?_⟩
  · by_cases ha : a = p
    · subst ha
      rw [upd_same] at e ⊢
      exact e
    · rw [upd_ne ha] at e ⊢
      exact h.sub _ _ e
  · rw [upd_ne (ne k hk)]
    exact h.ali k hk
  · rw [upd_ne (ne k (lt e))]
    exact h.sep k u e d
  · exact OR.mono s1 (fun _ _ => rfl) (Nat.le_refl _) (fun o z => by rw [upd_ne (ne k (lt e))]; exact z) (h.obj k u e)
  · obtain ⟨u, hu⟩ := h.ded k e
    exact ⟨u, s1 _ _ hu⟩
  · rw [upd_ne (ne_of_none e hp)]
    exact e
  · by_cases ha : a = p
    · subst ha
      exact .inr (.inl hp)
    · rw [upd_ne ha] at e
      exact .inl e
def put (ι : Nat → Addr) (m : Nat) (p : Addr) : Nat → Addr := fun k => if k = m then p else ι k
theorem put_at {ι : Nat → Addr} {m : Nat} {p : Addr} : put ι m p m = p := if_pos rfl
theorem put_lt {ι : Nat → Addr} {m k : Nat} {p : Addr} (h : k < m) : put ι m p k = ι k := if_neg (Nat.ne_of_lt h)
/-- a new thing of ours -/
theorem HR.owned (h : HR K H Z ι M) {p : Addr} {ds : List D} {xs : List V} (hp : H p = none) (r : Rps K Z ι M.length ds xs) :
    HR K (upd H p (.lst xs)) Z (put ι M.length p) (M ++ [.lst ds]) ∧ Ext H Z ι M.length (upd H p (.lst xs)) Z (put ι M.length p) (M ++ [MO.lst ds]).length := by
  have zp : Z p = none := by
    cases e : Z p with
    | none => rfl
    | some u =>
      rw [h.sub _ _ e] at hp
      cases hp
  have ne : ∀ k, k < M.length → ι k ≠ p := fun k hk e => by
    obtain ⟨u, hu⟩ := h.ali k hk
    rw [e, hp] at hu
    cases hu
  have ii : ∀ k, k < M.length → (put ι M.length p) k = ι k := fun k hk => put_lt hk
  have il : (put ι M.length p) M.length = p := put_at
  have cs : ∀ {k : Nat} {u : MO}, (M ++ [MO.lst ds])[k]? = some u → (k < M.length ∧ M[k]? = some u) ∨ (k = M.length ∧ u = .lst ds) := fun {k u} e => by
    by_cases hk : k < M.length
    · rw [List.getElem?_append_left hk] at e
      exact .inl ⟨hk, e⟩
    · rw [List.getElem?_append_right (Nat.le_of_not_lt hk)] at e
      by_cases hz : k - M.length = 0
      · rw [hz] at e
        exact .inr ⟨by omega, (Option.some.inj e).symm⟩
      · rw [List.getElem?_eq_none (by simp; omega)] at e
        cases e
  have ln : (M ++ [MO.lst ds]).length = M.length + 1 := by simp
  refine ⟨⟨fun a u e => ?_, fun k hk => ?_, fun k u e d => ?_, fun j k o u e1 e2 d1 d2 e => ?_, fun k u e => ?_, fun k e => ?_⟩, fun _ _ e => e, ii, fun a u e _ => ?_, fun k h1 h2 => ?_, by rw [ln]; omega, fun _ _ e => .inl e⟩
  · rw [upd_ne (ne_of_none e zp)]
    exact h.sub _ _ e
  · rw [ln] at hk
    by_cases hk' : k < M.length
    · rw [ii k hk', upd_ne (ne k hk')]
      exact h.ali k hk'
    · have : k = M.length := by omega
      subst this
      exact ⟨_, by rw [il, upd_same]⟩
  · rcases cs e with ⟨hk, e⟩ | ⟨rfl, rfl⟩
    · rw [ii k hk]
      exact h.sep k u e d
    · rw [il]
      exact zp
  · rcases cs e1 with ⟨hj, e1⟩ | ⟨rfl, rfl⟩ <;> rcases cs e2 with ⟨hk, e2⟩ | ⟨rfl, rfl⟩
    · rw [ii j hj, ii k hk] at e
      exact h.inj j k o u e1 e2 d1 d2 e
    · rw [ii j hj, il] at e
      exact absurd e (ne j hj)
    · rw [ii k hk, il] at e
      exact absurd e.symm (ne k hk)
    · rfl
  · rcases cs e with ⟨hk, e⟩ | ⟨rfl, rfl⟩
    · rw [ii k hk]
      exact OR.mono (fun _ _ z => z) ii (by rw [ln]; omega) (fun o z => by rw [upd_ne (ne k hk)]; exact z) (h.obj k u e)
    · rw [il]
      exact ⟨xs, upd_same, Rps.mono (fun _ _ z => z) ii (by rw [ln]; omega) _ _ r⟩
  · rcases cs e with ⟨hk, e⟩ | ⟨_, e⟩
    · rw [ii k hk]
      exact h.ded k e
    · cases e
  · rw [upd_ne (ne_of_none e hp)]
    exact e
  · rw [ln] at h2
    have : k = M.length := by omega
    subst this
    rw [il]
    exact hp
/-- one of ours is changed -/
theorem HR.change (h : HR K H Z ι M) {j : Nat} {es ds : List D} {xs : List V} (hj : M[j]? = some (.lst es)) (r : Rps K Z ι M.length ds xs) :
    HR K (upd H (ι j) (.lst xs)) Z ι (M.set j (.lst ds)) ∧ Ext H Z ι M.length (upd H (ι j) (.lst xs)) Z ι (M.set j (.lst ds)).length := by
  have lt : j < M.length := (List.getElem?_eq_some_iff.mp hj).1
  have ln : (M.set j (MO.lst ds)).length = M.length := List.length_set
  have zj : Z (ι j) = none := h.sep j _ hj (by simp)
  have cs : ∀ {k : Nat} {u : MO}, (M.set j (.lst ds))[k]? = some u → (k ≠ j ∧ M[k]? = some u) ∨ (k = j ∧ u = .lst ds) := fun {k u} e => by
    by_cases hk : k = j
    · subst hk
      rw [List.getElem?_set_self lt] at e
      exact .inr ⟨rfl, (Option.some.inj e).symm⟩
    · rw [List.getElem?_set_ne (Ne.symm hk)] at e
      exact .inl ⟨hk, e⟩
  have apart : ∀ {k : Nat} {u : MO}, k ≠ j → M[k]? = some u → u ≠ .dead → ι k ≠ ι j := fun {k u} hk e d z => hk (h.inj k j u _ e hj d (by simp) z)
  refine ⟨⟨fun a u e => ?_, fun k hk => ?_, fun k u e d => ?_, fun a b o u e1 e2 d1 d2 e => ?_, fun k u e => ?_, fun k e => ?_⟩, fun _ _ e => e, fun _ _ => rfl, fun a u e z => ?_, fun k h1 h2 => absurd h2 (by rw [ln]; exact Nat.not_lt.mpr h1), by rw [ln]; exact Nat.le_refl _, fun _ _ e => .inl e⟩
  · rw [upd_ne (ne_of_none e zj)]
    exact h.sub _ _ e
  · rw [ln] at hk
    by_cases e : ι k = ι j
    · exact ⟨_, by rw [e, upd_same]⟩
    · rw [upd_ne e]
      exact h.ali k hk
  · rcases cs e with ⟨hk, e⟩ | ⟨rfl, rfl⟩
    · exact h.sep k u e d
    · exact zj
  · have live : ∀ {k : Nat} {u : MO}, (M.set j (.lst ds))[k]? = some u → u ≠ .dead → ∃ u', M[k]? = some u' ∧ u' ≠ .dead := fun {k u} e d => by
      rcases cs e with ⟨_, e⟩ | ⟨rfl, rfl⟩
      · exact ⟨u, e, d⟩
      · exact ⟨_, hj, by simp⟩
    obtain ⟨o', e1', d1'⟩ := live e1 d1
    obtain ⟨u', e2', d2'⟩ := live e2 d2
    exact h.inj a b o' u' e1' e2' d1' d2' e
  · rw [ln]
    rcases cs e with ⟨hk, e⟩ | ⟨rfl, rfl⟩
    · by_cases du : u = .dead
      · subst du
        trivial
      · exact OR.mono (fun _ _ z => z) (fun _ _ => rfl) (Nat.le_refl _) (fun o z => by rw [upd_ne (apart hk e du)]; exact z) (h.obj k u e)
    · exact ⟨xs, upd_same, r⟩
  · rcases cs e with ⟨_, e⟩ | ⟨_, e⟩
    · exact h.ded k e
    · cases e
  · rw [upd_ne (z j lt)]
    exact e
end
/-- a cut: what is left leans on nothing that was cut off -/
def cutOk (m : Nat) (M : List MO) : Bool := (M.take m).all (belowO m)
theorem HR.cut {K : PySem.W.Frag} {H Z : Hp} {ι : Nat → Addr} {M : List MO} (h : HR K H Z ι M) {m : Nat} (hm : m ≤ M.length) (c : cutOk m M = true) : HR K H Z ι (M.take m) := by
  have ln : (M.take m).length = m := by rw [List.length_take]; omega
  have cs : ∀ {k : Nat} {u : MO}, (M.take m)[k]? = some u → M[k]? = some u ∧ belowO m u = true := fun {k u} e => by
    have lk : k < m := by
      have := (List.getElem?_eq_some_iff.mp e).1
      rw [ln] at this
      exact this
    have e' := e
    rw [List.getElem?_take_of_lt lk] at e'
    exact ⟨e', List.all_eq_true.mp c u (List.mem_of_getElem? e)⟩
  refine ⟨h.sub, fun k hk => h.ali k (by rw [ln] at hk; omega), fun k u e d => h.sep k u (cs e).1 d, fun a b o u e1 e2 d1 d2 e => h.inj a b o u (cs e1).1 (cs e2).1 d1 d2 e, fun k u e => ?_, fun k e => h.ded k (cs e).1⟩
  rw [ln]
  obtain ⟨e1, b⟩ := cs e
  exact (h.obj k u e1).shrink b
end Bk

set_option Elab.async false
set_option linter.all false
set_option maxRecDepth 100000
set_option maxHeartbeats 1000000
namespace Bk
open PySem PySem.Spec PyProof.Rows L2

/-! ### what is shown of a piece of syntax -/
abbrev St := L2.St
/-- the classes of errors: where each stands, and its one attribute -/
structure CT where
  at_ : Nat → Addr
  nm : Nat → Str
def ExcR (K : PySem.W.Frag) (C : CT) (H Z : Hp) (ι : Nat → Addr) (n c : Nat) (d : D) (cls : Value) (dd : Option Addr) : Prop :=
  cls = .ref (C.at_ c) ∧ ∃ a v, dd = some a ∧ Z a = some (.xd [(C.nm c, v)]) ∧ Rp K Z ι n d v
def Slots (K : PySem.W.Frag) (Z : Hp) (ι : Nat → Addr) (n : Nat) (Γ : Env) (σ : St) : Prop :=
  Γ.length = σ.length ∧ ∀ (i : Nat) (d : D), Γ[i]? = some (some d) → ∃ v, σ[i]? = some (some v) ∧ Rp K Z ι n d v
theorem Slots.ext {K : PySem.W.Frag} {H Z H' Z' : Hp} {ι ι' : Nat → Addr} {n n' : Nat} {Γ : Env} {σ : St} (s : Slots K Z ι n Γ σ) (e : Ext H Z ι n H' Z' ι' n') : Slots K Z' ι' n' Γ σ :=
  ⟨s.1, fun i d h => let ⟨v, h1, h2⟩ := s.2 i d h; ⟨v, h1, h2.ext e⟩⟩
theorem Slots.set {K : PySem.W.Frag} {Z : Hp} {ι : Nat → Addr} {n : Nat} {Γ : Env} {σ : St} (s : Slots K Z ι n Γ σ) (i : Nat) {d : D} {v : V} (r : Rp K Z ι n d v) : Slots K Z ι n (Γ.set i (some d)) (σ.set i (some v)) := by
  refine ⟨by rw [List.length_set, List.length_set]; exact s.1, fun j e h => ?_⟩
  by_cases hj : i = j
  · subst hj
    have lt : i < Γ.length := by
      have := (List.getElem?_eq_some_iff.mp h).1
      rw [List.length_set] at this
      exact this
    rw [List.getElem?_set_self lt] at h
    have q := Option.some.inj (Option.some.inj h)
    subst q
    exact ⟨v, List.getElem?_set_self (by rw [← s.1]; exact lt), r⟩
  · rw [List.getElem?_set_ne hj] at h
    rw [List.getElem?_set_ne hj]
    exact s.2 j e h
/-- slots are forgotten -/
def forget (Γ : Env) : List Nat → Env
  | [] => Γ
  | i :: is => forget (Γ.set i none) is
theorem Slots.forget {K : PySem.W.Frag} {Z : Hp} {ι : Nat → Addr} {n : Nat} {σ : St} : ∀ (is : List Nat) {Γ : Env}, Slots K Z ι n Γ σ → Slots K Z ι n (forget Γ is) σ
  | [], _, s => s
  | i :: is, Γ, s => Slots.forget is ⟨by rw [List.length_set]; exact s.1, fun j e h => by
      by_cases hj : i = j
      · subst hj
        have lt : i < Γ.length := by
          have := (List.getElem?_eq_some_iff.mp h).1
          rw [List.length_set] at this
          exact this
        rw [List.getElem?_set_self lt] at h
        cases h
      · rw [List.getElem?_set_ne hj] at h
        exact s.2 j e h⟩
/-- what leans on nothing that is cut off stays -/
def clean (m : Nat) (Γ : Env) : Env := Γ.map fun o => match o with
  | some d => if below m d = true then some d else none
  | none => none
theorem Slots.cut {K : PySem.W.Frag} {Z : Hp} {ι : Nat → Addr} {n m : Nat} {Γ : Env} {σ : St} (s : Slots K Z ι n Γ σ) : Slots K Z ι m (clean m Γ) σ := by
  refine ⟨by unfold clean; rw [List.length_map]; exact s.1, fun i d h => ?_⟩
  unfold clean at h
  rw [List.getElem?_map] at h
  cases e : Γ[i]? with
  | none => rw [e] at h; cases h
  | some o =>
    cases o with
    | none => rw [e] at h; cases h
    | some d' =>
      rw [e] at h
      have h' : (if below m d' = true then some d' else none) = some d := Option.some.inj h
      by_cases hb : below m d' = true
      · rw [if_pos hb] at h'
        have q := Option.some.inj h'
        subst q
        obtain ⟨v, h1, h2⟩ := s.2 i d' e
        exact ⟨v, h1, h2.shrink _ _ hb⟩
      · rw [if_neg hb] at h'
        cases h'

abbrev RpK (α β : Type) := Hp → (Nat → Addr) → Nat → α → β → Prop
abbrev rpE (K : PySem.W.Frag) : RpK D V := fun Z ι n d v => Rp K Z ι n d v
abbrev rpA (K : PySem.W.Frag) : RpK (List D) (List V) := fun Z ι n d v => Rps K Z ι n d v
abbrev rpT : RpK Bool Bool := fun _ _ _ a b => a = b
def Post {α β : Type} (X : Cx) (C : CT) (W : WX) (rp : RpK α β) (σ : St) (H Z : Hp) (ι : Nat → Addr) (M : List MO) (r : R α) (Q : β → Hp → Prop) : Prop := match r with
  | .ok a M' => ∀ (b : β) (H' Z' : Hp) (ι' : Nat → Addr), Ext H Z ι M.length H' Z' ι' M'.length → HR X.K H' Z' ι' M' → rp Z' ι' M'.length a b → Q b H'
  | .exc c d M' => ∀ (cls : Value) (dd : Option Addr) (H' Z' : Hp) (ι' : Nat → Addr), Ext H Z ι M.length H' Z' ι' M'.length → HR X.K H' Z' ι' M' → ExcR X.K C H' Z' ι' M'.length c d cls dd → W cls dd σ H'
  | .bad => False
section
variable {X : Cx} {C : CT} {W : WX} {σ : St} {H Z H1 Z1 : Hp} {ι ι1 : Nat → Addr} {M M1 : List MO}
theorem Post.shift {α β : Type} {rp : RpK α β} {r : R α} {Q : β → Hp → Prop} (h : Post X C W rp σ H Z ι M r Q) (e : Ext H Z ι M.length H1 Z1 ι1 M1.length) (hr : HR X.K H1 Z1 ι1 M1) : Post X C W rp σ H1 Z1 ι1 M1 r Q := by
  cases r with
  | ok a M' => exact fun b H' Z' ι' e' hr' rb => h b H' Z' ι' (e.trans e' hr.ali) hr' rb
  | exc c d M' => exact fun cls dd H' Z' ι' e' hr' rb => h cls dd H' Z' ι' (e.trans e' hr.ali) hr' rb
  | bad => exact h
theorem Post.bind {α β γ δ : Type} {rp1 : RpK α β} {rp2 : RpK γ δ} {r : R α} {f : α → List MO → R γ} {Q : δ → Hp → Prop} {Q1 : β → Hp → Prop} (h : Post X C W rp2 σ H Z ι M (r.bind f) Q)
    (k : ∀ (a : α) (M1 : List MO) (b : β) (H1 Z1 : Hp) (ι1 : Nat → Addr), Ext H Z ι M.length H1 Z1 ι1 M1.length → HR X.K H1 Z1 ι1 M1 → rp1 Z1 ι1 M1.length a b → Post X C W rp2 σ H1 Z1 ι1 M1 (f a M1) Q → Q1 b H1) :
    Post X C W rp1 σ H Z ι M r Q1 := by
  cases r with
  | ok a M' => exact fun b H' Z' ι' e' hr' rb => k a M' b H' Z' ι' e' hr' rb (Post.shift (r := f a M') h e' hr')
  | exc c d M' => exact h
  | bad => exact h
end

/-- an expression is computed by g -/
def QE (X : Cx) (C : CT) (W : WX) (e : Expr) (g : GE) : Prop := ∃ te, PE X e te ∧ ∀ (σ : St) (H Z : Hp) (ι : Nat → Addr) (Γ : Env) (M : List MO) (Q : VK), Slots X.K Z ι M.length Γ σ → HR X.K H Z ι M → Post X C W (rpE X.K) σ H Z ι M (g Γ M) Q → te σ H Q
def QT (X : Cx) (C : CT) (W : WX) (e : Expr) (g : GT) : Prop := ∃ te, PT X e te ∧ ∀ (σ : St) (H Z : Hp) (ι : Nat → Addr) (Γ : Env) (M : List MO) (Q : Bool → Hp → Prop), Slots X.K Z ι M.length Γ σ → HR X.K H Z ι M → Post X C W rpT σ H Z ι M (g Γ M) Q → te σ H Q
def QW (X : Cx) (C : CT) (W : WX) (e : Expr) (g : GT) : Prop := ∃ te, PW X e te ∧ ∀ (σ : St) (H Z : Hp) (ι : Nat → Addr) (Γ : Env) (M : List MO) (Q : Bool → Hp → Prop), Slots X.K Z ι M.length Γ σ → HR X.K H Z ι M → Post X C W rpT σ H Z ι M (g Γ M) Q → te σ H Q
def QA (X : Cx) (C : CT) (W : WX) (es : List Expr) (g : GA) : Prop := ∃ te, PA X es te ∧ ∀ (σ : St) (H Z : Hp) (ι : Nat → Addr) (Γ : Env) (M : List MO) (Q : List V → Hp → Prop), Slots X.K Z ι M.length Γ σ → HR X.K H Z ι M → Post X C W (rpA X.K) σ H Z ι M (g Γ M) Q → te σ H Q

/-! ### the functions that compute -/
def opR {α : Type} (o : Option α) (M : List MO) : R α := match o with
  | some a => .ok a M
  | none => .bad
def gV (i : Nat) : GE := fun Γ M => match Γ[i]? with
  | some (some d) => .ok d M
  | _ => .bad
def gC (d : D) : GE := fun _ M => .ok d M
def gOp2 (f : List MO → D → D → Option D) (ga gb : GE) : GE := fun Γ M => (ga Γ M).bind fun x M1 => (gb Γ M1).bind fun y M2 => opR (f M2 x y) M2
def gOp1 (f : List MO → D → Option D) (ga : GE) : GE := fun Γ M => (ga Γ M).bind fun x M1 => opR (f M1 x) M1
def gNil : GA := fun _ M => .ok [] M
def gCons (ga : GE) (gr : GA) : GA := fun Γ M => (ga Γ M).bind fun x M1 => (gr Γ M1).bind fun xs M2 => .ok (x :: xs) M2
def gTup (ga : GA) : GE := fun Γ M => (ga Γ M).bind fun xs M1 => if xs.length ≤ sizeLine then .ok (.tup xs) M1 else .bad
def gLst (ga : GA) : GE := fun Γ M => (ga Γ M).bind fun xs M1 => if xs.length ≤ sizeLine then .ok (.lst xs) M1 else .bad
def gLstO (ga : GA) : GE := fun Γ M => (ga Γ M).bind fun xs M1 => if xs.length ≤ sizeLine then .ok (.ref M1.length) (M1 ++ [.lst xs]) else .bad
def gCall (f : List MO → List D → Option D) (ga : GA) : GE := fun Γ M => (ga Γ M).bind fun xs M1 => opR (f M1 xs) M1
def toBl : D → Option Bool
  | .bl b => some b
  | _ => none
def gVal (ga : GE) : GT := fun Γ M => (ga Γ M).bind fun x M1 => opR (toBl x) M1
def gAndT (a b : GT) : GT := fun Γ M => (a Γ M).bind fun c M1 => if c = true then b Γ M1 else .ok false M1
def gOrT (a b : GT) : GT := fun Γ M => (a Γ M).bind fun c M1 => if c = true then .ok true M1 else b Γ M1
def gNotT (a : GT) : GT := fun Γ M => (a Γ M).bind fun c M1 => .ok (!c) M1
def gIfE (c : GT) (a b : GE) : GE := fun Γ M => (c Γ M).bind fun k M1 => if k = true then a Γ M1 else b Γ M1
def gAndV (a b : GE) : GE := fun Γ M => (a Γ M).bind fun x M1 => match x with
  | .bl c => if c = true then b Γ M1 else .ok (.bl false) M1
  | _ => .bad
def gOrV (a b : GE) : GE := fun Γ M => (a Γ M).bind fun x M1 => match x with
  | .bl c => if c = true then .ok (.bl true) M1 else b Γ M1
  | _ => .bad
def gChain (f f' : List MO → D → D → Option D) (ga gb gc : GE) : GE := fun Γ M => (ga Γ M).bind fun x M1 => (gb Γ M1).bind fun y M2 => (opR (f M2 x y) M2).bind fun k M3 => match k with
  | .bl c => if c = true then (gc Γ M3).bind fun z M4 => opR (f' M4 y z) M4 else .ok (.bl false) M3
  | _ => .bad

section
variable {X : Cx} {C : CT} {W : WX}
/-- a result that is new and will not be changed, or an old one -/
def After (X : Cx) (H Z : Hp) (ι : Nat → Addr) (M : List MO) (d : D) (Q : VK) : Prop := ∀ (v : V) (H' Z' : Hp), Ext H Z ι M.length H' Z' ι M.length → HR X.K H' Z' ι M → Rp X.K Z' ι M.length d v → Q v H'
theorem After.now {H Z : Hp} {ι : Nat → Addr} {M : List MO} {d : D} {Q : VK} {v : V} (h : After X H Z ι M d Q) (hr : HR X.K H Z ι M) (r : Rp X.K Z ι M.length d v) : Q v H := h v H Z .refl hr r
theorem After.lst {H Z : Hp} {ι : Nat → Addr} {M : List MO} {ds : List D} {Q : VK} {xs : List V} (h : After X H Z ι M (.lst ds) Q) (hr : HR X.K H Z ι M) (r : Rps X.K Z ι M.length ds xs) : ∀ p, H p = none → Q (.ref p) (upd H p (.lst xs)) := fun p hp => by
  obtain ⟨h1, e1⟩ := hr.frozen (o := .lst xs) hp
  exact h _ _ _ e1 h1 (.lst (.inl (.inl upd_same)) (r.ext e1))
theorem After.tup {H Z : Hp} {ι : Nat → Addr} {M : List MO} {ds : List D} {Q : VK} {xs : List V} (h : After X H Z ι M (.tup ds) Q) (hr : HR X.K H Z ι M) (r : Rps X.K Z ι M.length ds xs) : ∀ p, H p = none → Q (.ref p) (upd H p (.tup xs)) := fun p hp => by
  obtain ⟨h1, e1⟩ := hr.frozen (o := .tup xs) hp
  exact h _ _ _ e1 h1 (.tup (.inl (.inl upd_same)) (r.ext e1))
theorem Post.after {σ : St} {H Z : Hp} {ι : Nat → Addr} {M : List MO} {d : D} {Q : VK} (h : Post X C W (rpE X.K) σ H Z ι M (.ok d M) Q) : After X H Z ι M d Q := fun v H' Z' e hr r => h v H' Z' ι e hr r
/-- an operation on values is computed by f -/
def Ok2 (X : Cx) (r : R2) (f : List MO → D → D → Option D) : Prop := ∀ (x y : V) (H Z : Hp) (ι : Nat → Addr) (M : List MO) (dx dy d : D) (Q : VK), HR X.K H Z ι M → Rp X.K Z ι M.length dx x → Rp X.K Z ι M.length dy y → f M dx dy = some d → After X H Z ι M d Q → r x y H Q
def Ok1 (X : Cx) (r : V → Hp → VK → Prop) (f : List MO → D → Option D) : Prop := ∀ (x : V) (H Z : Hp) (ι : Nat → Addr) (M : List MO) (dx d : D) (Q : VK), HR X.K H Z ι M → Rp X.K Z ι M.length dx x → f M dx = some d → After X H Z ι M d Q → r x H Q
def OkA (X : Cx) (r : List V → Hp → VK → Prop) (f : List MO → List D → Option D) : Prop := ∀ (xs : List V) (H Z : Hp) (ι : Nat → Addr) (M : List MO) (ds : List D) (d : D) (Q : VK), HR X.K H Z ι M → Rps X.K Z ι M.length ds xs → f M ds = some d → After X H Z ι M d Q → r xs H Q
theorem Post.of_opR {α β γ δ : Type} {rp1 : RpK α β} {σ : St} {H Z : Hp} {ι : Nat → Addr} {M : List MO} {o : Option α} {Q : β → Hp → Prop} (h : Post X C W rp1 σ H Z ι M (opR o M) Q) : ∃ a, o = some a ∧ Post X C W rp1 σ H Z ι M (.ok a M) Q := by
  cases o with
  | none => exact h.elim
  | some a => exact ⟨a, rfl, h⟩

/-! ### the rules -/
theorem qe_v (i : Nat) {x : Str} {pos : Pos} (hN : X.N[i]? = some x := by rfl) (hv : Vis X.env.scope x := by first | exact Or.inl rfl | exact Or.inr (Or.inl rfl) | exact Or.inr (Or.inr rfl)) (hd : (x == ("__debug__" : Str)) = false := by decide)
    (hcd : (x == ("__classdict__" : Str)) = false := by decide) : QE X C W (.Name x pos) (gV i) := by
  refine ⟨_, pe_var hN hv hd hcd, fun σ H Z ι Γ M Q sl hr h => ?_⟩
  unfold gV at h
  cases e : Γ[i]? with
  | none => rw [e] at h; exact h.elim
  | some o =>
    cases o with
    | none => rw [e] at h; exact h.elim
    | some d =>
      rw [e] at h
      obtain ⟨v, h1, h2⟩ := sl.2 i d e
      exact ⟨v, h1, h v H Z ι .refl hr h2⟩
theorem qe_int {i : Int} {j pos} : QE X C W (.Constant (.int i) j pos) (gC (.int i)) := ⟨_, pe_int, fun σ H Z ι Γ M Q sl hr h => h _ H Z ι .refl hr (.int i)⟩
theorem qe_bl {b : Bool} {j pos} : QE X C W (.Constant (.bool b) j pos) (gC (.bl b)) := ⟨_, pe_bl, fun σ H Z ι Γ M Q sl hr h => h _ H Z ι .refl hr (.bl b)⟩
theorem qe_non {j pos} : QE X C W (.Constant .none j pos) (gC .non) := ⟨_, pe_non, fun σ H Z ι Γ M Q sl hr h => h _ H Z ι .refl hr .non⟩
theorem qe_str {x : Str} {j pos} : QE X C W (.Constant (.str x) j pos) (gC (.str x)) := ⟨_, pe_str, fun σ H Z ι Γ M Q sl hr h => h _ H Z ι .refl hr (.str x)⟩
variable {e a b c : Expr} {es : List Expr} {ga gb gc g : GE} {gt gu : GT} {gs : GA} {pos : Pos} {f f' : List MO → D → D → Option D}
abbrev Rd1 (X : Cx) (C : CT) (W : WX) (g : GE) (te : TE) : Prop := ∀ (σ : St) (H Z : Hp) (ι : Nat → Addr) (Γ : Env) (M : List MO) (Q : VK), Slots X.K Z ι M.length Γ σ → HR X.K H Z ι M → Post X C W (rpE X.K) σ H Z ι M (g Γ M) Q → te σ H Q
theorem op_read {r : R2} {ta tb : TE} (hf : Ok2 X r f) (qa : Rd1 X C W ga ta) (qb : Rd1 X C W gb tb) : Rd1 X C W (gOp2 f ga gb) (tOp r ta tb) := fun σ H Z ι Γ M Q sl hr h =>
  qa σ H Z ι Γ M _ sl hr (Post.bind h fun x M1 v H1 Z1 ι1 e1 hr1 r1 h1 => qb σ H1 Z1 ι1 Γ M1 _ (sl.ext e1) hr1 (h1.bind fun y M2 u H2 Z2 ι2 e2 hr2 r2 h2 => by
    obtain ⟨d, hd, h3⟩ := Post.of_opR (γ := D) (δ := V) h2
    exact hf v u H2 Z2 ι2 M2 x y d Q hr2 (r1.ext e2) r2 hd h3.after))
theorem qe_bin {op : Operator} {r : R2} (ho : OpR X (binaryOp op) r) (hf : Ok2 X r f) (ha : QE X C W a ga) (hb : QE X C W b gb) : QE X C W (.BinOp a op b pos) (gOp2 f ga gb) := by
  obtain ⟨ta, pa, qa⟩ := ha
  obtain ⟨tb, pb, qb⟩ := hb
  exact ⟨_, pe_op ho pa pb, op_read hf qa qb⟩
theorem qe_cmp {op : CmpOp} {r : R2} (ho : OpR X (compareOp op) r) (hf : Ok2 X r f) (ha : QE X C W a ga) (hb : QE X C W b gb) (hm : behindInMarks op b = false) : QE X C W (.Compare a [op] [b] pos) (gOp2 f ga gb) := by
  obtain ⟨ta, pa, qa⟩ := ha
  obtain ⟨tb, pb, qb⟩ := hb
  exact ⟨_, pe_cmpR ho pa pb hm, op_read hf qa qb⟩
theorem qe_ix {r : R2} (ho : IxR X r) (hf : Ok2 X r f) (ha : QE X C W a ga) (hb : QE X C W b gb) (hs : PlainIx b := by exact fun _ _ => rfl) : QE X C W (.Subscript a b pos) (gOp2 f ga gb) := by
  obtain ⟨ta, pa, qa⟩ := ha
  obtain ⟨tb, pb, qb⟩ := hb
  exact ⟨_, pe_ix ho pa pb hs, op_read hf qa qb⟩
theorem qe_un {op : UnaryOp} {r : V → Hp → VK → Prop} {f : List MO → D → Option D} (ho : UnR X (unaryOp op) r) (hf : Ok1 X r f) (ha : QE X C W a ga) : QE X C W (.UnaryOp op a pos) (gOp1 f ga) := by
  obtain ⟨ta, pa, qa⟩ := ha
  refine ⟨_, pe_un ho pa, fun σ H Z ι Γ M Q sl hr h => qa σ H Z ι Γ M _ sl hr (h.bind fun x M1 v H1 Z1 ι1 e1 hr1 r1 h1 => ?_)⟩
  obtain ⟨d, hd, h3⟩ := Post.of_opR (γ := D) (δ := V) h1
  exact hf v H1 Z1 ι1 M1 x d Q hr1 r1 hd h3.after
theorem qa_nil : QA X C W [] gNil := ⟨_, pa_nil, fun σ H Z ι Γ M Q sl hr h => h [] H Z ι .refl hr .nil⟩
theorem qa_cons (ha : QE X C W e g) (hb : QA X C W es gs) (hs : starEach (e :: es) X.env = (false, eval e X.env) :: starEach es X.env := by rfl) : QA X C W (e :: es) (gCons g gs) := by
  obtain ⟨ta, pa, qa⟩ := ha
  obtain ⟨tb, pb, qb⟩ := hb
  exact ⟨_, pa_cons pa pb hs, fun σ H Z ι Γ M Q sl hr h => qa σ H Z ι Γ M _ sl hr (h.bind fun x M1 v H1 Z1 ι1 e1 hr1 r1 h1 => qb σ H1 Z1 ι1 Γ M1 _ (sl.ext e1) hr1 (h1.bind fun y M2 u H2 Z2 ι2 e2 hr2 r2 h2 => h2 _ H2 Z2 ι2 .refl hr2 (.cons (r1.ext e2) r2)))⟩
theorem qe_tup {x1} (ha : QA X C W es gs) : QE X C W (.Tuple es x1 pos) (gTup gs) := by
  obtain ⟨ta, pa, qa⟩ := ha
  refine ⟨_, pe_tup pa, fun σ H Z ι Γ M Q sl hr h => qa σ H Z ι Γ M _ sl hr (h.bind fun x M1 v H1 Z1 ι1 e1 hr1 r1 h1 => ?_)⟩
  by_cases hz : x.length ≤ sizeLine
  · rw [if_pos hz] at h1
    exact ⟨by rw [← r1.length]; exact hz, h1.after.tup hr1 r1⟩
  · rw [if_neg hz] at h1
    exact h1.elim
theorem qe_lst (ha : QA X C W es gs) : QE X C W (.List es pos) (gLst gs) := by
  obtain ⟨ta, pa, qa⟩ := ha
  refine ⟨_, pe_lst pa, fun σ H Z ι Γ M Q sl hr h => qa σ H Z ι Γ M _ sl hr (h.bind fun x M1 v H1 Z1 ι1 e1 hr1 r1 h1 => ?_)⟩
  by_cases hz : x.length ≤ sizeLine
  · rw [if_pos hz] at h1
    exact ⟨by rw [← r1.length]; exact hz, h1.after.lst hr1 r1⟩
  · rw [if_neg hz] at h1
    exact h1.elim
theorem qe_lstO (ha : QA X C W es gs) : QE X C W (.List es pos) (gLstO gs) := by
  obtain ⟨ta, pa, qa⟩ := ha
  refine ⟨_, pe_lst pa, fun σ H Z ι Γ M Q sl hr h => qa σ H Z ι Γ M _ sl hr (h.bind fun x M1 v H1 Z1 ι1 e1 hr1 r1 h1 => ?_)⟩
  by_cases hz : x.length ≤ sizeLine
  · rw [if_pos hz] at h1
    refine ⟨by rw [← r1.length]; exact hz, fun p hp => ?_⟩
    obtain ⟨hr2, e2⟩ := hr1.owned hp r1
    refine h1 _ _ _ _ e2 hr2 ?_
    have q : Rp X.K Z1 (put ι1 M1.length p) (M1 ++ [MO.lst x]).length (.ref M1.length) (.ref (put ι1 M1.length p M1.length)) := .ref (by simp)
    rw [put_at] at q
    exact q
  · rw [if_neg hz] at h1
    exact h1.elim
theorem qe_callB {x : Str} {p : Pos} {id : String} {r : List V → Hp → VK → Prop} {f : List MO → List D → Option D} (ho : CallR X (.builtin id) r) (hf : OkA X r f) (hg : Gl X x) (hm : X.mg x = none) (hv : bootBuiltins x = some (.builtin id)) (ha : QA X C W (e :: es) gs)
    (hn : x ≠ "__name__" := by decide) (hdb : (x == ("__debug__" : Str)) = false := by decide) (he : starEach (e :: es) X.env = (false, eval e X.env) :: starEach es X.env := by rfl) (hpl : (backTo pos (starEach es X.env)).any (·.1) = false := by rfl) :
    QE X C W (.Call (.Name x p) (e :: es) [] pos) (gCall f gs) := by
  obtain ⟨ta, pa, qa⟩ := ha
  refine ⟨_, pe_callB ho hg hm hv pa hn hdb he hpl, fun σ H Z ι Γ M Q sl hr h => qa σ H Z ι Γ M _ sl hr (h.bind fun x M1 v H1 Z1 ι1 e1 hr1 r1 h1 => ?_)⟩
  obtain ⟨d, hd, h3⟩ := Post.of_opR (γ := D) (δ := V) h1
  exact hf v H1 Z1 ι1 M1 x d Q hr1 r1 hd h3.after
/-! tests -/
theorem qt_val (ha : QE X C W a ga) (he : ∀ whole, isTrue a X.env whole = (do let v ← whole; standAt a.pos; holding [v] (truthy v)) := by intro _; rfl) : QT X C W a (gVal ga) := by
  obtain ⟨ta, pa, qa⟩ := ha
  refine ⟨_, pt_val pa he, fun σ H Z ι Γ M Q sl hr h => qa σ H Z ι Γ M _ sl hr (h.bind fun x M1 v H1 Z1 ι1 e1 hr1 r1 h1 => ?_)⟩
  cases r1 with
  | bl k => exact ⟨k, rfl, h1 k H1 Z1 ι1 .refl hr1 rfl⟩
  | _ => exact h1.elim
theorem val_read {te : TE} (q : Rd1 X C W ga te) (σ : St) (H Z : Hp) (ι : Nat → Addr) (Γ : Env) (M : List MO) (Q : Bool → Hp → Prop) (sl : Slots X.K Z ι M.length Γ σ) (hr : HR X.K H Z ι M) (h : Post X C W rpT σ H Z ι M (gVal ga Γ M) Q) : tTest te σ H Q :=
  q σ H Z ι Γ M _ sl hr (Post.bind h fun x M1 v H1 Z1 ι1 e1 hr1 r1 h1 => by
    cases r1 with
    | bl k => exact ⟨k, rfl, h1 k H1 Z1 ι1 .refl hr1 rfl⟩
    | _ => exact h1.elim)
theorem qt_cmp {op : CmpOp} {r : R2} (ho : OpR X (compareOp op) r) (hf : Ok2 X r f) (ha : QE X C W a ga) (hb : QE X C W b gb) (hm : behindInMarks op b = false) : QT X C W (.Compare a [op] [b] pos) (gVal (gOp2 f ga gb)) := by
  obtain ⟨ta, pa, qa⟩ := ha
  obtain ⟨tb, pb, qb⟩ := hb
  exact ⟨_, pt_cmpR ho pa pb hm, val_read (op_read hf qa qb)⟩
theorem qt_of (h : QW X C W a gt) : QT X C W a gt := let ⟨t, p, q⟩ := h; ⟨t, p.pt, q⟩
theorem qw_or1 (h : QT X C W a gt) : QW X C W (.BoolOp .Or [a] pos) gt := let ⟨t, p, q⟩ := h; ⟨t, pw_or1 p, q⟩
theorem qw_or {rest : List Expr} (ha : QT X C W a gt) (hb : QW X C W (.BoolOp .Or (b :: rest) pos) gu) : QW X C W (.BoolOp .Or (a :: b :: rest) pos) (gOrT gt gu) := by
  obtain ⟨ta, pa, qa⟩ := ha
  obtain ⟨tb, pb, qb⟩ := hb
  refine ⟨_, pw_or pa pb, fun σ H Z ι Γ M Q sl hr h => qa σ H Z ι Γ M _ sl hr (h.bind fun x M1 v H1 Z1 ι1 e1 hr1 r1 h1 => ?_)⟩
  have r1' : x = v := r1
  subst r1'
  cases x with
  | true => exact h1 true H1 Z1 ι1 .refl hr1 rfl
  | false => exact qb σ H1 Z1 ι1 Γ M1 _ (sl.ext e1) hr1 h1
theorem qt_not (ha : QT X C W a gt) : QT X C W (.UnaryOp .Not a pos) (gNotT gt) := by
  obtain ⟨ta, pa, qa⟩ := ha
  refine ⟨_, pt_not pa, fun σ H Z ι Γ M Q sl hr h => qa σ H Z ι Γ M _ sl hr (h.bind fun x M1 v H1 Z1 ι1 e1 hr1 r1 h1 => ?_)⟩
  have r1' : x = v := r1
  subst r1'
  exact h1 _ H1 Z1 ι1 .refl hr1 rfl
theorem qe_one {op} (h : QE X C W a ga) : QE X C W (.BoolOp op [a] pos) ga := let ⟨t, p, q⟩ := h; ⟨t, pe_one p, q⟩
theorem qe_and {rest : List Expr} (ha : QE X C W a ga) (hb : QE X C W (.BoolOp .And (b :: rest) pos) gb) : QE X C W (.BoolOp .And (a :: b :: rest) pos) (gAndV ga gb) := by
  obtain ⟨ta, pa, qa⟩ := ha
  obtain ⟨tb, pb, qb⟩ := hb
  refine ⟨_, pe_and pa pb, fun σ H Z ι Γ M Q sl hr h => qa σ H Z ι Γ M _ sl hr (h.bind fun x M1 v H1 Z1 ι1 e1 hr1 r1 h1 => ?_)⟩
  cases r1 with
  | bl k =>
    refine ⟨k, rfl, ?_⟩
    cases k with
    | true => exact qb σ H1 Z1 ι1 Γ M1 _ (sl.ext e1) hr1 h1
    | false => exact h1 _ H1 Z1 ι1 .refl hr1 (.bl false)
  | _ => exact h1.elim
def dNot (_ : List MO) : D → Option D
  | .bl b => some (.bl (!b))
  | _ => none
end
end Bk

set_option Elab.async false
set_option linter.all false
set_option maxRecDepth 100000
set_option maxHeartbeats 1000000
namespace Bk
open PySem PySem.Spec PyProof.Rows L2

/-! ### what is walked -/
abbrev GI := GA
/-- cd: what must hold of the store at each turn -/
def ItC (cd : List MO → Prop) (K : PySem.W.Frag) (J : It) (items : List D) (Z : Hp) (ι : Nat → Addr) (n : Nat) : Prop :=
  ∀ (i : Nat) (H' Z' : Hp) (ι' : Nat → Addr) (M' : List MO), Sub Z Z' → (∀ k, k < n → ι' k = ι k) → n ≤ M'.length → HR K H' Z' ι' M' → cd M' →
    (items.length = i → J.stop i H') ∧ ∀ d, items[i]? = some d → J.go i H' ∧ ∀ x H2, J.yld i H' x H2 → ∃ Z2, Ext H' Z' ι' M'.length H2 Z2 ι' M'.length ∧ HR K H2 Z2 ι' M' ∧ Rp K Z2 ι' M'.length d x
abbrev anyM : List MO → Prop := fun _ => True
abbrev ItR := ItC anyM
abbrev rpI (K : PySem.W.Frag) : RpK (List D) It := fun Z ι n items J => ItR K J items Z ι n
def QI (X : Cx) (C : CT) (W : WX) (tg e : Expr) (g : GI) : Prop := ∃ wi, PI X tg e wi ∧ ∀ (σ : St) (H Z : Hp) (ι : Nat → Addr) (Γ : Env) (M : List MO) (Q : It → Hp → Prop), Slots X.K Z ι M.length Γ σ → HR X.K H Z ι M → Post X C W (rpI X.K) σ H Z ι M (g Γ M) Q → wi σ H Q
def rngL (lo : Int) : Nat → List D
  | 0 => []
  | n + 1 => .int lo :: rngL (lo + 1) n
theorem rngL_get : ∀ (n : Nat) (lo : Int) (i : Nat) (d : D), (rngL lo n)[i]? = some d → i < n ∧ d = .int (lo + i)
  | 0, _, _, _, h => by simp [rngL] at h
  | n + 1, lo, 0, d, h => by
    simp [rngL] at h
    exact ⟨Nat.succ_pos _, by rw [← h]; simp⟩
  | n + 1, lo, i + 1, d, h => by
    simp only [rngL, List.getElem?_cons_succ] at h
    obtain ⟨h1, h2⟩ := rngL_get n (lo + 1) i d h
    refine ⟨Nat.succ_lt_succ h1, ?_⟩
    rw [h2]
    congr 1
    push_cast
    omega
theorem rngL_length : ∀ (n : Nat) (lo : Int), (rngL lo n).length = n
  | 0, _ => rfl
  | n + 1, lo => by simp [rngL, rngL_length n]
def seqD : D → Option (List D)
  | .lst ds => some ds
  | .tup ds => some ds
  | .ptu ds => some ds
  | _ => none
def gSeqI (ge : GE) : GI := fun Γ M => (ge Γ M).bind fun d M1 => opR (seqD d) M1
def inR (i : Int) : Bool := decide (-(2 ^ 62) ≤ i) && decide (i < 2 ^ 62)
def rng1 : List D → Option (List D)
  | [.int j] => if inR j then some (rngL 0 j.toNat) else none
  | _ => none
def rng2 : List D → Option (List D)
  | [.int i, .int j] => if inR i && inR j then some (rngL i (j - i).toNat) else none
  | _ => none
def gRng1 (ga : GA) : GI := fun Γ M => (ga Γ M).bind fun ds M1 => opR (rng1 ds) M1
def gRng2 (ga : GA) : GI := fun Γ M => (ga Γ M).bind fun ds M1 => opR (rng2 ds) M1
section
variable {X : Cx} {C : CT} {W : WX} {tg e a b : Expr} {g ga gb : GE} {gs : GA} {pos : Pos}
theorem itr_l {K : PySem.W.Frag} {Z : Hp} {ι : Nat → Addr} {n : Nat} {a : Addr} {xs : List V} {ds : List D} (s : ExL K Z a xs) (r : Rps K Z ι n ds xs) : ItR K (Itl K a) ds Z ι n := by
  intro i H' Z' ι' M' hz hi hn hr _
  have sH : SqL K H' a xs := (subL (fun a o h => hr.sub _ _ (hz _ _ h)) s).sq
  refine ⟨fun hl => ⟨xs, sH, by rw [← r.length]; exact Nat.le_of_eq hl⟩, fun d hd => ?_⟩
  obtain ⟨v, hv, rv⟩ := r.get hd
  refine ⟨⟨xs, v, sH, hv⟩, fun x H2 hy => ?_⟩
  obtain ⟨rfl, hx⟩ := hy
  have ex : xs[i]? = some x := hx _ sH
  rw [hv] at ex
  cases ex
  exact ⟨Z', .refl, hr, Rp.mono hz hi hn _ _ rv⟩
theorem itr_t {K : PySem.W.Frag} {Z : Hp} {ι : Nat → Addr} {n : Nat} {a : Addr} {xs : List V} {ds : List D} (s : SqT K Z a xs) (r : Rps K Z ι n ds xs) : ItR K (Itt K a) ds Z ι n := by
  intro i H' Z' ι' M' hz hi hn hr _
  have sH : SqT K H' a xs := subT (fun a o h => hr.sub _ _ (hz _ _ h)) s
  refine ⟨fun hl => ⟨xs, sH, by rw [← r.length]; exact Nat.le_of_eq hl⟩, fun d hd => ?_⟩
  obtain ⟨v, hv, rv⟩ := r.get hd
  refine ⟨⟨xs, v, sH, hv⟩, fun x H2 hy => ?_⟩
  obtain ⟨rfl, hx⟩ := hy
  have ex : xs[i]? = some x := hx _ sH
  rw [hv] at ex
  cases ex
  exact ⟨Z', .refl, hr, Rp.mono hz hi hn _ _ rv⟩
theorem itr_r {K : PySem.W.Frag} {Z : Hp} {ι : Nat → Addr} {n : Nat} {lo : Int} {m : Nat} : ItR K (Itr lo m) (rngL lo m) Z ι n := by
  intro i H' Z' ι' M' hz hi hn hr _
  refine ⟨fun hl => by rw [rngL_length] at hl; exact Nat.le_of_eq hl, fun d hd => ?_⟩
  obtain ⟨h1, rfl⟩ := rngL_get _ _ _ _ hd
  refine ⟨h1, fun x H2 hy => ?_⟩
  obtain ⟨rfl, rfl⟩ := hy
  exact ⟨Z', .refl, hr, .int _⟩
/-- a list or a tuple -/
def iSeq (K : PySem.W.Frag) (tl : TE) : TI := fun σ H R => tl σ H fun x H1 => ∃ a, x = .ref a ∧ (((∃ xs, SqL K H1 a xs) ∧ R (Itl K a) H1) ∨ ((∃ xs, SqT K H1 a xs) ∧ R (Itt K a) H1))
theorem pi_seq {tl : TE} (hl : PE X e tl) : PI X tg e (iSeq X.K tl) := by
  refine ⟨fun pins s σ H R I h => thn (hl.run pins s σ H _ I h) fun v s1 ⟨x, H1, J1, r1, a, ex, q1⟩ => ?_⟩
  subst ex
  cases r1
  have fp : ∀ b ∈ [s1.heap.objs.size], H1 b = none ∧ FpOk X pins H1 b := fun b hb => by
    obtain rfl : b = s1.heap.objs.size := by simpa using hb
    have z := J1.hok.fresh (Nat.le_refl _)
    exact ⟨z, J1.fpOk (Nat.le_refl _) z⟩
  rcases q1 with ⟨⟨xs, hq⟩, q⟩ | ⟨⟨xs, hq⟩, q⟩
  · obtain ⟨its, rv, p, hz⟩ := J1.list hq
    refine wpAny_pyIter_list p.isList ⟨_, _, _, _, H1, rfl, J1.kept (t' := s1.toks) fun b o e => Heap.get?_push_of_some _ e, turn_list a s1.heap.objs.size, ⟨_, Heap.get?_push_size _ rfl, rfl, rfl⟩, fun b hb => (fp b hb).2, q⟩
  · obtain ⟨its, rv, p, hz⟩ := J1.tuple hq
    refine wpAny_pyIter_tuple (show s1.heap.IsTuple a its.toArray from p) ⟨_, _, _, _, H1, rfl, J1.kept (t' := s1.toks) fun b o e => Heap.get?_push_of_some _ e, turn_tuple a s1.heap.objs.size, ⟨_, Heap.get?_push_size _ rfl, rfl, rfl⟩, fun b hb => (fp b hb).2, q⟩
theorem qi_seq (ha : QE X C W e g) : QI X C W tg e (gSeqI g) := by
  obtain ⟨ta, pa, qa⟩ := ha
  refine ⟨_, pi_seq pa, fun σ H Z ι Γ M Q sl hr h => qa σ H Z ι Γ M _ sl hr (h.bind fun x M1 v H1 Z1 ι1 e1 hr1 r1 h1 => ?_)⟩
  obtain ⟨ds, hd, h2⟩ := Post.of_opR (γ := D) (δ := V) h1
  cases r1 with
  | lst s r =>
    cases hd
    exact ⟨_, rfl, .inl ⟨⟨_, (subL hr1.sub s).sq⟩, h2 _ H1 Z1 ι1 .refl hr1 (itr_l s r)⟩⟩
  | tup s r =>
    cases hd
    exact ⟨_, rfl, .inr ⟨⟨_, subT hr1.sub s⟩, h2 _ H1 Z1 ι1 .refl hr1 (itr_t s r)⟩⟩
  | ptu s r =>
    cases hd
    exact ⟨_, rfl, .inr ⟨⟨_, subT hr1.sub s.sq⟩, h2 _ H1 Z1 ι1 .refl hr1 (itr_t s.sq r)⟩⟩
  | _ => cases hd
theorem qi_rng1 {p : Pos} (hg : Gl X "range") (hm : X.mg "range" = none) (ha : QA X C W [a] gs) (hs : starEach [a] X.env = [(false, eval a X.env)] := by rfl) : QI X C W tg (.Call (.Name "range" p) [a] [] pos) (gRng1 gs) := by
  obtain ⟨ta, pa, qa⟩ := ha
  refine ⟨_, pi_range1 hg hm pa hs, fun σ H Z ι Γ M Q sl hr h => qa σ H Z ι Γ M _ sl hr (h.bind fun x M1 v H1 Z1 ι1 e1 hr1 r1 h1 => ?_)⟩
  obtain ⟨ds, hd, h2⟩ := Post.of_opR (γ := D) (δ := V) h1
  unfold rng1 at hd
  split at hd
  · rename_i j
    cases r1 with
    | cons r rr =>
      cases r
      cases rr
      by_cases hj : inR j = true
      · rw [if_pos hj] at hd
        cases hd
        simp only [inR, Bool.and_eq_true, decide_eq_true_eq] at hj
        exact ⟨j, rfl, hj.1, hj.2, h2 _ H1 Z1 ι1 .refl hr1 itr_r⟩
      · rw [if_neg hj] at hd
        cases hd
  · cases hd
end

/-! ### targets -/
abbrev GG := D → Env → Option Env
abbrev GGs := List D → Env → Option Env
def gTo (i : Nat) : GG := fun d Γ => some (Γ.set i (some d))
def gToT (gs : GGs) : GG := fun d Γ => match d with
  | .tup ds => gs ds Γ
  | _ => none
def gToNil : GGs := fun ds Γ => match ds with
  | [] => some Γ
  | _ :: _ => none
def gToCons (g : GG) (gs : GGs) : GGs := fun ds Γ => match ds with
  | [] => none
  | d :: r => (g d Γ).bind fun Γ1 => gs r Γ1
def Wip (is : List Nat) (σ σ' : St) : Prop := ∀ vs : List Nat, (∀ i ∈ is, i ∈ vs) → wipe σ' vs = wipe σ vs
theorem wipe_set {σ : St} {i : Nat} {v : V} : ∀ {vs : List Nat}, i ∈ vs → wipe (σ.set i (some v)) vs = wipe σ vs
  | [], h => nomatch h
  | j :: vs, h => by
    show (wipe (σ.set i (some v)) vs).set j none = (wipe σ vs).set j none
    by_cases hm : i ∈ vs
    · rw [wipe_set hm]
    · have e : i = j := by
        rcases List.mem_cons.mp h with e | e
        · exact e
        · exact absurd e hm
      subst e
      have z : ∀ vs : List Nat, i ∉ vs → wipe (σ.set i (some v)) vs = (wipe σ vs).set i (some v) := by
        intro vs
        induction vs with
        | nil => intro _; rfl
        | cons k vs ih =>
          intro hk
          show (wipe (σ.set i (some v)) vs).set k none = ((wipe σ vs).set k none).set i (some v)
          rw [ih fun q => hk (List.mem_cons_of_mem _ q), List.set_comm _ _ (fun q => hk (by rw [q]; exact List.mem_cons_self))]
      rw [z vs hm, List.set_set]
def QG (X : Cx) (tg : Expr) (g : GG) (is : List Nat) : Prop := ∃ t, PG X tg t ∧ ∀ (v : V) (σ : St) (H Z : Hp) (ι : Nat → Addr) (n : Nat) (d : D) (Γ Γ' : Env) (Q : L2.St → Hp → Prop), Sub Z H → Slots X.K Z ι n Γ σ → Rp X.K Z ι n d v → g d Γ = some Γ' →
  (∀ σ', Slots X.K Z ι n Γ' σ' → Wip is σ σ' → Q σ' H) → t v σ H Q
def QGs (X : Cx) (tgs : List Expr) (g : GGs) (is : List Nat) : Prop := ∃ t, PGs X tgs t ∧ ∀ (vs : List V) (σ : St) (H Z : Hp) (ι : Nat → Addr) (n : Nat) (ds : List D) (Γ Γ' : Env) (Q : L2.St → Hp → Prop), Sub Z H → Slots X.K Z ι n Γ σ → Rps X.K Z ι n ds vs → g ds Γ = some Γ' →
  (∀ σ', Slots X.K Z ι n Γ' σ' → Wip is σ σ' → Q σ' H) → t vs σ H Q
section
variable {X : Cx} {e : Expr} {es : List Expr} {g : GG} {gs : GGs} {is js : List Nat} {pos : Pos}
theorem qg_name (i : Nat) {x : Str} (hN : X.N.Nodup) (hi : X.N[i]? = some x := by rfl) (hx : Loc X.env.scope x := by first | exact Or.inl rfl | exact Or.inr rfl)
    (hf : X.fn x = true ∨ X.env.scope.names.lookup x = some .local := by first | exact Or.inl rfl | exact Or.inr rfl) : QG X (.Name x pos) (gTo i) [i] := by
  refine ⟨_, pg_name hN hi hx hf, fun v σ H Z ι n d Γ Γ' Q hs sl r e h => ?_⟩
  cases e
  exact h _ (sl.set i r) fun vs hv => wipe_set (hv i (by simp))
theorem qgs_nil : QGs X [] gToNil [] := by
  refine ⟨_, pgs_nil, fun vs σ H Z ι n ds Γ Γ' Q hs sl r e h => ?_⟩
  cases r with
  | nil =>
    cases e
    exact ⟨rfl, h _ sl fun _ _ => rfl⟩
  | cons _ _ => cases e
theorem qgs_cons (h1 : QG X e g is) (h2 : QGs X es gs js) (hs : (assignEach (e :: es) X.env).map (·.2) = assign e X.env :: (assignEach es X.env).map (·.2) := by rfl) : QGs X (e :: es) (gToCons g gs) (is ++ js) := by
  obtain ⟨t1, p1, q1⟩ := h1
  obtain ⟨t2, p2, q2⟩ := h2
  refine ⟨_, pgs_cons p1 p2 hs, fun vs σ H Z ι n ds Γ Γ' Q hs sl r e h => ?_⟩
  cases r with
  | nil => cases e
  | cons r1 r2 =>
    rename_i d v ds vs
    have e' : (g d Γ).bind (fun Γ1 => gs ds Γ1) = some Γ' := e
    cases eg : g d Γ with
    | none => rw [eg] at e'; cases e'
    | some Γ1 =>
      rw [eg] at e'
      refine ⟨v, vs, rfl, q1 v σ H Z ι n d Γ Γ1 _ hs sl r1 eg fun σ1 s1 w1 => q2 vs σ1 H Z ι n ds Γ1 Γ' _ hs s1 r2 e' fun σ2 s2 w2 => h σ2 s2 fun us hu => ?_⟩
      rw [w2 us fun i hi => hu i (List.mem_append_right _ hi), w1 us fun i hi => hu i (List.mem_append_left _ hi)]
theorem qg_tup {k : Nat} {n : Nat} (hc : X.calm = true) (h : QGs X es gs is) (hn : (assignEach es X.env).length = n := by rfl) (hst : (assignEach es X.env).findIdx? (·.1) = none := by rfl) (hlen : ∀ ds Γ Γ', gs ds Γ = some Γ' → ds.length = n) : QG X (.Tuple es k pos) (gToT gs) is := by
  obtain ⟨t, p, q⟩ := h
  refine ⟨_, pg_tup hc p hn (hst := hst), fun v σ H Z ι m d Γ Γ' Q hs sl r e h => ?_⟩
  cases r with
  | tup s r =>
    have e' : gs _ Γ = some Γ' := e
    exact ⟨_, _, rfl, subT hs s, by rw [← r.length]; exact hlen _ _ _ e', q _ σ H Z ι m _ Γ Γ' Q hs sl r e' h⟩
  | _ => cases e
theorem len_nil : ∀ (ds : List D) (Γ Γ' : Env), gToNil ds Γ = some Γ' → ds.length = 0 := fun ds Γ Γ' e => by
  cases ds with
  | nil => rfl
  | cons _ _ => cases e
theorem len_cons {g : GG} {gs : GGs} {n : Nat} (h : ∀ (ds : List D) (Γ Γ' : Env), gs ds Γ = some Γ' → ds.length = n) : ∀ (ds : List D) (Γ Γ' : Env), gToCons g gs ds Γ = some Γ' → ds.length = n + 1 := fun ds Γ Γ' e => by
  cases ds with
  | nil => cases e
  | cons d ds =>
    have e' : (g d Γ).bind (fun Γ1 => gs ds Γ1) = some Γ' := e
    cases eg : g d Γ with
    | none => rw [eg] at e'; cases e'
    | some Γ1 =>
      rw [eg] at e'
      rw [List.length_cons, h _ _ _ e']
end

/-! ### statements -/
def PostS (X : Cx) (C : CT) (W : WX) (H Z : Hp) (ι : Nat → Addr) (M : List MO) (r : RS) (Dd : Ends) : Prop := match r with
  | .nx Γ M' => ∀ (σ' : L2.St) (H' Z' : Hp) (ι' : Nat → Addr), Ext H Z ι M.length H' Z' ι' M'.length → HR X.K H' Z' ι' M' → Slots X.K Z' ι' M'.length Γ σ' → Dd.nx σ' H'
  | .bk Γ M' => ∀ (σ' : L2.St) (H' Z' : Hp) (ι' : Nat → Addr), Ext H Z ι M.length H' Z' ι' M'.length → HR X.K H' Z' ι' M' → Slots X.K Z' ι' M'.length Γ σ' → Dd.bk σ' H'
  | .ct Γ M' => ∀ (σ' : L2.St) (H' Z' : Hp) (ι' : Nat → Addr), Ext H Z ι M.length H' Z' ι' M'.length → HR X.K H' Z' ι' M' → Slots X.K Z' ι' M'.length Γ σ' → Dd.ct σ' H'
  | .rt d M' => ∀ (v : V) (H' Z' : Hp) (ι' : Nat → Addr), Ext H Z ι M.length H' Z' ι' M'.length → HR X.K H' Z' ι' M' → Rp X.K Z' ι' M'.length d v → Dd.rt v H'
  | .exc c d Γ M' => ∀ (cls : Value) (dd : Option Addr) (σ' : L2.St) (H' Z' : Hp) (ι' : Nat → Addr), Ext H Z ι M.length H' Z' ι' M'.length → HR X.K H' Z' ι' M' → Slots X.K Z' ι' M'.length Γ σ' → ExcR X.K C H' Z' ι' M'.length c d cls dd → W cls dd σ' H'
  | .bad => False
def QS (X : Cx) (C : CT) (W : WX) (st : Stmt) (g : GS) : Prop := ∃ ts, PS X st ts ∧ ∀ (Dd : Ends) (σ : L2.St) (H Z : Hp) (ι : Nat → Addr) (Γ : Env) (M : List MO), Slots X.K Z ι M.length Γ σ → HR X.K H Z ι M → PostS X C W H Z ι M (g Γ M) Dd → ts Dd σ H
def QSs (X : Cx) (C : CT) (W : WX) (st : List Stmt) (g : GS) : Prop := ∃ ts, PSs X st ts ∧ ∀ (Dd : Ends) (σ : L2.St) (H Z : Hp) (ι : Nat → Addr) (Γ : Env) (M : List MO), Slots X.K Z ι M.length Γ σ → HR X.K H Z ι M → PostS X C W H Z ι M (g Γ M) Dd → ts Dd σ H
def R.thenS {α : Type} (Γ : Env) (r : R α) (f : α → List MO → RS) : RS := match r with
  | .ok a M => f a M
  | .exc c d M => .exc c d Γ M
  | .bad => .bad
def RS.next (r : RS) (f : Env → List MO → RS) : RS := match r with
  | .nx Γ M => f Γ M
  | r => r
def gPass : GS := fun Γ M => .nx Γ M
def gSeq (a b : GS) : GS := fun Γ M => (a Γ M).next b
def gExpr (ge : GE) : GS := fun Γ M => (ge Γ M).thenS Γ fun _ M1 => .nx Γ M1
def gRet (ge : GE) : GS := fun Γ M => (ge Γ M).thenS Γ fun d M1 => .rt d M1
def gRetN : GS := fun _ M => .rt .non M
def gIf (c : GT) (a b : GS) : GS := fun Γ M => (c Γ M).thenS Γ fun k M1 => if k = true then a Γ M1 else b Γ M1
def gAsg (ge : GE) (gg : GG) : GS := fun Γ M => (ge Γ M).thenS Γ fun d M1 => match gg d Γ with
  | some Γ' => .nx Γ' M1
  | none => .bad
def gBad : GS := fun _ _ => .bad
def gForget (is : List Nat) : GS := fun Γ M => .nx (forget Γ is) M
/-- a list of ours that stands in a slot is left as it is from now on -/
def gFz (i : Nat) : GS := fun Γ M => match Γ[i]? with
  | some (some (.ref k)) => match M[k]? with
    | some (.lst ds) => .nx (Γ.set i (some (.lst ds))) (M.set k .dead)
    | some (.dct ks vs) => .nx (Γ.set i (some (.dct ks vs))) (M.set k .dead)
    | _ => .bad
  | _ => .bad
/-- what the turn has made is dropped -/
def gCut (m : Nat) (r : RS) : RS := match r with
  | .nx Γ M => if m ≤ M.length ∧ cutOk m M = true then .nx (clean m Γ) (M.take m) else .bad
  | .ct Γ M => if m ≤ M.length ∧ cutOk m M = true then .ct (clean m Γ) (M.take m) else .bad
  | r => r
def gScope (a : GS) : GS := fun Γ M => gCut M.length (a Γ M)
/-- behind a loop's turn -/
def RS.turn (r : RS) (f : Env → List MO → RS) : RS := match r with
  | .nx Γ M => f Γ M
  | .ct Γ M => f Γ M
  | .bk Γ M => .nx Γ M
  | r => r
def optS (o : Option Env) (f : Env → RS) : RS := match o with
  | some Γ => f Γ
  | none => .bad
def gForL (gg : GG) (body : GS) : List D → GS
  | [] => gPass
  | d :: ds => fun Γ M => optS (gg d Γ) fun Γ1 => (body Γ1 M).turn (gForL gg body ds)
def gFor (gi : GI) (gg : GG) (body : GS) : GS := fun Γ M => (gi Γ M).thenS Γ fun ds M1 => gForL gg body ds Γ M1
section
variable {X : Cx} {C : CT} {W : WX} {H Z H1 Z1 : Hp} {ι ι1 : Nat → Addr} {M M1 : List MO} {Dd : Ends}
theorem PostS.shift {r : RS} (h : PostS X C W H Z ι M r Dd) (e : Ext H Z ι M.length H1 Z1 ι1 M1.length) (hr : HR X.K H1 Z1 ι1 M1) : PostS X C W H1 Z1 ι1 M1 r Dd := by
  cases r with
  | nx Γ M' => exact fun σ' H' Z' ι' e' => h σ' H' Z' ι' (e.trans e' hr.ali)
  | bk Γ M' => exact fun σ' H' Z' ι' e' => h σ' H' Z' ι' (e.trans e' hr.ali)
  | ct Γ M' => exact fun σ' H' Z' ι' e' => h σ' H' Z' ι' (e.trans e' hr.ali)
  | rt d M' => exact fun σ' H' Z' ι' e' => h σ' H' Z' ι' (e.trans e' hr.ali)
  | exc c d Γ M' => exact fun cls dd σ' H' Z' ι' e' => h cls dd σ' H' Z' ι' (e.trans e' hr.ali)
  | bad => exact h
theorem PostS.bind {α β : Type} {rp1 : RpK α β} {r : R α} {f : α → List MO → RS} {Γ : Env} {σ : St} {Q1 : β → Hp → Prop} (h : PostS X C W H Z ι M (r.thenS Γ f) Dd) (sl : Slots X.K Z ι M.length Γ σ)
    (k : ∀ (a : α) (M1 : List MO) (b : β) (H1 Z1 : Hp) (ι1 : Nat → Addr), Ext H Z ι M.length H1 Z1 ι1 M1.length → HR X.K H1 Z1 ι1 M1 → rp1 Z1 ι1 M1.length a b → PostS X C W H1 Z1 ι1 M1 (f a M1) Dd → Q1 b H1) :
    Post X C W rp1 σ H Z ι M r Q1 := by
  cases r with
  | ok a M' => exact fun b H' Z' ι' e' hr' rb => k a M' b H' Z' ι' e' hr' rb (PostS.shift (r := f a M') h e' hr')
  | exc c d M' => exact fun cls dd H' Z' ι' e' hr' rb => h cls dd σ H' Z' ι' e' hr' (sl.ext e') rb
  | bad => exact h
theorem PostS.next {r : RS} {f : Env → List MO → RS} {nx : L2.St → Hp → Prop} (h : PostS X C W H Z ι M (r.next f) Dd)
    (k : ∀ (Γ1 : Env) (M1 : List MO) (σ1 : L2.St) (H1 Z1 : Hp) (ι1 : Nat → Addr), Ext H Z ι M.length H1 Z1 ι1 M1.length → HR X.K H1 Z1 ι1 M1 → Slots X.K Z1 ι1 M1.length Γ1 σ1 → PostS X C W H1 Z1 ι1 M1 (f Γ1 M1) Dd → nx σ1 H1) :
    PostS X C W H Z ι M r { Dd with nx := nx } := by
  cases r with
  | nx Γ M' => exact fun σ' H' Z' ι' e' hr' sl => k Γ M' σ' H' Z' ι' e' hr' sl (PostS.shift (r := f Γ M') h e' hr')
  | bk Γ M' => exact h
  | ct Γ M' => exact h
  | rt d M' => exact h
  | exc c d Γ M' => exact h
  | bad => exact h
variable {st : Stmt} {rest : List Stmt} {e tg : Expr} {ge : GE} {gt : GT} {gg : GG} {g g2 : GS} {pos : Pos}
theorem qss_nil : QSs X C W [] gPass := ⟨_, pss_nil, fun Dd σ H Z ι Γ M sl hr h => h σ H Z ι .refl hr sl⟩
theorem qss_cons (h1 : QS X C W st g) (h2 : QSs X C W rest g2) : QSs X C W (st :: rest) (gSeq g g2) := by
  obtain ⟨t1, p1, q1⟩ := h1
  obtain ⟨t2, p2, q2⟩ := h2
  exact ⟨_, pss_cons p1 p2, fun Dd σ H Z ι Γ M sl hr h => q1 _ σ H Z ι Γ M sl hr (PostS.next h fun Γ1 M1 σ1 H1 Z1 ι1 e1 hr1 sl1 h1 => q2 Dd σ1 H1 Z1 ι1 Γ1 M1 sl1 hr1 h1)⟩
theorem qss_one (h1 : QS X C W st g) : QSs X C W [st] g := let ⟨t, p, q⟩ := h1; ⟨t, pss_one p, q⟩
/-- a step of our own behind a statement -/
theorem qs_ghost {g3 : GS} (h1 : QS X C W st g) (h : ∀ (Dd : Ends) (σ : L2.St) (H Z : Hp) (ι : Nat → Addr) (Γ : Env) (M : List MO), Slots X.K Z ι M.length Γ σ → HR X.K H Z ι M → PostS X C W H Z ι M (g3 Γ M) Dd → Dd.nx σ H) : QS X C W st (gSeq g g3) := by
  obtain ⟨t1, p1, q1⟩ := h1
  exact ⟨_, p1, fun Dd σ H Z ι Γ M sl hr hp => q1 Dd σ H Z ι Γ M sl hr (PostS.next (nx := Dd.nx) hp fun Γ1 M1 σ1 H1 Z1 ι1 e1 hr1 sl1 h1 => h Dd σ1 H1 Z1 ι1 Γ1 M1 sl1 hr1 h1)⟩
theorem qs_forget (is : List Nat) (h1 : QS X C W st g) : QS X C W st (gSeq g (gForget is)) := qs_ghost h1 fun Dd σ H Z ι Γ M sl hr h => h σ H Z ι .refl hr (sl.forget is)
theorem qs_ret (ha : QE X C W e ge) : QS X C W (.Return (some e) pos) (gRet ge) := by
  obtain ⟨ta, pa, qa⟩ := ha
  exact ⟨_, ps_ret pa, fun Dd σ H Z ι Γ M sl hr h => qa σ H Z ι Γ M _ sl hr (PostS.bind h sl fun x M1 v H1 Z1 ι1 e1 hr1 r1 h1 => h1 v H1 Z1 ι1 .refl hr1 r1)⟩
theorem qs_if {c : Expr} {a b : List Stmt} (hc : QT X C W c gt) (ha : QSs X C W a g) (hb : QSs X C W b g2) : QS X C W (.If c a b pos) (gIf gt g g2) := by
  obtain ⟨tc, pc, qc⟩ := hc
  obtain ⟨ta, pa, qa⟩ := ha
  obtain ⟨tb, pb, qb⟩ := hb
  refine ⟨_, ps_if pc pa pb, fun Dd σ H Z ι Γ M sl hr h => qc σ H Z ι Γ M _ sl hr (PostS.bind h sl fun x M1 v H1 Z1 ι1 e1 hr1 r1 h1 => ?_)⟩
  have r1' : x = v := r1
  subst r1'
  cases x with
  | true => exact qa Dd σ H1 Z1 ι1 Γ M1 (sl.ext e1) hr1 h1
  | false => exact qb Dd σ H1 Z1 ι1 Γ M1 (sl.ext e1) hr1 h1
theorem qs_asg {is : List Nat} (ha : QE X C W e ge) (hg : QG X tg gg is) (hs : swapsWithSole [tg] e pos.line X.env = pure false := by rfl) (hp : swappedStores [tg] e X.env = pure none := by rfl) (h1 : (assignEach [tg] X.env).map (·.2) = [assign tg X.env] := by rfl) : QS X C W (.Assign [tg] e pos) (gAsg ge gg) := by
  obtain ⟨ta, pa, qa⟩ := ha
  obtain ⟨t2, p2, q2⟩ := hg
  refine ⟨_, ps_asg pa p2 hs (hw := hp) (h1 := h1), fun Dd σ H Z ι Γ M sl hr h => qa σ H Z ι Γ M _ sl hr (PostS.bind h sl fun x M1 v H1 Z1 ι1 e1 hr1 r1 h1 => ?_)⟩
  cases eg : gg x Γ with
  | none => rw [eg] at h1; exact h1.elim
  | some Γ' =>
    rw [eg] at h1
    exact q2 v σ H1 Z1 ι1 M1.length x Γ Γ' _ hr1.sub (sl.ext e1) r1 eg fun σ' s' _ => h1 σ' H1 Z1 ι1 .refl hr1 s'

theorem qss_scope (h1 : QSs X C W rest g) : QSs X C W rest (gScope g) := by
  obtain ⟨t1, p1, q1⟩ := h1
  refine ⟨_, p1, fun Dd σ H Z ι Γ M sl hr h => q1 Dd σ H Z ι Γ M sl hr ?_⟩
  have h' : PostS X C W H Z ι M (gCut M.length (g Γ M)) Dd := h
  cases er : g Γ M with
  | nx Γ' M' =>
    rw [er] at h'
    by_cases hc : M.length ≤ M'.length ∧ cutOk M.length M' = true
    · have h2 : PostS X C W H Z ι M (if M.length ≤ M'.length ∧ cutOk M.length M' = true then .nx (clean M.length Γ') (M'.take M.length) else .bad) Dd := h'
      rw [if_pos hc] at h2
      have ln : (M'.take M.length).length = M.length := by rw [List.length_take]; omega
      intro σ' H' Z' ι' e1 hr1 sl1
      refine h2 σ' H' Z' ι' (by rw [ln]; exact e1.cut (Nat.le_refl _) hc.1) (hr1.cut hc.1 hc.2) (by rw [ln]; exact sl1.cut)
    · have h2 : PostS X C W H Z ι M (if M.length ≤ M'.length ∧ cutOk M.length M' = true then .nx (clean M.length Γ') (M'.take M.length) else .bad) Dd := h'
      rw [if_neg hc] at h2
      exact h2.elim
  | ct Γ' M' =>
    rw [er] at h'
    by_cases hc : M.length ≤ M'.length ∧ cutOk M.length M' = true
    · have h2 : PostS X C W H Z ι M (if M.length ≤ M'.length ∧ cutOk M.length M' = true then .ct (clean M.length Γ') (M'.take M.length) else .bad) Dd := h'
      rw [if_pos hc] at h2
      have ln : (M'.take M.length).length = M.length := by rw [List.length_take]; omega
      intro σ' H' Z' ι' e1 hr1 sl1
      refine h2 σ' H' Z' ι' (by rw [ln]; exact e1.cut (Nat.le_refl _) hc.1) (hr1.cut hc.1 hc.2) (by rw [ln]; exact sl1.cut)
    · have h2 : PostS X C W H Z ι M (if M.length ≤ M'.length ∧ cutOk M.length M' = true then .ct (clean M.length Γ') (M'.take M.length) else .bad) Dd := h'
      rw [if_neg hc] at h2
      exact h2.elim
  | bk Γ' M' => rw [er] at h'; exact h'
  | rt d M' => rw [er] at h'; exact h'
  | exc c d Γ' M' => rw [er] at h'; exact h'
  | bad => rw [er] at h'; exact h'
/-- a loop's turn: what is wanted behind it -/
theorem PostS.turn {r : RS} {f : Env → List MO → RS} {N : L2.St → Hp → Prop} (h : PostS X C W H Z ι M (r.turn f) Dd)
    (k : ∀ (Γ1 : Env) (M1 : List MO) (σ1 : L2.St) (H1 Z1 : Hp) (ι1 : Nat → Addr), Ext H Z ι M.length H1 Z1 ι1 M1.length → HR X.K H1 Z1 ι1 M1 → Slots X.K Z1 ι1 M1.length Γ1 σ1 → PostS X C W H1 Z1 ι1 M1 (f Γ1 M1) Dd → N σ1 H1) :
    PostS X C W H Z ι M r { Dd with nx := N, ct := N, bk := Dd.nx } := by
  cases r with
  | nx Γ M' => exact fun σ' H' Z' ι' e' hr' sl => k Γ M' σ' H' Z' ι' e' hr' sl (PostS.shift (r := f Γ M') h e' hr')
  | ct Γ M' => exact fun σ' H' Z' ι' e' hr' sl => k Γ M' σ' H' Z' ι' e' hr' sl (PostS.shift (r := f Γ M') h e' hr')
  | bk Γ M' => exact h
  | rt d M' => exact h
  | exc c d Γ M' => exact h
  | bad => exact h
theorem qs_for {iter : Expr} {body : List Stmt} {gi : GI} {is : List Nat} (hp : PassesOwn (model X.prog X.w) X.A X.env X.xe) (hc : X.calm = true) (hi : QI X C W tg iter gi) (hg : QG X tg gg is) (hb : QSs X C W body g)
    (hs : ∀ x, foldedSetIterable iter X.env x = pure x := by intro _; rfl) : QS X C W (.For tg iter body [] pos) (gFor gi gg g) := by
  obtain ⟨wi, pi, qi⟩ := hi
  obtain ⟨tg', pg, qg⟩ := hg
  obtain ⟨tb, pb, qb⟩ := hb
  refine ⟨_, ps_for hp hc pi pg pb hs, fun Dd σ H Z ι Γ M sl hr h => qi σ H Z ι Γ M _ sl hr (PostS.bind h sl fun ds M1 J H1 Z1 ι1 e1 hr1 rJ h1 => ?_)⟩
  refine ⟨fun i m σ' H' => ∃ (Z' : Hp) (ι' : Nat → Addr) (Γ' : Env) (M' : List MO), m = ds.length - i ∧ i ≤ ds.length ∧ Sub Z1 Z' ∧ (∀ k, k < M1.length → ι' k = ι1 k) ∧ M1.length ≤ M'.length ∧ HR X.K H' Z' ι' M' ∧ Slots X.K Z' ι' M'.length Γ' σ' ∧
    PostS X C W H' Z' ι' M' (gForL gg g (ds.drop i) Γ' M') Dd, ⟨ds.length, Z1, ι1, Γ, M1, rfl, Nat.zero_le _, fun _ _ z => z, fun _ _ => rfl, Nat.le_refl _, hr1, sl.ext e1, h1⟩, ?_⟩
  rintro i m σ' H' ⟨Z', ι', Γ', M', em, hle, hz, hii, hn, hr', sl', hp'⟩
  obtain ⟨hstop, hgo⟩ := rJ i H' Z' ι' M' hz hii hn hr' trivial
  by_cases hi : i < ds.length
  · refine .inr ?_
    have ed : ds.drop i = ds[i] :: ds.drop (i + 1) := List.drop_eq_getElem_cons hi
    obtain ⟨go, yl⟩ := hgo ds[i] (List.getElem?_eq_getElem hi)
    refine ⟨go, fun σ2 H2 => ∃ (Z2 : Hp) (ι2 : Nat → Addr) (Γ2 : Env) (M2 : List MO), Sub Z1 Z2 ∧ (∀ k, k < M1.length → ι2 k = ι1 k) ∧ M1.length ≤ M2.length ∧ HR X.K H2 Z2 ι2 M2 ∧ Slots X.K Z2 ι2 M2.length Γ2 σ2 ∧
      PostS X C W H2 Z2 ι2 M2 (gForL gg g (ds.drop (i + 1)) Γ2 M2) Dd, fun σ2 H2 hN => ?_, fun x H2 hy => ?_⟩
    · obtain ⟨Z2, ι2, Γ2, M2, a1, a2, a3, a4, a5, a6⟩ := hN
      exact ⟨ds.length - (i + 1), by omega, Z2, ι2, Γ2, M2, rfl, by omega, a1, a2, a3, a4, a5, a6⟩
    · obtain ⟨Z2, e2, hr2, rx⟩ := yl x H2 hy
      rw [ed] at hp'
      have hp2 := PostS.shift hp' e2 hr2
      have hb : PostS X C W H2 Z2 ι' M' (optS (gg ds[i] Γ') fun Γ1 => (g Γ1 M').turn (gForL gg g (ds.drop (i + 1)))) Dd := hp2
      cases eg : gg ds[i] Γ' with
      | none =>
        rw [eg] at hb
        exact hb.elim
      | some Γ1 =>
        rw [eg] at hb
        exact qg x σ' H2 Z2 ι' M'.length ds[i] Γ' Γ1 _ hr2.sub (sl'.ext e2) rx eg fun σ3 s3 _ => qb _ σ3 H2 Z2 ι' Γ1 M' s3 hr2 (PostS.turn hb fun Γ4 M4 σ4 H4 Z4 ι4 e4 hr4 s4 h4 =>
          ⟨Z4, ι4, Γ4, M4, fun a o z => e4.zz _ _ (e2.zz _ _ (hz _ _ z)), fun k hk => (e4.ii k (Nat.lt_of_lt_of_le hk hn)).trans (hii k hk), Nat.le_trans hn e4.ln, hr4, s4, h4⟩)
  · refine .inl ⟨hstop (by omega), ?_⟩
    rw [List.drop_eq_nil_of_le (Nat.le_of_not_lt hi)] at hp'
    exact hp' σ' H' Z' ι' .refl hr' sl'
end
end Bk

set_option Elab.async false
set_option linter.all false
set_option maxRecDepth 100000
set_option maxHeartbeats 2000000
namespace Bk
open PySem PySem.Spec PyProof.Rows L2

/-! ### a list made by a comprehension -/
/-- nothing may be raised -/
abbrev noW : WX := fun _ _ _ _ => False
theorem takes_no {X : Cx} : Takes X noW := fun u s' h => by
  unfold XE at h
  obtain ⟨_, _, _, _, _, _, _, h⟩ := h
  simp_all
/-- no exception goes on -/
def R.only {α β : Type} (r : R α) (f : α → List MO → R β) : R β := match r with
  | .ok a M => f a M
  | _ => .bad
def gLcL (gg : GG) (gt : GT) (ge : GE) (Γ : Env) : List D → List D → List MO → R (List D)
  | [], acc, M => .ok acc M
  | d :: ds, acc, M => match gg d Γ with
    | none => .bad
    | some Γ1 => (gt Γ1 M).only fun k M1 => if k = true then (ge Γ1 M1).only fun y M2 => if acc.length < sizeLine then gLcL gg gt ge Γ ds (acc ++ [y]) M2 else .bad else gLcL gg gt ge Γ ds acc M1
def gYes : GT := fun _ M => .ok true M
/-- the new list will not be changed -/
def gLc (gi : GI) (gg : GG) (gt : GT) (ge : GE) (own : List Nat) : GE := fun Γ M => (gi Γ M).bind fun ds M1 => (gLcL gg gt ge (forget Γ own) ds [] M1).bind fun acc M2 => .ok (.lst acc) M2
/-- the new list is ours -/
def gLcO (gi : GI) (gg : GG) (gt : GT) (ge : GE) (own : List Nat) : GE := fun Γ M => (gi Γ M).bind fun ds M1 => (gLcL gg gt ge (forget Γ own) ds [] M1).bind fun acc M2 => .ok (.ref M2.length) (M2 ++ [.lst acc])

section
variable {K : PySem.W.Frag} {H Z H0 Z0 : Hp} {ι ι0 : Nat → Addr} {M : List MO} {n0 : Nat} {p : Addr} {xs : List V} {ds : List D} {o : HO}
/-- a thing that is neither frozen nor ours -/
structure Odd (Z : Hp) (ι : Nat → Addr) (n : Nat) (p : Addr) : Prop where
  z : Z p = none
  i : ∀ k, k < n → ι k ≠ p
theorem HR.odd (h : HR K H Z ι M) (q : Odd Z ι M.length p) : HR K (upd H p o) Z ι M := by
  have lt : ∀ {k : Nat} {u : MO}, M[k]? = some u → k < M.length := fun e => (List.getElem?_eq_some_iff.mp e).1
  refine ⟨fun a u e => by rw [upd_ne (ne_of_none e q.z)]; exact h.sub _ _ e, fun k hk => by rw [upd_ne (q.i k hk)]; exact h.ali k hk, h.sep, h.inj, fun k u e => ?_, h.ded⟩
  exact OR.mono (fun _ _ z => z) (fun _ _ => rfl) (Nat.le_refl _) (fun o z => by rw [upd_ne (q.i k (lt e))]; exact z) (h.obj k u e)
theorem Odd.new (h : HR K H Z ι M) (hp : H p = none) : Odd Z ι M.length p := by
  refine ⟨?_, fun k hk e => ?_⟩
  · cases e : Z p with
    | none => rfl
    | some u =>
      rw [h.sub _ _ e] at hp
      cases hp
  · obtain ⟨u, hu⟩ := h.ali k hk
    rw [e, hp] at hu
    cases hu
theorem Odd.ext {H1 Z1 : Hp} {ι1 : Nat → Addr} {n n1 : Nat} {u : HO} (q : Odd Z ι n p) (hp : H p = some u) (e : Ext H Z ι n H1 Z1 ι1 n1) : Odd Z1 ι1 n1 p ∧ H1 p = some u := by
  refine ⟨⟨?_, fun k hk z => ?_⟩, e.fr p u hp fun k hk z => q.i k hk z.symm⟩
  · cases z : Z1 p with
    | none => rfl
    | some w =>
      rcases e.zn p w z with a | a | ⟨k, hk, a⟩
      · rw [q.z] at a; cases a
      · rw [hp] at a; cases a
      · exact absurd a.symm (q.i k hk)
  · by_cases hn : k < n
    · exact q.i k hn ((e.ii k hn).symm.trans z)
    · have w := e.nw k (Nat.le_of_not_lt hn) hk
      rw [z, hp] at w
      cases w
theorem Ext.touch {n : Nat} (e : Ext H0 Z0 ι0 n0 H Z ι n) (hp : H0 p = none) : Ext H0 Z0 ι0 n0 (upd H p o) Z ι n :=
  ⟨e.zz, e.ii, fun a u h1 h2 => by rw [upd_ne (ne_of_none h1 hp)]; exact e.fr a u h1 h2, e.nw, e.ln, e.zn⟩
theorem HR.adoptZ (h : HR K H Z ι M) (q : Odd Z ι M.length p) (hp : H p = some o) : HR K H (upd Z p o) ι M := by
  have s1 : Sub Z (upd Z p o) := fun a u e => by rw [upd_ne (ne_of_none e q.z)]; exact e
  refine ⟨fun a u e => ?_, h.ali, fun k u e d => by rw [upd_ne (q.i k (List.getElem?_eq_some_iff.mp e).1)]; exact h.sep k u e d, h.inj, fun k u e => ?_, fun k e => let ⟨u, hu⟩ := h.ded k e; ⟨u, s1 _ _ hu⟩⟩
  · by_cases ha : a = p
    · subst ha
      rw [upd_same] at e
      rw [← e]
      exact hp
    · rw [upd_ne ha] at e
      exact h.sub _ _ e
  · exact OR.mono s1 (fun _ _ => rfl) (Nat.le_refl _) (fun _ z => z) (h.obj k u e)
theorem Ext.adoptZ {n : Nat} (e : Ext H0 Z0 ι0 n0 H Z ι n) (hz : Z p = none) (hp : H0 p = none) : Ext H0 Z0 ι0 n0 H (upd Z p o) ι n :=
  ⟨fun a u h => by rw [upd_ne (ne_of_none (e.zz _ _ h) hz)]; exact e.zz _ _ h, e.ii, e.fr, e.nw, e.ln, fun a u h => by
    by_cases ha : a = p
    · subst ha
      exact .inr (.inl hp)
    · rw [upd_ne ha] at h
      exact e.zn a u h⟩
theorem HR.adoptM (h : HR K H Z ι M) (q : Odd Z ι M.length p) (hp : H p = some (.lst xs)) (r : Rps K Z ι M.length ds xs) : HR K H Z (put ι M.length p) (M ++ [.lst ds]) := by
  have ln : (M ++ [MO.lst ds]).length = M.length + 1 := by simp
  have cs : ∀ {k : Nat} {u : MO}, (M ++ [MO.lst ds])[k]? = some u → (k < M.length ∧ M[k]? = some u) ∨ (k = M.length ∧ u = .lst ds) := fun {k u} e => by
    by_cases hk : k < M.length
    · rw [List.getElem?_append_left hk] at e
      exact .inl ⟨hk, e⟩
    · rw [List.getElem?_append_right (Nat.le_of_not_lt hk)] at e
      by_cases hz : k - M.length = 0
      · rw [hz] at e
        exact .inr ⟨by omega, (Option.some.inj e).symm⟩
      · rw [List.getElem?_eq_none (by simp; omega)] at e
        cases e
  refine ⟨h.sub, fun k hk => ?_, fun k u e d => ?_, fun j k o u e1 e2 d1 d2 e => ?_, fun k u e => ?_, fun k e => ?_⟩
  · rw [ln] at hk
    by_cases hk' : k < M.length
    · rw [put_lt hk']
      exact h.ali k hk'
    · have : k = M.length := by omega
      subst this
      exact ⟨_, by rw [put_at]; exact hp⟩
  · rcases cs e with ⟨hk, e⟩ | ⟨rfl, rfl⟩
    · rw [put_lt hk]
      exact h.sep k u e d
    · rw [put_at]
      exact q.z
  · rcases cs e1 with ⟨hj, e1⟩ | ⟨rfl, rfl⟩ <;> rcases cs e2 with ⟨hk, e2⟩ | ⟨rfl, rfl⟩
    · rw [put_lt hj, put_lt hk] at e
      exact h.inj j k o u e1 e2 d1 d2 e
    · rw [put_lt hj, put_at] at e
      exact absurd e (q.i j hj)
    · rw [put_lt hk, put_at] at e
      exact absurd e.symm (q.i k hk)
    · rfl
  · rcases cs e with ⟨hk, e⟩ | ⟨rfl, rfl⟩
    · rw [put_lt hk]
      exact OR.mono (fun _ _ z => z) (fun _ z => put_lt z) (by rw [ln]; omega) (fun _ z => z) (h.obj k u e)
    · rw [put_at]
      exact ⟨xs, hp, Rps.mono (fun _ _ z => z) (fun _ z => put_lt z) (by rw [ln]; omega) _ _ r⟩
  · rcases cs e with ⟨hk, e⟩ | ⟨_, e⟩
    · rw [put_lt hk]
      exact h.ded k e
    · cases e
theorem Ext.adoptM (e : Ext H0 Z0 ι0 n0 H Z ι M.length) (hp : H0 p = none) : Ext H0 Z0 ι0 n0 H Z (put ι M.length p) (M ++ [MO.lst ds]).length := by
  have ln : (M ++ [MO.lst ds]).length = M.length + 1 := by simp
  refine ⟨e.zz, fun k hk => (put_lt (Nat.lt_of_lt_of_le hk e.ln)).trans (e.ii k hk), e.fr, fun k h1 h2 => ?_, by rw [ln]; have := e.ln; omega, e.zn⟩
  rw [ln] at h2
  by_cases hk : k < M.length
  · rw [put_lt hk]
    exact e.nw k h1 hk
  · have : k = M.length := by omega
    subst this
    rw [put_at]
    exact hp
end
theorem wipe_at {σ : St} : ∀ (vs : List Nat) (i : Nat), (wipe σ vs)[i]? = if i ∈ vs ∧ i < σ.length then some none else σ[i]?
  | [], i => by simp [wipe]
  | v :: vs, i => by
    have ih := wipe_at (σ := σ) vs i
    have ln := wipe_length σ vs
    show ((wipe σ vs).set v none)[i]? = _
    by_cases hv : v = i
    · subst hv
      by_cases hl : v < σ.length
      · rw [List.getElem?_set_self (by rw [ln]; exact hl), if_pos ⟨List.mem_cons_self, hl⟩]
      · rw [if_neg (fun z => hl z.2), List.getElem?_eq_none (by rw [List.length_set, ln]; omega), List.getElem?_eq_none (by omega)]
    · rw [List.getElem?_set_ne hv, ih]
      have : (i ∈ v :: vs) ↔ i ∈ vs := by simp only [List.mem_cons]; exact ⟨fun z => z.elim (fun e => absurd e.symm hv) id, .inr⟩
      simp only [this]
theorem wipe_wipe {σ : St} (vs : List Nat) : wipe (wipe σ vs) vs = wipe σ vs := by
  refine List.ext_getElem? fun i => ?_
  rw [wipe_at, wipe_length, wipe_at]
  split <;> rfl
theorem slots_wipe {K : PySem.W.Frag} {Z : Hp} {ι : Nat → Addr} {n : Nat} {σ : St} : ∀ (vs : List Nat) {Γ : Env}, Slots K Z ι n Γ σ → Slots K Z ι n (forget Γ vs) (wipe σ vs) := by
  have one : ∀ (vs : List Nat) (Γ : Env) (i : Nat) (d : D), (forget Γ vs)[i]? = some (some d) → Γ[i]? = some (some d) ∧ i ∉ vs := by
    intro vs
    induction vs with
    | nil => intro Γ i d h; exact ⟨h, by simp⟩
    | cons v vs ih =>
      intro Γ i d h
      obtain ⟨h1, h2⟩ := ih (Γ.set v none) i d h
      by_cases hv : v = i
      · subst hv
        have lt : v < Γ.length := by
          have := (List.getElem?_eq_some_iff.mp h1).1
          rw [List.length_set] at this
          exact this
        rw [List.getElem?_set_self lt] at h1
        cases h1
      · rw [List.getElem?_set_ne hv] at h1
        exact ⟨h1, by simp only [List.mem_cons, not_or]; exact ⟨fun e => hv e.symm, h2⟩⟩
  have keep : ∀ (vs : List Nat) (i : Nat), i ∉ vs → (wipe σ vs)[i]? = σ[i]? := by
    intro vs
    induction vs with
    | nil => intro i _; rfl
    | cons v vs ih =>
      intro i h
      show ((wipe σ vs).set v none)[i]? = _
      rw [List.getElem?_set_ne (fun e => h (by rw [e]; exact List.mem_cons_self))]
      exact ih i fun z => h (List.mem_cons_of_mem _ z)
  have len : ∀ (vs : List Nat) (Γ : Env), (forget Γ vs).length = Γ.length := by
    intro vs
    induction vs with
    | nil => intro Γ; rfl
    | cons v vs ih => intro Γ; exact (ih _).trans List.length_set
  intro vs Γ sl
  refine ⟨by rw [len, wipe_length]; exact sl.1, fun i d h => ?_⟩
  obtain ⟨h1, h2⟩ := one vs Γ i d h
  obtain ⟨v, e, r⟩ := sl.2 i d h1
  exact ⟨v, by rw [keep vs i h2]; exact e, r⟩
section
variable {X : Cx} {C : CT} {W : WX}
abbrev Blk (X : Cx) (scope : Scope) (F : Cx → Prop) : Prop := ∀ (s : Shared) (H : Hp) (c : Addr) (cl : List (Str × Addr)) (fp : List Addr), F (X.blk s H scope (compEnvC scope cl c X.env) fp)
/-- the readings that the functions are: the same in every block -/
def liftE (K : PySem.W.Frag) (X : Cx) (C : CT) (W : WX) (g : GE) : TE := fun σ H Q => ∃ (Z : Hp) (ι : Nat → Addr) (Γ : Env) (M : List MO), Slots K Z ι M.length Γ σ ∧ HR K H Z ι M ∧ Post X C W (rpE K) σ H Z ι M (g Γ M) Q
def liftT (K : PySem.W.Frag) (X : Cx) (C : CT) (W : WX) (g : GT) : TT := fun σ H Q => ∃ (Z : Hp) (ι : Nat → Addr) (Γ : Env) (M : List MO), Slots K Z ι M.length Γ σ ∧ HR K H Z ι M ∧ Post X C W rpT σ H Z ι M (g Γ M) Q
def liftG (K : PySem.W.Frag) (g : GG) (is : List Nat) : TG := fun v σ H Q => ∃ (Z : Hp) (ι : Nat → Addr) (n : Nat) (d : D) (Γ Γ' : Env), Sub Z H ∧ Slots K Z ι n Γ σ ∧ Rp K Z ι n d v ∧ g d Γ = some Γ' ∧ ∀ σ', Slots K Z ι n Γ' σ' → Wip is σ σ' → Q σ' H
def QTs (X : Cx) (C : CT) (W : WX) (es : List Expr) (g : GT) : Prop := ∃ te, PTs X es te ∧ ∀ (σ : St) (H Z : Hp) (ι : Nat → Addr) (Γ : Env) (M : List MO) (Q : Bool → Hp → Prop), Slots X.K Z ι M.length Γ σ → HR X.K H Z ι M → Post X C W rpT σ H Z ι M (g Γ M) Q → te σ H Q
theorem qts_nil : QTs X C W [] gYes := ⟨_, pts_nil, fun σ H Z ι Γ M Q sl hr h => h true H Z ι .refl hr rfl⟩
theorem qts_one {c : Expr} {g : GT} (h : QT X C W c g) : QTs X C W [c] g := let ⟨t, p, q⟩ := h; ⟨t, pts_one p, q⟩
theorem Post.blk {α β : Type} {X Y : Cx} {rp : RpK α β} {σ : St} {H Z : Hp} {ι : Nat → Addr} {M : List MO} {r : R α} {Q : β → Hp → Prop} (e : X.K = Y.K) (h : Post X C W rp σ H Z ι M r Q) : Post Y C W rp σ H Z ι M r Q := by
  cases r with
  | ok a M' =>
    intro b H' Z' ι' e' hr rb
    exact h b H' Z' ι' e' (by rw [e]; exact hr) rb
  | exc c d M' =>
    intro cls dd H' Z' ι' e' hr rb
    exact h cls dd H' Z' ι' e' (by rw [e]; exact hr) (by rw [e]; exact rb)
  | bad => exact h
theorem gLcL_run {cd : List MO → Prop} {gg : GG} {gt : GT} {ge : GE} {is own : List Nat} {σ : St} {Γ0 : Env} {fin : List D → List MO → R D} {Q : VK} {J : It} {p : Addr}
    {ds : List D} {H0 Z0 : Hp} {ι0 : Nat → Addr} {M0 : List MO} (hsub : ∀ i ∈ is, i ∈ own) (sl : Slots X.K Z0 ι0 M0.length Γ0 (wipe σ own)) (rJ : ItC cd X.K J ds Z0 ι0 M0.length) (cd0 : cd M0) (cdt : ∀ Γ M d M', gt Γ M = .ok d M' → cd M → cd M') (cde : ∀ Γ M d M', ge Γ M = .ok d M' → cd M → cd M') (hp0 : H0 p = none) (hr0 : HR X.K H0 Z0 ι0 M0)
    (h : Post X C W (rpE X.K) σ H0 Z0 ι0 M0 ((gLcL gg gt ge Γ0 ds [] M0).bind fin) Q)
    (hfin : ∀ (acc : List D) (accV : List V) (M : List MO) (H Z : Hp) (ι : Nat → Addr), Ext H0 Z0 ι0 M0.length H Z ι M.length → HR X.K H Z ι M → Odd Z ι M.length p → H p = some (.lst accV) → Rps X.K Z ι M.length acc accV → Post X C W (rpE X.K) σ H0 Z0 ι0 M0 (fin acc M) Q → Q (.ref p) H) :
    ∃ Wv : Nat → Nat → Hp → Prop, (∃ m, Wv 0 m (upd H0 p (.lst []))) ∧ ∀ i m H, Wv i m H →
      (J.stop i H ∧ Q (.ref p) H) ∨ (J.go i H ∧ ∃ Nx : Hp → Prop, (∀ H', Nx H' → ∃ m', m' < m ∧ Wv (i + 1) m' H') ∧ ∀ x H', J.yld i H x H' → liftG X.K gg is x (wipe σ own) H' fun σ2 H2 => wipe σ2 own = wipe σ own ∧ liftT X.K X C noW gt σ2 H2 fun b H3 =>
        if b = true then liftE X.K X C noW ge σ2 H3 fun y H4 => ∃ acc, H4 p = some (.lst acc) ∧ acc.length < sizeLine ∧ Nx (upd H4 p (.lst (acc ++ [y]))) else Nx H3) := by
  let Inv' : Nat → Hp → Prop := fun i H => ∃ (Z : Hp) (ι : Nat → Addr) (M : List MO) (acc : List D) (accV : List V), Ext H0 Z0 ι0 M0.length H Z ι M.length ∧ HR X.K H Z ι M ∧ Odd Z ι M.length p ∧ H p = some (.lst accV) ∧ Rps X.K Z ι M.length acc accV ∧ cd M ∧
    Post X C W (rpE X.K) σ H0 Z0 ι0 M0 ((gLcL gg gt ge Γ0 (ds.drop i) acc M).bind fin) Q
  have q0 : Odd Z0 ι0 M0.length p := .new hr0 hp0
  refine ⟨fun i m H => m = ds.length - i ∧ i ≤ ds.length ∧ Inv' i H, ⟨ds.length, rfl, Nat.zero_le _, Z0, ι0, M0, [], [], (Ext.refl).touch hp0, hr0.odd q0, q0, upd_same, .nil, cd0, h⟩, ?_⟩
  rintro i m H ⟨em, hle, Z, ι, M, acc, accV, e1, hr1, od, hp, ra, cdM, hpost⟩
  obtain ⟨hstop, hgo⟩ := rJ i H Z ι M e1.zz e1.ii e1.ln hr1 cdM
  by_cases hi : i < ds.length
  · refine .inr ?_
    have ed : ds.drop i = ds[i] :: ds.drop (i + 1) := List.drop_eq_getElem_cons hi
    obtain ⟨go, yl⟩ := hgo ds[i] (List.getElem?_eq_getElem hi)
    refine ⟨go, Inv' (i + 1), fun H' hN => ⟨ds.length - (i + 1), by omega, rfl, by omega, hN⟩, fun x H2 hy => ?_⟩
    obtain ⟨Z2, e2, hr2, rx⟩ := yl x H2 hy
    obtain ⟨od2, hp2⟩ := od.ext hp e2
    have e12 := e1.trans e2 hr1.ali
    rw [ed] at hpost
    cases eg : gg ds[i] Γ0 with
    | none =>
      have z : gLcL gg gt ge Γ0 (ds[i] :: ds.drop (i + 1)) acc M = .bad := by
        unfold gLcL
        rw [eg]
      rw [z] at hpost
      exact hpost.elim
    | some Γ1 =>
      have z : gLcL gg gt ge Γ0 (ds[i] :: ds.drop (i + 1)) acc M = ((gt Γ1 M).only fun k M1 => if k = true then (ge Γ1 M1).only fun y M2 => if acc.length < sizeLine then gLcL gg gt ge Γ0 (ds.drop (i + 1)) (acc ++ [y]) M2 else .bad
          else gLcL gg gt ge Γ0 (ds.drop (i + 1)) acc M1) := by
        conv => lhs; unfold gLcL
        rw [eg]
      rw [z] at hpost
      refine ⟨Z2, ι, M.length, ds[i], Γ0, Γ1, hr2.sub, sl.ext e12, rx, eg, fun σ2 s2 w2 => ⟨(w2 own hsub).trans (wipe_wipe own), Z2, ι, Γ1, M, s2, hr2, ?_⟩⟩
      cases et : gt Γ1 M with
      | bad => rw [et] at hpost; exact hpost.elim
      | exc c d M' => rw [et] at hpost; exact hpost.elim
      | ok k M3 =>
        rw [et] at hpost
        intro b H3 Z3 ι3 e3 hr3 hb
        have hb' : k = b := hb
        subst hb'
        obtain ⟨od3, hp3⟩ := od2.ext hp2 e3
        have e13 := e12.trans e3 hr2.ali
        have ra3 := (ra.ext e2).ext e3
        cases k with
        | false => exact ⟨Z3, ι3, M3, acc, accV, e13, hr3, od3, hp3, ra3, cdt _ _ _ _ et cdM, hpost⟩
        | true =>
          rw [if_pos rfl]
          refine ⟨Z3, ι3, Γ1, M3, s2.ext e3, hr3, ?_⟩
          have hpost2 : Post X C W (rpE X.K) σ H0 Z0 ι0 M0 (((ge Γ1 M3).only fun y M2 => if acc.length < sizeLine then gLcL gg gt ge Γ0 (ds.drop (i + 1)) (acc ++ [y]) M2 else .bad).bind fin) Q := hpost
          cases ee : ge Γ1 M3 with
          | bad => rw [ee] at hpost2; exact hpost2.elim
          | exc c d M' => rw [ee] at hpost2; exact hpost2.elim
          | ok y M4 =>
            rw [ee] at hpost2
            have hpost3 : Post X C W (rpE X.K) σ H0 Z0 ι0 M0 ((if acc.length < sizeLine then gLcL gg gt ge Γ0 (ds.drop (i + 1)) (acc ++ [y]) M4 else .bad).bind fin) Q := hpost2
            by_cases hz : acc.length < sizeLine
            · rw [if_pos hz] at hpost3
              intro v H4 Z4 ι4 e4 hr4 rv
              obtain ⟨od4, hp4⟩ := od3.ext hp3 e4
              have ra4 := ra3.ext e4
              exact ⟨accV, hp4, by rw [← ra4.length]; exact hz, Z4, ι4, M4, acc ++ [y], accV ++ [v], (e13.trans e4 hr3.ali).touch hp0, hr4.odd od4, od4, upd_same, ra4.append (.cons rv .nil), cde _ _ _ _ ee (cdt _ _ _ _ et cdM), hpost3⟩
            · rw [if_neg hz] at hpost3
              exact hpost3.elim
  · refine .inl ⟨hstop (by omega), ?_⟩
    rw [List.drop_eq_nil_of_le (Nat.le_of_not_lt hi)] at hpost
    exact hfin acc accV M H Z ι e1 hr1 od hp ra hpost

theorem lc_read {own : List Nat} {gi : GI} {gg : GG} {gt : GT} {ge : GE} {is : List Nat} {wi : TI} {fin : List D → List MO → R D}
    (qi : ∀ (σ : St) (H Z : Hp) (ι : Nat → Addr) (Γ : Env) (M : List MO) (Q : It → Hp → Prop), Slots X.K Z ι M.length Γ σ → HR X.K H Z ι M → Post X C W (rpI X.K) σ H Z ι M (gi Γ M) Q → wi σ H Q) (hsub : ∀ i ∈ is, i ∈ own)
    (hfin : ∀ (σ : St) (H0 Z0 : Hp) (ι0 : Nat → Addr) (M0 : List MO) (p : Addr) (Q : VK) (acc : List D) (accV : List V) (M : List MO) (H Z : Hp) (ι : Nat → Addr), H0 p = none → Ext H0 Z0 ι0 M0.length H Z ι M.length → HR X.K H Z ι M → Odd Z ι M.length p → H p = some (.lst accV) →
      Rps X.K Z ι M.length acc accV → Post X C W (rpE X.K) σ H0 Z0 ι0 M0 (fin acc M) Q → Q (.ref p) H)
    (σ : St) (H Z : Hp) (ι : Nat → Addr) (Γ : Env) (M : List MO) (Q : VK) (sl : Slots X.K Z ι M.length Γ σ) (hr : HR X.K H Z ι M)
    (h : Post X C W (rpE X.K) σ H Z ι M ((gi Γ M).bind fun ds M1 => (gLcL gg gt ge (forget Γ own) ds [] M1).bind fin) Q) :
    tLc wi (liftG X.K gg is) (liftT X.K X C noW gt) (liftE X.K X C noW ge) own σ H Q :=
  qi σ H Z ι Γ M _ sl hr (h.bind fun ds M1 J H1 Z1 ι1 e1 hr1 rJ h1 => fun p hp =>
    gLcL_run hsub (slots_wipe _ (sl.ext e1)) rJ trivial (fun _ _ _ _ _ _ => trivial) (fun _ _ _ _ _ _ => trivial) hp hr1 h1 fun acc accV M' H' Z' ι' a1 a2 a3 a4 a5 a6 => hfin σ H1 Z1 ι1 M1 p Q acc accV M' H' Z' ι' hp a1 a2 a3 a4 a5 a6)
theorem blk_g {tg : Expr} {scope : Scope} {gg : GG} {is : List Nat} (hg : Blk X scope fun Y => QG Y tg gg is) : Blk X scope fun Y => PG Y tg (liftG X.K gg is) := fun s H c cl fp => by
  obtain ⟨t, p, q⟩ := hg s H c cl fp
  exact ⟨fun pins s σ H v u Q I r h => p.run pins s σ H v u Q I r (let ⟨Z, ι, n, d, Γ, Γ', h1, h2, h3, h4, h5⟩ := h; q v σ H Z ι n d Γ Γ' Q h1 h2 h3 h4 h5)⟩
theorem blk_t {ifs : List Expr} {scope : Scope} {gt : GT} (ht : Blk X scope fun Y => QTs Y C noW ifs gt) : Blk X scope fun Y => PTs Y ifs (liftT X.K X C noW gt) := fun s H c cl fp => by
  obtain ⟨t, p, q⟩ := ht s H c cl fp
  exact ⟨fun pins s σ H Q I h => p.run pins s σ H Q I (let ⟨Z, ι, Γ, M, h1, h2, h3⟩ := h; q σ H Z ι Γ M Q h1 h2 (h3.blk rfl))⟩
theorem blk_e {elt : Expr} {scope : Scope} {ge : GE} (he : Blk X scope fun Y => QE Y C noW elt ge) : Blk X scope fun Y => PE Y elt (liftE X.K X C noW ge) := fun s H c cl fp => by
  obtain ⟨t, p, q⟩ := he s H c cl fp
  exact ⟨fun pins s σ H Q I h => p.run pins s σ H Q I (let ⟨Z, ι, Γ, M, h1, h2, h3⟩ := h; q σ H Z ι Γ M Q h1 h2 (h3.blk rfl))⟩
theorem fin_z {σ : St} {H0 Z0 : Hp} {ι0 : Nat → Addr} {M0 : List MO} {p : Addr} {Q : VK} {acc : List D} {accV : List V} {M : List MO} {H Z : Hp} {ι : Nat → Addr} (h0 : H0 p = none) (e : Ext H0 Z0 ι0 M0.length H Z ι M.length) (hr : HR X.K H Z ι M) (od : Odd Z ι M.length p) (hp : H p = some (.lst accV))
    (ra : Rps X.K Z ι M.length acc accV) (h : Post X C W (rpE X.K) σ H0 Z0 ι0 M0 (.ok (.lst acc) M) Q) : Q (.ref p) H :=
  h _ H _ ι (e.adoptZ od.z h0) (hr.adoptZ od hp) (.lst (.inl (.inl upd_same)) (Rps.mono (fun a u q => by rw [upd_ne (ne_of_none q od.z)]; exact q) (fun _ _ => rfl) (Nat.le_refl _) _ _ ra))
section
variable {elt tg iter : Expr} {ifs : List Expr} {scope : Scope} {own : List (Str × Nat)} {pos spos py : Pos} {gi : GI} {gg : GG} {gt : GT} {ge : GE} {is ixs : List Nat}
theorem qe_lc (hc : X.calm = true) (hN : X.N.Nodup) (hi : QI X C W tg iter gi) (ok : BlkOk X.N X.env.scope scope own)
    (hg : Blk X scope fun Y => QG Y tg gg is) (ht : Blk X scope fun Y => QTs Y C noW ifs gt) (he : Blk X scope fun Y => QE Y C noW elt ge) (hix : ixs = own.map (·.2) := by rfl) (hsub : ∀ i ∈ is, i ∈ own.map (·.2) := by decide) (hs : ∀ x, foldedSetIterable iter X.env x = pure x := by intro _; rfl) :
    QE X C W (.ListComp elt [⟨tg, iter, ifs, 0⟩] scope pos) (gLc gi gg gt ge ixs) := by
  subst hix
  obtain ⟨wi, pi, qi⟩ := hi
  exact ⟨_, pe_lc hc hN pi ok (blk_g hg) (blk_t ht) (blk_e he) hs, lc_read qi hsub fun σ H0 Z0 ι0 M0 p Q acc accV M H Z ι h0 e hr od hp ra h => fin_z h0 e hr od hp ra h⟩
end
end
end Bk

set_option Elab.async false
set_option linter.all false
set_option maxRecDepth 100000
set_option maxHeartbeats 2000000
namespace Bk
open PySem PySem.Spec PyProof.Rows L2

/-! ### calls: what of ours is handed over is lent, and comes back changed -/
/-- the arguments as the callee sees them, and which things of ours are lent -/
def lendA : Nat → List D → List D
  | _, [] => []
  | m, .ref _ :: r => .ref m :: lendA (m + 1) r
  | m, d :: r => d :: lendA m r
def lendK : List D → List Nat
  | [] => []
  | .ref k :: r => k :: lendK r
  | _ :: r => lendK r
def getAll (M : List MO) : List Nat → Option (List MO)
  | [] => some []
  | k :: ks => match M[k]?, getAll M ks with
    | some o, some os => some (o :: os)
    | _, _ => none
def setAll (M : List MO) : List Nat → List MO → List MO
  | k :: ks, o :: os => setAll (M.set k o) ks os
  | _, _ => M
def isDead : MO → Bool
  | .dead => true
  | _ => false
/-- no refs but at the top -/
def flatArgs : List D → Bool
  | [] => true
  | .ref _ :: r => flatArgs r
  | d :: r => below 0 d && flatArgs r
def lentOk (os : List MO) : Bool := os.all fun o => !isDead o && belowO 0 o
def backD (ks : List Nat) (n : Nat) : D → Option D
  | .ref j => if j < ks.length then (ks[j]?).map D.ref else some (.ref (n + (j - ks.length)))
  | d => if below 0 d = true then some d else none
/-- nothing is lent: nothing comes back -/
def callF (F : List D → List MO → R D) (ds : List D) (M : List MO) : R D := match getAll M (lendK ds) with
  | none => .bad
  | some os => if (lendK ds).Nodup ∧ flatArgs ds = true ∧ lentOk os = true then
      match F (lendA 0 ds) os with
      | .ok d os' => if (lendK ds).length ≤ os'.length ∧ os'.all (belowO 0) = true then
          match backD (lendK ds) M.length d with
          | some d' => .ok d' (setAll M (lendK ds) os' ++ os'.drop (lendK ds).length)
          | none => .bad
        else .bad
      | .exc c d os' => if (lendK ds).length ≤ os'.length ∧ os'.all (belowO 0) = true ∧ below 0 d = true then .exc c d (setAll M (lendK ds) os' ++ os'.drop (lendK ds).length) else .bad
      | .bad => .bad
    else .bad
def gCallF (n : Nat) (F : List D → List MO → R D) (ga : GA) : GE := fun Γ M => (ga Γ M).bind fun ds M1 => if ds.length = n then callF F ds M1 else .bad
/-- positional values, then the keywords' values, in the parameters' order -/
def pick {α : Type} (l : List α) : List Nat → List α
  | [] => []
  | i :: is => match l[i]? with
    | some a => a :: pick l is
    | none => pick l is
def gCallK (n : Nat) (F : List D → List MO → R D) (is : List Nat) (ga gk : GA) : GE := fun Γ M => (ga Γ M).bind fun ds M1 => (gk Γ M1).bind fun es M2 => if (pick (ds ++ es) is).length = n then callF F (pick (ds ++ es) is) M2 else .bad

section
variable {K : PySem.W.Frag} {Z : Hp} {ι : Nat → Addr} {n : Nat}
/-- which address stands for which lent thing -/
def lentι (ι : Nat → Addr) (ks : List Nat) : Nat → Addr := fun j => ι (ks.getD j 0)
theorem lend_rps : ∀ (ds : List D) (vs : List V) (pre : List Nat), flatArgs ds = true → Rps K Z ι n ds vs → Rps K Z (lentι ι (pre ++ lendK ds)) (pre ++ lendK ds).length (lendA pre.length ds) vs
  | [], _, _, _, h => by cases h; exact .nil
  | .ref k :: r, _, pre, hf, h => by
    cases h with
    | cons r1 rs =>
      cases r1 with
      | ref hk =>
        have ih := lend_rps r _ (pre ++ [k]) (by simpa [flatArgs] using hf) rs
        have e : pre ++ [k] ++ lendK r = pre ++ lendK (.ref k :: r) := by simp [lendK]
        rw [e] at ih
        have el : (pre ++ [k]).length = pre.length + 1 := by simp
        rw [el] at ih
        refine .cons ?_ ih
        have q : Rp K Z (lentι ι (pre ++ lendK (.ref k :: r))) (pre ++ lendK (.ref k :: r)).length (.ref pre.length) (.ref (lentι ι (pre ++ lendK (.ref k :: r)) pre.length)) := .ref (by simp [lendK])
        have ek : lentι ι (pre ++ lendK (.ref k :: r)) pre.length = ι k := by
          unfold lentι
          congr 1
          simp [lendK]
        rw [ek] at q
        exact q
  | .non :: r, _, pre, hf, h => by
    cases h with
    | cons r1 rs =>
      cases r1
      exact .cons .non (lend_rps r _ pre (by simpa [flatArgs, below] using hf) rs)
  | .bl b :: r, _, pre, hf, h => by
    cases h with
    | cons r1 rs =>
      cases r1
      exact .cons (.bl b) (lend_rps r _ pre (by simpa [flatArgs, below] using hf) rs)
  | .int i :: r, _, pre, hf, h => by
    cases h with
    | cons r1 rs =>
      cases r1
      exact .cons (.int i) (lend_rps r _ pre (by simpa [flatArgs, below] using hf) rs)
  | .str x :: r, _, pre, hf, h => by
    cases h with
    | cons r1 rs =>
      cases r1
      exact .cons (.str x) (lend_rps r _ pre (by simpa [flatArgs, below] using hf) rs)
  | .tup ds :: r, _, pre, hf, h => by
    cases h with
    | cons r1 rs =>
      have hf' : below 0 (.tup ds) = true ∧ flatArgs r = true := by simpa [flatArgs] using hf
      exact .cons (Rp.mono (fun _ _ z => z) (fun k hk => absurd hk (Nat.not_lt_zero _)) (Nat.zero_le _) _ _ (r1.shrink _ _ hf'.1)) (lend_rps r _ pre hf'.2 rs)
  | .lst ds :: r, _, pre, hf, h => by
    cases h with
    | cons r1 rs =>
      have hf' : below 0 (.lst ds) = true ∧ flatArgs r = true := by simpa [flatArgs] using hf
      exact .cons (Rp.mono (fun _ _ z => z) (fun k hk => absurd hk (Nat.not_lt_zero _)) (Nat.zero_le _) _ _ (r1.shrink _ _ hf'.1)) (lend_rps r _ pre hf'.2 rs)
  | .dct ks ws :: r, _, pre, hf, h => by
    cases h with
    | cons r1 rs =>
      have hf' : below 0 (.dct ks ws) = true ∧ flatArgs r = true := by simpa [flatArgs] using hf
      exact .cons (Rp.mono (fun _ _ z => z) (fun k hk => absurd hk (Nat.not_lt_zero _)) (Nat.zero_le _) _ _ (r1.shrink _ _ hf'.1)) (lend_rps r _ pre hf'.2 rs)
  | .ptu ds :: r, _, pre, hf, h => by
    cases h with
    | cons r1 rs =>
      have hf' : below 0 (.ptu ds) = true ∧ flatArgs r = true := by simpa [flatArgs] using hf
      exact .cons (Rp.mono (fun _ _ z => z) (fun k hk => absurd hk (Nat.not_lt_zero _)) (Nat.zero_le _) _ _ (r1.shrink _ _ hf'.1)) (lend_rps r _ pre hf'.2 rs)
  | .lam l cl :: r, _, pre, hf, h => by
    cases h with
    | cons r1 rs =>
      have hf' : below 0 (.lam l cl) = true ∧ flatArgs r = true := by simpa [flatArgs] using hf
      exact .cons (Rp.mono (fun _ _ z => z) (fun k hk => absurd hk (Nat.not_lt_zero _)) (Nat.zero_le _) _ _ (r1.shrink _ _ hf'.1)) (lend_rps r _ pre hf'.2 rs)
  | .exn nm f d :: r, _, pre, hf, h => by
    cases h with
    | cons r1 rs =>
      have hf' : below 0 (.exn nm f d) = true ∧ flatArgs r = true := by simpa [flatArgs] using hf
      exact .cons (Rp.mono (fun _ _ z => z) (fun k hk => absurd hk (Nat.not_lt_zero _)) (Nat.zero_le _) _ _ (r1.shrink _ _ hf'.1)) (lend_rps r _ pre hf'.2 rs)
  | .exv a dx f d :: r, _, pre, hf, h => by
    cases h with
    | cons r1 rs =>
      have hf' : below 0 (.exv a dx f d) = true ∧ flatArgs r = true := by simpa [flatArgs] using hf
      exact .cons (Rp.mono (fun _ _ z => z) (fun k hk => absurd hk (Nat.not_lt_zero _)) (Nat.zero_le _) _ _ (r1.shrink _ _ hf'.1)) (lend_rps r _ pre hf'.2 rs)
  | .dcx k d :: r, _, pre, hf, h => by
    cases h with
    | cons r1 rs =>
      have hf' : below 0 (.dcx k d) = true ∧ flatArgs r = true := by simpa [flatArgs] using hf
      exact .cons (Rp.mono (fun _ _ z => z) (fun k hk => absurd hk (Nat.not_lt_zero _)) (Nat.zero_le _) _ _ (r1.shrink _ _ hf'.1)) (lend_rps r _ pre hf'.2 rs)
theorem getAll_at {M : List MO} : ∀ {ks : List Nat} {os : List MO}, getAll M ks = some os → os.length = ks.length ∧ ∀ (j : Nat) (o : MO), os[j]? = some o → ∃ k, ks[j]? = some k ∧ M[k]? = some o
  | [], os, h => by
    cases h
    exact ⟨rfl, fun j o e => by simp at e⟩
  | k :: ks, os, h => by
    unfold getAll at h
    cases e1 : M[k]? with
    | none => rw [e1] at h; simp at h
    | some o =>
      cases e2 : getAll M ks with
      | none => rw [e1, e2] at h; simp at h
      | some os' =>
        rw [e1, e2] at h
        cases h
        obtain ⟨l, f⟩ := getAll_at e2
        refine ⟨by simp [l], fun j o' e => ?_⟩
        cases j with
        | zero =>
          simp at e
          subst e
          exact ⟨k, rfl, e1⟩
        | succ j =>
          obtain ⟨k', h1, h2⟩ := f j o' (by simpa using e)
          exact ⟨k', by simpa using h1, h2⟩
theorem setAll_length : ∀ (ks : List Nat) (os : List MO) (M : List MO), (setAll M ks os).length = M.length
  | [], _, _ => by simp [setAll]
  | _ :: _, [], _ => by simp [setAll]
  | k :: ks, o :: os, M => by
    show (setAll (M.set k o) ks os).length = _
    rw [setAll_length ks os, List.length_set]
/-- what stands where, behind -/
theorem setAll_at : ∀ (ks : List Nat) (os : List MO) (M : List MO) (k : Nat) (o : MO), ks.Nodup → ks.length ≤ os.length → (setAll M ks os)[k]? = some o → (k ∉ ks ∧ M[k]? = some o) ∨ ∃ j : Nat, j < ks.length ∧ ks[j]? = some k ∧ os[j]? = some o
  | [], _, M, k, o, _, _, h => .inl ⟨by simp, by simpa [setAll] using h⟩
  | _ :: _, [], _, _, _, _, hl, _ => by simp at hl
  | k0 :: ks, o0 :: os, M, k, o, nd, hl, h => by
    have nd' := List.nodup_cons.mp nd
    rcases setAll_at ks os (M.set k0 o0) k o nd'.2 (by simpa using hl) h with ⟨h1, h2⟩ | ⟨j, h1, h2, h3⟩
    · by_cases e : k0 = k
      · subst e
        have lt : k0 < M.length := by
          have := (List.getElem?_eq_some_iff.mp h2).1
          rw [List.length_set] at this
          exact this
        rw [List.getElem?_set_self lt] at h2
        exact .inr ⟨0, by simp, rfl, by simpa using h2⟩
      · rw [List.getElem?_set_ne e] at h2
        exact .inl ⟨by simp only [List.mem_cons, not_or]; exact ⟨fun z => e z.symm, h1⟩, h2⟩
    · exact .inr ⟨j + 1, by simp; omega, by simpa using h2, by simpa using h3⟩
end
/-- the things that are lent, as the callee has them -/
theorem HR.lend {K : PySem.W.Frag} {H Z : Hp} {ι : Nat → Addr} {M os : List MO} {ks : List Nat} (h : HR K H Z ι M) (nd : ks.Nodup) (g : getAll M ks = some os) (lo : lentOk os = true) : HR K H Z (lentι ι ks) os := by
  obtain ⟨l, f⟩ := getAll_at g
  have at_ : ∀ {j k : Nat}, ks[j]? = some k → lentι ι ks j = ι k := fun {j k} e => by
    unfold lentι
    rw [List.getD_eq_getElem?_getD, e]
    rfl
  have ok : ∀ {j : Nat} {o : MO}, os[j]? = some o → belowO 0 o = true ∧ o ≠ .dead := fun {j o} e => by
    have q := List.all_eq_true.mp lo o (List.mem_of_getElem? e)
    simp only [Bool.and_eq_true, Bool.not_eq_true'] at q
    exact ⟨q.2, fun z => by rw [z] at q; exact absurd q.1 (by simp [isDead])⟩
  refine ⟨h.sub, fun j hj => ?_, fun j o e d => ?_, fun i j o u e1 e2 d1 d2 e => ?_, fun j o e => ?_, fun j e => absurd rfl (ok e).2⟩
  · obtain ⟨k, h1, h2⟩ := f j os[j] (List.getElem?_eq_getElem hj)
    rw [at_ h1]
    exact h.ali k (List.getElem?_eq_some_iff.mp h2).1
  · obtain ⟨k, h1, h2⟩ := f j o e
    rw [at_ h1]
    exact h.sep k o h2 d
  · obtain ⟨k1, a1, b1⟩ := f i o e1
    obtain ⟨k2, a2, b2⟩ := f j u e2
    rw [at_ a1, at_ a2] at e
    have ek := h.inj k1 k2 o u b1 b2 d1 d2 e
    subst ek
    obtain ⟨i1, i2⟩ := List.getElem?_eq_some_iff.mp a1
    obtain ⟨j1, j2⟩ := List.getElem?_eq_some_iff.mp a2
    exact (List.getElem_inj nd).mp (i2.trans j2.symm)
  · obtain ⟨k, h1, h2⟩ := f j o e
    rw [at_ h1]
    exact (h.obj k o h2).low (ok e).1
/-- where everything stands behind a call -/
def backι (ι ι' : Nat → Addr) (n m : Nat) : Nat → Addr := fun k => if k < n then ι k else ι' (m + (k - n))
theorem HR.back {K : PySem.W.Frag} {H Z H' Z' : Hp} {ι ι' : Nat → Addr} {M os os' : List MO} {ks : List Nat} (h : HR K H Z ι M) (nd : ks.Nodup) (g : getAll M ks = some os) (lo : lentOk os = true) (e : Ext H Z (lentι ι ks) os.length H' Z' ι' os'.length) (h' : HR K H' Z' ι' os')
    (hl : ks.length ≤ os'.length) (hb : os'.all (belowO 0) = true) :
    HR K H' Z' (backι ι ι' M.length ks.length) (setAll M ks os' ++ os'.drop ks.length) ∧ Ext H Z ι M.length H' Z' (backι ι ι' M.length ks.length) (setAll M ks os' ++ os'.drop ks.length).length := by
  obtain ⟨l, f⟩ := getAll_at g
  have ln : (setAll M ks os' ++ os'.drop ks.length).length = M.length + (os'.length - ks.length) := by rw [List.length_append, setAll_length, List.length_drop]
  have bl : ∀ {k : Nat}, k < M.length → backι ι ι' M.length ks.length k = ι k := fun hk => if_pos hk
  have bn : ∀ {k : Nat}, ¬ k < M.length → backι ι ι' M.length ks.length k = ι' (ks.length + (k - M.length)) := fun hk => if_neg hk
  have at_ : ∀ {j k : Nat}, ks[j]? = some k → lentι ι ks j = ι k := fun {j k} e => by
    unfold lentι
    rw [List.getD_eq_getElem?_getD, e]
    rfl
  have at' : ∀ {j k : Nat}, ks[j]? = some k → ι' j = ι k := fun {j k} z => (e.ii j (by rw [l]; exact (List.getElem?_eq_some_iff.mp z).1)).trans (at_ z)
  have cs : ∀ {k : Nat} {o : MO}, (setAll M ks os' ++ os'.drop ks.length)[k]? = some o → (k < M.length ∧ k ∉ ks ∧ M[k]? = some o) ∨ (k < M.length ∧ ∃ j : Nat, ks[j]? = some k ∧ os'[j]? = some o) ∨ (¬ k < M.length ∧ os'[ks.length + (k - M.length)]? = some o) := fun {k o} z => by
    by_cases hk : k < M.length
    · rw [List.getElem?_append_left (by rw [setAll_length]; exact hk)] at z
      rcases setAll_at ks os' M k o nd hl z with ⟨h1, h2⟩ | ⟨j, _, h2, h3⟩
      · exact .inl ⟨hk, h1, h2⟩
      · exact .inr (.inl ⟨hk, j, h2, h3⟩)
    · rw [List.getElem?_append_right (by rw [setAll_length]; exact Nat.le_of_not_lt hk), setAll_length, List.getElem?_drop] at z
      exact .inr (.inr ⟨hk, z⟩)
  have dd : ∀ {j : Nat} {o : MO}, os[j]? = some o → o ≠ .dead := fun {j o} e => by
    have q := List.all_eq_true.mp lo o (List.mem_of_getElem? e)
    simp only [Bool.and_eq_true, Bool.not_eq_true'] at q
    exact fun z => by rw [z] at q; exact absurd q.1 (by simp [isDead])
  -- a live thing that was not lent stands apart from all that were
  have apart : ∀ {k j : Nat} {o : MO}, k ∉ ks → M[k]? = some o → o ≠ .dead → j < os.length → ι k ≠ lentι ι ks j := fun {k j o} hk ho hd hj z => by
    obtain ⟨k', h1, h2⟩ := f j os[j] (List.getElem?_eq_getElem hj)
    rw [at_ h1] at z
    have ek := h.inj k k' o os[j] ho h2 hd (dd (List.getElem?_eq_getElem hj)) z
    subst ek
    exact hk (List.mem_of_getElem? h1)
  have old : ∀ {k : Nat}, k < M.length → ∃ u, H (ι k) = some u := fun hk => h.ali _ hk
  have nw : ∀ {k j : Nat}, k < M.length → os.length ≤ j → j < os'.length → ι k ≠ ι' j := fun {k j} hk h1 h2 z => by
    obtain ⟨u, hu⟩ := old hk
    have w := e.nw j h1 h2
    rw [← z, hu] at w
    cases w
  refine ⟨⟨h'.sub, fun k hk => ?_, fun k o z d => ?_, fun a b o u z1 z2 d1 d2 z => ?_, fun k o z => ?_, fun k z => ?_⟩, e.zz, fun k hk => bl hk, fun a o h1 h2 => e.fr a o h1 fun j hj z => ?_, fun k h1 h2 => ?_, by rw [ln]; omega, fun a o z => ?_⟩
  · by_cases hk' : k < M.length
    · rw [bl hk']
      obtain ⟨u, hu⟩ := old hk'
      by_cases z : ∃ j, j < os.length ∧ ι k = lentι ι ks j
      · obtain ⟨j, hj, z⟩ := z
        rw [z, ← e.ii j hj]
        exact h'.ali j (Nat.lt_of_lt_of_le hj e.ln)
      · exact ⟨u, e.fr _ _ hu fun j hj q => z ⟨j, hj, q⟩⟩
    · rw [bn hk']
      rw [ln] at hk
      exact h'.ali _ (by omega)
  · rcases cs z with ⟨hk, hn, ho⟩ | ⟨hk, j, hj, ho⟩ | ⟨hk, ho⟩
    · rw [bl hk]
      cases q : Z' (ι k) with
      | none => rfl
      | some w =>
        rcases e.zn _ _ q with a | a | ⟨j, hj, a⟩
        · rw [h.sep k o ho d] at a; cases a
        · obtain ⟨u, hu⟩ := old hk
          rw [hu] at a; cases a
        · exact absurd a (apart hn ho d hj)
    · rw [bl hk, ← at' hj]
      exact h'.sep j o ho d
    · rw [bn hk]
      exact h'.sep _ o ho d
  · rcases cs z1 with ⟨ha, hn, ho⟩ | ⟨ha, i, hi, ho⟩ | ⟨ha, ho⟩ <;> rcases cs z2 with ⟨hb', hn', hu⟩ | ⟨hb', j, hj, hu⟩ | ⟨hb', hu⟩
    · rw [bl ha, bl hb'] at z
      exact h.inj a b o u ho hu d1 d2 z
    · rw [bl ha, bl hb'] at z
      exact absurd (z.trans (at_ hj).symm) (apart hn ho d1 (by rw [l]; exact (List.getElem?_eq_some_iff.mp hj).1))
    · rw [bl ha, bn hb'] at z
      exact absurd z (nw ha (by rw [l]; omega) (List.getElem?_eq_some_iff.mp hu).1)
    · rw [bl ha, bl hb'] at z
      exact absurd (z.symm.trans (at_ hi).symm) (apart hn' hu d2 (by rw [l]; exact (List.getElem?_eq_some_iff.mp hi).1))
    · rw [bl ha, bl hb', ← at' hi, ← at' hj] at z
      have ij := h'.inj i j o u ho hu d1 d2 z
      subst ij
      rw [hi] at hj
      exact Option.some.inj hj
    · rw [bl ha, bn hb', ← at' hi] at z
      have ij := h'.inj i _ o u ho hu d1 d2 z
      have := (List.getElem?_eq_some_iff.mp hi).1
      omega
    · rw [bn ha, bl hb'] at z
      exact absurd z.symm (nw hb' (by rw [l]; omega) (List.getElem?_eq_some_iff.mp ho).1)
    · rw [bn ha, bl hb', ← at' hj] at z
      have ij := h'.inj _ j o u ho hu d1 d2 z
      have := (List.getElem?_eq_some_iff.mp hj).1
      omega
    · rw [bn ha, bn hb'] at z
      have ij := h'.inj _ _ o u ho hu d1 d2 z
      omega
  · have low : ∀ {j : Nat} {o : MO}, os'[j]? = some o → belowO 0 o = true := fun q => List.all_eq_true.mp hb _ (List.mem_of_getElem? q)
    rcases cs z with ⟨hk, hn, ho⟩ | ⟨hk, j, hj, ho⟩ | ⟨hk, ho⟩
    · rw [bl hk]
      by_cases du : o = .dead
      · subst du
        trivial
      · exact OR.mono e.zz (fun k hk => bl hk) (by rw [ln]; omega) (fun u z => e.fr _ _ z fun j hj => apart hn ho du hj) (h.obj k o ho)
    · rw [bl hk, ← at' hj]
      exact (h'.obj j o ho).low (low ho)
    · rw [bn hk]
      exact (h'.obj _ o ho).low (low ho)
  · rcases cs z with ⟨hk, _, ho⟩ | ⟨hk, j, hj, ho⟩ | ⟨hk, ho⟩
    · rw [bl hk]
      obtain ⟨u, hu⟩ := h.ded k ho
      exact ⟨u, e.zz _ _ hu⟩
    · rw [bl hk, ← at' hj]
      exact h'.ded j ho
    · rw [bn hk]
      exact h'.ded _ ho
  · obtain ⟨k, q1, q2⟩ := f j os[j] (List.getElem?_eq_getElem hj)
    rw [at_ q1] at z
    exact h2 k (List.getElem?_eq_some_iff.mp q2).1 z
  · rw [bn (Nat.not_lt.mpr h1)]
    rw [ln] at h2
    exact e.nw _ (by rw [l]; omega) (by omega)
  · rcases e.zn a o z with q | q | ⟨j, hj, q⟩
    · exact .inl q
    · exact .inr (.inl q)
    · obtain ⟨k, q1, q2⟩ := f j os[j] (List.getElem?_eq_getElem hj)
      rw [at_ q1] at q
      exact .inr (.inr ⟨k, (List.getElem?_eq_some_iff.mp q2).1, q⟩)
theorem backD_rp {K : PySem.W.Frag} {Z' : Hp} {ι ι' : Nat → Addr} {ks : List Nat} {n m N : Nat} {d d' : D} {v : V} (hk : ∀ k ∈ ks, k < n) (hi : ∀ (j k : Nat), ks[j]? = some k → ι' j = ι k) (hN : n + (m - ks.length) ≤ N) (r : Rp K Z' ι' m d v) (h : backD ks n d = some d') :
    Rp K Z' (backι ι ι' n ks.length) N d' v := by
  have flat : ∀ {d : D}, below 0 d = true → Rp K Z' ι' m d v → Rp K Z' (backι ι ι' n ks.length) N d v := fun b r => Rp.mono (fun _ _ z => z) (fun _ z => absurd z (Nat.not_lt_zero _)) (Nat.zero_le _) _ _ (r.shrink _ _ b)
  cases r with
  | ref hj =>
    rename_i j
    have h' : (if j < ks.length then (ks[j]?).map D.ref else some (.ref (n + (j - ks.length)))) = some d' := h
    by_cases hl : j < ks.length
    · rw [if_pos hl, List.getElem?_eq_getElem hl] at h'
      cases h'
      have hk' := hk _ (List.getElem_mem hl)
      have q : Rp K Z' (backι ι ι' n ks.length) N (.ref ks[j]) (.ref (backι ι ι' n ks.length ks[j])) := .ref (by omega)
      rw [show backι ι ι' n ks.length ks[j] = ι' j by unfold backι; rw [if_pos hk']; exact (hi j _ (List.getElem?_eq_getElem hl)).symm] at q
      exact q
    · rw [if_neg hl] at h'
      cases h'
      have q : Rp K Z' (backι ι ι' n ks.length) N (.ref (n + (j - ks.length))) (.ref (backι ι ι' n ks.length (n + (j - ks.length)))) := .ref (by omega)
      rw [show backι ι ι' n ks.length (n + (j - ks.length)) = ι' j by unfold backι; rw [if_neg (by omega)]; congr 1; omega] at q
      exact q
  | non => cases h; exact .non
  | bl b => cases h; exact .bl b
  | int i => cases h; exact .int i
  | str x => cases h; exact .str x
  | tup s r =>
    rename_i ds a xs
    have h' : (if below 0 (.tup ds) = true then some (D.tup ds) else none) = some d' := h
    by_cases b : below 0 (.tup ds) = true
    · rw [if_pos b] at h'
      cases h'
      exact flat b (.tup s r)
    · rw [if_neg b] at h'
      cases h'
  | lst s r =>
    rename_i ds a xs
    have h' : (if below 0 (.lst ds) = true then some (D.lst ds) else none) = some d' := h
    by_cases b : below 0 (.lst ds) = true
    · rw [if_pos b] at h'
      cases h'
      exact flat b (.lst s r)
    · rw [if_neg b] at h'
      cases h'
  | dct s r t =>
    rename_i ks ws a nks kx xs
    have h' : (if below 0 (.dct ks ws) = true then some (D.dct ks ws) else none) = some d' := h
    by_cases b : below 0 (.dct ks ws) = true
    · rw [if_pos b] at h'
      cases h'
      exact flat b (.dct s r t)
    · rw [if_neg b] at h'
      cases h'
  | ptu s r =>
    rename_i ds a xs
    have h' : (if below 0 (.ptu ds) = true then some (D.ptu ds) else none) = some d' := h
    by_cases b : below 0 (.ptu ds) = true
    · rw [if_pos b] at h'
      cases h'
      exact flat b (.ptu s r)
    · rw [if_neg b] at h'
      cases h'
  | lam s r =>
    rename_i l cl a c
    have h' : (if below 0 (.lam l cl) = true then some (D.lam l cl) else none) = some d' := h
    rw [if_pos (show below 0 (.lam l cl) = true from rfl)] at h'
    cases h'
    exact flat rfl (.lam s r)
  | exv q w =>
    rename_i a dx f d v
    have h' : (if below 0 (.exv a dx f d) = true then some (D.exv a dx f d) else none) = some d' := h
    by_cases b : below 0 (.exv a dx f d) = true
    · rw [if_pos b] at h'
      cases h'
      exact flat b (.exv q w)
    · rw [if_neg b] at h'
      cases h'
  | dcx q w =>
    rename_i k d a v
    have h' : (if below 0 (.dcx k d) = true then some (D.dcx k d) else none) = some d' := h
    by_cases b : below 0 (.dcx k d) = true
    · rw [if_pos b] at h'
      cases h'
      exact flat b (.dcx q w)
    · rw [if_neg b] at h'
      cases h'
  | exn s r q w =>
    rename_i nm f d a dx B v
    have h' : (if below 0 (.exn nm f d) = true then some (D.exn nm f d) else none) = some d' := h
    by_cases b : below 0 (.exn nm f d) = true
    · rw [if_pos b] at h'
      cases h'
      exact flat b (.exn s r q w)
    · rw [if_neg b] at h'
      cases h'
end Bk

set_option Elab.async false
set_option linter.all false
set_option maxRecDepth 100000
set_option maxHeartbeats 2000000
namespace Bk
open PySem PySem.Spec PyProof.Rows L2

/-! ### defs -/
def PostF (K : PySem.W.Frag) (C : CT) (E : XK) (H Z : Hp) (ι : Nat → Addr) (M : List MO) (r : R D) (Q : VK) : Prop := match r with
  | .ok d M' => ∀ (v : V) (H' Z' : Hp) (ι' : Nat → Addr), Ext H Z ι M.length H' Z' ι' M'.length → HR K H' Z' ι' M' → Rp K Z' ι' M'.length d v → Q v H'
  | .exc c d M' => ∀ (cls : Value) (dd : Option Addr) (H' Z' : Hp) (ι' : Nat → Addr), Ext H Z ι M.length H' Z' ι' M'.length → HR K H' Z' ι' M' → ExcR K C H' Z' ι' M'.length c d cls dd → E cls dd H'
  | .bad => False
/-- the def at f computes F, by at most k calls one in another -/
structure FnQ (P : Program) (w : World) (K : PySem.W.Frag) (mg : Str → Option Value) (base : Heap) (C : CT) (k : Nat) (f : Addr) (fd : FuncData) (ps : List Str) (F : List D → List MO → R D) : Prop where
  run : ∀ (A : Around) (outer : List PySem.Env) (s : Shared) (H : Hp) (args : Args) (us : List Value) (vs : List V) (Q : VK) (E : XK) (ds : List D) (Z : Hp) (ι : Nat → Addr) (M : List MO), Room k A → A.guards = some [] → Env0 P w K mg base A outer s H →
    BindsTo s fd args (ps.zip us) → Vals vs us → vs.length = ps.length → Rps K Z ι M.length ds vs → HR K H Z ι M → PostF K C E H Z ι M (F ds M) Q → codeAny (model P w) A (.call (.ref f) args) (CR (L2.CX P w) outer P w H s Q E) s
theorem FnQ.mono {P : Program} {w : World} {K : PySem.W.Frag} {mg : Str → Option Value} {base : Heap} {C : CT} {j k : Nat} {f : Addr} {fd : FuncData} {ps : List Str} {F : List D → List MO → R D} (x : FnQ P w K mg base C j f fd ps F) (h : j ≤ k) : FnQ P w K mg base C k f fd ps F :=
  ⟨fun A outer s H args us vs Q E ds Z ι M hr => x.run A outer s H args us vs Q E ds Z ι M (hr.mono h)⟩
/-- what a body's end gives the caller: what it made besides is dropped -/
def retR (m : Nat) (M' : List MO) : D → R D
  | .ref k => if k < m then .ok (.ref k) (M'.take m) else match M'[k]? with
    | some (.lst ds) => if belows m ds = true then .ok (.ref m) (M'.take m ++ [.lst ds]) else .bad
    | _ => .bad
  | d => if below m d = true then .ok d (M'.take m) else .bad
def fin (m : Nat) : RS → R D
  | .rt d M' => if m ≤ M'.length ∧ cutOk m M' = true then retR m M' d else .bad
  | .nx _ M' => if m ≤ M'.length ∧ cutOk m M' = true then .ok .non (M'.take m) else .bad
  | .exc c d _ M' => if m ≤ M'.length ∧ cutOk m M' = true ∧ below m d = true then .exc c d (M'.take m) else .bad
  | _ => .bad
/-- a def of n names with the body g -/
def runF (n : Nat) (g : GS) (ds : List D) (M : List MO) : R D := fin M.length (g (ds.map some ++ List.replicate (n - ds.length) none) M)

section
variable {K : PySem.W.Frag} {C : CT} {H Z H' Z' : Hp} {ι ι' : Nat → Addr} {M M' : List MO} {E : XK} {Q : VK}
theorem take_len {α : Type} {l : List α} {m : Nat} (h : m ≤ l.length) : (l.take m).length = m := by rw [List.length_take]; omega
theorem retR_run {d : D} {v : V} (e : Ext H Z ι M.length H' Z' ι' M'.length) (hr : HR K H' Z' ι' M') (r : Rp K Z' ι' M'.length d v) (c1 : M.length ≤ M'.length) (c2 : cutOk M.length M' = true) (h : PostF K C E H Z ι M (retR M.length M' d) Q) : Q v H' := by
  have ln := take_len c1
  have flat : ∀ {d : D}, Rp K Z' ι' M'.length d v → PostF K C E H Z ι M (if below M.length d = true then .ok d (M'.take M.length) else .bad) Q → Q v H' := fun {d} r h => by
    by_cases b : below M.length d = true
    · rw [if_pos b] at h
      exact h v H' Z' ι' (by rw [ln]; exact e.cut (Nat.le_refl _) c1) (hr.cut c1 c2) (by rw [ln]; exact r.shrink _ _ b)
    · rw [if_neg b] at h
      exact h.elim
  cases r with
  | ref hk =>
    rename_i k
    have h2 : PostF K C E H Z ι M (if k < M.length then .ok (.ref k) (M'.take M.length) else match M'[k]? with
      | some (.lst ds) => if belows M.length ds = true then .ok (.ref M.length) (M'.take M.length ++ [.lst ds]) else .bad
      | _ => .bad) Q := h
    by_cases hm : k < M.length
    · rw [if_pos hm] at h2
      exact h2 _ H' Z' ι' (by rw [ln]; exact e.cut (Nat.le_refl _) c1) (hr.cut c1 c2) (by rw [ln]; exact .ref hm)
    · rw [if_neg hm] at h2
      cases e1 : M'[k]? with
      | none => rw [e1] at h2; exact h2.elim
      | some o =>
        rw [e1] at h2
        cases o with
        | dead => exact h2.elim
        | dct ks0 vs0 => exact h2.elim
        | dki kvs0 => exact h2.elim
        | tab nm0 => exact h2.elim
        | obj nm fs => exact h2.elim
        | lst ds =>
          have h3 : PostF K C E H Z ι M (if belows M.length ds = true then .ok (.ref M.length) (M'.take M.length ++ [.lst ds]) else .bad) Q := h2
          by_cases b : belows M.length ds = true
          · rw [if_pos b] at h3
            obtain ⟨xs, e2, r2⟩ := hr.obj k _ e1
            have hc := hr.cut c1 c2
            have lk : k < M'.length := (List.getElem?_eq_some_iff.mp e1).1
            have od : Odd Z' ι' (M'.take M.length).length (ι' k) := ⟨hr.sep k _ e1 (by simp), fun j hj => by
              rw [ln] at hj
              exact hr.apart (by omega) e1 (by simp) (by omega)⟩
            have q : Rp K Z' (put ι' (M'.take M.length).length (ι' k)) (M'.take M.length ++ [MO.lst ds]).length (.ref (M'.take M.length).length) (.ref (put ι' (M'.take M.length).length (ι' k) (M'.take M.length).length)) := .ref (by simp)
            rw [put_at] at q
            have n0 : H (ι' k) = none := e.nw k (by omega) lk
            have x := Ext.adoptM (M := M'.take M.length) (ds := ds) (p := ι' k) (by rw [ln]; exact e.cut (Nat.le_refl _) c1) n0
            have z := hc.adoptM od e2 (by rw [ln]; exact Rps.shrink _ _ r2 b)
            have h4 : PostF K C E H Z ι M (.ok (.ref (M'.take M.length).length) (M'.take M.length ++ [.lst ds])) Q := by rw [ln]; exact h3
            exact h4 _ H' Z' _ x z q
          · rw [if_neg b] at h3
            exact h3.elim
  | non => exact flat .non h
  | bl b => exact flat (.bl b) h
  | int i => exact flat (.int i) h
  | str x => exact flat (.str x) h
  | tup s r => exact flat (.tup s r) h
  | lst s r => exact flat (.lst s r) h
  | dct s r t => exact flat (.dct s r t) h
  | ptu s r => exact flat (.ptu s r) h
  | lam s r => exact flat (.lam s r) h
  | exn s r q w => exact flat (.exn s r q w) h
  | exv q w => exact flat (.exv q w) h
  | dcx q w => exact flat (.dcx q w) h

theorem fin_run {X : Cx} {W : WX} {r : RS} (hW : ∀ c d σ H, E c d H → W c d σ H) (eK : X.K = K) (h : PostF K C E H Z ι M (fin M.length r) Q) : PostS X C W H Z ι M r { nx := fun _ H' => Q .non H', rt := Q } := by
  subst eK
  cases r with
  | bad => exact h
  | bk Γ M' => exact h.elim
  | ct Γ M' => exact h.elim
  | nx Γ M' =>
    have h2 : PostF X.K C E H Z ι M (if M.length ≤ M'.length ∧ cutOk M.length M' = true then .ok .non (M'.take M.length) else .bad) Q := h
    by_cases c : M.length ≤ M'.length ∧ cutOk M.length M' = true
    · rw [if_pos c] at h2
      intro σ' H' Z' ι' e hr sl
      have ln := take_len c.1
      exact h2 .non H' Z' ι' (by rw [ln]; exact e.cut (Nat.le_refl _) c.1) (hr.cut c.1 c.2) .non
    · rw [if_neg c] at h2
      exact h2.elim
  | rt d M' =>
    have h2 : PostF X.K C E H Z ι M (if M.length ≤ M'.length ∧ cutOk M.length M' = true then retR M.length M' d else .bad) Q := h
    by_cases c : M.length ≤ M'.length ∧ cutOk M.length M' = true
    · rw [if_pos c] at h2
      intro v H' Z' ι' e hr r
      exact retR_run e hr r c.1 c.2 h2
    · rw [if_neg c] at h2
      exact h2.elim
  | exc n d Γ M' =>
    have h2 : PostF X.K C E H Z ι M (if M.length ≤ M'.length ∧ cutOk M.length M' = true ∧ below M.length d = true then .exc n d (M'.take M.length) else .bad) Q := h
    by_cases c : M.length ≤ M'.length ∧ cutOk M.length M' = true ∧ below M.length d = true
    · rw [if_pos c] at h2
      intro cls dd σ' H' Z' ι' e hr sl x
      have ln := take_len c.1
      obtain ⟨x1, a, v, x2, x3, x4⟩ := x
      exact hW _ _ _ _ (h2 cls dd H' Z' ι' (by rw [ln]; exact e.cut (Nat.le_refl _) c.1) (hr.cut c.1 c.2.1) ⟨x1, a, v, x2, x3, by rw [ln]; exact x4.shrink _ _ c.2.2⟩)
    · rw [if_neg c] at h2
      exact h2.elim
theorem slots_start {ds : List D} {vs : List V} {N : List Str} {n : Nat} (r : Rps K Z ι n ds vs) (hl : vs.length ≤ N.length) : Slots K Z ι n (ds.map some ++ List.replicate (N.length - ds.length) none) (L2.start N vs) := by
  have l := r.length
  refine ⟨by unfold L2.start; simp [l], fun i d h => ?_⟩
  by_cases hi : i < ds.length
  · rw [List.getElem?_append_left (by simpa using hi), List.getElem?_map] at h
    cases e : ds[i]? with
    | none => rw [e] at h; cases h
    | some d' =>
      rw [e] at h
      cases h
      obtain ⟨v, e2, r2⟩ := r.get e
      refine ⟨v, ?_, r2⟩
      unfold L2.start
      rw [List.getElem?_append_left (by rw [List.length_map, ← l]; exact hi), List.getElem?_map, e2]
      rfl
  · rw [List.getElem?_append_right (by simpa using Nat.le_of_not_lt hi), List.getElem?_replicate] at h
    split at h <;> cases h
end
section
variable {P : Program} {w : World} {K : PySem.W.Frag} {mg : Str → Option Value} {base : Heap} {C : CT}
/-- THE RULE for a def: its body computes g -/
theorem fq_of {x qual : Str} {st : Stmt} {f : Addr} {fd : FuncData} {N ps : List Str} {k : Nat} {g : GS} (F : Fun K x qual st f fd) (S : FnScope N ps (defScope st))
    (hbody : ∀ (cdv : Value) (A : Around) (outer : List PySem.Env) (s : Shared) (H : Hp) (E : XK), Room k (A.deeper (envOfC qual (defScope st) s.heap.objs.size f cdv)) → A.guards = some [] →
      QSs (cxOf (L2.CX P w) P w K mg base N qual (defScope st) f cdv A outer s H E) C (fun cls d _ H => E cls d H) (defBody st) g) : FnQ P w K mg base C (k + 1) f fd ps (runF N.length g) := by
  obtain ⟨oc, od, kV, doc, pm, an, cdv, ct, osl, rfl, lk, hcd⟩ := F.ex
  refine ⟨fun A outer s H args us vs Q E ds Z ι M room hgu env0 hbind rvs hlen rds hr hpost => ?_⟩
  have hK : K.In s.heap := env0.mod.kin.keeps fun b o z => (env0.bs b o z).1
  have hlim : s.heap.NoLimit := env0.mod.nolimit.keeps fun b o z => (env0.bs b o z).1
  have kinds : ∀ y ∈ ps.zip us, (defScope st).names.lookup y.1 = some .local ∨ ((defScope st).names.lookup y.1 = some .cell ∧ ((cellsFrom (s.heap.objs.size + 1) (defScope st).names []).lookup y.1).isSome = true) := fun y hy => by
    rcases S.par y.1 (List.of_mem_zip (a := y.1) (b := y.2) hy).1 with z | z
    · exact .inl z
    · exact .inr ⟨z, PySem.W.cellsFrom_some _ _ _ (.inl z)⟩
  refine codeAny_call_function room.depth (hK _ _ lk) rfl S.co S.gen rfl (PySem.W.codeRec_of hK hcd) (hbind _ _ _ _ (wpAny_newFunctionEnv_cells S.kind kinds fun env he s1 ic => ?_))
  subst he
  refine ⟨hlim.keeps ic.toInCall.keep, codeAny_func ?_⟩
  obtain ⟨ts, pts, qts⟩ := hbody cdv A outer s H E (room.deeper _) hgu
  have J : Inv (cxOf (L2.CX P w) P w K mg base N qual (defScope st) f cdv A outer s H E) [] (L2.start N vs) H s1 := inv_start S room.hd env0 hlen rvs ic
  have lN : vs.length ≤ N.length := by
    have z := congrArg List.length S.pre
    rw [List.length_take] at z
    omega
  have hq := qts _ (L2.start N vs) H Z ι _ M (slots_start rds lN) hr (fin_run (E := E) (fun _ _ _ _ z => z) rfl hpost)
  refine wpAny_mono (pts.run [] s1 _ H _ J hq) (fun fl s' hs => ?_) fun _ _ hs => hs
  have ends : ∀ {σ' : L2.St} {H' : Hp} {v : V} {u : Value}, Inv (cxOf (L2.CX P w) P w K mg base N qual (defScope st) f cdv A outer s H E) [] σ' H' s' → RelV v u → Q v H' → CE outer P w H s Q u s' :=
    fun {σ' H' v u} J2 rv q => ⟨v, H', J2.os, J2.bare, J2.base, J2.hok, rv, q⟩
  cases fl with
  | ret u => exact let ⟨v, σ', H', J2, rv, q⟩ := hs; ends J2 rv q
  | next => exact let ⟨σ', H', J2, q⟩ := hs; ends (v := V.non) (u := Value.none) J2 rfl q
  | brk => exact let ⟨_, _, _, q⟩ := hs; q.elim
  | cont => exact let ⟨_, _, _, q⟩ := hs; q.elim
end

/-! ### calls of defs -/
section
variable {X : Cx} {C : CT} {W : WX} {k : Nat} {f : Addr} {fd : FuncData} {ps : List Str} {F : List D → List MO → R D} {x : Str} {p pos : Pos} {e : Expr} {es : List Expr} {gs : GA}
/-- what a call asks -/
def rCallQ (K : PySem.W.Frag) (C : CT) (ps : List Str) (F : List D → List MO → R D) (E : XK) (vs : List V) (H : Hp) (Q : VK) : Prop :=
  vs.length = ps.length ∧ ∃ (ds : List D) (Z : Hp) (ι : Nat → Addr) (M : List MO), Rps K Z ι M.length ds vs ∧ HR K H Z ι M ∧ PostF K C E H Z ι M (F ds M) Q
theorem run_q {pins : List (Addr × Obj)} {σ : St} {H : Hp} {s : Shared} {Q : VK} {vs : List V} {us : List Value} {args : Args} (F0 : FnQ X.prog X.w X.K X.mg X.base C k f fd ps F) (hr : Room k X.A) (hgu : X.A.guards = some []) (tk : Takes X W) (I : Inv X pins σ H s)
    (hb : BindsTo s fd args (ps.zip us)) (r : Vals vs us) (h : rCallQ X.K C ps F (WE W σ) vs H Q) : codeAny (model X.prog X.w) X.A (.call (.ref f) args) (fun r s' => match r with
      | .ok (.ret u) => EP X pins σ Q u s'
      | .ok _ => False
      | .error e => X.xe e s') s := by
  obtain ⟨hl, ds, Z, ι, M, rd, hr', hp⟩ := h
  refine codeAny_mono (F0.run X.A X.stack s H args us vs Q (WE W σ) ds Z ι M hr hgu I.env0 hb r hl rd hr' hp) fun r s' hq => ?_
  cases r with
  | error e => exact passAt tk σ pins H s e s' I hq
  | ok fl =>
    cases fl with
    | ret u => exact I.after hq
    | next => exact hq.elim
    | brk => exact hq.elim
    | cont => exact hq.elim
theorem lent_post {σ : St} {H Z : Hp} {ι : Nat → Addr} {ds : List D} {vs : List V} {M : List MO} {Q : VK} (hr : HR X.K H Z ι M) (r : Rps X.K Z ι M.length ds vs) (hl : vs.length = ps.length) (h : Post X C W (rpE X.K) σ H Z ι M (callF F ds M) Q) : rCallQ X.K C ps F (WE W σ) vs H Q := by
  unfold callF at h
  cases eg : getAll M (lendK ds) with
  | none => rw [eg] at h; exact h.elim
  | some os =>
    rw [eg] at h
    simp only at h
    by_cases c : (lendK ds).Nodup ∧ flatArgs ds = true ∧ lentOk os = true
    · rw [if_pos c] at h
      obtain ⟨l, fa⟩ := getAll_at eg
      have r2 := lend_rps ds vs [] c.2.1 r
      simp only [List.nil_append, List.length_nil] at r2
      rw [← l] at r2
      have hr2 := hr.lend c.1 eg c.2.2
      refine ⟨hl, lendA 0 ds, Z, lentι ι (lendK ds), os, r2, hr2, ?_⟩
      have kl : ∀ k ∈ lendK ds, k < M.length := fun k hk => by
        obtain ⟨j, hj, ej⟩ := List.mem_iff_getElem.mp hk
        obtain ⟨k', q1, q2⟩ := fa j os[j] (List.getElem?_eq_getElem (by rw [l]; exact hj))
        rw [List.getElem?_eq_getElem hj] at q1
        cases q1
        rw [← ej]
        exact (List.getElem?_eq_some_iff.mp q2).1
      cases eF : F (lendA 0 ds) os with
      | bad => rw [eF] at h; exact h.elim
      | exc n d os' =>
        rw [eF] at h
        simp only at h
        by_cases c2 : (lendK ds).length ≤ os'.length ∧ os'.all (belowO 0) = true ∧ below 0 d = true
        · rw [if_pos c2] at h
          intro cls dd H' Z' ι' e' hr' x
          obtain ⟨b1, b2⟩ := hr.back c.1 eg c.2.2 e' hr' c2.1 c2.2.1
          obtain ⟨x1, a, v, x2, x3, x4⟩ := x
          exact h cls dd H' Z' _ b2 b1 ⟨x1, a, v, x2, x3, Rp.mono (fun _ _ z => z) (fun _ z => absurd z (Nat.not_lt_zero _)) (Nat.zero_le _) _ _ (x4.shrink _ _ c2.2.2)⟩
        · rw [if_neg c2] at h
          exact h.elim
      | ok d os' =>
        rw [eF] at h
        simp only at h
        by_cases c2 : (lendK ds).length ≤ os'.length ∧ os'.all (belowO 0) = true
        · rw [if_pos c2] at h
          intro v H' Z' ι' e' hr' x
          obtain ⟨b1, b2⟩ := hr.back c.1 eg c.2.2 e' hr' c2.1 c2.2
          cases eb : backD (lendK ds) M.length d with
          | none => rw [eb] at h; exact h.elim
          | some d' =>
            rw [eb] at h
            have ln : (setAll M (lendK ds) os' ++ os'.drop (lendK ds).length).length = M.length + (os'.length - (lendK ds).length) := by rw [List.length_append, setAll_length, List.length_drop]
            refine h v H' Z' _ b2 b1 (backD_rp kl (fun j k q => ?_) (by rw [ln]; exact Nat.le_refl _) x eb)
            rw [e'.ii j (by rw [l]; exact (List.getElem?_eq_some_iff.mp q).1)]
            unfold lentι
            rw [List.getD_eq_getElem?_getD, q]
            rfl
        · rw [if_neg c2] at h
          exact h.elim
    · rw [if_neg c] at h
      exact h.elim
/-- the callee runs, its arguments bound -/
theorem run_call {pins : List (Addr × Obj)} {σ : St} {H : Hp} {s : Shared} {Q : VK} {vs : List V} {us ts : List Value} {kw : List (Str × Value)} (F0 : FnQ X.prog X.w X.K X.mg X.base C k f fd ps F) (hr : Room k X.A) (hgu : X.A.guards = some []) (tk : Takes X W) (I : Inv X pins σ H s)
    (hb : BindsTo s fd ⟨us, kw⟩ (ps.zip ts)) (r : Vals vs ts) (h : rCallQ X.K C ps F (WE W σ) vs H Q) : wpAny (model X.prog X.w) X.A (call (.ref f) us kw) (EP X pins σ Q) X.xe s :=
  wpAny_call (codeAny_mono (run_q F0 hr hgu tk I hb r h) fun r s' hq => by
    cases r with
    | error e => exact hq
    | ok fl =>
      cases fl with
      | ret u => exact hq
      | next => exact hq.elim
      | brk => exact hq.elim
      | cont => exact hq.elim)
/-- f(e, ..) -/
theorem qe_call {n : Nat} (F0 : FnQ X.prog X.w X.K X.mg X.base C k f fd ps F) (hr : Room k X.A) (hgu : X.A.guards = some []) (tk : Takes X W) (hg : Gl X x) (hm : X.mg x = some (.ref f)) (hk : PySem.W.keepIn X.K (.ref f) = true) (hb : Binds X.K fd ps []) (ha : QA X C W (e :: es) gs) (hn : n = ps.length := by rfl)
    (hdb : (x == ("__debug__" : Str)) = false := by decide) (he : starEach (e :: es) X.env = (false, eval e X.env) :: starEach es X.env := by rfl) (hpl : (backTo pos (starEach es X.env)).any (·.1) = false := by rfl) :
    QE X C W (.Call (.Name x p) (e :: es) [] pos) (gCallF n F gs) := by
  subst hn
  obtain ⟨ta, pa, qa⟩ := ha
  refine ⟨fun σ H Q => ta σ H fun vs H1 => rCallQ X.K C ps F (WE W σ) vs H1 Q, ⟨fun pins s σ H Q I h => wpAny_Call_Name_kw (ld_glob I hg hm ?_ hdb)⟩, fun σ H Z ι Γ M Q sl hr h => qa σ H Z ι Γ M _ sl hr (h.bind fun ds M1 vs H1 Z1 ι1 e1 hr1 r1 h1 => ?_)⟩
  · refine PySem.W.callWith_K (h₀ := X.base) I.ok.mod.kin hk (thn (pa.run pos pins s σ H _ I h) fun us s1 hh => ?_) he hpl
    obtain ⟨vs, H1, J, r, q⟩ := hh
    have hl : us.length = ps.length := r.length.symm.trans q.1
    have hbb := hb s1 us J.kIn (by rw [List.append_nil]; exact hl)
    rw [List.append_nil] at hbb
    exact ⟨J.kIn, run_call F0 hr hgu tk J hbb r q⟩
  · by_cases c : ds.length = ps.length
    · rw [if_pos c] at h1
      exact lent_post hr1 r1 (by rw [← r1.length]; exact c) h1
    · rw [if_neg c] at h1
      exact h1.elim
/-- how a call with keywords binds -/
def KwBinds (K : PySem.W.Frag) (fd : FuncData) (ps ks : List Str) (np : Nat) (is : List Nat) : Prop := ∀ (s : Shared) (us ws : List Value), K.In s.heap → us.length = np → ws.length = ks.length → BindsTo s fd ⟨us, ks.zip ws⟩ (ps.zip (pick (us ++ ws) is))
variable {kws : List Keyword} {gk : GA} {ks : List Str} {is : List Nat} {np : Nat}
end
end Bk

set_option Elab.async false
set_option linter.all false
set_option maxRecDepth 100000
set_option maxHeartbeats 2000000
namespace Bk
open PySem PySem.Spec PyProof.Rows L2

/-! ### the law's own call -/
theorem no_cx {P : Program} {w : World} {outer : List PySem.Env} {H : Hp} {s s' : Shared} {u : Value} : ¬ L2.CX P w outer H s (fun _ _ _ => False) u s' := by
  intro h
  unfold L2.CX at h
  simp_all
theorem rps_ints {K : PySem.W.Frag} {Z : Hp} {ι : Nat → Addr} {n : Nat} (is : List Int) : Rps K Z ι n (is.map D.int) (is.map V.int) := Rps.of_ints is
theorem law_q {P : Program} {w : World} {K : PySem.W.Frag} {mg mb : Str → Option Value} {C : CT} {k : Nat} {fa a : Addr} {fd : FuncData} {x : Str} {F : List D → List MO → R D} {s₁ : Shared} {vs : List Value} {ns : List Int}
    (KX : K.In s₁.heap) (hns : s₁.heap.Ns mainGlobals mg) (hb : s₁.heap.Ns builtinsNs mb) (hbb : ∀ x : Str, x ≠ "__name__" → mb x = bootBuiltins x) (hlim : s₁.heap.NoLimit) (hg : s₁.gens = #[])
    (ha : s₁.heap.get? a = some { cls := .type "list", data := .seq vs.toArray }) (hi : IntsAre vs ns) (hl : ns.length ≤ sizeLine) (hr : Room k callerA)
    (hF : ∀ base : Heap, K.In base → base.Ns mainGlobals mg → FnQ P w K mg base C k fa fd [x] F) (hbind : ∀ (s : Shared) (u : Value), BindsTo s fd ⟨[u], []⟩ [(x, u)]) (hlaw : F [.lst (ns.map D.int)] [] = .ok (.bl true) []) :
    codeAny (model P w) callerA (.call (.ref fa) ⟨[.ref a], []⟩) (fun r s' => r = .ok (.ret (.bool true)) ∧ OldK s₁.heap s'.heap ∧ s'.os = s₁.os ∧ AllBare s'.gens) s₁ := by
  have hvals := vals_ints hi
  have hlen := hi.length
  have main : ∀ H : Hp, Only H → ExL K H a (ns.map V.int) → HOk P w H s₁.heap → (∀ b, H b ≠ none → b = a) → (H a ≠ none → K.lookup a = none) →
      codeAny (model P w) callerA (.call (.ref fa) ⟨[.ref a], []⟩) (fun r s' => r = .ok (.ret (.bool true)) ∧ OldK s₁.heap s'.heap ∧ s'.os = s₁.os ∧ AllBare s'.gens) s₁ := by
    intro H only seq hok alone apart
    have free : ∀ {b : Addr} {o : Obj} {es : Array DictEntry} {ep : Nat}, s₁.heap.get? b = some o → o.data = .dict es ep → H b = none := fun {b o es ep} e d => by
      refine Classical.byContradiction fun z => ?_
      have eb : b = a := alone b z
      rw [eb, ha] at e
      cases e
      cases (show Data.seq vs.toArray _ = Data.dict es ep from d)
    have stays : ∀ {b : Addr} {m : Str → Option Value}, s₁.heap.Ns b m → (hidT s₁.heap H).Ns b m := fun {b m} z =>
      let ⟨o, es, ep, e, d, r⟩ := z
      ⟨o, es, ep, hidT_get e (free e d), d, r⟩
    have kin : K.In (hidT s₁.heap H) := fun b o e => hidT_get (KX b o e) (by
      refine Classical.byContradiction fun z => ?_
      have eb : b = a := alone b z
      subst eb
      rw [apart z] at e
      cases e)
    have hmod : Mod K mg (hidT s₁.heap H) := ⟨kin, stays hns, ⟨mb, stays hb, hbb⟩, let ⟨m, h1, h2⟩ := hlim; ⟨m, stays h1, h2⟩⟩
    have env0 : Env0 P w K mg (hidT s₁.heap H) callerA [] s₁ H :=
      ⟨rfl, hmod, fun b o e => of_hidT e, Nat.le_of_eq (hidT_size _ _), trivial, fun b z => absurd (show b ∈ ([] : List Addr) from z) (by simp), hok, AllBare.of_eq hg⟩
    have hr0 : HR K H H (fun _ => 0) [] := ⟨fun _ _ h => h, fun k h => absurd h (Nat.not_lt_zero _), fun k o h => by simp at h, fun j k o u h => by simp at h, fun k o h => by simp at h, fun k h => by simp at h⟩
    refine codeAny_mono ((hF _ kin (stays hns)).run callerA [] s₁ H ⟨[.ref a], []⟩ [.ref a] [.ref a] (fun v _ => v = .bl true) (fun _ _ _ => False) [.lst (ns.map D.int)] H (fun _ => 0) [] hr rfl env0 (hbind s₁ (.ref a)) (.cons rfl .nil) rfl
      (.cons (.lst seq (rps_ints ns)) .nil) hr0 ?_) fun r s' h => ?_
    · rw [hlaw]
      intro v H' Z' ι' _ _ rv
      cases rv
      rfl
    · cases r with
      | error e => exact absurd h no_cx
      | ok fl =>
        cases fl with
        | next => exact h.elim
        | brk => exact h.elim
        | cont => exact h.elim
        | ret u =>
          obtain ⟨v, H', os, bare, un, hok', rv, q⟩ := h
          obtain rfl : v = .bl true := q
          obtain rfl : u = Value.bool true := rv
          refine ⟨rfl, .of_keep fun b o e => ?_, os, bare⟩
          cases hb2 : H b with
          | none => exact un.keep b o e hb2 (fun z => absurd (show b ∈ ([] : List Addr) from z) (by simp)) (by simp)
          | some u =>
            rcases only b with z | ⟨ob, xs, z⟩
            · rw [hb2] at z
              cases z
            · have e1 := (hok b _ z).1
              have e2 := (hok' b _ (un.frzs b ob _ z)).1
              rw [e] at e1
              cases e1
              exact e2
  cases hk : K.lookup a with
  | some o =>
    have e := KX a o hk
    rw [ha] at e
    cases e
    exact main (fun _ => none) (fun _ => .inl rfl) (.inr ⟨vs.toArray, _, hk, by rw [List.size_toArray, hlen]; exact hl, by simpa using hvals⟩) (fun b u z => absurd z (by simp)) (fun b z => absurd rfl z) fun z => absurd rfl z
  | none =>
    have at_ : ∀ b u, (if b = a then some (HO.frz { cls := .type "list", data := .seq vs.toArray } (.lst (ns.map V.int))) else none) = some u → b = a ∧ u = HO.frz { cls := .type "list", data := .seq vs.toArray } (.lst (ns.map V.int)) := fun b u z => by
      by_cases hb : b = a
      · rw [if_pos hb] at z
        exact ⟨hb, (Option.some.inj z).symm⟩
      · rw [if_neg hb] at z
        cases z
    refine main (fun b => if b = a then some (.frz { cls := .type "list", data := .seq vs.toArray } (.lst (ns.map V.int))) else none) (fun b => ?_) (.inl (.inr ⟨_, if_pos rfl⟩)) (fun b u z => ?_) (fun b z => ?_) fun _ => hk
    · by_cases hb : b = a
      · exact .inr ⟨_, _, if_pos hb⟩
      · exact .inl (if_neg hb)
    · obtain ⟨rfl, rfl⟩ := at_ b u z
      exact ⟨ha, by rw [List.length_map]; exact hl, vs, _, hvals, ha⟩
    · exact Classical.byContradiction fun hb => z (if_neg hb)
/-- what k_head leaves -/
theorem walk_q {l : PySem.W.OpenLaw} {n k : Nat} {q : Program} {loose : List Str} {XP : (Str → Option Value) → Heap → Prop} {YP : World → Heap → Prop} {d : DefRec} {K : Params → PySem.W.Frag} {x : Str} {F : List D → List MO → R D}
    (hn : l.most = some n) (hn2 : n ≤ sizeLine) (hdf : d.params.defaults = []) (hr : Room k callerA) (hY : ∀ (w : World) (h : Heap), YP w h → (K w.params).In h)
    (hF : ∀ (w : World) (mg : Str → Option Value) (fa : Addr) (h : Heap), (K w.params).In h → h.Ns mainGlobals mg → mg d.name = some (.ref fa) →
      ∃ (fd : FuncData) (C : CT), (∀ (s : Shared) (u : Value), BindsTo s fd ⟨[u], []⟩ [(x, u)]) ∧ ∀ base : Heap, (K w.params).In base → base.Ns mainGlobals mg → FnQ l.prog w (K w.params) mg base C k fa fd [x] F)
    (hlaw : ∀ ns : List Int, ns.length ≤ n → F [.lst (ns.map D.int)] [] = .ok (.bl true) []) :
    PySem.W.WalkO q loose XP YP l.row.toRowW d [] (fun f vs => PySem.call f vs) := by
  refine Att.attach_call hn hdf fun w s₀ s₁ mg mb fa o pm cd doc a vs ns G Y ho hd hcd hmg hobj hints hlen hg => ?_
  have kx := hY w _ Y
  obtain ⟨fd, C, hb, hF'⟩ := hF w mg fa _ kx G.T.g hmg
  exact law_q kx G.T.g G.T.b G.T.builtins G.T.nolimit hg hobj hints (Nat.le_trans hlen hn2) hr hF' hb (hlaw ns hlen)
end Bk

set_option Elab.async false
set_option linter.all false
set_option maxRecDepth 100000
set_option maxHeartbeats 2000000
namespace Bk
open PySem PySem.Spec PyProof.Rows L2

/-! ### what operations compute -/
def listD (M : List MO) : D → Option (List D)
  | .lst ds => some ds
  | .ref k => match M[k]? with
    | some (.lst ds) => some ds
    | _ => none
  | _ => none
def itemsD (M : List MO) : D → Option (List D)
  | .tup ds => some ds
  | .ptu ds => some ds
  | d => listD M d
section
variable {K : PySem.W.Frag} {H Z : Hp} {ι : Nat → Addr} {M : List MO} {d : D} {ds : List D} {v : V}
theorem listD_run (hr : HR K H Z ι M) (r : Rp K Z ι M.length d v) (h : listD M d = some ds) : ∃ a xs, v = .ref a ∧ ExL K H a xs ∧ Rps K Z ι M.length ds xs := by
  cases r with
  | lst s r =>
    cases h
    exact ⟨_, _, rfl, subL hr.sub s, r⟩
  | ref hk =>
    rename_i k
    have h' : (match M[k]? with
      | some (.lst ds) => some ds
      | _ => none) = some ds := h
    cases e : M[k]? with
    | none => rw [e] at h'; cases h'
    | some o =>
      rw [e] at h'
      cases o with
      | dead => cases h'
      | dct ks0 vs0 => cases h'
      | dki kvs0 => cases h'
      | tab nm0 => cases h'
      | obj nm fs => cases h'
      | lst es =>
        cases h'
        obtain ⟨xs, e1, r1⟩ := hr.obj k _ e
        exact ⟨_, xs, rfl, .inl (.of e1), r1⟩
  | _ => cases h
theorem itemsD_run (hr : HR K H Z ι M) (r : Rp K Z ι M.length d v) (h : itemsD M d = some ds) : ∃ a xs, v = .ref a ∧ (ExL K H a xs ∨ SqT K H a xs) ∧ Rps K Z ι M.length ds xs := by
  cases r with
  | tup s r =>
    cases h
    exact ⟨_, _, rfl, .inr (subT hr.sub s), r⟩
  | ptu s r =>
    cases h
    exact ⟨_, _, rfl, .inr (subT hr.sub s.sq), r⟩
  | lst s r =>
    obtain ⟨a, xs, h1, h2, h3⟩ := listD_run hr (.lst s r) h
    exact ⟨a, xs, h1, .inl h2, h3⟩
  | ref hk =>
    obtain ⟨a, xs, h1, h2, h3⟩ := listD_run hr (.ref hk) h
    exact ⟨a, xs, h1, .inl h2, h3⟩
  | _ => cases h
end
def iop (c : Int → Int → Bool) (g : Int → Int → D) (_ : List MO) : D → D → Option D
  | .int i, .int j => if c i j = true then some (g i j) else none
  | _, _ => none
section
variable {X : Cx}
theorem OpR.or {f : Value → Value → Sem Value} {r r' : R2} (h : OpR X f r) (h' : OpR X f r') : OpR X f (fun x y H Q => r x y H Q ∨ r' x y H Q) := fun pins s σ H x y v u Q I rx ry q =>
  q.elim (h pins s σ H x y v u Q I rx ry) (h' pins s σ H x y v u Q I rx ry)
theorem UnR.or {f : Value → Sem Value} {r r' : V → Hp → VK → Prop} (h : UnR X f r) (h' : UnR X f r') : UnR X f (fun x H Q => r x H Q ∨ r' x H Q) := fun pins s σ H x v Q I rx q => q.elim (h pins s σ H x v Q I rx) (h' pins s σ H x v Q I rx)
/-- either of two functions, as the second finds none -/
def orD (f f' : List MO → D → D → Option D) (M : List MO) (x y : D) : Option D := (f M x y).or (f' M x y)
theorem Ok2.or {r r' : R2} {f f' : List MO → D → D → Option D} (h : Ok2 X r f) (h' : Ok2 X r' f') : Ok2 X (fun x y H Q => r x y H Q ∨ r' x y H Q) (orD f f') := fun x y H Z ι M dx dy d Q hr rx ry e q => by
  unfold orD at e
  cases e1 : f M dx dy with
  | some d' =>
    rw [e1] at e
    cases e
    exact .inl (h x y H Z ι M dx dy _ Q hr rx ry e1 q)
  | none =>
    rw [e1] at e
    exact .inr (h' x y H Z ι M dx dy _ Q hr rx ry e q)
/-- how a value without parts is handed on -/
def flatVD : V → Option D
  | .non => some .non
  | .bl b => some (.bl b)
  | .int i => some (.int i)
  | .str x => some (.str x)
  | _ => none
theorem flat_rp {K : PySem.W.Frag} {Z : Hp} {ι : Nat → Addr} {n : Nat} {v : V} {d : D} (h : flatVD v = some d) : Rp K Z ι n d v := by
  cases v with
  | non => cases h; exact .non
  | bl b => cases h; exact .bl b
  | int i => cases h; exact .int i
  | str x => cases h; exact .str x
  | _ => cases h
theorem ok_rI {P : Int → Int → Prop} {gV : Int → Int → V} {c : Int → Int → Bool} {g : Int → Int → D} (hc : ∀ i j, c i j = true → P i j) (hg : ∀ i j, flatVD (gV i j) = some (g i j)) : Ok2 X (rI P gV) (iop c g) := fun x y H Z ι M dx dy d Q hr rx ry e q => by
  cases rx with
  | int i =>
    cases ry with
    | int j =>
      have e' : (if c i j = true then some (g i j) else none) = some d := e
      by_cases hh : c i j = true
      · rw [if_pos hh] at e'
        cases e'
        exact ⟨i, j, rfl, rfl, hc i j hh, q.now hr (flat_rp (hg i j))⟩
      · rw [if_neg hh] at e'
        cases e'
    | _ => cases e
  | _ => cases ry <;> cases e
def yes2 (_ _ : Int) : Bool := true
theorem ok_rI0 {gV : Int → Int → V} {g : Int → Int → D} (hg : ∀ i j, flatVD (gV i j) = some (g i j)) : Ok2 X (rI0 gV) (iop yes2 g) := fun x y H Z ι M dx dy d Q hr rx ry e q => by
  cases rx with
  | int i =>
    cases ry with
    | int j =>
      cases e
      exact ⟨i, j, rfl, rfl, q.now hr (flat_rp (hg i j))⟩
    | _ => cases e
  | _ => cases ry <;> cases e
/-! numbers -/
def dSub := iop yes2 fun i j => .int (i - j)
def mulOk (i j : Int) : Bool := (decide (-(2 ^ 64) < i) && decide (i < 2 ^ 64)) || (decide (-(2 ^ 64) < j) && decide (j < 2 ^ 64)) || decide (i.natAbs.log2 + j.natAbs.log2 < 1000000)
def fdivOk (_ j : Int) : Bool := decide (0 < j) && decide (j.natAbs.log2 < 9000)
def dFdiv := iop fdivOk fun i j => .int (i / j)
def modOk (_ j : Int) : Bool := decide (0 < j)
def dMod := iop modOk fun i j => .int (i % j)
def dMul := iop mulOk fun i j => .int (i * j)
def powOk (i j : Int) : Bool := decide (0 ≤ j) && decide (j ≤ 1000000) && decide (i.natAbs < 2 ^ 64)
def dPow := iop powOk fun i j => .int (i ^ j.toNat)
theorem ok_sub : Ok2 X (rI0 fun i j => .int (i - j)) dSub := ok_rI0 fun _ _ => rfl
theorem ok_fdiv : Ok2 X (rI CDivW fun i j => .int (i / j)) dFdiv := ok_rI (fun i j h => by
  simp only [fdivOk, Bool.and_eq_true, decide_eq_true_eq] at h
  exact h) fun _ _ => rfl
theorem op_modP : OpR X (binaryOp .Mod) (rI (fun _ j => 0 < j) fun i j => .int (i % j)) := fun pins s σ H x y v u Q I rx ry ⟨i, j, h1, h2, h3, q⟩ =>
  op_modN pins s σ H x y v u Q I rx ry ⟨i, j, h1, h2, by omega, by
    have h4 : (0 : Int) < j := h3
    show Q (V.int (i.fmod j)) H
    rw [Int.fmod_eq_emod_of_nonneg i (by omega)]
    exact q⟩
theorem ok_mod : Ok2 X (rI (fun _ j => 0 < j) fun i j => .int (i % j)) dMod := ok_rI (fun i j h => of_decide_eq_true h) fun _ _ => rfl
theorem op_mulA : OpR X (binaryOp .Mult) (rI (fun i j => mulOk i j = true) fun i j => .int (i * j)) := fun pins s σ H x y v u Q I rx ry ⟨i, j, h1, h2, h3, q⟩ => by
  simp only [mulOk, Bool.or_eq_true, Bool.and_eq_true, decide_eq_true_eq] at h3
  rcases h3 with h3 | h3
  · exact op_mul pins s σ H x y v u Q I rx ry ⟨i, j, h1, h2, h3, q⟩
  · exact op_mulW pins s σ H x y v u Q I rx ry ⟨i, j, h1, h2, h3, q⟩
theorem ok_mul : Ok2 X (rI (fun i j => mulOk i j = true) fun i j => .int (i * j)) dMul := ok_rI (fun i j h => h) fun _ _ => rfl
theorem ok_pow : Ok2 X (rI CPow fun i j => .int (i ^ j.toNat)) dPow := ok_rI (fun i j h => by
  simp only [powOk, Bool.and_eq_true, decide_eq_true_eq] at h
  exact ⟨h.1.1, h.1.2, h.2⟩) fun _ _ => rfl
def dLt := iop yes2 fun i j => .bl (decide (i < j))
def dLe := iop yes2 fun i j => .bl (decide (i ≤ j))
def dGt := iop yes2 fun i j => .bl (decide (j < i))
def dGe := iop yes2 fun i j => .bl (decide (j ≤ i))
theorem ok_ge : Ok2 X (rI0 fun i j => .bl (decide (j ≤ i))) dGe := ok_rI0 fun _ _ => rfl

/-! adding -/
def catT (_ : List MO) : D → D → Option D
  | .tup a, .tup b => if a.length + b.length ≤ sizeLine then some (.tup (a ++ b)) else none
  | _, _ => none
def catL (M : List MO) (x y : D) : Option D := match listD M x, listD M y with
  | some a, some b => if a.length + b.length ≤ sizeLine then some (.lst (a ++ b)) else none
  | _, _ => none
def addI (M : List MO) : D → D → Option D
  | .int i, .int j => some (.int (i + j))
  | .str x, .str y => if x.length + y.length ≤ sizeLine then some (.str (x ++ y)) else none
  | .tup a, y => catT M (.tup a) y
  | x, y => catL M x y
def dAdd := addI
def rCatS (K : PySem.W.Frag) : R2 := fun x y H Q => ∃ l b xs zs, x = .ref l ∧ y = .ref b ∧ ExL K H l xs ∧ ExL K H b zs ∧ xs.length + zs.length ≤ sizeLine ∧ ∀ p, H p = none → Q (.ref p) (upd H p (.lst (xs ++ zs)))
theorem op_catS : OpR X (binaryOp .Add) (rCatS X.K) := by
  intro pins s σ H x y v u Q I rx ry h
  obtain ⟨l, b, xs, zs, rfl, rfl, hx, hz, hs, q⟩ := h
  cases rx
  cases ry
  obtain ⟨its, m1, r1, e1, _⟩ := hx.at_ I
  obtain ⟨its2, m2, r2, e2, _⟩ := hz.at_ I
  refine PySem.P.add_list e1 e2 ?_ (by rw [List.size_toArray, List.size_toArray, ← r1.length, ← r2.length]; exact hs)
  have ea : its.toArray ++ its2.toArray = (its ++ its2).toArray := by simp
  rw [ea]
  exact ⟨.ref _, _, I.lnew (t' := s.toks) (r1.append r2) (by rw [List.length_append]; exact hs), rfl, q _ I.fresh⟩
abbrev rAdd (K : PySem.W.Frag) : R2 := fun x y H Q => (rI0 (fun i j => .int (i + j)) x y H Q ∨ (∃ i j, x = .str i ∧ y = .str j ∧ i.length + j.length ≤ sizeLine ∧ Q (.str (i ++ j)) H)) ∨ (rCatA K x y H Q ∨ rCatS K x y H Q)
theorem op_addA : OpR X (binaryOp .Add) (rAdd X.K) := (op_add.or op_add_str).or (op_catA.or op_catS)
theorem ok_add : Ok2 X (rAdd X.K) dAdd := fun x y H Z ι M dx dy d Q hr rx ry e q => by
  have lists : ∀ {dx : D}, Rp X.K Z ι M.length dx x → catL M dx dy = some d → rAdd X.K x y H Q := fun {dx} rx e => by
    unfold catL at e
    cases e1 : listD M dx with
    | none => rw [e1] at e; cases e
    | some a =>
      cases e2 : listD M dy with
      | none => rw [e1, e2] at e; cases e
      | some b =>
        rw [e1, e2] at e
        simp only at e
        by_cases c : a.length + b.length ≤ sizeLine
        · rw [if_pos c] at e
          cases e
          obtain ⟨p1, xs, rfl, s1, r1⟩ := listD_run hr rx e1
          obtain ⟨p2, ys, rfl, s2, r2⟩ := listD_run hr ry e2
          exact .inr (.inr ⟨p1, p2, xs, ys, rfl, rfl, s1, s2, by rw [← r1.length, ← r2.length]; exact c, q.lst hr (r1.append r2)⟩)
        · rw [if_neg c] at e
          cases e
  cases rx with
  | int i =>
    cases ry with
    | int j =>
      cases e
      exact .inl (.inl ⟨i, j, rfl, rfl, q.now hr (.int _)⟩)
    | _ => cases e
  | dct s r t => cases e
  | lam s r => cases e
  | exn s r q w => cases e
  | exv q w => cases e
  | dcx q w => cases e
  | ptu s r => cases e
  | str a =>
    cases ry with
    | str b =>
      have e' : (if a.length + b.length ≤ sizeLine then some (D.str (a ++ b)) else none) = some d := e
      by_cases c : a.length + b.length ≤ sizeLine
      · rw [if_pos c] at e'
        cases e'
        exact .inl (.inr ⟨a, b, rfl, rfl, c, q.now hr (.str _)⟩)
      · rw [if_neg c] at e'
        cases e'
    | _ => cases e
  | tup s1 r1 =>
    rename_i a p1 xs
    cases ry with
    | tup s2 r2 =>
      rename_i b p2 ys
      have e' : (if a.length + b.length ≤ sizeLine then some (D.tup (a ++ b)) else none) = some d := e
      by_cases c : a.length + b.length ≤ sizeLine
      · rw [if_pos c] at e'
        cases e'
        refine .inr (.inl ⟨p1, p2, xs, ys, rfl, rfl, subT hr.sub s1, subT hr.sub s2, by rw [← r1.length, ← r2.length]; exact c, fun z => ?_, fun _ z => ?_, fun _ _ => q.tup hr (r1.append r2)⟩)
        · have : a = [] := List.length_eq_zero_iff.mp (by rw [r1.length, z]; rfl)
          subst this
          exact q.now hr (.tup s2 r2)
        · have : b = [] := List.length_eq_zero_iff.mp (by rw [r2.length, z]; rfl)
          subst this
          rw [List.append_nil] at q
          exact q.now hr (.tup s1 r1)
      · rw [if_neg c] at e'
        cases e'
    | _ => cases e
  | lst s1 r1 => exact lists (.lst s1 r1) e
  | ref hk => exact lists (.ref hk) e
  | non => cases ry <;> cases e
  | bl b => cases ry <;> cases e

/-! is None -/
def dIsN (_ : List MO) : D → D → Option D
  | .non, .non => some (.bl true)
  | _, .non => some (.bl false)
  | _, _ => none
def dNotN (_ : List MO) : D → D → Option D
  | .non, .non => some (.bl false)
  | _, .non => some (.bl true)
  | _, _ => none
/-! equal data -/
mutual
/-- data without refs -/
def toP : D → Option PyData
  | .non => some .none
  | .bl b => some (.bool b)
  | .int i => some (.int i)
  | .str x => some (.str x)
  | .tup ds => (toPs ds).map .tuple
  | .lst ds => (toPs ds).map .list
  | .ref _ => none
  | .dct _ _ => none
  | .ptu ds => (toPs ds).map .tuple
  | .lam _ _ => none
  | .exn _ _ _ => none
  | .exv _ _ _ _ => none
  | .dcx _ _ => none
def toPs : List D → Option (List PyData)
  | [] => some []
  | d :: ds => match toP d, toPs ds with
    | some p, some ps => some (p :: ps)
    | _, _ => none
end
/-- a list of ours, and those in it, as they stand -/
def deref1 (M : List MO) : D → D
  | .ref k => match M[k]? with
    | some (.lst ds) => .lst ds
    | _ => .ref k
  | d => d
def deref (M : List MO) (d : D) : D := match deref1 M d with
  | .lst ds => .lst (ds.map (deref1 M))
  | d => d
section
variable {K : PySem.W.Frag} {H Z : Hp} {ι : Nat → Addr} {n : Nat} {M : List MO}
mutual
theorem toP_dp (hs : Sub Z H) : ∀ (d : D) (v : V) (p : PyData), Rp K Z ι n d v → toP d = some p → Dp K H v p
  | .non, _, p, h, e => by cases h; cases e; exact .non
  | .bl b, _, p, h, e => by cases h; cases e; exact .bl b
  | .int i, _, p, h, e => by cases h; cases e; exact .int i
  | .str x, _, p, h, e => by cases h; cases e; exact .str x
  | .tup ds, _, p, h, e => by
    cases h with
    | tup s r =>
      have e' : (toPs ds).map PyData.tuple = some p := e
      cases e2 : toPs ds with
      | none => rw [e2] at e'; cases e'
      | some ps =>
        rw [e2] at e'
        cases e'
        exact .tup (subT hs s) (toPs_dp hs ds _ ps r e2)
  | .lst ds, _, p, h, e => by
    cases h with
    | lst s r =>
      have e' : (toPs ds).map PyData.list = some p := e
      cases e2 : toPs ds with
      | none => rw [e2] at e'; cases e'
      | some ps =>
        rw [e2] at e'
        cases e'
        exact .lst (subL hs s).sq (toPs_dp hs ds _ ps r e2)
  | .ref k, _, p, h, e => by cases e
  | .dct _ _, _, p, h, e => by cases e
  | .ptu ds, _, p, h, e => by
    cases h with
    | ptu s r =>
      have e' : (toPs ds).map PyData.tuple = some p := e
      cases e2 : toPs ds with
      | none => rw [e2] at e'; cases e'
      | some ps =>
        rw [e2] at e'
        cases e'
        exact .tup (subT hs s.sq) (toPs_dp hs ds _ ps r e2)
  | .lam _ _, _, p, h, e => by cases e
  | .exn _ _ _, _, p, h, e => by cases e
  | .exv _ _ _ _, _, p, h, e => by cases e
  | .dcx _ _, _, p, h, e => by cases e
theorem toPs_dp (hs : Sub Z H) : ∀ (ds : List D) (vs : List V) (ps : List PyData), Rps K Z ι n ds vs → toPs ds = some ps → DpAll K H vs ps
  | [], _, ps, h, e => by cases h; cases e; exact .nil
  | d :: ds, _, ps, h, e => by
    cases h with
    | cons r rs =>
      have e' : (match toP d, toPs ds with
        | some p, some ps => some (p :: ps)
        | _, _ => none) = some ps := e
      cases e1 : toP d with
      | none => rw [e1] at e'; cases e'
      | some p =>
        cases e2 : toPs ds with
        | none => rw [e1, e2] at e'; cases e'
        | some qs =>
          rw [e1, e2] at e'
          cases e'
          exact .cons (toP_dp hs d _ p r e1) (toPs_dp hs ds _ qs rs e2)
end
theorem deref1_dp (hr : HR K H Z ι M) {d : D} {v : V} {p : PyData} (r : Rp K Z ι M.length d v) (e : toP (deref1 M d) = some p) : Dp K H v p := by
  cases r with
  | ref hk =>
    rename_i k
    have e' : toP (match M[k]? with
      | some (.lst ds) => .lst ds
      | _ => .ref k) = some p := e
    cases e1 : M[k]? with
    | none => rw [e1] at e'; cases e'
    | some o =>
      rw [e1] at e'
      cases o with
      | dead => cases e'
      | dct ks0 vs0 => cases e'
      | dki kvs0 => cases e'
      | tab nm0 => cases e'
      | obj nm fs => cases e'
      | lst ds =>
        have e2 : (toPs ds).map PyData.list = some p := e'
        obtain ⟨xs, h1, r1⟩ := hr.obj k _ e1
        cases e3 : toPs ds with
        | none => rw [e3] at e2; cases e2
        | some ps =>
          rw [e3] at e2
          cases e2
          exact .lst (.of h1) (toPs_dp hr.sub ds _ ps r1 e3)
  | non => exact toP_dp (ι := ι) (n := M.length) hr.sub _ _ _ .non e
  | bl b => exact toP_dp (ι := ι) (n := M.length) hr.sub _ _ _ (.bl b) e
  | int i => exact toP_dp (ι := ι) (n := M.length) hr.sub _ _ _ (.int i) e
  | str x => exact toP_dp (ι := ι) (n := M.length) hr.sub _ _ _ (.str x) e
  | tup s r => exact toP_dp hr.sub _ _ _ (.tup s r) e
  | dct s r t => cases e
  | lam s r => cases e
  | exn s r q w => cases e
  | exv q w => cases e
  | dcx q w => cases e
  | ptu s r => exact toP_dp hr.sub _ _ _ (.ptu s r) e
  | lst s r => exact toP_dp hr.sub _ _ _ (.lst s r) e
theorem deref1s_dp (hr : HR K H Z ι M) : ∀ {ds : List D} {vs : List V} {ps : List PyData}, Rps K Z ι M.length ds vs → toPs (ds.map (deref1 M)) = some ps → DpAll K H vs ps
  | [], _, ps, h, e => by cases h; cases e; exact .nil
  | d :: ds, _, ps, h, e => by
    cases h with
    | cons r rs =>
      have e' : (match toP (deref1 M d), toPs (ds.map (deref1 M)) with
        | some p, some ps => some (p :: ps)
        | _, _ => none) = some ps := e
      cases e1 : toP (deref1 M d) with
      | none => rw [e1] at e'; cases e'
      | some p =>
        cases e2 : toPs (ds.map (deref1 M)) with
        | none => rw [e1, e2] at e'; cases e'
        | some qs =>
          rw [e1, e2] at e'
          cases e'
          exact .cons (deref1_dp hr r e1) (deref1s_dp hr rs e2)
theorem deref_dp (hr : HR K H Z ι M) {d : D} {v : V} {p : PyData} (r : Rp K Z ι M.length d v) (e : toP (deref M d) = some p) : Dp K H v p := by
  have two : ∀ {ds : List D} {a : Addr} {xs : List V}, SqL K H a xs → Rps K Z ι M.length ds xs → toP (.lst (ds.map (deref1 M))) = some p → Dp K H (.ref a) p := fun {ds a xs} s r e => by
    have e' : (toPs (ds.map (deref1 M))).map PyData.list = some p := e
    cases e2 : toPs (ds.map (deref1 M)) with
    | none => rw [e2] at e'; cases e'
    | some ps =>
      rw [e2] at e'
      cases e'
      exact .lst s (deref1s_dp hr r e2)
  cases r with
  | lst s r => exact two (subL hr.sub s).sq r e
  | ref hk =>
    rename_i k
    cases e1 : M[k]? with
    | none =>
      have : deref M (.ref k) = .ref k := by simp [deref, deref1, e1]
      rw [this] at e
      cases e
    | some o =>
      cases o with
      | dead =>
        have : deref M (.ref k) = .ref k := by simp [deref, deref1, e1]
        rw [this] at e
        cases e
      | dct ks0 vs0 =>
        have : deref M (.ref k) = .ref k := by simp [deref, deref1, e1]
        rw [this] at e
        cases e
      | tab nm0 =>
        have : deref M (.ref k) = .ref k := by simp [deref, deref1, e1]
        rw [this] at e
        cases e
      | dki kvs0 =>
        have : deref M (.ref k) = .ref k := by simp [deref, deref1, e1]
        rw [this] at e
        cases e
      | obj nm fs =>
        have : deref M (.ref k) = .ref k := by simp [deref, deref1, e1]
        rw [this] at e
        cases e
      | lst ds =>
        have : deref M (.ref k) = .lst (ds.map (deref1 M)) := by simp [deref, deref1, e1]
        rw [this] at e
        obtain ⟨xs, h1, r1⟩ := hr.obj k _ e1
        exact two (.of h1) r1 e
  | non => exact toP_dp (ι := ι) (n := M.length) hr.sub _ _ _ .non e
  | bl b => exact toP_dp (ι := ι) (n := M.length) hr.sub _ _ _ (.bl b) e
  | int i => exact toP_dp (ι := ι) (n := M.length) hr.sub _ _ _ (.int i) e
  | str x => exact toP_dp (ι := ι) (n := M.length) hr.sub _ _ _ (.str x) e
  | tup s r => exact toP_dp hr.sub _ _ _ (.tup s r) e
  | dct s r t => cases e
  | lam s r => cases e
  | exn s r q w => cases e
  | exv q w => cases e
  | dcx q w => cases e
  | ptu s r => exact toP_dp hr.sub _ _ _ (.ptu s r) e
end
def eqP (M : List MO) (x y : D) : Option Bool := match toP (deref M x), toP (deref M y) with
  | some p, some q => if (SeqAt.shaped p && SeqAt.shaped q) = true then some (PyData.eqv p q) else none
  | _, _ => none
def dEq (M : List MO) (x y : D) : Option D := (eqP M x y).map D.bl
def dNe (M : List MO) (x y : D) : Option D := (eqP M x y).map fun b => D.bl (!b)
theorem eqP_run {K : PySem.W.Frag} {H Z : Hp} {ι : Nat → Addr} {M : List MO} {dx dy : D} {x y : V} {b : Bool} (hr : HR K H Z ι M) (rx : Rp K Z ι M.length dx x) (ry : Rp K Z ι M.length dy y) (e : eqP M dx dy = some b) :
    ∃ p q, Dp K H x p ∧ Dp K H y q ∧ SeqAt.shaped p = true ∧ SeqAt.shaped q = true ∧ PyData.eqv p q = b := by
  unfold eqP at e
  cases e1 : toP (deref M dx) with
  | none => rw [e1] at e; cases e
  | some p =>
    cases e2 : toP (deref M dy) with
    | none => rw [e1, e2] at e; cases e
    | some q =>
      rw [e1, e2] at e
      simp only at e
      by_cases c : (SeqAt.shaped p && SeqAt.shaped q) = true
      · rw [if_pos c] at e
        rw [Bool.and_eq_true] at c
        exact ⟨p, q, deref_dp hr rx e1, deref_dp hr ry e2, c.1, c.2, Option.some.inj e⟩
      · rw [if_neg c] at e
        cases e
theorem ok_eq : Ok2 X (rEqD X.K) dEq := fun x y H Z ι M dx dy d Q hr rx ry e q => by
  unfold dEq at e
  cases e1 : eqP M dx dy with
  | none => rw [e1] at e; cases e
  | some b =>
    rw [e1] at e
    cases e
    obtain ⟨p, p', h1, h2, h3, h4, h5⟩ := eqP_run hr rx ry e1
    exact ⟨p, p', h1, h2, h3, h4, by rw [h5]; exact q.now hr (.bl b)⟩
theorem ok_ne : Ok2 X (rNeD X.K) dNe := fun x y H Z ι M dx dy d Q hr rx ry e q => by
  unfold dNe at e
  cases e1 : eqP M dx dy with
  | none => rw [e1] at e; cases e
  | some b =>
    rw [e1] at e
    cases e
    obtain ⟨p, p', h1, h2, h3, h4, h5⟩ := eqP_run hr rx ry e1
    exact ⟨p, p', h1, h2, h3, h4, by rw [h5]; exact q.now hr (.bl _)⟩
end
end Bk

set_option Elab.async false
set_option linter.all false
set_option maxRecDepth 100000
set_option maxHeartbeats 2000000
namespace Bk
open PySem PySem.Spec PyProof.Rows L2
section
variable {X : Cx}
/-! a list times a number -/
def rRepS (K : PySem.W.Frag) : R2 := fun x y H Q => ∃ l k xs, x = .ref l ∧ y = .int k ∧ ExL K H l xs ∧ -(2 ^ 63) ≤ k ∧ k < 2 ^ 63 ∧ xs.length * k.toNat ≤ sizeLine ∧ ∀ p, H p = none → Q (.ref p) (upd H p (.lst (List.replicate k.toNat xs).flatten))
theorem op_repS : OpR X (binaryOp .Mult) (rRepS X.K) := by
  intro pins s σ H x y v u Q I rx ry h
  obtain ⟨l, k, xs, rfl, rfl, hx, k1, k2, hz, q⟩ := h
  cases rx
  obtain ⟨tk, rfl⟩ := ry
  obtain ⟨its, m, rv, eo, _⟩ := hx.at_ I
  have hl := rv.length
  have size : its.toArray.size * k.toNat ≤ sizeLine := by rw [List.size_toArray, ← hl]; exact hz
  have cap : ¬ its.toArray.size * k.toNat > (2 ^ 63 - 1) / 8 := Nat.not_lt.mpr (Nat.le_trans size (by decide))
  have fit : ¬ (!Builtin.List.listFitsIndex k) = true := by
    rw [fitsIndex_both k1 k2]
    exact Bool.false_ne_true
  have long : ¬ Builtin.List.listTooLong (its.toArray.size * k.toNat) = true := by
    rw [notLongL size]
    exact Bool.false_ne_true
  have made : List.foldl (fun a b => a ++ b) #[] (List.replicate (if its.toArray.isEmpty = true then 0 else k.toNat) its.toArray) = (List.replicate k.toNat its).flatten.toArray := by
    have any : ∀ j : Nat, List.foldl (fun a b => a ++ b) #[] (List.replicate j its.toArray) = (List.replicate j its).flatten.toArray := fun j => by simpa using foldl_rep its j []
    rw [any]
    cases its with
    | nil => simp
    | cons a r' => simp
  refine wpAny_binaryOp_repeat_ref (T := "list") (U := "int") (by decide) ⟨_, eo, rfl⟩ (fun s' => typeIs_int s' k tk) noFill_list_mul F.fills_int_mul F.slot_int_rmul repeat_list F.slot_int_index.lookup ?_
  refine call_meets F.slot_int_rmul (typeIs_int s k tk) F.entry_int_rmul (F.args_int_rmul_2 _ _) (int___rmul___int_list k tk l its.toArray m) ⟨eo, rfl, ⟨_, eo, rfl⟩, ?_⟩
  refine call_meets F.slot_list_mul ⟨_, eo, rfl⟩ F.entry_list_mul (F.args_list_mul_2 _ _) (AutoListH.list___mul___list_int_3 l its.toArray m k tk fit cap long) ⟨eo, ?_⟩
  rw [made]
  exact ⟨.ref _, _, I.lnew (t' := s.toks) (rv.rep k.toNat) (by rw [PyProof.Rows.lm_len_rep_flat, Nat.mul_comm]; exact hz), rfl, q _ I.fresh⟩
def repI (M : List MO) (x : D) : D → Option D
  | .int k => match listD M x with
    | some a => if decide (k < 2 ^ 63) && decide (-(2 ^ 63) ≤ k) && decide (a.length * k.toNat ≤ sizeLine) then some (.lst (List.replicate k.toNat a).flatten) else none
    | none => none
  | _ => none
def dMulA (M : List MO) : D → D → Option D
  | .int i, y => dMul M (.int i) y
  | x, y => repI M x y
abbrev rMulA (K : PySem.W.Frag) : R2 := fun x y H Q => rI (fun i j => mulOk i j = true) (fun i j => .int (i * j)) x y H Q ∨ rRepS K x y H Q
theorem op_mulL : OpR X (binaryOp .Mult) (rMulA X.K) := op_mulA.or op_repS
theorem ok_mulL : Ok2 X (rMulA X.K) dMulA := fun x y H Z ι M dx dy d Q hr rx ry e q => by
  have lists : ∀ {dx : D}, Rp X.K Z ι M.length dx x → repI M dx dy = some d → rMulA X.K x y H Q := fun {dx} rx e => by
    cases ry with
    | int k =>
      have e' : (match listD M dx with
        | some a => if decide (k < 2 ^ 63) && decide (-(2 ^ 63) ≤ k) && decide (a.length * k.toNat ≤ sizeLine) then some (D.lst (List.replicate k.toNat a).flatten) else none
        | none => none) = some d := e
      cases e1 : listD M dx with
      | none => rw [e1] at e'; cases e'
      | some a =>
        rw [e1] at e'
        simp only at e'
        by_cases c : (decide (k < 2 ^ 63) && decide (-(2 ^ 63) ≤ k) && decide (a.length * k.toNat ≤ sizeLine)) = true
        · rw [if_pos c] at e'
          cases e'
          simp only [Bool.and_eq_true, decide_eq_true_eq] at c
          obtain ⟨p1, xs, rfl, s1, r1⟩ := listD_run hr rx e1
          exact .inr ⟨p1, k, xs, rfl, rfl, s1, c.1.2, c.1.1, by rw [← r1.length]; exact c.2, q.lst hr (r1.rep k.toNat)⟩
        · rw [if_neg c] at e'
          cases e'
    | _ => cases e
  cases rx with
  | dct s_ r_ t_ => first | (cases e; done) | (cases hd; done) | (cases h; done) | (cases h1; done) | (cases e1; done) | (cases h'; done) | (cases ei; done) | (cases e'; done) | exact h.elim | exact h1.elim | exact h2.elim | exact .inl (lists (.dct s_ r_ t_) hd) | exact lists (.dct s_ r_ t_) e
  | ptu s_ r_ => first | exact seqs (.ptu s_ r_) e | (cases e; exact .base (.tup (subT hr.sub s_.sq))) | (cases e; done) | (cases hd; done) | (cases h; done) | (cases h1; done) | (cases e1; done) | (cases h'; done) | (cases ei; done) | (cases e'; done) | exact h.elim | exact h1.elim | exact h2.elim | exact .inl (lists (.ptu s_ r_) hd) | exact lists (.ptu s_ r_) e
  | lam s_ r_ => exact lists (.lam s_ r_) e
  | exn s_ r_ q_ w_ => exact lists (.exn s_ r_ q_ w_) e
  | exv q_ w_ => exact lists (.exv q_ w_) e
  | dcx q_ w_ => exact lists (.dcx q_ w_) e
  | int i => exact .inl (ok_mul (X := X) _ _ H Z ι M _ _ d Q hr (.int i) ry e q)
  | lst s1 r1 => exact lists (.lst s1 r1) e
  | ref hk => exact lists (.ref hk) e
  | tup s1 r1 => exact lists (.tup s1 r1) e
  | non => exact lists .non e
  | bl b => exact lists (.bl b) e
  | str b => exact lists (.str b) e
/-! minus -/
def dNeg (_ : List MO) : D → Option D
  | .int i => some (.int (-i))
  | _ => none
theorem ok_neg : Ok1 X (rU fun i => .int (-i)) dNeg := fun x H Z ι M dx d Q hr rx e q => by
  cases rx with
  | int i =>
    cases e
    exact ⟨i, rfl, q.now hr (.int _)⟩
  | _ => cases e
/-! items -/
def dIx (M : List MO) (x : D) : D → Option D
  | .int i => (itemsD M x).bind fun ds => atI ds i
  | _ => none
theorem atI_rp {K : PySem.W.Frag} {Z : Hp} {ι : Nat → Addr} {n : Nat} {ds : List D} {vs : List V} {i : Int} {d : D} (r : Rps K Z ι n ds vs) (h : atI ds i = some d) : ∃ v, atI vs i = some v ∧ Rp K Z ι n d v := by
  unfold atI at h
  cases e : ixN ds.length i with
  | none => rw [e] at h; cases h
  | some j =>
    rw [e] at h
    obtain ⟨v, h1, h2⟩ := r.get (i := j) h
    refine ⟨v, ?_, h2⟩
    unfold atI
    rw [← r.length, e]
    exact h1
abbrev rIxA (K : PySem.W.Frag) : R2 := fun x y H Q => rIxL K x y H Q ∨ rIxT K x y H Q
theorem ix_A : IxR X (rIxA X.K) := ix_list.or ix_tup
theorem ok_ix : Ok2 X (rIxA X.K) dIx := fun x y H Z ι M dx dy d Q hr rx ry e q => by
  cases ry with
  | int i =>
    have e' : (itemsD M dx).bind (fun ds => atI ds i) = some d := e
    cases e1 : itemsD M dx with
    | none => rw [e1] at e'; cases e'
    | some ds =>
      rw [e1] at e'
      obtain ⟨a, xs, rfl, s, r⟩ := itemsD_run hr rx e1
      obtain ⟨v, h1, h2⟩ := atI_rp r e'
      rcases s with s | s
      · exact .inl ⟨a, xs, i, v, rfl, rfl, s.sq, h1, q.now hr h2⟩
      · exact .inr ⟨a, xs, i, v, rfl, rfl, s, h1, q.now hr h2⟩
  | _ => cases e
/-! in -/
def toV : D → Option V
  | .non => some .non
  | .bl b => some (.bl b)
  | .int i => some (.int i)
  | .str x => some (.str x)
  | _ => none
def toVs : List D → Option (List V)
  | [] => some []
  | d :: ds => match toV d, toVs ds with
    | some v, some vs => some (v :: vs)
    | _, _ => none
def inP (M : List MO) (x y : D) : Option Bool := match toV x, (itemsD M y).bind toVs with
  | some v, some vs => some (inV v vs)
  | _, _ => none
def dIn (M : List MO) (x y : D) : Option D := (inP M x y).map D.bl
def dNotIn (M : List MO) (x y : D) : Option D := (inP M x y).map fun b => D.bl (!b)
/-! slices -/
abbrev GO := Env → List MO → R (Option Int)
abbrev rpO : RpK (Option Int) (Option Int) := fun _ _ _ a b => a = b
def QO (X : Cx) (C : CT) (W : WX) (e : Option Expr) (g : GO) : Prop := ∃ te, PO X e te ∧ ∀ (σ : St) (H Z : Hp) (ι : Nat → Addr) (Γ : Env) (M : List MO) (Q : Option Int → Hp → Prop), Slots X.K Z ι M.length Γ σ → HR X.K H Z ι M → Post X C W rpO σ H Z ι M (g Γ M) Q → te σ H Q
def gNoO : GO := fun _ M => .ok none M
def toI : D → Option Int
  | .int i => some i
  | _ => none
def gO (ge : GE) : GO := fun Γ M => (ge Γ M).bind fun d M1 => opR ((toI d).map some) M1
variable {C : CT} {W : WX}
theorem qo_none : QO X C W none gNoO := ⟨_, po_none, fun σ H Z ι Γ M Q sl hr h => h none H Z ι .refl hr rfl⟩
theorem qo_some {e : Expr} {g : GE} (h : QE X C W e g) : QO X C W (some e) (gO g) := by
  obtain ⟨t, p, q⟩ := h
  refine ⟨_, po_some p, fun σ H Z ι Γ M Q sl hr h => q σ H Z ι Γ M _ sl hr (h.bind fun x M1 v H1 Z1 ι1 e1 hr1 r1 h1 => ?_)⟩
  cases r1 with
  | int i => exact ⟨i, rfl, h1 _ H1 Z1 ι1 .refl hr1 rfl⟩
  | _ => exact h1.elim
def cutD (ds : List D) (lo hi : Option Int) : List D := (ds.drop (HT.sIx ds.length 0 lo)).take (HT.sIx ds.length ds.length hi - HT.sIx ds.length 0 lo)
def dCut (M : List MO) (lo hi : Option Int) : D → Option D
  | .tup ds => some (.tup (cutD ds lo hi))
  | d => (listD M d).map fun ds => .lst (cutD ds lo hi)
def gSl (ge : GE) (lo hi : GO) : GE := fun Γ M => (ge Γ M).bind fun x M1 => (lo Γ M1).bind fun a M2 => (hi Γ M2).bind fun b M3 => opR (dCut M3 a b x) M3
theorem cut_rps {K : PySem.W.Frag} {Z : Hp} {ι : Nat → Addr} {n : Nat} {ds : List D} {vs : List V} (r : Rps K Z ι n ds vs) (lo hi : Option Int) : Rps K Z ι n (cutD ds lo hi) (cutV vs lo hi) := by
  unfold cutD cutV
  rw [r.length]
  exact (r.drop _).take _
theorem qe_slice {e : Expr} {lo hi : Option Expr} {g : GE} {gl gh : GO} {pos p2 : Pos} (he : QE X C W e g) (hl : QO X C W lo gl) (hh : QO X C W hi gh) : QE X C W (.Subscript e (.Slice lo hi none p2) pos) (gSl g gl gh) := by
  obtain ⟨t, p, q⟩ := he
  obtain ⟨tl, pl, ql⟩ := hl
  obtain ⟨th, ph, qh⟩ := hh
  refine ⟨_, pe_slice (sl_list.or sl_tupA) p pl ph, fun σ H Z ι Γ M Q sl hr h => q σ H Z ι Γ M _ sl hr (h.bind fun x M1 v H1 Z1 ι1 e1 hr1 r1 h1 => ql σ H1 Z1 ι1 Γ M1 _ (sl.ext e1) hr1 (h1.bind fun a M2 a' H2 Z2 ι2 e2 hr2 ra h2 =>
    qh σ H2 Z2 ι2 Γ M2 _ ((sl.ext e1).ext e2) hr2 (h2.bind fun b M3 b' H3 Z3 ι3 e3 hr3 rb h3 => ?_)))⟩
  have ra' : a = a' := ra
  have rb' : b = b' := rb
  subst ra' rb'
  obtain ⟨d, hd, h4⟩ := Post.of_opR (γ := D) (δ := V) h3
  have r3 := (r1.ext e2).ext e3
  have q3 := h4.after
  have lists : ∀ {dx : D}, Rp X.K Z3 ι3 M3.length dx v → (listD M3 dx).map (fun ds => D.lst (cutD ds a b)) = some d → rSlL X.K v a b H3 Q := fun {dx} rx e => by
    cases e1 : listD M3 dx with
    | none => rw [e1] at e; cases e
    | some ds =>
      rw [e1] at e
      cases e
      obtain ⟨p1, xs, rfl, s1, r1⟩ := listD_run hr3 rx e1
      exact ⟨p1, xs, rfl, s1.sq, q3.lst hr3 (cut_rps r1 a b)⟩
  cases r3 with
  | dct s_ r_ t_ => first | (cases e; done) | (cases hd; done) | (cases h; done) | (cases h1; done) | (cases e1; done) | (cases h'; done) | (cases ei; done) | (cases e'; done) | exact h.elim | exact h1.elim | exact h2.elim | exact .inl (lists (.dct s_ r_ t_) hd) | exact lists (.dct s_ r_ t_) e
  | ptu s_ r_ => first | exact seqs (.ptu s_ r_) e | (cases e; exact .base (.tup (subT hr.sub s_.sq))) | (cases e; done) | (cases hd; done) | (cases h; done) | (cases h1; done) | (cases e1; done) | (cases h'; done) | (cases ei; done) | (cases e'; done) | exact h.elim | exact h1.elim | exact h2.elim | exact .inl (lists (.ptu s_ r_) hd) | exact lists (.ptu s_ r_) e
  | lam s_ r_ => first | (cases e; done) | (cases hd; done) | (cases h; done) | (cases h1; done) | (cases e1; done) | (cases h'; done) | (cases ei; done) | (cases e'; done) | exact h.elim | exact h1.elim | exact h2.elim | exact .inl (lists (.lam s_ r_) hd) | exact lists (.lam s_ r_) e | exact seqs (.lam s_ r_) e
  | exn s_ r_ q_ w_ => first | (cases e; done) | (cases hd; done) | (cases h; done) | (cases h1; done) | (cases e1; done) | (cases h'; done) | (cases ei; done) | (cases e'; done) | exact h.elim | exact h1.elim | exact h2.elim | exact .inl (lists (.exn s_ r_ q_ w_) hd) | exact lists (.exn s_ r_ q_ w_) e | exact seqs (.exn s_ r_ q_ w_) e
  | exv q_ w_ => first | (cases e; done) | (cases hd; done) | (cases h; done) | (cases h1; done) | (cases e1; done) | (cases h'; done) | (cases ei; done) | (cases e'; done) | exact h.elim | exact h1.elim | exact h2.elim | exact .inl (lists (.exv q_ w_) hd) | exact lists (.exv q_ w_) e | exact seqs (.exv q_ w_) e
  | dcx q_ w_ => first | (cases e; done) | (cases hd; done) | (cases h; done) | (cases h1; done) | (cases e1; done) | (cases h'; done) | (cases ei; done) | (cases e'; done) | exact h.elim | exact h1.elim | exact h2.elim | exact .inl (lists (.dcx q_ w_) hd) | exact lists (.dcx q_ w_) e | exact seqs (.dcx q_ w_) e
  | tup s r =>
    rename_i ds a0 xs
    cases hd
    refine .inr ⟨a0, xs, rfl, subT hr3.sub s, fun z => ?_, fun _ => q3.tup hr3 (cut_rps r a b)⟩
    have ec : cutD ds a b = ds := by
      unfold cutD
      rw [r.length, z.1, z.2, List.drop_zero, Nat.sub_zero, ← r.length, List.take_length]
    rw [ec] at q3
    exact q3.now hr3 (.tup s r)
  | lst s r => exact .inl (lists (.lst s r) hd)
  | ref hk => exact .inl (lists (.ref hk) hd)
  | non => cases hd
  | bl b => cases hd
  | int b => cases hd
  | str b => cases hd
end
end Bk

set_option Elab.async false
set_option linter.all false
set_option maxRecDepth 100000
set_option maxHeartbeats 2000000
namespace Bk
open PySem PySem.Spec PyProof.Rows L2
section
variable {X : Cx}
theorem rps1 {K : PySem.W.Frag} {Z : Hp} {ι : Nat → Addr} {n : Nat} {d : D} {vs : List V} (r : Rps K Z ι n [d] vs) : ∃ v, vs = [v] ∧ Rp K Z ι n d v := by
  cases r with
  | cons r rs =>
    cases rs
    exact ⟨_, rfl, r⟩
/-- a function of one argument -/
def fn1 (f : List MO → D → Option D) (M : List MO) : List D → Option D
  | [d] => f M d
  | _ => none
theorem OkA.of1 {r : List V → Hp → VK → Prop} {f : List MO → D → Option D} (h : Ok1 X (fun x H Q => r [x] H Q) f) : OkA X r (fn1 f) := fun xs H Z ι M ds d Q hr rx e q => by
  match ds, e, rx with
  | [d0], e, rx =>
    obtain ⟨v, rfl, r1⟩ := rps1 rx
    exact h v H Z ι M d0 d Q hr r1 e q
def fn2 (f : List MO → D → D → Option D) (M : List MO) : List D → Option D
  | [d, e] => f M d e
  | _ => none
/-! len -/
def dLen (M : List MO) : D → Option D
  | .str x => if x.length ≤ sizeLine then some (.int x.length) else none
  | d => (itemsD M d).map fun ds => .int ds.length
/-! int -/
def dInt (_ : List MO) : D → Option D
  | .int i => some (.int i)
  | .bl b => some (.int (if b then 1 else 0))
  | _ => none
/-! str of a number -/
def dStr (_ : List MO) : D → Option D
  | .int i => if i.natAbs.log2 < 1920 then some (.str (toString i)) else none
  | _ => none
/-! min, max, sum, all, any -/
def dMin2 (_ : List MO) : D → D → Option D
  | .int i, .int j => some (.int (if j < i then j else i))
  | _, _ => none
def dMax2 (_ : List MO) : D → D → Option D
  | .int i, .int j => some (.int (if j > i then j else i))
  | _, _ => none
def intsD : List D → Option (List Int)
  | [] => some []
  | .int i :: ds => (intsD ds).map (i :: ·)
  | _ => none
def blsD : List D → Option (List Bool)
  | [] => some []
  | .bl i :: ds => (blsD ds).map (i :: ·)
  | _ => none
theorem blsD_is {K : PySem.W.Frag} {Z : Hp} {ι : Nat → Addr} {n : Nat} : ∀ {ds : List D} {vs : List V} {is : List Bool}, Rps K Z ι n ds vs → blsD ds = some is → vs = is.map V.bl
  | [], _, _, r, h => by cases r; cases h; rfl
  | .bl i :: ds, _, _, r, h => by
    cases r with
    | cons r rs =>
      have h' : (blsD ds).map (i :: ·) = some _ := h
      cases e : blsD ds with
      | none => rw [e] at h'; cases h'
      | some js =>
        rw [e] at h'
        cases h'
        cases r
        rw [blsD_is rs e]
        rfl
  | .non :: _, _, _, _, h => by cases h
  | .int _ :: _, _, _, _, h => by cases h
  | .str _ :: _, _, _, _, h => by cases h
  | .tup _ :: _, _, _, _, h => by cases h
  | .lst _ :: _, _, _, _, h => by cases h
  | .ref _ :: _, _, _, _, h => by cases h
@[simp] theorem intsD_map (is : List Int) : intsD (is.map D.int) = some is := by
  induction is with
  | nil => rfl
  | cons i is ih => simp [intsD, ih]
@[simp] theorem blsD_map (is : List Bool) : blsD (is.map D.bl) = some is := by
  induction is with
  | nil => rfl
  | cons i is ih => simp [blsD, ih]
def maxI : List Int → Int
  | [] => 0
  | [i] => i
  | i :: j :: r => let m := maxI (j :: r); if m ≤ i then i else m
def ofInts (f : List Int → Option D) (M : List MO) (d : D) : Option D := ((listD M d).bind intsD).bind f
def ofBls (f : List Bool → D) (M : List MO) (d : D) : Option D := ((listD M d).bind blsD).map f
def dSum := ofInts fun is => some (.int is.sum)
def dMax := ofInts fun is => if is = [] then none else some (.int (maxI is))
def dAll := ofBls fun bs => .bl (bs.all id)
theorem ofBls_run {K : PySem.W.Frag} {H Z : Hp} {ι : Nat → Addr} {M : List MO} {f : List Bool → D} {dx d : D} {x : V} (hr : HR K H Z ι M) (r : Rp K Z ι M.length dx x) (e : ofBls f M dx = some d) : ∃ a is, x = .ref a ∧ SqL K H a (is.map V.bl) ∧ f is = d := by
  unfold ofBls at e
  cases e1 : listD M dx with
  | none => rw [e1] at e; cases e
  | some ds =>
    rw [e1, Option.bind_some] at e
    cases e2 : blsD ds with
    | none => rw [e2] at e; cases e
    | some is =>
      rw [e2] at e
      cases e
      obtain ⟨a, xs, rfl, s, r2⟩ := listD_run hr r e1
      rw [blsD_is r2 e2] at s
      exact ⟨a, is, rfl, s.sq, rfl⟩
theorem ok_all : Ok1 X (fun x H Q => rAll X.K [x] H Q) dAll := fun x H Z ι M dx d Q hr rx e q => by
  obtain ⟨a, is, rfl, s, rfl⟩ := ofBls_run hr rx e
  exact ⟨a, is, rfl, s, q.now hr (.bl _)⟩
/-! list(x), tuple(x) -/
end
/-! list(range(..)) -/
section
variable {X : Cx} {C : CT} {W : WX} {a b e : Expr} {ga gb : GE} {p pos p2 pos2 : Pos}
def rngOk (i j : Int) : Bool := inR i && inR j && decide ((j - i).toNat ≤ 2 ^ 24)
def gRgL (own : Bool) (ga gb : GE) : GE := fun Γ M => (ga Γ M).bind fun x M1 => (gb Γ M1).bind fun y M2 => match x, y with
  | .int i, .int j => if rngOk i j = true then (if own = true then .ok (.ref M2.length) (M2 ++ [.lst (rngL i (j - i).toNat)]) else .ok (.lst (rngL i (j - i).toNat)) M2) else .bad
  | _, _ => .bad
/-! isinstance -/
def tyName (M : List MO) : D → Option String
  | .non => some "NoneType"
  | .bl _ => some "bool"
  | .int _ => some "int"
  | .str _ => some "str"
  | .tup _ => some "tuple"
  | .lst _ => some "list"
  | .dct _ _ => some "dict"
  | .lam _ _ => none
  | .exn _ _ _ => none
  | .exv _ _ _ _ => none
  | .dcx _ _ => some "dict"
  | .ptu _ => some "tuple"
  | .ref k => match M[k]? with
    | some (.lst _) => some "list"
    | _ => none
def dIsi (T : String) (M : List MO) (d : D) : Option D := (tyName M d).bind fun t => (kitB t T).map D.bl
def anyB (t : String) : List String → Option Bool
  | [] => some false
  | T :: Ts => match kitB t T with
    | some true => some true
    | some false => anyB t Ts
    | none => none
def dIsiT (Ts : List String) (M : List MO) (d : D) : Option D := (tyName M d).bind fun t => (anyB t Ts).map D.bl
end
end Bk

set_option Elab.async false
set_option linter.all false
set_option maxRecDepth 100000
set_option maxHeartbeats 2000000
namespace Bk
open PySem PySem.Spec PyProof.Rows L2
/-! ### what changes a list of ours -/
/-- a method: the list as it was, the argument; the list as it is, the answer -/
abbrev MF := List MO → List D → D → Option (List D × D)
abbrev MF0 := List D → Option (List D × D)
def isListD (M : List MO) (d : D) : Bool := (listD M d).isSome
def mutR (M : List MO) (x : D) (f : List D → Option (List D × D)) : R D := match x with
  | .ref k => match M[k]? with
    | some (.lst ds) => match f ds with
      | some (ds', r) => .ok r (M.set k (.lst ds'))
      | none => .bad
    | _ => .bad
  | _ => .bad
def gMeth1 (f : MF) (go ge : GE) : GE := fun Γ M => (go Γ M).bind fun x M1 => if isListD M1 x = true then (ge Γ M1).bind fun y M2 => mutR M2 x fun ds => f M2 ds y else .bad
def gMeth0 (f : MF0) (go : GE) : GE := fun Γ M => (go Γ M).bind fun x M1 => mutR M1 x f
section
variable {X : Cx} {C : CT} {W : WX}
def mAppend : MF := fun _ ds y => if ds.length < sizeLine then some (ds ++ [y], .non) else none
/-! xs[i] = e -/
def setR (M : List MO) (o i v : D) : Option (List MO) := match o, i with
  | .ref k, .int j => match M[k]? with
    | some (.lst ds) => match ixN ds.length j with
      | some m => some (M.set k (.lst (ds.set m v)))
      | none => none
    | _ => none
  | _, _ => none
def gSetI (ge go gi : GE) : GS := fun Γ M => (ge Γ M).thenS Γ fun v M1 => (go Γ M1).thenS Γ fun o M2 => (gi Γ M2).thenS Γ fun i M3 => match setR M3 o i v with
  | some M4 => .nx Γ M4
  | none => .bad
theorem qs_setI {o i e : Expr} {go gi ge : GE} {pos spos : Pos} (he : QE X C W e ge) (ho : QE X C W o go) (hi : QE X C W i gi) (hs : swapsWithSole [Expr.Subscript o i spos] e pos.line X.env = pure false := by rfl) (hp : swappedStores [Expr.Subscript o i spos] e X.env = pure none := by rfl)
    (h1 : (assignEach [Expr.Subscript o i spos] X.env).map (·.2) = [assign (Expr.Subscript o i spos) X.env] := by rfl)
    (ha : ∀ v, assign (.Subscript o i spos) X.env v = (do let ov ← holding [v] (eval o X.env); let iv ← holding [v, ov] (eval i X.env); standAt spos; holding [v, ov, iv] (setItem ov iv v); release [v, ov, iv] []) := by intro _; rfl) :
    QS X C W (.Assign [.Subscript o i spos] e pos) (gSetI ge go gi) := by
  obtain ⟨te, pe, qe⟩ := he
  obtain ⟨to, po, qo⟩ := ho
  obtain ⟨ti, pi, qi⟩ := hi
  refine ⟨_, ps_asg pe (pg_sub po pi set_list ha) hs hp h1, fun Dd σ H Z ι Γ M sl hr h => qe σ H Z ι Γ M _ sl hr (PostS.bind h sl fun v M1 v' H1 Z1 ι1 e1 hr1 r1 h1 => qo σ H1 Z1 ι1 Γ M1 _ (sl.ext e1) hr1 (PostS.bind h1 (sl.ext e1) fun o M2 o' H2 Z2 ι2 e2 hr2 r2 h2 =>
    qi σ H2 Z2 ι2 Γ M2 _ ((sl.ext e1).ext e2) hr2 (PostS.bind h2 ((sl.ext e1).ext e2) fun i M3 i' H3 Z3 ι3 e3 hr3 r3 h3 => ?_)))⟩
  have ro := r2.ext e3
  have rv := (r1.ext e2).ext e3
  have sl3 := ((sl.ext e1).ext e2).ext e3
  cases es : setR M3 o i v with
  | none => rw [es] at h3; exact h3.elim
  | some M4 =>
    rw [es] at h3
    unfold setR at es
    cases ro with
    | ref hk =>
      rename_i k
      cases r3 with
      | int j =>
        simp only at es
        cases ek : M3[k]? with
        | none => rw [ek] at es; cases es
        | some u =>
          rw [ek] at es
          cases u with
          | dead => cases es
          | dct ks0 vs0 => cases es
          | dki kvs0 => cases es
          | tab nm0 => cases es
          | obj nm fs => cases es
          | lst ds =>
            simp only at es
            cases em : ixN ds.length j with
            | none => rw [em] at es; cases es
            | some m =>
              rw [em] at es
              cases es
              obtain ⟨xs, a1, a2⟩ := hr3.obj k _ ek
              obtain ⟨b1, b2⟩ := hr3.change ek (a2.set m rv)
              exact ⟨_, xs, j, m, rfl, rfl, a1, by rw [← a2.length]; exact em, h3 σ _ Z3 ι3 b2 b1 (sl3.ext b2)⟩
      | _ => cases es
    | _ => cases es
/-! x += e -/
def gAug (i : Nat) (f : Int → Int → Int) (ge : GE) : GS := fun Γ M => match Γ[i]? with
  | some (some (.int a)) => (ge Γ M).thenS Γ fun y M1 => match y with
    | .int b => .nx (Γ.set i (some (.int (f a b)))) M1
    | _ => .bad
  | _ => .bad
/-! repr -/
end
end Bk

set_option Elab.async false
set_option linter.all false
set_option maxRecDepth 100000
set_option maxHeartbeats 2000000
namespace Bk
open PySem PySem.Spec PyProof.Rows L2
/-! ### enumerate and zip of lists and tuples -/
inductive Src where
  | l (a : Addr) | t (a : Addr)
namespace Src
def addr : Src → Addr
  | .l a => a
  | .t a => a
def here (K : PySem.W.Frag) (H : Hp) (xs : List V) : Src → Prop
  | .l a => SqL K H a xs
  | .t a => SqT K H a xs
def it (h : Heap) (i : Addr) (n : Nat) : Src → Prop
  | .l a => h.IsListIter i a n
  | .t a => h.IsTupleIter i a n
def arr (h : Heap) (items : Array Value) : Src → Prop
  | .l a => h.IsList a items
  | .t a => h.IsTuple a items
def obj : Src → Obj
  | .l a => { cls := .type "list_iterator", data := .fields #[.ref a, .int 0 0] }
  | .t a => { cls := .type "tuple_iterator", data := .fields #[.ref a, .int 0 0] }
theorem begins (S : Src) (items : Array Value) : Begins (.ref S.addr) S.obj fun h => S.arr h items := by
  cases S with
  | l a => exact begins_list a items
  | t a => exact begins_tuple a items
theorem draws {prog : Program} {w : World} {A : Around} (hh : A.handled = none) (S : Src) (i : Addr) (hne : S.addr ≠ i) (items : Array Value) :
    Draws prog w A i [i, S.addr] items.size (fun n v => items[n]? = some v) (fun n h => S.it h i n ∧ S.arr h items) := by
  cases S with
  | l a => exact Draws.list hh i a hne items
  | t a => exact Draws.tuple hh i a hne items
theorem inv {X : Cx} {pins : List (Addr × Obj)} {σ : L2.St} {H : Hp} {s : Shared} {xs : List V} (I : Inv X pins σ H s) {S : Src} (h : S.here X.K H xs) : ∃ its : List Value, Vals xs its ∧ S.arr s.heap its.toArray := by
  cases S with
  | l a =>
    obtain ⟨its, r, p, _⟩ := I.list h
    exact ⟨its, r, p.isList⟩
  | t a =>
    obtain ⟨its, r, p, _⟩ := I.tuple h
    exact ⟨its, r, p⟩
theorem inj {X : Cx} {pins : List (Addr × Obj)} {σ : L2.St} {H : Hp} {s : Shared} {xs ys : List V} (I : Inv X pins σ H s) {S : Src} (h : S.here X.K H xs) (h' : S.here X.K H ys) : xs = ys := by
  cases S with
  | l a => exact I.list_inj h h'
  | t a => exact I.tuple_inj h h'
theorem start {S : Src} {h : Heap} {i : Addr} (e : h.get? i = some S.obj) : S.it h i 0 := by
  cases S with
  | l a => exact ⟨_, e, rfl, rfl⟩
  | t a => exact ⟨_, e, rfl, rfl⟩
theorem it_at {S : Src} {h h' : Heap} {i : Addr} {n : Nat} (x : S.it h i n) (k : ∀ o, h.get? i = some o → h'.get? i = some o) : S.it h' i n := by
  cases S with
  | l a =>
    have y : h.IsListIter i a n := x
    exact y.at k
  | t a =>
    have y : h.IsTupleIter i a n := x
    exact y.at k
theorem it_obj {S : Src} {h : Heap} {i : Addr} {n : Nat} (x : S.it h i n) : ∃ o, h.get? i = some o ∧ ∀ v, o.data ≠ .cell v := by
  cases S with
  | l a =>
    obtain ⟨o, ho, _, hd⟩ := (show h.IsListIter i a n from x)
    exact ⟨o, ho, fun v q => by rw [hd] at q; cases q⟩
  | t a =>
    obtain ⟨o, ho, _, hd⟩ := (show h.IsTupleIter i a n from x)
    exact ⟨o, ho, fun v q => by rw [hd] at q; cases q⟩
theorem arr_ne {S : Src} {h : Heap} {items : Array Value} {b : Addr} {ob : Obj} (x : S.arr h items) (e : h.get? b = some ob) (hd : ∀ its n, ob.data ≠ .seq its n) : S.addr ≠ b := by
  cases S with
  | l a =>
    obtain ⟨o, ho, _, m, hdd⟩ := (show h.IsList a items from x)
    intro z
    have z' : a = b := z
    rw [z', e] at ho
    cases ho
    exact hd _ _ hdd
  | t a =>
    obtain ⟨o, ho, _, m, hdd⟩ := (show h.IsTuple a items from x)
    intro z
    have z' : a = b := z
    rw [z', e] at ho
    cases ho
    exact hd _ _ hdd
theorem arr_it {S : Src} {h : Heap} {items : Array Value} {i : Addr} {n : Nat} (x : S.arr h items) (y : S.it h i n) : S.addr ≠ i := by
  cases S with
  | l a =>
    obtain ⟨o, ho, _, m, hd⟩ := (show h.IsList a items from x)
    obtain ⟨o', ho', _, hd'⟩ := (show h.IsListIter i a n from y)
    intro z
    have z' : a = i := z
    rw [z', ho'] at ho
    cases ho
    rw [hd] at hd'
    cases hd'
  | t a =>
    obtain ⟨o, ho, _, m, hd⟩ := (show h.IsTuple a items from x)
    obtain ⟨o', ho', _, hd'⟩ := (show h.IsTupleIter i a n from y)
    intro z
    have z' : a = i := z
    rw [z', ho'] at ho
    cases ho
    rw [hd] at hd'
    cases hd'
end Src
set_option maxHeartbeats 4000000 in
theorem meets_enum1 {v : Value} {o : Obj} {H : Heap → Prop} (B : Begins v o H) :
    Meets (Builtin.«enumerate.__new__» ⟨[.type "enumerate", v], []⟩) (fun _ R s => H s.heap ∧ R (.ok (.ret (.ref (s.heap.push o).objs.size)))
      { s with heap := (s.heap.push o).push { cls := .type "enumerate", data := .fields #[.none, .bool false, .ref s.heap.objs.size, rawInt 0, .none, .none] } }) :=
  .of_wp fun prog w A R s hs => by
    obtain ⟨hp, g, d, tk, os⟩ := s
    obtain ⟨hH, hR⟩ := hs
    have subs := sub_enumerate
    have iter : ∀ {A' : Around} {E : Value → Shared → Prop} {Q : Value → Shared → Prop}, Q (.ref hp.objs.size) ⟨hp.push o, g, d, tk, os⟩ → wpAny (model prog w) A' (pyIter v) Q E ⟨hp, g, d, tk, os⟩ := fun q => B.iter prog w _ _ _ _ hH q
    wp_walk using iter
    refine wpAny_stack_any fun _ => wpAny_pure ?_
    split
    · rename_i c _ _ _ _ _
      cases (c == Value.type "enumerate") <;> (wp_walk using iter; exact ⟨_, rfl, hR⟩)
    · wp_walk using iter
      exact ⟨_, rfl, hR⟩
theorem call_enum1 {prog : Program} {w : World} {A : Around} {E : Value → Shared → Prop} {s : Shared} {v : Value} {o : Obj} {H : Heap → Prop} {Q : Value → Shared → Prop} (B : Begins v o H) (hH : H s.heap)
    (h : ∀ h', IsEnum h' (s.heap.objs.size + 1) s.heap.objs.size 0 .none → h'.get? s.heap.objs.size = some o → (∀ b u, s.heap.get? b = some u → h'.get? b = some u) → Q (.ref (s.heap.objs.size + 1)) { s with heap := h' }) :
    wpAny (model prog w) A (call (.type "enumerate") [v]) Q E s := by
  refine callType_new F.called_enumerate (by decide) (F.typeCall_enumerate_1 _) (F.newCall_enumerate_1 _) (fun ob => F.args_object_init_2 ob _) F.entry_enumerate_new (meets_enum1 B) ⟨hH, ?_⟩
  have sz : (s.heap.push o).objs.size = s.heap.objs.size + 1 := Heap.size_push ..
  show _ ∧ _
  rw [sz]
  have e := Heap.get?_push_size (s.heap.push o) (o := { cls := .type "enumerate", data := .fields #[.none, .bool false, .ref s.heap.objs.size, rawInt 0, .none, .none] }) rfl
  rw [sz] at e
  exact ⟨⟨_, e, rfl⟩, h _ e (Heap.get?_push_of_some _ (Heap.get?_push_size _ B.free)) fun b u x => Heap.get?_push_of_some _ (Heap.get?_push_of_some _ x)⟩
/-! the turns -/
def Ien (K : PySem.W.Frag) (S : Src) (k0 : Int) : It :=
  ⟨fun n H => ∃ (xs : List V) (x : V), S.here K H xs ∧ xs[n]? = some x, fun n H v H' => ∃ T x, v = .ref T ∧ H T = none ∧ H' = upd H T (.tup [.int (k0 + (n : Nat)), x]) ∧ ∀ xs, S.here K H xs → xs[n]? = some x, fun n H => ∃ xs : List V, S.here K H xs ∧ xs.length = n⟩
theorem turn_en {P : Program} {w : World} {K : PySem.W.Frag} {elts : List Expr} {kk : Nat} {tpos : Pos} (S : Src) (k0 : Int) (e i : Addr) :
    Turn P w K (.Tuple elts kk tpos) (Ien K S k0) [e, i] e (fun n h => (∃ old, IsEnum h e i (k0 + (n : Nat)) old) ∧ S.it h i n ∧ e ≠ i) where
  mem := List.mem_cons_self
  obj := fun n h st b hb => by
    obtain ⟨⟨old, he⟩, hi, _⟩ := st
    rcases List.mem_cons.mp hb with z | z
    · subst z
      exact ⟨_, he, fun v q => nomatch q⟩
    · have z' : b = i := by simpa using z
      subst z'
      exact Src.it_obj hi
  keep := fun n h h' st k => by
    obtain ⟨⟨old, he⟩, hi, ne⟩ := st
    exact ⟨⟨old, k e (by simp) _ he⟩, Src.it_at hi fun o q => k i (by simp) o q, ne⟩
  item := by
    intro X hP hw hK hc n pins s σ H E I hf st hg
    subst hP hw hK
    obtain ⟨⟨old, he⟩, hi, ne⟩ := st
    obtain ⟨xs, x, hq, hx⟩ := hg
    obtain ⟨its, rv, har⟩ := Src.inv I hq
    obtain ⟨u, hu, ru⟩ := rv.get hx
    obtain ⟨oi, hoi, _⟩ := Src.it_obj hi
    have hh : X.A.in1.handled = none := I.ok.hd hc
    have a1 : S.addr ≠ e := Src.arr_ne har he (fun _ _ q => nomatch q)
    have a2 := Src.arr_it har hi
    have Wk := WalksT.enumFrom k0 (Src.draws (prog := X.prog) (w := X.w) hh S i a2 its.toArray) e ne (by simp only [List.mem_cons, List.not_mem_nil, or_false, not_or]; exact ⟨ne, fun z => a1 z.symm⟩) (by simp)
    have ln : n < its.toArray.size := by
      have := (List.getElem?_eq_some_iff.mp hu).1
      simpa using this
    refine Wk.item n s _ E ln ⟨⟨old, he⟩, hi, har⟩ fun T vals h' tk hP hT hTup hMid hk => ⟨_, rfl, Wk.go elts kk tpos n T _ _ _ hMid fun h2 hSt hk2 => ?_⟩
    obtain ⟨t, x', hx', hvals⟩ := hP
    subst hvals
    have ex : x' = u := by
      have q : its.toArray[n]? = some u := by simpa using hu
      rw [hx'] at q
      exact Option.some.inj q
    subst ex
    have out := Wk.apart n T _ hMid
    have tup2 : h2.IsTuple T #[.int (k0 + (n : Nat)) t, x'] := hTup.at fun o q => hk2 T o out q
    have new : ObjOk X.prog X.w (upd H T (.tup [.int (k0 + (n : Nat)), x])) h2 T (.tup [.int (k0 + (n : Nat)), x]) :=
      ⟨by show 2 ≤ sizeLine; decide, [.int (k0 + (n : Nat)) t, x'], .cons ⟨_, rfl⟩ (.cons ru .nil), tup2⟩
    have J := I.turnedNew (t' := tk) (ch := [e, i]) (fun b ob hb q => hk2 b ob hb (hk b ob hb q)) hf hT new
    refine ⟨.ref T, _, J, rfl, ⟨T, x, rfl, I.hok.fresh hT, rfl, fun ys hy => by rw [Src.inj I hy hq]; exact hx⟩, ?_, fun b hb => ?_⟩
    · obtain ⟨⟨o2, he2⟩, hi2, _⟩ := hSt
      have en : k0 + ((n + 1 : Nat) : Int) = k0 + (n : Nat) + 1 := by push_cast; omega
      exact ⟨⟨o2, by first | exact he2 | (rw [en]; exact he2)⟩, hi2, ne⟩
    · have hb' : b < s.heap.objs.size := by
        rcases List.mem_cons.mp hb with z | z
        · rw [z]; exact Heap.lt_size he
        · have z' : b = i := by simpa using z
          rw [z']; exact Heap.lt_size hoi
      rw [upd_ne (Nat.ne_of_lt (Nat.lt_of_lt_of_le hb' hT))]
      exact (hf b hb).1
  done := by
    intro X hP hw hK hc n pins s σ H E I hf st hg
    subst hP hw hK
    obtain ⟨⟨old, he⟩, hi, ne⟩ := st
    obtain ⟨xs, hq, hx⟩ := hg
    obtain ⟨its, rv, har⟩ := Src.inv I hq
    have hh : X.A.in1.handled = none := I.ok.hd hc
    have a1 : S.addr ≠ e := Src.arr_ne har he (fun _ _ q => nomatch q)
    have Wk := WalksT.enumFrom k0 (Src.draws (prog := X.prog) (w := X.w) hh S i (Src.arr_it har hi) its.toArray) e ne (by simp only [List.mem_cons, List.not_mem_nil, or_false, not_or]; exact ⟨ne, fun z => a1 z.symm⟩) (by simp)
    have en : its.toArray.size = n := by rw [List.size_toArray, ← rv.length]; exact hx
    rw [en] at Wk
    exact Wk.done s _ E ⟨⟨old, he⟩, hi, har⟩ fun h' tk hk => ⟨rfl, I.turnedL (t' := tk) (ch := [e, i]) (fun b ob hb q => hk b ob hb q) hf⟩
  self := fun A n s Q E st h => by
    obtain ⟨⟨_, he⟩, _⟩ := st
    exact wpAny_pyIter_enum he h
end Bk

set_option Elab.async false
set_option linter.all false
set_option maxRecDepth 100000
set_option maxHeartbeats 2000000
namespace Bk
open PySem PySem.Spec PyProof.Rows L2
def enumL (k : Int) : List D → List D
  | [] => []
  | d :: ds => .tup [.int k, d] :: enumL (k + 1) ds
theorem enumL_len : ∀ (ds : List D) (k : Int), (enumL k ds).length = ds.length
  | [], _ => rfl
  | d :: ds, k => by simp [enumL, enumL_len ds]
theorem enumL_get : ∀ (ds : List D) (k : Int) (i : Nat) (x : D), (enumL k ds)[i]? = some x → ∃ d, ds[i]? = some d ∧ x = .tup [.int (k + (i : Nat)), d]
  | [], _, _, _, h => by simp [enumL] at h
  | d :: ds, k, 0, x, h => by
    simp [enumL] at h
    exact ⟨d, rfl, by rw [← h]; simp⟩
  | d :: ds, k, i + 1, x, h => by
    simp only [enumL, List.getElem?_cons_succ] at h
    obtain ⟨d', h1, h2⟩ := enumL_get ds (k + 1) i x h
    refine ⟨d', by simpa using h1, ?_⟩
    rw [h2]
    congr 3
    push_cast
    omega
def zipL : List D → List D → List D
  | d :: ds, e :: es => .tup [d, e] :: zipL ds es
  | _, _ => []
def gEnum (ge : GE) : GI := fun Γ M => (ge Γ M).bind fun d M1 => opR ((seqD d).map (enumL 0)) M1
def gEnumK (ge : GE) (gk : GE) : GI := fun Γ M => (ge Γ M).bind fun d M1 => (gk Γ M1).bind fun k M2 => match k with
  | .int k => if decide (-(2 ^ 63) ≤ k) && decide (k < 2 ^ 63) then opR ((seqD d).map (enumL k)) M2 else .bad
  | _ => .bad
def zipO (x y : D) : Option (List D) := match seqD x, seqD y with
  | some ds, some es => some (zipL ds es)
  | _, _ => none
def gZip (ga gb : GE) : GI := fun Γ M => (ga Γ M).bind fun x M1 => (gb Γ M1).bind fun y M2 => opR (zipO x y) M2
section
variable {X : Cx} {C : CT} {W : WX} {e e2 : Expr} {ge ga gb gk : GE} {p pos tpos : Pos} {elts : List Expr} {kk : Nat}
theorem src_of {K : PySem.W.Frag} {H Z : Hp} {ι : Nat → Addr} {n : Nat} {d : D} {ds : List D} {v : V} (hs : Sub Z H) (r : Rp K Z ι n d v) (h : seqD d = some ds) : ∃ (S : Src) (xs : List V), v = .ref S.addr ∧ S.here K Z xs ∧ Rps K Z ι n ds xs := by
  cases r with
  | lst s r => cases h; exact ⟨.l _, _, rfl, s.sq, r⟩
  | tup s r => cases h; exact ⟨.t _, _, rfl, s, r⟩
  | ptu s r => cases h; exact ⟨.t _, _, rfl, s.sq, r⟩
  | _ => cases h
theorem here_sub {K : PySem.W.Frag} {Z H : Hp} (h : Sub Z H) {S : Src} {xs : List V} : S.here K Z xs → S.here K H xs := by
  cases S with
  | l a =>
    intro q
    rcases (show SqL K Z a xs from q) with (q | ⟨o, q⟩) | q
    · exact .inl (.inl (h _ _ q))
    · exact .inl (.inr ⟨o, h _ _ q⟩)
    · exact .inr q
  | t a => exact fun q => subT h q
theorem itr_en {K : PySem.W.Frag} {Z : Hp} {ι : Nat → Addr} {n : Nat} {S : Src} {xs : List V} {ds : List D} {k : Int} (s : S.here K Z xs) (r : Rps K Z ι n ds xs) : ItR K (Ien K S k) (enumL k ds) Z ι n := by
  intro i H' Z' ι' M' hz hi hn hr _
  have sH : S.here K H' xs := here_sub (fun a o h => hr.sub _ _ (hz _ _ h)) s
  refine ⟨fun hl => ⟨xs, sH, by rw [← r.length, ← enumL_len ds k]; exact hl⟩, fun d hd => ?_⟩
  obtain ⟨d0, h1, rfl⟩ := enumL_get ds k i d hd
  obtain ⟨v, hv, rv⟩ := r.get h1
  refine ⟨⟨xs, v, sH, hv⟩, fun x H2 hy => ?_⟩
  obtain ⟨T, x', rfl, hT, rfl, hx⟩ := hy
  have ex : xs[i]? = some x' := hx _ sH
  rw [hv] at ex
  cases ex
  obtain ⟨q1, q2⟩ := hr.frozen (o := .tup [.int (k + (i : Nat)), v]) hT
  refine ⟨_, q2, q1, .tup (.inl (.inl upd_same)) (.cons (.int _) (.cons ?_ .nil))⟩
  exact Rp.ext (Rp.mono hz hi hn _ _ rv) q2
theorem qi_enum (hg : Gl X "enumerate") (hm : X.mg "enumerate" = none) (ha : QE X C W e ge) (hs : starEach [e] X.env = (false, eval e X.env) :: starEach [] X.env := by rfl) : QI X C W (.Tuple elts kk tpos) (.Call (.Name "enumerate" p) [e] [] pos) (gEnum ge) := by
  obtain ⟨ta, pa, qa⟩ := ha
  refine ⟨fun σ H R => ta σ H fun v H1 => ∃ (S : Src) (xs : List V), v = .ref S.addr ∧ S.here X.K H1 xs ∧ R (Ien X.K S 0) H1, ⟨fun pins s σ H R I h => ?_⟩, fun σ H Z ι Γ M Q sl hr h => qa σ H Z ι Γ M _ sl hr (Post.bind h fun x M1 v H1 Z1 ι1 e1 hr1 r1 h1 => ?_)⟩
  · refine Call_ (ld_blt I hg hm boot_enumerate (PyProof.Rows.callWith_type1 (thn ((pa_cons pa pa_nil hs).run pos pins s σ H (fun vs H1 => ∃ v, vs = [v] ∧ ∃ (S : Src) (xs : List V), v = .ref S.addr ∧ S.here X.K H1 xs ∧ R (Ien X.K S 0) H1) I ?_) fun us s1 hh => ?_) hs rfl))
    · have hmono : (fun x H1 => tNil σ H1 fun xs H2 => ∃ v, x :: xs = [v] ∧ ∃ (S : Src) (ys : List V), v = .ref S.addr ∧ S.here X.K H2 ys ∧ R (Ien X.K S 0) H2) = fun (v : V) (H1 : Hp) => ∃ (S : Src) (xs : List V), v = .ref S.addr ∧ S.here X.K H1 xs ∧ R (Ien X.K S 0) H1 := by
        funext x H1
        apply propext
        constructor
        · rintro ⟨v, ev, q⟩
          cases ev
          exact q
        · intro q
          exact ⟨x, rfl, q⟩
      show ta σ H fun x H1 => tNil σ H1 fun xs H2 => ∃ v, x :: xs = [v] ∧ ∃ (S : Src) (ys : List V), v = .ref S.addr ∧ S.here X.K H2 ys ∧ R (Ien X.K S 0) H2
      rw [hmono]
      exact h
    · obtain ⟨vs, H1, J, r1, v, rfl, S, xs, rfl, hq, q⟩ := hh
      obtain ⟨u, rfl, ru⟩ := Vals.one r1
      cases ru
      obtain ⟨its, rv, har⟩ := Src.inv J hq
      refine call_enum1 (S.begins its.toArray) har fun h' he hit hk => wpAny_pyIter_enum he ?_
      have J2 : Inv X pins σ H1 { s1 with heap := h' } := J.kept (t' := s1.toks) hk
      refine ⟨s1.heap.objs.size + 1, [s1.heap.objs.size + 1, s1.heap.objs.size], _, _, H1, rfl, J2, turn_en S 0 (s1.heap.objs.size + 1) s1.heap.objs.size, ⟨⟨.none, by simpa using he⟩, Src.start hit, Nat.succ_ne_self _⟩, fun b hb => ?_, q⟩
      have le : s1.heap.objs.size ≤ b := by
        rcases List.mem_cons.mp hb with z | z
        · rw [z]; exact Nat.le_succ _
        · have z' : b = s1.heap.objs.size := by simpa using z
          rw [z']
          exact Nat.le_refl _
      exact J.fpOk le (J.hok.fresh le)
  · obtain ⟨items, hd, h2⟩ := Post.of_opR (γ := D) (δ := V) h1
    cases es : seqD x with
    | none => rw [es] at hd; cases hd
    | some ds =>
      rw [es] at hd
      cases hd
      obtain ⟨S, xs, rfl, hS, r⟩ := src_of hr1.sub r1 es
      exact ⟨S, xs, rfl, here_sub hr1.sub hS, h2 _ H1 Z1 ι1 .refl hr1 (itr_en hS r)⟩
end
end Bk

set_option Elab.async false
set_option linter.all false
set_option maxRecDepth 100000
set_option maxHeartbeats 2000000
namespace Bk
open PySem PySem.Spec PyProof.Rows L2
/-! ### a comprehension over a list of ours, which it leaves as it is -/
def gLcW (ge : GE) (gg : GG) (gt : GT) (gel : GE) (own : List Nat) : GE := fun Γ M => (ge Γ M).bind fun d M1 => match d with
  | .ref k => match M1[k]? with
    | some (.lst ds) => (gLcL gg gt gel (forget Γ own) ds [] M1).bind fun acc M2 => .ok (.lst acc) M2
    | _ => .bad
  | _ => .bad
section
variable {X : Cx} {C : CT} {W : WX} {elt tg iter : Expr} {ifs : List Expr} {scope : Scope} {own : List (Str × Nat)} {pos : Pos} {gi : GE} {gg : GG} {gt : GT} {ge : GE} {is ixs : List Nat}
end
end Bk
namespace Bk
open PySem PySem.Spec PyProof.Rows L2
theorem qs_pre {X : Cx} {C : CT} {W : WX} {st : Stmt} {g : GS} (is : List Nat) (h1 : QS X C W st g) : QS X C W st (gSeq (gForget is) g) := by
  obtain ⟨t, p, q⟩ := h1
  exact ⟨t, p, fun Dd σ H Z ι Γ M sl hr h => q Dd σ H Z ι (forget Γ is) M (sl.forget is) hr h⟩
end Bk

set_option Elab.async false
set_option linter.all false
set_option maxRecDepth 100000
set_option maxHeartbeats 2000000
namespace Bk
open PySem PySem.Spec PyProof.Rows L2
/-! ### ==, for texts of any kind as well -/
def dEqA (M : List MO) (x y : D) : Option D := match x, y with
  | .str a, .str b => some (.bl (decide (a = b)))
  | x, y => dEq M x y
def dNeA (M : List MO) (x y : D) : Option D := match x, y with
  | .str a, .str b => some (.bl (!decide (a = b)))
  | x, y => dNe M x y
section
variable {X : Cx}
theorem op_eqA (hu : X.A.units + 64 < cLine) : OpR X (compareOp .Eq) (fun x y H Q => rEqD X.K x y H Q ∨ rEq x y H Q) := (op_eqD hu).or op_eq
theorem op_neA (hu : X.A.units + 64 < cLine) : OpR X (compareOp .NotEq) (fun x y H Q => rNeD X.K x y H Q ∨ rNe x y H Q) := (op_neD hu).or op_ne
theorem str_dec (a b : Str) : decide (V.str a = V.str b) = decide (a = b) := by simp
theorem ok_eqA : Ok2 X (fun x y H Q => rEqD X.K x y H Q ∨ rEq x y H Q) dEqA := fun x y H Z ι M dx dy d Q hr rx ry e q => by
  unfold dEqA at e
  split at e
  · cases e
    cases rx
    cases ry
    exact .inr ⟨rfl, q.now hr (by rw [str_dec]; exact .bl _)⟩
  · exact .inl (ok_eq x y H Z ι M dx dy d Q hr rx ry e q)
theorem ok_neA : Ok2 X (fun x y H Q => rNeD X.K x y H Q ∨ rNe x y H Q) dNeA := fun x y H Z ι M dx dy d Q hr rx ry e q => by
  unfold dNeA at e
  split at e
  · cases e
    cases rx
    cases ry
    exact .inr ⟨rfl, q.now hr (by rw [str_dec]; exact .bl _)⟩
  · exact .inl (ok_ne x y H Z ι M dx dy d Q hr rx ry e q)
end
@[simp] theorem e_eqS (M : List MO) (a b : Str) : dEqA M (.str a) (.str b) = some (.bl (decide (a = b))) := Eq.trans rfl rfl
@[simp] theorem e_neS (M : List MO) (a b : Str) : dNeA M (.str a) (.str b) = some (.bl (!decide (a = b))) := Eq.trans rfl rfl
/-! ### data that is as it is -/
structure Dt (n : Nat) (d : D) (p : PyData) : Prop where
  e : toP d = some p
  l : p.canLay0 = true
  h : p.depth ≤ n
structure Dts (n : Nat) (ds : List D) (ps : List PyData) : Prop where
  e : toPs ds = some ps
  l : PyData.canLayAll0 ps = true
  h : PyData.depthAll ps ≤ n
theorem Dt.int (n : Nat) (i : Int) : Dt n (.int i) (.int i) := ⟨rfl, rfl, Nat.zero_le _⟩
theorem Dt.non (n : Nat) : Dt n .non .none := ⟨rfl, rfl, Nat.zero_le _⟩
theorem Dt.bl (n : Nat) (b : Bool) : Dt n (.bl b) (.bool b) := ⟨rfl, rfl, Nat.zero_le _⟩
theorem Dts.nil (n : Nat) : Dts n [] [] := ⟨rfl, rfl, Nat.zero_le _⟩
theorem Dts.cons {n : Nat} {d : D} {ds : List D} {p : PyData} {ps : List PyData} (h : Dt n d p) (t : Dts n ds ps) : Dts n (d :: ds) (p :: ps) :=
  ⟨by simp [toPs, h.e, t.e], by simp [PyData.canLayAll0, h.l, t.l], by have := h.h; have := t.h; simp only [PyData.depthAll]; omega⟩
theorem Dts.tup {n : Nat} {ds : List D} {ps : List PyData} (h : Dts n ds ps) : Dt (n + 1) (.tup ds) (.tuple ps) := ⟨by simp [toP, h.e], by simpa [PyData.canLay0] using h.l, by have := h.h; simp only [PyData.depth]; omega⟩
theorem Dts.lst {n : Nat} {ds : List D} {ps : List PyData} (h : Dts n ds ps) : Dt (n + 1) (.lst ds) (.list ps) := ⟨by simp [toP, h.e], by simpa [PyData.canLay0] using h.l, by have := h.h; simp only [PyData.depth]; omega⟩
theorem Dts.map {α : Type} {n : Nat} {f : α → D} {g : α → PyData} (xs : List α) (h : ∀ x ∈ xs, Dt n (f x) (g x)) : Dts n (xs.map f) (xs.map g) := by
  induction xs with
  | nil => exact .nil n
  | cons x xs ih => exact .cons (h x (by simp)) (ih fun y hy => h y (by simp [hy]))
theorem Dts.ints (n : Nat) (is : List Int) : Dts n (is.map D.int) (is.map PyData.int) := Dts.map is fun i _ => .int n i
theorem Dt.shaped {n : Nat} {d : D} {p : PyData} (h : Dt n d p) (hn : n ≤ 64) : SeqAt.shaped p = true := by
  have := h.h
  simp [SeqAt.shaped, h.l]
  omega
theorem eqP_of {n m : Nat} {M : List MO} {x y d d' : D} {p q : PyData} (h : Dt n d p) (h' : Dt m d' q) (hx : deref M x = d) (hy : deref M y = d') (hn : n ≤ 64) (hm : m ≤ 64) : eqP M x y = some (PyData.eqv p q) := by
  unfold eqP
  rw [hx, hy, h.e, h'.e]
  simp [h.shaped hn, h'.shaped hm]
theorem eqv_same {p : PyData} (h : p.canLay0 = true) : PyData.eqv p p = true := SeqAt.eqv_refl p h
theorem eqP_same {n : Nat} {M : List MO} {x y d : D} {p : PyData} (h : Dt n d p) (hx : deref M x = d) (hy : deref M y = d) (hn : n ≤ 64) : eqP M x y = some true := by
  rw [eqP_of h h hx hy hn hn, eqv_same h.l]
theorem dEqA_p {M : List MO} {x y : D} {b : Bool} (h : eqP M x y = some b) (hx : ∀ s, x ≠ .str s) : dEqA M x y = some (.bl b) := by
  unfold dEqA
  split
  · exact absurd rfl (hx _)
  · simp [dEq, h]
theorem dNeA_p {M : List MO} {x y : D} {b : Bool} (h : eqP M x y = some b) (hx : ∀ s, x ≠ .str s) : dNeA M x y = some (.bl !b) := by
  unfold dNeA
  split
  · exact absurd rfl (hx _)
  · simp [dNe, h]
@[simp] theorem dEqA_int (M : List MO) (i j : Int) : dEqA M (.int i) (.int j) = some (.bl (decide (i = j))) := by
  rw [dEqA_p (eqP_of (Dt.int 0 i) (Dt.int 0 j) rfl rfl (by decide) (by decide)) (fun _ h => by cases h)]
  simp only [PyData.eqv]
  congr 2
  try rfl
@[simp] theorem dNeA_int (M : List MO) (i j : Int) : dNeA M (.int i) (.int j) = some (.bl (!decide (i = j))) := by
  rw [dNeA_p (eqP_of (Dt.int 0 i) (Dt.int 0 j) rfl rfl (by decide) (by decide)) (fun _ h => by cases h)]
  simp only [PyData.eqv]
  congr 2
  try rfl
mutual
theorem below_toP : ∀ (d : D) (p : PyData), toP d = some p → below 0 d = true
  | .non, _, _ => rfl
  | .bl _, _, _ => rfl
  | .int _, _, _ => rfl
  | .str _, _, _ => rfl
  | .tup ds, p, h => by
    cases e : toPs ds with
    | none => simp [toP, e] at h
    | some ps => simpa [below] using belows_toPs ds ps e
  | .lst ds, p, h => by
    cases e : toPs ds with
    | none => simp [toP, e] at h
    | some ps => simpa [below] using belows_toPs ds ps e
  | .ref _, _, h => by cases h
  | .dct _ _, _, h => by cases h
  | .lam _ _, _, h => by cases h
  | .exn _ _ _, _, h => by cases h
  | .exv _ _ _ _, _, h => by cases h
  | .dcx _ _, _, h => by cases h
  | .ptu ds, p, h => by
    cases e : toPs ds with
    | none => simp [toP, e] at h
    | some ps => simpa [below] using belows_toPs ds ps e
theorem belows_toPs : ∀ (ds : List D) (ps : List PyData), toPs ds = some ps → belows 0 ds = true
  | [], _, _ => rfl
  | d :: ds, ps, h => by
    cases e1 : toP d with
    | none => simp [toPs, e1] at h
    | some p =>
      cases e2 : toPs ds with
      | none => simp [toPs, e1, e2] at h
      | some ps => simp [belows, below_toP d p e1, belows_toPs ds ps e2]
end
mutual
theorem below_up : ∀ {m : Nat} (d : D), below 0 d = true → below m d = true
  | _, .non, _ => rfl
  | _, .bl _, _ => rfl
  | _, .int _, _ => rfl
  | _, .str _, _ => rfl
  | m, .tup ds, h => by simpa [below] using belows_up ds (by simpa [below] using h)
  | m, .lst ds, h => by simpa [below] using belows_up ds (by simpa [below] using h)
  | _, .ref _, h => by simp [below] at h
  | m, .dct ks vs, h => by
    have h' : belows 0 ks = true ∧ belows 0 vs = true := by simpa [below] using h
    simp [below, belows_up ks h'.1, belows_up vs h'.2]
  | m, .ptu ds, h => by simpa [below] using belows_up ds (by simpa [below] using h)
  | _, .lam _ _, _ => rfl
  | m, .exn _ _ d, h => by simpa [below] using below_up d (by simpa [below] using h)
  | m, .exv _ _ _ d, h => by simpa [below] using below_up d (by simpa [below] using h)
  | m, .dcx _ d, h => by simpa [below] using below_up d (by simpa [below] using h)
theorem belows_up : ∀ {m : Nat} (ds : List D), belows 0 ds = true → belows m ds = true
  | _, [], _ => rfl
  | m, d :: ds, h => by
    simp only [belows, Bool.and_eq_true] at h ⊢
    exact ⟨below_up d h.1, belows_up ds h.2⟩
end
mutual
theorem flat_noref : ∀ (M : List MO) (d : D), below 0 d = true → deref1 M d = d
  | _, .non, _ => rfl
  | _, .bl _, _ => rfl
  | _, .int _, _ => rfl
  | _, .str _, _ => rfl
  | _, .tup _, _ => rfl
  | _, .lst _, _ => rfl
  | _, .ref _, h => by simp [below] at h
  | _, .dct _ _, _ => rfl
  | _, .ptu _, _ => rfl
  | _, .lam _ _, _ => rfl
  | _, .exn _ _ _, _ => rfl
  | _, .exv _ _ _ _, _ => rfl
  | _, .dcx _ _, _ => rfl
end
theorem belows_all {m : Nat} (ds : List D) : belows m ds = ds.all (below m) := by
  induction ds with
  | nil => rfl
  | cons d ds ih => simp [belows, ih]
theorem map_deref {M : List MO} {ds : List D} (h : belows 0 ds = true) : ds.map (deref1 M) = ds := by
  rw [belows_all, List.all_eq_true] at h
  conv => rhs; rw [← List.map_id ds]
  exact List.map_congr_left fun d hd => flat_noref M d (h d hd)
theorem deref_flat {M : List MO} {d : D} (h : below 0 d = true) : deref M d = d := by
  unfold deref
  rw [flat_noref M d h]
  cases d with
  | lst ds =>
    show D.lst (ds.map (deref1 M)) = _
    rw [map_deref (by simpa [below] using h)]
  | _ => rfl
theorem Dt.below {n m : Nat} {d : D} {p : PyData} (h : Dt n d p) : below m d = true := below_up d (below_toP d p h.e)
theorem Dts.belows {n m : Nat} {ds : List D} {ps : List PyData} (h : Dts n ds ps) : belows m ds = true := belows_up ds (belows_toPs ds ps h.e)
theorem Dt.deref {n : Nat} {M : List MO} {d : D} {p : PyData} (h : Dt n d p) : deref M d = d := deref_flat h.below
@[simp] theorem belows_ints (m : Nat) (is : List Int) : belows m (is.map D.int) = true := (Dts.ints 0 is).belows
/-! what repr writes is not too long -/
structure Sh (b : Nat) (p : PyData) : Prop where
  s : p.showable = true
  d : p.hasDict = false
  l : p.leavesShort 13 = true
  b : p.bulk ≤ b
structure Shs (b : Nat) (ps : List PyData) : Prop where
  s : PyData.showableAll ps = true
  d : PyData.hasDictAll ps = false
  l : PyData.leavesShortAll 13 ps = true
  b : PyData.bulkAll ps ≤ b
theorem Sh.int {i : Int} (h : i.natAbs < 10 ^ 12) : Sh 0 (.int i) := ⟨by
  have : i.natAbs.log2 < 1920 := by
    by_cases z : i.natAbs = 0
    · rw [z]; decide
    · have : i.natAbs.log2 < 40 := (Nat.log2_lt z).mpr (by omega)
      omega
  simp [PyData.showable, this], rfl, by simpa [PyData.leavesShort] using PyData.shown_int_le h, Nat.le_refl _⟩
theorem Sh.non : Sh 0 .none := ⟨rfl, rfl, rfl, Nat.le_refl _⟩
theorem Sh.bl (b : Bool) : Sh 0 (.bool b) := ⟨rfl, rfl, rfl, Nat.le_refl _⟩
theorem Shs.nil : Shs 0 [] := ⟨rfl, rfl, rfl, Nat.le_refl _⟩
theorem Shs.cons {b c : Nat} {p : PyData} {ps : List PyData} (h : Sh b p) (t : Shs c ps) : Shs (b + 1 + c) (p :: ps) :=
  ⟨by simp [PyData.showableAll, h.s, t.s], by simp [PyData.hasDictAll, h.d, t.d], by simp [PyData.leavesShortAll, h.l, t.l], by have := h.b; have := t.b; simp only [PyData.bulkAll]; omega⟩
theorem Shs.tup {b : Nat} {ps : List PyData} (h : Shs b ps) : Sh b (.tuple ps) := ⟨by simpa [PyData.showable] using h.s, by simpa [PyData.hasDict] using h.d, by simpa [PyData.leavesShort] using h.l, by simpa [PyData.bulk] using h.b⟩
theorem Shs.lst {b : Nat} {ps : List PyData} (h : Shs b ps) : Sh b (.list ps) := ⟨by simpa [PyData.showable] using h.s, by simpa [PyData.hasDict] using h.d, by simpa [PyData.leavesShort] using h.l, by simpa [PyData.bulk] using h.b⟩
theorem Shs.map {α : Type} {b : Nat} {g : α → PyData} (xs : List α) (h : ∀ x ∈ xs, Sh b (g x)) : Shs (xs.length * (b + 1)) (xs.map g) := by
  induction xs with
  | nil => simpa using Shs.nil
  | cons x xs ih =>
    have := Shs.cons (h x (by simp)) (ih fun y hy => h y (by simp [hy]))
    simp only [List.length_cons, List.map_cons]
    rw [Nat.succ_mul, Nat.add_comm]
    exact this
theorem Shs.ints {is : List Int} (h : ∀ i ∈ is, i.natAbs < 10 ^ 12) : Shs is.length (is.map PyData.int) := by
  have := Shs.map (b := 0) is fun i hi => Sh.int (h i hi)
  simpa using this
end Bk

set_option Elab.async false
set_option linter.all false
set_option maxRecDepth 100000
set_option maxHeartbeats 2000000
namespace Bk
open PySem PySem.Spec PyProof.Rows L2
/-! ### how the functions are worked out -/
section
variable {α β : Type}
@[simp] theorem rb_ok (a : α) (M : List MO) (f : α → List MO → R β) : (R.ok a M).bind f = f a M := Eq.trans rfl rfl
@[simp] theorem rb_ex (c : Nat) (d : D) (M : List MO) (f : α → List MO → R β) : (R.exc c d M : R α).bind f = .exc c d M := Eq.trans rfl rfl
@[simp] theorem rt_ok (Γ : Env) (a : α) (M : List MO) (f : α → List MO → RS) : (R.ok a M).thenS Γ f = f a M := Eq.trans rfl rfl
@[simp] theorem rt_ex (Γ : Env) (c : Nat) (d : D) (M : List MO) (f : α → List MO → RS) : (R.exc c d M : R α).thenS Γ f = .exc c d Γ M := Eq.trans rfl rfl
@[simp] theorem ro_ok (a : α) (M : List MO) (f : α → List MO → R β) : (R.ok a M).only f = f a M := Eq.trans rfl rfl
@[simp] theorem sn_nx (Γ : Env) (M : List MO) (f : Env → List MO → RS) : (RS.nx Γ M).next f = f Γ M := Eq.trans rfl rfl
@[simp] theorem sn_rt (d : D) (M : List MO) (f : Env → List MO → RS) : (RS.rt d M).next f = .rt d M := Eq.trans rfl rfl
@[simp] theorem sn_ct (Γ : Env) (M : List MO) (f : Env → List MO → RS) : (RS.ct Γ M).next f = .ct Γ M := Eq.trans rfl rfl
@[simp] theorem sn_bk (Γ : Env) (M : List MO) (f : Env → List MO → RS) : (RS.bk Γ M).next f = .bk Γ M := Eq.trans rfl rfl
@[simp] theorem sn_ex (c : Nat) (d : D) (Γ : Env) (M : List MO) (f : Env → List MO → RS) : (RS.exc c d Γ M).next f = .exc c d Γ M := Eq.trans rfl rfl
@[simp] theorem st_nx (Γ : Env) (M : List MO) (f : Env → List MO → RS) : (RS.nx Γ M).turn f = f Γ M := Eq.trans rfl rfl
@[simp] theorem st_ct (Γ : Env) (M : List MO) (f : Env → List MO → RS) : (RS.ct Γ M).turn f = f Γ M := Eq.trans rfl rfl
@[simp] theorem st_bk (Γ : Env) (M : List MO) (f : Env → List MO → RS) : (RS.bk Γ M).turn f = .nx Γ M := Eq.trans rfl rfl
@[simp] theorem st_rt (d : D) (M : List MO) (f : Env → List MO → RS) : (RS.rt d M).turn f = .rt d M := Eq.trans rfl rfl
@[simp] theorem st_ex (c : Nat) (d : D) (Γ : Env) (M : List MO) (f : Env → List MO → RS) : (RS.exc c d Γ M).turn f = .exc c d Γ M := Eq.trans rfl rfl
@[simp] theorem opR_some (a : α) (M : List MO) : opR (some a) M = .ok a M := Eq.trans rfl rfl
@[simp] theorem optS_some (Γ : Env) (f : Env → RS) : optS (some Γ) f = f Γ := Eq.trans rfl rfl
end
@[simp] theorem u_gV (i : Nat) (Γ : Env) (M : List MO) : gV i Γ M = (match Γ[i]? with
  | some (some d) => .ok d M
  | _ => .bad) := Eq.trans rfl rfl
@[simp] theorem u_gC (d : D) (Γ : Env) (M : List MO) : gC d Γ M = .ok d M := Eq.trans rfl rfl
@[simp] theorem u_gOp2 (f : List MO → D → D → Option D) (ga gb : GE) (Γ : Env) (M : List MO) : gOp2 f ga gb Γ M = (ga Γ M).bind fun x M1 => (gb Γ M1).bind fun y M2 => opR (f M2 x y) M2 := Eq.trans rfl rfl
@[simp] theorem u_gOp1 (f : List MO → D → Option D) (ga : GE) (Γ : Env) (M : List MO) : gOp1 f ga Γ M = (ga Γ M).bind fun x M1 => opR (f M1 x) M1 := Eq.trans rfl rfl
@[simp] theorem u_gNil (Γ : Env) (M : List MO) : gNil Γ M = .ok [] M := Eq.trans rfl rfl
@[simp] theorem u_gCons (ga : GE) (gr : GA) (Γ : Env) (M : List MO) : gCons ga gr Γ M = (ga Γ M).bind fun x M1 => (gr Γ M1).bind fun xs M2 => .ok (x :: xs) M2 := Eq.trans rfl rfl
@[simp] theorem u_gTup (ga : GA) (Γ : Env) (M : List MO) : gTup ga Γ M = (ga Γ M).bind fun xs M1 => if xs.length ≤ sizeLine then .ok (.tup xs) M1 else .bad := Eq.trans rfl rfl
@[simp] theorem u_gLst (ga : GA) (Γ : Env) (M : List MO) : gLst ga Γ M = (ga Γ M).bind fun xs M1 => if xs.length ≤ sizeLine then .ok (.lst xs) M1 else .bad := Eq.trans rfl rfl
@[simp] theorem u_gLstO (ga : GA) (Γ : Env) (M : List MO) : gLstO ga Γ M = (ga Γ M).bind fun xs M1 => if xs.length ≤ sizeLine then .ok (.ref M1.length) (M1 ++ [.lst xs]) else .bad := Eq.trans rfl rfl
@[simp] theorem u_gCall (f : List MO → List D → Option D) (ga : GA) (Γ : Env) (M : List MO) : gCall f ga Γ M = (ga Γ M).bind fun xs M1 => opR (f M1 xs) M1 := Eq.trans rfl rfl
@[simp] theorem u_gVal (ga : GE) (Γ : Env) (M : List MO) : gVal ga Γ M = (ga Γ M).bind fun x M1 => opR (toBl x) M1 := Eq.trans rfl rfl
@[simp] theorem u_gAndT (a b : GT) (Γ : Env) (M : List MO) : gAndT a b Γ M = (a Γ M).bind fun c M1 => if c = true then b Γ M1 else .ok false M1 := Eq.trans rfl rfl
@[simp] theorem u_gOrT (a b : GT) (Γ : Env) (M : List MO) : gOrT a b Γ M = (a Γ M).bind fun c M1 => if c = true then .ok true M1 else b Γ M1 := Eq.trans rfl rfl
@[simp] theorem u_gNotT (a : GT) (Γ : Env) (M : List MO) : gNotT a Γ M = (a Γ M).bind fun c M1 => .ok (!c) M1 := Eq.trans rfl rfl
@[simp] theorem u_gIfE (c : GT) (a b : GE) (Γ : Env) (M : List MO) : gIfE c a b Γ M = (c Γ M).bind fun k M1 => if k = true then a Γ M1 else b Γ M1 := Eq.trans rfl rfl
@[simp] theorem u_gAndV (a b : GE) (Γ : Env) (M : List MO) : gAndV a b Γ M = ((a Γ M).bind fun x M1 => match x with
  | .bl c => if c = true then b Γ M1 else .ok (.bl false) M1
  | _ => .bad) := Eq.trans rfl rfl
@[simp] theorem u_gOrV (a b : GE) (Γ : Env) (M : List MO) : gOrV a b Γ M = ((a Γ M).bind fun x M1 => match x with
  | .bl c => if c = true then .ok (.bl true) M1 else b Γ M1
  | _ => .bad) := Eq.trans rfl rfl
@[simp] theorem u_gChain (f f' : List MO → D → D → Option D) (ga gb gc : GE) (Γ : Env) (M : List MO) : gChain f f' ga gb gc Γ M = ((ga Γ M).bind fun x M1 => (gb Γ M1).bind fun y M2 => (opR (f M2 x y) M2).bind fun k M3 => match k with
  | .bl c => if c = true then (gc Γ M3).bind fun z M4 => opR (f' M4 y z) M4 else .ok (.bl false) M3
  | _ => .bad) := Eq.trans rfl rfl
@[simp] theorem u_gSeqI (ge : GE) (Γ : Env) (M : List MO) : gSeqI ge Γ M = (ge Γ M).bind fun d M1 => opR (seqD d) M1 := Eq.trans rfl rfl
@[simp] theorem u_gRng1 (ga : GA) (Γ : Env) (M : List MO) : gRng1 ga Γ M = (ga Γ M).bind fun ds M1 => opR (rng1 ds) M1 := Eq.trans rfl rfl
@[simp] theorem u_gRng2 (ga : GA) (Γ : Env) (M : List MO) : gRng2 ga Γ M = (ga Γ M).bind fun ds M1 => opR (rng2 ds) M1 := Eq.trans rfl rfl
@[simp] theorem u_gTo (i : Nat) (d : D) (Γ : Env) : gTo i d Γ = some (Γ.set i (some d)) := Eq.trans rfl rfl
@[simp] theorem u_gToT (gs : GGs) (d : D) (Γ : Env) : gToT gs d Γ = (match d with
  | .tup ds => gs ds Γ
  | _ => none) := Eq.trans rfl rfl
@[simp] theorem u_gToNil (ds : List D) (Γ : Env) : gToNil ds Γ = (match ds with
  | [] => some Γ
  | _ :: _ => none) := Eq.trans rfl rfl
@[simp] theorem u_gToCons (g : GG) (gs : GGs) (ds : List D) (Γ : Env) : gToCons g gs ds Γ = (match ds with
  | [] => none
  | d :: r => (g d Γ).bind fun Γ1 => gs r Γ1) := Eq.trans rfl rfl
@[simp] theorem u_gPass (Γ : Env) (M : List MO) : gPass Γ M = .nx Γ M := Eq.trans rfl rfl
@[simp] theorem u_gSeq (a b : GS) (Γ : Env) (M : List MO) : gSeq a b Γ M = (a Γ M).next b := Eq.trans rfl rfl
@[simp] theorem u_gExpr (ge : GE) (Γ : Env) (M : List MO) : gExpr ge Γ M = (ge Γ M).thenS Γ fun _ M1 => .nx Γ M1 := Eq.trans rfl rfl
@[simp] theorem u_gRet (ge : GE) (Γ : Env) (M : List MO) : gRet ge Γ M = (ge Γ M).thenS Γ fun d M1 => .rt d M1 := Eq.trans rfl rfl
@[simp] theorem u_gRetN (Γ : Env) (M : List MO) : gRetN Γ M = .rt .non M := Eq.trans rfl rfl
@[simp] theorem u_gIf (c : GT) (a b : GS) (Γ : Env) (M : List MO) : gIf c a b Γ M = (c Γ M).thenS Γ fun k M1 => if k = true then a Γ M1 else b Γ M1 := Eq.trans rfl rfl
@[simp] theorem u_gAsg (ge : GE) (gg : GG) (Γ : Env) (M : List MO) : gAsg ge gg Γ M = ((ge Γ M).thenS Γ fun d M1 => match gg d Γ with
  | some Γ' => .nx Γ' M1
  | none => .bad) := Eq.trans rfl rfl
@[simp] theorem u_gBad (Γ : Env) (M : List MO) : gBad Γ M = .bad := Eq.trans rfl rfl
@[simp] theorem u_gForget (is : List Nat) (Γ : Env) (M : List MO) : gForget is Γ M = .nx (forget Γ is) M := Eq.trans rfl rfl
@[simp] theorem u_gFz (i : Nat) (Γ : Env) (M : List MO) : gFz i Γ M = (match Γ[i]? with
  | some (some (.ref k)) => match M[k]? with
    | some (.lst ds) => .nx (Γ.set i (some (.lst ds))) (M.set k .dead)
    | some (.dct ks vs) => .nx (Γ.set i (some (.dct ks vs))) (M.set k .dead)
    | _ => .bad
  | _ => .bad) := Eq.trans rfl rfl
@[simp] theorem u_gScope (a : GS) (Γ : Env) (M : List MO) : gScope a Γ M = gCut M.length (a Γ M) := Eq.trans rfl rfl
@[simp] theorem u_gFor (gi : GI) (gg : GG) (body : GS) (Γ : Env) (M : List MO) : gFor gi gg body Γ M = (gi Γ M).thenS Γ fun ds M1 => gForL gg body ds Γ M1 := Eq.trans rfl rfl
@[simp] theorem u_gYes (Γ : Env) (M : List MO) : gYes Γ M = .ok true M := Eq.trans rfl rfl
@[simp] theorem u_gLc (gi : GI) (gg : GG) (gt : GT) (ge : GE) (own : List Nat) (Γ : Env) (M : List MO) : gLc gi gg gt ge own Γ M = (gi Γ M).bind fun ds M1 => (gLcL gg gt ge (forget Γ own) ds [] M1).bind fun acc M2 => .ok (.lst acc) M2 := Eq.trans rfl rfl
@[simp] theorem u_gLcO (gi : GI) (gg : GG) (gt : GT) (ge : GE) (own : List Nat) (Γ : Env) (M : List MO) : gLcO gi gg gt ge own Γ M = (gi Γ M).bind fun ds M1 => (gLcL gg gt ge (forget Γ own) ds [] M1).bind fun acc M2 => .ok (.ref M2.length) (M2 ++ [.lst acc]) := Eq.trans rfl rfl
@[simp] theorem u_gNoO (Γ : Env) (M : List MO) : gNoO Γ M = .ok none M := Eq.trans rfl rfl
@[simp] theorem u_gO (ge : GE) (Γ : Env) (M : List MO) : gO ge Γ M = (ge Γ M).bind fun d M1 => opR ((toI d).map some) M1 := Eq.trans rfl rfl
@[simp] theorem u_gSl (ge : GE) (lo hi : GO) (Γ : Env) (M : List MO) : gSl ge lo hi Γ M = (ge Γ M).bind fun x M1 => (lo Γ M1).bind fun a M2 => (hi Γ M2).bind fun b M3 => opR (dCut M3 a b x) M3 := Eq.trans rfl rfl
@[simp] theorem u_gRgL (own : Bool) (ga gb : GE) (Γ : Env) (M : List MO) : gRgL own ga gb Γ M = ((ga Γ M).bind fun x M1 => (gb Γ M1).bind fun y M2 => match x, y with
  | .int i, .int j => if rngOk i j = true then (if own = true then .ok (.ref M2.length) (M2 ++ [.lst (rngL i (j - i).toNat)]) else .ok (.lst (rngL i (j - i).toNat)) M2) else .bad
  | _, _ => .bad) := Eq.trans rfl rfl
@[simp] theorem u_gMeth1 (f : MF) (go ge : GE) (Γ : Env) (M : List MO) : gMeth1 f go ge Γ M = (go Γ M).bind fun x M1 => if isListD M1 x = true then (ge Γ M1).bind fun y M2 => mutR M2 x fun ds => f M2 ds y else .bad := Eq.trans rfl rfl
@[simp] theorem u_gMeth0 (f : MF0) (go : GE) (Γ : Env) (M : List MO) : gMeth0 f go Γ M = (go Γ M).bind fun x M1 => mutR M1 x f := Eq.trans rfl rfl
@[simp] theorem u_gSetI (ge go gi : GE) (Γ : Env) (M : List MO) : gSetI ge go gi Γ M = ((ge Γ M).thenS Γ fun v M1 => (go Γ M1).thenS Γ fun o M2 => (gi Γ M2).thenS Γ fun i M3 => match setR M3 o i v with
  | some M4 => .nx Γ M4
  | none => .bad) := Eq.trans rfl rfl
@[simp] theorem u_gAug (i : Nat) (f : Int → Int → Int) (ge : GE) (Γ : Env) (M : List MO) : gAug i f ge Γ M = (match Γ[i]? with
  | some (some (.int a)) => (ge Γ M).thenS Γ fun y M1 => match y with
    | .int b => .nx (Γ.set i (some (.int (f a b)))) M1
    | _ => .bad
  | _ => .bad) := Eq.trans rfl rfl
@[simp] theorem u_gEnum (ge : GE) (Γ : Env) (M : List MO) : gEnum ge Γ M = (ge Γ M).bind fun d M1 => opR ((seqD d).map (enumL 0)) M1 := Eq.trans rfl rfl
@[simp] theorem u_gEnumK (ge : GE) (gk : GE) (Γ : Env) (M : List MO) : gEnumK ge gk Γ M = ((ge Γ M).bind fun d M1 => (gk Γ M1).bind fun k M2 => match k with
  | .int k => if decide (-(2 ^ 63) ≤ k) && decide (k < 2 ^ 63) then opR ((seqD d).map (enumL k)) M2 else .bad
  | _ => .bad) := Eq.trans rfl rfl
@[simp] theorem u_gZip (ga gb : GE) (Γ : Env) (M : List MO) : gZip ga gb Γ M = (ga Γ M).bind fun x M1 => (gb Γ M1).bind fun y M2 => opR (zipO x y) M2 := Eq.trans rfl rfl
@[simp] theorem u_gLcW (ge : GE) (gg : GG) (gt : GT) (gel : GE) (own : List Nat) (Γ : Env) (M : List MO) : gLcW ge gg gt gel own Γ M = ((ge Γ M).bind fun d M1 => match d with
  | .ref k => match M1[k]? with
    | some (.lst ds) => (gLcL gg gt gel (forget Γ own) ds [] M1).bind fun acc M2 => .ok (.lst acc) M2
    | _ => .bad
  | _ => .bad) := Eq.trans rfl rfl
@[simp] theorem u_gCallF (n : Nat) (F : List D → List MO → R D) (ga : GA) (Γ : Env) (M : List MO) : gCallF n F ga Γ M = (ga Γ M).bind fun ds M1 => if ds.length = n then callF F ds M1 else .bad := Eq.trans rfl rfl
@[simp] theorem u_gCallK (n : Nat) (F : List D → List MO → R D) (is : List Nat) (ga gk : GA) (Γ : Env) (M : List MO) : gCallK n F is ga gk Γ M = (ga Γ M).bind fun ds M1 => (gk Γ M1).bind fun es M2 => if (pick (ds ++ es) is).length = n then callF F (pick (ds ++ es) is) M2 else .bad := Eq.trans rfl rfl
@[simp] theorem u_gForL0 (gg : GG) (b : GS) (Γ : Env) (M : List MO) : gForL gg b [] Γ M = .nx Γ M := Eq.trans rfl rfl
@[simp] theorem u_gForLc (gg : GG) (b : GS) (d : D) (ds : List D) (Γ : Env) (M : List MO) : gForL gg b (d :: ds) Γ M = optS (gg d Γ) fun Γ1 => (b Γ1 M).turn (gForL gg b ds) := Eq.trans rfl rfl
@[simp] theorem u_forget0 (Γ : Env) : forget Γ [] = Γ := Eq.trans rfl rfl
@[simp] theorem u_forgetc (Γ : Env) (i : Nat) (is : List Nat) : forget Γ (i :: is) = forget (Γ.set i none) is := Eq.trans rfl rfl
@[simp] theorem u_toBl (b : Bool) : toBl (.bl b) = some b := Eq.trans rfl rfl
@[simp] theorem u_dNot (M : List MO) (b : Bool) : dNot M (.bl b) = some (.bl !b) := Eq.trans rfl rfl
@[simp] theorem u_toI (i : Int) : toI (.int i) = some i := Eq.trans rfl rfl
@[simp] theorem u_rng1 (j : Int) : rng1 [.int j] = if inR j then some (rngL 0 j.toNat) else none := Eq.trans rfl rfl
@[simp] theorem u_rng2 (i j : Int) : rng2 [.int i, .int j] = if inR i && inR j then some (rngL i (j - i).toNat) else none := Eq.trans rfl rfl
@[simp] theorem u_fn1 (f : List MO → D → Option D) (M : List MO) (d : D) : fn1 f M [d] = f M d := Eq.trans rfl rfl
@[simp] theorem u_fn2 (f : List MO → D → D → Option D) (M : List MO) (d e : D) : fn2 f M [d, e] = f M d e := Eq.trans rfl rfl
@[simp] theorem u_isListD (M : List MO) (d : D) : isListD M d = (listD M d).isSome := Eq.trans rfl rfl
@[simp] theorem u_pick0 {α : Type} (l : List α) : pick l [] = [] := Eq.trans rfl rfl
@[simp] theorem u_pickc {α : Type} (l : List α) (i : Nat) (is : List Nat) : pick l (i :: is) = (match l[i]? with
    | some a => a :: pick l is
    | none => pick l is) := Eq.trans rfl rfl
@[simp] theorem bl_non (m : Nat) : below m .non = true := Eq.trans rfl rfl
@[simp] theorem bl_bl (m : Nat) (b : Bool) : below m (.bl b) = true := Eq.trans rfl rfl
@[simp] theorem bl_int (m : Nat) (i : Int) : below m (.int i) = true := Eq.trans rfl rfl
@[simp] theorem bl_str (m : Nat) (x : Str) : below m (.str x) = true := Eq.trans rfl rfl
@[simp] theorem bl_tup (m : Nat) (ds : List D) : below m (.tup ds) = belows m ds := by simp [below]
@[simp] theorem bl_lst (m : Nat) (ds : List D) : below m (.lst ds) = belows m ds := by simp [below]
@[simp] theorem bl_ref (m k : Nat) : below m (.ref k) = decide (k < m) := by simp [below]
@[simp] theorem bls_nil (m : Nat) : belows m [] = true := Eq.trans rfl rfl
@[simp] theorem bls_cons (m : Nat) (d : D) (ds : List D) : belows m (d :: ds) = (below m d && belows m ds) := by simp [belows]
@[simp] theorem bls_app (m : Nat) (ds es : List D) : belows m (ds ++ es) = (belows m ds && belows m es) := by simp [belows_all]
@[simp] theorem blo_lst (m : Nat) (ds : List D) : belowO m (.lst ds) = belows m ds := Eq.trans rfl rfl
@[simp] theorem blo_dead (m : Nat) : belowO m .dead = true := Eq.trans rfl rfl
@[simp] theorem cut_0 (M : List MO) : cutOk 0 M = true := by simp [cutOk]
@[simp] theorem cut_nil (m : Nat) : cutOk m [] = true := by simp [cutOk]
@[simp] theorem cut_s (m : Nat) (o : MO) (M : List MO) : cutOk (m + 1) (o :: M) = ((M.take m).all (belowO (m + 1)) && belowO (m + 1) o) := by simp [cutOk, Bool.and_comm]
@[simp] theorem sz_1 : 1 ≤ sizeLine := by decide
@[simp] theorem sz_2 : 2 ≤ sizeLine := by decide
@[simp] theorem sz_3 : 3 ≤ sizeLine := by decide
@[simp] theorem sz_4 : 4 ≤ sizeLine := by decide
@[simp] theorem sz_5 : 5 ≤ sizeLine := by decide
@[simp] theorem sz_6 : 6 ≤ sizeLine := by decide
@[simp] theorem sz_7 : 7 ≤ sizeLine := by decide
@[simp] theorem sz_8 : 8 ≤ sizeLine := by decide
@[simp] theorem sz_9 : 9 ≤ sizeLine := by decide
@[simp] theorem sz_10 : 10 ≤ sizeLine := by decide
@[simp] theorem sz_11 : 11 ≤ sizeLine := by decide
@[simp] theorem sz_12 : 12 ≤ sizeLine := by decide
@[simp] theorem sz_13 : 13 ≤ sizeLine := by decide
@[simp] theorem sz_14 : 14 ≤ sizeLine := by decide
@[simp] theorem sz_15 : 15 ≤ sizeLine := by decide
@[simp] theorem sz_16 : 16 ≤ sizeLine := by decide
@[simp] theorem sz_17 : 17 ≤ sizeLine := by decide
@[simp] theorem sz_18 : 18 ≤ sizeLine := by decide
@[simp] theorem sz_19 : 19 ≤ sizeLine := by decide
@[simp] theorem sz_20 : 20 ≤ sizeLine := by decide
@[simp] theorem szl_0 : 0 < sizeLine := by decide
@[simp] theorem szl_1 : 1 < sizeLine := by decide
@[simp] theorem szl_2 : 2 < sizeLine := by decide
@[simp] theorem szl_3 : 3 < sizeLine := by decide
@[simp] theorem szl_4 : 4 < sizeLine := by decide
@[simp] theorem szl_5 : 5 < sizeLine := by decide
@[simp] theorem szl_6 : 6 < sizeLine := by decide
@[simp] theorem szl_7 : 7 < sizeLine := by decide
@[simp] theorem szl_8 : 8 < sizeLine := by decide
@[simp] theorem szl_9 : 9 < sizeLine := by decide
@[simp] theorem szl_10 : 10 < sizeLine := by decide
@[simp] theorem szl_11 : 11 < sizeLine := by decide
@[simp] theorem szl_12 : 12 < sizeLine := by decide
@[simp] theorem szl_13 : 13 < sizeLine := by decide
@[simp] theorem szl_14 : 14 < sizeLine := by decide
@[simp] theorem szl_15 : 15 < sizeLine := by decide
@[simp] theorem szl_16 : 16 < sizeLine := by decide
@[simp] theorem szl_17 : 17 < sizeLine := by decide
@[simp] theorem szl_18 : 18 < sizeLine := by decide
@[simp] theorem szl_19 : 19 < sizeLine := by decide
@[simp] theorem szl_20 : 20 < sizeLine := by decide
@[simp] theorem gc_nx (m : Nat) (Γ : Env) (M : List MO) : gCut m (.nx Γ M) = if m ≤ M.length ∧ cutOk m M = true then .nx (clean m Γ) (M.take m) else .bad := Eq.trans rfl rfl
@[simp] theorem gc_ct (m : Nat) (Γ : Env) (M : List MO) : gCut m (.ct Γ M) = if m ≤ M.length ∧ cutOk m M = true then .ct (clean m Γ) (M.take m) else .bad := Eq.trans rfl rfl
@[simp] theorem gc_bk (m : Nat) (Γ : Env) (M : List MO) : gCut m (.bk Γ M) = .bk Γ M := Eq.trans rfl rfl
@[simp] theorem gc_rt (m : Nat) (d : D) (M : List MO) : gCut m (.rt d M) = .rt d M := Eq.trans rfl rfl
@[simp] theorem gc_ex (m c : Nat) (d : D) (Γ : Env) (M : List MO) : gCut m (.exc c d Γ M) = .exc c d Γ M := Eq.trans rfl rfl
@[simp] theorem fi_rt (m : Nat) (d : D) (M : List MO) : fin m (.rt d M) = if m ≤ M.length ∧ cutOk m M = true then retR m M d else .bad := Eq.trans rfl rfl
@[simp] theorem fi_nx (m : Nat) (Γ : Env) (M : List MO) : fin m (.nx Γ M) = if m ≤ M.length ∧ cutOk m M = true then R.ok D.non (M.take m) else .bad := Eq.trans rfl rfl
@[simp] theorem fi_ex (m c : Nat) (d : D) (Γ : Env) (M : List MO) : fin m (.exc c d Γ M) = if m ≤ M.length ∧ cutOk m M = true ∧ below m d = true then .exc c d (M.take m) else .bad := Eq.trans rfl rfl
@[simp] theorem re_non (m : Nat) (M : List MO) : retR m M .non = .ok .non (M.take m) := Eq.trans rfl rfl
@[simp] theorem re_bl (m : Nat) (M : List MO) (b : Bool) : retR m M (.bl b) = .ok (.bl b) (M.take m) := Eq.trans rfl rfl
@[simp] theorem re_int (m : Nat) (M : List MO) (i : Int) : retR m M (.int i) = .ok (.int i) (M.take m) := Eq.trans rfl rfl
@[simp] theorem re_str (m : Nat) (M : List MO) (x : Str) : retR m M (.str x) = .ok (.str x) (M.take m) := Eq.trans rfl rfl
@[simp] theorem re_tup (m : Nat) (M : List MO) (ds : List D) : retR m M (.tup ds) = if belows m ds = true then .ok (.tup ds) (M.take m) else .bad := by simp [retR]
@[simp] theorem re_lst (m : Nat) (M : List MO) (ds : List D) : retR m M (.lst ds) = if belows m ds = true then .ok (.lst ds) (M.take m) else .bad := by simp [retR]
@[simp] theorem re_ref (m : Nat) (M : List MO) (k : Nat) : retR m M (.ref k) = if k < m then .ok (.ref k) (M.take m) else match M[k]? with
    | some (.lst ds) => if belows m ds = true then .ok (.ref m) (M.take m ++ [.lst ds]) else .bad
    | _ => .bad := Eq.trans rfl rfl
@[simp] theorem seqD_l (ds : List D) : seqD (.lst ds) = some ds := Eq.trans rfl rfl
@[simp] theorem seqD_t (ds : List D) : seqD (.tup ds) = some ds := Eq.trans rfl rfl
@[simp] theorem listD_l (M : List MO) (ds : List D) : listD M (.lst ds) = some ds := Eq.trans rfl rfl
@[simp] theorem itemsD_l (M : List MO) (ds : List D) : itemsD M (.lst ds) = some ds := Eq.trans rfl rfl
@[simp] theorem itemsD_t (M : List MO) (ds : List D) : itemsD M (.tup ds) = some ds := Eq.trans rfl rfl
@[simp] theorem itemsD_r (M : List MO) (k : Nat) : itemsD M (.ref k) = listD M (.ref k) := Eq.trans rfl rfl
@[simp] theorem e_add (M : List MO) (i j : Int) : dAdd M (.int i) (.int j) = some (.int (i + j)) := Eq.trans rfl rfl
@[simp] theorem e_addL (M : List MO) (a b : List D) : dAdd M (.lst a) (.lst b) = if a.length + b.length ≤ sizeLine then some (.lst (a ++ b)) else none := Eq.trans rfl rfl
@[simp] theorem e_addT (M : List MO) (a b : List D) : dAdd M (.tup a) (.tup b) = if a.length + b.length ≤ sizeLine then some (.tup (a ++ b)) else none := Eq.trans rfl rfl
@[simp] theorem e_sub (M : List MO) (i j : Int) : dSub M (.int i) (.int j) = some (.int (i - j)) := Eq.trans rfl rfl
theorem e_mul {i j : Int} (M : List MO) (h : mulOk i j = true) : dMulA M (.int i) (.int j) = some (.int (i * j)) := by
  show (if mulOk i j = true then some (D.int (i * j)) else none) = _
  rw [if_pos h]
@[simp] theorem e_mulR (M : List MO) (i : Int) : dMulA M (.int i) (.int 0) = some (.int 0) := by
  rw [e_mul M (by simp [mulOk])]
  simp
@[simp] theorem e_fdiv (M : List MO) (i j : Int) : dFdiv M (.int i) (.int j) = if fdivOk i j = true then some (.int (i / j)) else none := Eq.trans rfl rfl
@[simp] theorem e_mod (M : List MO) (i j : Int) : dMod M (.int i) (.int j) = if 0 < j then some (.int (i % j)) else none := by
  show (if modOk i j = true then _ else _) = _
  simp [modOk]
@[simp] theorem e_pow (M : List MO) (i j : Int) : dPow M (.int i) (.int j) = if powOk i j = true then some (.int (i ^ j.toNat)) else none := Eq.trans rfl rfl
@[simp] theorem e_lt (M : List MO) (i j : Int) : dLt M (.int i) (.int j) = some (.bl (decide (i < j))) := Eq.trans rfl rfl
@[simp] theorem e_le (M : List MO) (i j : Int) : dLe M (.int i) (.int j) = some (.bl (decide (i ≤ j))) := Eq.trans rfl rfl
@[simp] theorem e_gt (M : List MO) (i j : Int) : dGt M (.int i) (.int j) = some (.bl (decide (j < i))) := Eq.trans rfl rfl
@[simp] theorem e_ge (M : List MO) (i j : Int) : dGe M (.int i) (.int j) = some (.bl (decide (j ≤ i))) := Eq.trans rfl rfl
@[simp] theorem e_neg (M : List MO) (i : Int) : dNeg M (.int i) = some (.int (-i)) := Eq.trans rfl rfl
@[simp] theorem e_is0 (M : List MO) : dIsN M .non .non = some (.bl true) := Eq.trans rfl rfl
@[simp] theorem e_is1 (M : List MO) (i : Int) : dIsN M (.int i) .non = some (.bl false) := Eq.trans rfl rfl
@[simp] theorem e_is2 (M : List MO) (i : List D) : dIsN M (.tup i) .non = some (.bl false) := Eq.trans rfl rfl
@[simp] theorem e_is3 (M : List MO) (i : List D) : dIsN M (.lst i) .non = some (.bl false) := Eq.trans rfl rfl
@[simp] theorem e_is4 (M : List MO) (i : Str) : dIsN M (.str i) .non = some (.bl false) := Eq.trans rfl rfl
@[simp] theorem e_is5 (M : List MO) (i : Nat) : dIsN M (.ref i) .non = some (.bl false) := Eq.trans rfl rfl
@[simp] theorem e_ns0 (M : List MO) : dNotN M .non .non = some (.bl false) := Eq.trans rfl rfl
@[simp] theorem e_ns1 (M : List MO) (i : Int) : dNotN M (.int i) .non = some (.bl true) := Eq.trans rfl rfl
@[simp] theorem e_ns2 (M : List MO) (i : List D) : dNotN M (.tup i) .non = some (.bl true) := Eq.trans rfl rfl
@[simp] theorem e_ns3 (M : List MO) (i : List D) : dNotN M (.lst i) .non = some (.bl true) := Eq.trans rfl rfl
@[simp] theorem e_ns4 (M : List MO) (i : Str) : dNotN M (.str i) .non = some (.bl true) := Eq.trans rfl rfl
@[simp] theorem e_ns5 (M : List MO) (i : Nat) : dNotN M (.ref i) .non = some (.bl true) := Eq.trans rfl rfl
@[simp] theorem e_ix (M : List MO) (x : D) (i : Int) : dIx M x (.int i) = (itemsD M x).bind fun ds => atI ds i := Eq.trans rfl rfl
theorem atI_nat (ds : List D) (n : Nat) : atI ds (n : Int) = ds[n]? := by
  unfold atI ixN
  by_cases h : n < ds.length
  · simp [h]
  · simp [h]
@[simp] theorem atI_0 (a : D) (ds : List D) : atI (a :: ds) 0 = some a := (atI_nat _ 0).trans rfl
@[simp] theorem atI_1 (a b : D) (ds : List D) : atI (a :: b :: ds) 1 = some b := (atI_nat _ 1).trans rfl
@[simp] theorem atI_2 (a b c : D) (ds : List D) : atI (a :: b :: c :: ds) 2 = some c := (atI_nat _ 2).trans rfl
@[simp] theorem atI_3 (a b c d : D) (ds : List D) : atI (a :: b :: c :: d :: ds) 3 = some d := (atI_nat _ 3).trans rfl
@[simp] theorem atI_4 (a b c d e : D) (ds : List D) : atI (a :: b :: c :: d :: e :: ds) 4 = some e := (atI_nat _ 4).trans rfl
@[simp] theorem atI_5 (a b c d e f : D) (ds : List D) : atI (a :: b :: c :: d :: e :: f :: ds) 5 = some f := (atI_nat _ 5).trans rfl
@[simp] theorem e_lenL (M : List MO) (ds : List D) : dLen M (.lst ds) = some (.int ds.length) := Eq.trans rfl rfl
@[simp] theorem e_lenT (M : List MO) (ds : List D) : dLen M (.tup ds) = some (.int ds.length) := Eq.trans rfl rfl
@[simp] theorem e_lenR (M : List MO) (k : Nat) : dLen M (.ref k) = (listD M (.ref k)).map fun ds => .int ds.length := Eq.trans rfl rfl
@[simp] theorem e_lenS (M : List MO) (x : Str) : dLen M (.str x) = if x.length ≤ sizeLine then some (.int x.length) else none := Eq.trans rfl rfl
@[simp] theorem e_intI (M : List MO) (i : Int) : dInt M (.int i) = some (.int i) := Eq.trans rfl rfl
@[simp] theorem e_intB (M : List MO) (b : Bool) : dInt M (.bl b) = some (.int (if b then 1 else 0)) := Eq.trans rfl rfl
@[simp] theorem e_str (M : List MO) (i : Int) : dStr M (.int i) = if i.natAbs.log2 < 1920 then some (.str (toString i)) else none := Eq.trans rfl rfl
@[simp] theorem e_min2 (M : List MO) (i j : Int) : dMin2 M (.int i) (.int j) = some (.int (if j < i then j else i)) := Eq.trans rfl rfl
@[simp] theorem e_max2 (M : List MO) (i j : Int) : dMax2 M (.int i) (.int j) = some (.int (if i < j then j else i)) := Eq.trans rfl rfl
@[simp] theorem e_isi_ii (M : List MO) (i : Int) : dIsi "int" M (.int i) = some (.bl true) := Eq.trans rfl rfl
@[simp] theorem e_isi_ib (M : List MO) (i : Int) : dIsi "bool" M (.int i) = some (.bl false) := Eq.trans rfl rfl
@[simp] theorem e_isi_ll (M : List MO) (ds : List D) : dIsi "list" M (.lst ds) = some (.bl true) := Eq.trans rfl rfl
@[simp] theorem e_isi_tt (M : List MO) (ds : List D) : dIsi "tuple" M (.tup ds) = some (.bl true) := Eq.trans rfl rfl
@[simp] theorem e_isi_ss (M : List MO) (ds : Str) : dIsi "str" M (.str ds) = some (.bl true) := Eq.trans rfl rfl
@[simp] theorem e_isi_is (M : List MO) (i : Int) : dIsi "str" M (.int i) = some (.bl false) := Eq.trans rfl rfl
@[simp] theorem e_isiT_l (M : List MO) (ds : List D) : dIsiT ["list", "tuple"] M (.lst ds) = some (.bl true) := Eq.trans rfl rfl
@[simp] theorem e_isiT_t (M : List MO) (ds : List D) : dIsiT ["list", "tuple"] M (.tup ds) = some (.bl true) := Eq.trans rfl rfl
theorem toVs_ints (is : List Int) : toVs (is.map D.int) = some (is.map V.int) := by
  induction is with
  | nil => rfl
  | cons i is ih => simp [toVs, toV, ih]
theorem inV_ints (i : Int) (is : List Int) : inV (V.int i) (is.map V.int) = decide (i ∈ is) := by
  induction is with
  | nil => rfl
  | cons j is ih =>
    have e : eqV (V.int j) (V.int i) = decide (j = i) := Eq.trans rfl rfl
    rw [List.map_cons]
    unfold inV at ih ⊢
    rw [List.any_cons, ih, e]
    by_cases h : j = i
    · subst h
      simp
    · have h' : ¬ i = j := fun e => h e.symm
      simp [h, h']
@[simp] theorem e_inL (M : List MO) (i : Int) (is : List Int) : dIn M (.int i) (.lst (is.map D.int)) = some (.bl (decide (i ∈ is))) := by
  simp [dIn, inP, toV, toVs_ints, inV_ints]
@[simp] theorem e_inT (M : List MO) (i : Int) (is : List Int) : dIn M (.int i) (.tup (is.map D.int)) = some (.bl (decide (i ∈ is))) := by
  simp [dIn, inP, toV, toVs_ints, inV_ints]
@[simp] theorem e_niL (M : List MO) (i : Int) (is : List Int) : dNotIn M (.int i) (.lst (is.map D.int)) = some (.bl (!decide (i ∈ is))) := by
  simp [dNotIn, inP, toV, toVs_ints, inV_ints]
@[simp] theorem e_niT (M : List MO) (i : Int) (is : List Int) : dNotIn M (.int i) (.tup (is.map D.int)) = some (.bl (!decide (i ∈ is))) := by
  simp [dNotIn, inP, toV, toVs_ints, inV_ints]
end Bk
namespace Bk
open PySem PySem.Spec PyProof.Rows L2
theorem mulOk_l {i : Int} (j : Int) (h1 : -(2 ^ 64) < i) (h2 : i < 2 ^ 64) : mulOk i j = true := by
  simp only [mulOk, Bool.or_eq_true, Bool.and_eq_true, decide_eq_true_eq]
  omega
theorem mulOk_r (i : Int) {j : Int} (h1 : -(2 ^ 64) < j) (h2 : j < 2 ^ 64) : mulOk i j = true := by
  simp only [mulOk, Bool.or_eq_true, Bool.and_eq_true, decide_eq_true_eq]
  omega
theorem mulOk_m (x y : Int) {n : Int} (h0 : 0 < n) (h : n ≤ 2 ^ 63) : mulOk (x % n) y = true := by
  have a := Int.emod_nonneg x (by omega : n ≠ 0)
  have b := Int.emod_lt_of_pos x h0
  exact mulOk_l y (by omega) (by omega)
theorem mulOk_m1 (x y : Int) {n : Int} (h0 : 0 < n) (h : n ≤ 2 ^ 63) : mulOk (x % n + 1) y = true := by
  have a := Int.emod_nonneg x (by omega : n ≠ 0)
  have b := Int.emod_lt_of_pos x h0
  exact mulOk_l y (by omega) (by omega)
end Bk

set_option Elab.async false
set_option linter.all false
set_option maxRecDepth 100000
set_option maxHeartbeats 2000000
namespace Bk
open PySem PySem.Spec PyProof.Rows L2
/-! ### calls that lend nothing -/
theorem lendK_nil : ∀ {ds : List D}, belows 0 ds = true → lendK ds = []
  | [], _ => rfl
  | d :: ds, h => by
    simp only [belows, Bool.and_eq_true] at h
    cases d with
    | ref k => simp [below] at h
    | _ =>
      have ih := lendK_nil h.2
      simpa [lendK] using ih
theorem lendA_nil : ∀ {m : Nat} {ds : List D}, belows 0 ds = true → lendA m ds = ds
  | _, [], _ => rfl
  | m, d :: ds, h => by
    simp only [belows, Bool.and_eq_true] at h
    cases d with
    | ref k => simp [below] at h
    | _ => simp [lendA, lendA_nil h.2]
theorem flatArgs_of : ∀ {ds : List D}, belows 0 ds = true → flatArgs ds = true
  | [], _ => rfl
  | d :: ds, h => by
    simp only [belows, Bool.and_eq_true] at h
    cases d with
    | ref k => simp [below] at h
    | _ => simp [flatArgs, flatArgs_of h.2, h.1]
theorem backD_flat {n : Nat} {d : D} (h : below 0 d = true) : backD [] n d = some d := by
  cases d with
  | ref k => simp [below] at h
  | _ => simp [backD, h]
theorem c_flat {F : List D → List MO → R D} {ds : List D} {d : D} (h : F ds [] = .ok d []) (M : List MO) (ha : belows 0 ds = true) (hd : below 0 d = true) : callF F ds M = .ok d M := by
  simp [callF, lendK_nil ha, getAll, flatArgs_of ha, lentOk, lendA_nil ha, h, backD_flat hd, setAll]
/-! ### numbers in a row -/
def intR (lo : Int) : Nat → List Int
  | 0 => []
  | n + 1 => lo :: intR (lo + 1) n
@[simp] theorem intR_length : ∀ (n : Nat) (lo : Int), (intR lo n).length = n
  | 0, _ => rfl
  | n + 1, lo => by simp [intR, intR_length n]
/-! ### lists made by comprehensions -/
/-! ### walks -/
theorem forL_cons {gg : GG} {b : GS} {d : D} {ds : List D} {Γ Γ1 Γ2 : Env} {M M2 : List MO} (h1 : gg d Γ = some Γ1) (h2 : b Γ1 M = .nx Γ2 M2) : gForL gg b (d :: ds) Γ M = gForL gg b ds Γ2 M2 := by simp [h1, h2]
@[simp] theorem append_run (M : List MO) (ds : List D) (y : D) : mAppend M ds y = if ds.length < sizeLine then some (ds ++ [y], .non) else none := rfl
theorem cutD_upto {ds : List D} {n : Nat} : cutD ds none (some (n : Int)) = ds.take n := by
  unfold cutD
  rw [HT.sIx_none, HT.sIx_nat]
  simp
end Bk
namespace Bk
end Bk

set_option Elab.async false
set_option linter.all false
set_option maxRecDepth 100000
set_option maxHeartbeats 2000000
namespace Bk
open PySem PySem.Spec PyProof.Rows L2
/-! ### zip of two lists or tuples of any kind -/
section
variable {X : Cx} {C : CT} {W : WX} {e e2 : Expr} {ga gb : GE} {p pos tpos : Pos} {elts : List Expr} {kk : Nat}
end
end Bk

set_option Elab.async false
set_option linter.all false
set_option maxRecDepth 100000
set_option maxHeartbeats 2000000
namespace Bk
open PySem PySem.Spec PyProof.Rows L2
open PySem.W (kdx_alive)
/-! ### list(zip(a, b)): the zip's tuples stay, so each turn makes a new one -/
section
variable {prog : Program} {w : World} {A : Around} {E : Value → Shared → Prop} {s : Shared} {z TI TO i1 i2 T : Addr} {fp1 fp2 : List Addr} {n1 n2 i : Nat} {P1 P2 : Nat → Value → Prop} {St1 St2 : Nat → Heap → Prop} {f : Bool} {oT : Obj}
end
end Bk

set_option Elab.async false
set_option linter.all false
set_option maxRecDepth 100000
set_option maxHeartbeats 4000000
namespace Bk
open PySem PySem.Spec PyProof.Rows L2
/-- tuples laid one after the other -/
inductive Laid : Hp → List (V × V) → List Addr → Hp → Prop
  | nil (H : Hp) : Laid H [] [] H
  | snoc {H H1 : Hp} {ps : List (V × V)} {Ts : List Addr} {T : Addr} {x y : V} : Laid H ps Ts H1 → H1 T = none → Laid H (ps ++ [(x, y)]) (Ts ++ [T]) (upd H1 T (.tup [x, y]))
section
variable {X : Cx} {pins : List (Addr × Obj)} {σ : L2.St} {S1 S2 : Src} {N Sx : Nat} {its1 its2 : List Value} {xs ys : List V} {A : Around} {H0 : Hp} {R : Result → Shared → Prop}
end
end Bk

set_option Elab.async false
set_option linter.all false
set_option maxRecDepth 100000
set_option maxHeartbeats 4000000
namespace Bk
open PySem PySem.Spec PyProof.Rows L2
theorem Laid.length {H H' : Hp} {ps : List (V × V)} {Ts : List Addr} (L : Laid H ps Ts H') : Ts.length = ps.length := by
  induction L with
  | nil => rfl
  | snoc _ _ ih => simp [ih]
section
variable {X : Cx} {pins : List (Addr × Obj)} {σ : L2.St} {S1 S2 : Src} {N : Nat} {its1 its2 : List Value} {xs ys : List V} {H : Hp}
end
theorem Laid.read {K : PySem.W.Frag} {H H' : Hp} {ps : List (V × V)} {Ts : List Addr} (L : Laid H ps Ts H') : ∀ {dps : List (D × D)} {Z : Hp} {ι : Nat → Addr} {M : List MO}, HR K H Z ι M → dps.length = ps.length → (∀ (i : Nat) (dp : D × D) (vp : V × V), dps[i]? = some dp → ps[i]? = some vp → Rp K Z ι M.length dp.1 vp.1 ∧ Rp K Z ι M.length dp.2 vp.2) →
    ∃ Z', HR K H' Z' ι M ∧ Ext H Z ι M.length H' Z' ι M.length ∧ Rps K Z' ι M.length (dps.map fun dp => .tup [dp.1, dp.2]) (Ts.map V.ref) := by
  induction L with
  | nil =>
    intro dps Z ι M hr hl h
    have : dps = [] := List.length_eq_zero_iff.mp hl
    subst this
    exact ⟨Z, hr, .refl, .nil⟩
  | @snoc H1 ps Ts T x y L hT ih =>
    intro dps Z ι M hr hl h
    rcases List.eq_nil_or_concat dps with e | ⟨ds, d, e⟩
    · subst e
      simp at hl
    · rw [List.concat_eq_append] at e
      subst e
      have hl' : ds.length = ps.length := by simpa using hl
      obtain ⟨Z1, hr1, e1, r1⟩ := ih hr hl' fun i dp vp a b => h i dp vp (by rw [List.getElem?_append_left (List.getElem?_eq_some_iff.mp a).1]; exact a) (by rw [List.getElem?_append_left (List.getElem?_eq_some_iff.mp b).1]; exact b)
      obtain ⟨q1, q2⟩ := h ds.length d (x, y) (by simp) (by rw [hl']; simp)
      obtain ⟨p1, p2⟩ := hr1.frozen (o := .tup [x, y]) hT
      refine ⟨_, p1, e1.trans p2 hr1.ali, ?_⟩
      rw [List.map_append, List.map_append]
      exact (r1.ext p2).append (.cons (.tup (.inl (.inl upd_same)) (.cons ((q1.ext e1).ext p2) (.cons ((q2.ext e1).ext p2) .nil))) .nil)
def gLzip (own : Bool) (ga gb : GE) : GE := fun Γ M => (ga Γ M).bind fun x M1 => (gb Γ M1).bind fun y M2 => (opR (zipO x y) M2).bind fun ds M3 => if ds.length ≤ sizeLine then (if own = true then .ok (.ref M3.length) (M3 ++ [.lst ds]) else .ok (.lst ds) M3) else .bad
section
variable {X : Cx} {C : CT} {W : WX} {e e2 : Expr} {ga gb : GE} {p p2 pos pos2 : Pos}
end
end Bk

set_option Elab.async false
set_option linter.all false
set_option maxRecDepth 100000
set_option maxHeartbeats 2000000
namespace Bk
open PySem PySem.Spec PyProof.Rows L2
/-! ### a, b = x, y -/
def gPar2 (i j : Nat) (gs : GA) : GS := fun Γ M => (gs Γ M).thenS Γ fun ds M1 => match ds with
  | [d, e] => .nx ((Γ.set i (some d)).set j (some e)) M1
  | _ => .bad
def gPar3 (i j l : Nat) (gs : GA) : GS := fun Γ M => (gs Γ M).thenS Γ fun ds M1 => match ds with
  | [d, e, f] => .nx (((Γ.set i (some d)).set j (some e)).set l (some f)) M1
  | _ => .bad
section
variable {X : Cx} {C : CT} {W : WX} {gs : GA}
end
@[simp] theorem u_gPar2 (i j : Nat) (gs : GA) (Γ : Env) (M : List MO) : gPar2 i j gs Γ M = (gs Γ M).thenS Γ fun ds M1 => (match ds with
  | [d, e] => .nx ((Γ.set i (some d)).set j (some e)) M1
  | _ => .bad) := Eq.trans rfl rfl
@[simp] theorem u_gPar3 (i j l : Nat) (gs : GA) (Γ : Env) (M : List MO) : gPar3 i j l gs Γ M = (gs Γ M).thenS Γ fun ds M1 => (match ds with
  | [d, e, f] => .nx (((Γ.set i (some d)).set j (some e)).set l (some f)) M1
  | _ => .bad) := Eq.trans rfl rfl
@[simp] theorem u_gLzip (own : Bool) (ga gb : GE) (Γ : Env) (M : List MO) : gLzip own ga gb Γ M = (ga Γ M).bind fun x M1 => (gb Γ M1).bind fun y M2 => (opR (zipO x y) M2).bind fun ds M3 => if ds.length ≤ sizeLine then (if own = true then .ok (.ref M3.length) (M3 ++ [.lst ds]) else .ok (.lst ds) M3) else .bad := Eq.trans rfl rfl
end Bk

set_option Elab.async false
set_option linter.all false
set_option maxRecDepth 100000
set_option maxHeartbeats 4000000
namespace Bk
open PySem PySem.Spec PyProof.Rows L2
/-! ### tuple * int, any count up to a thousand -/
theorem tuple_mul1 (l : Addr) (items : Array Value) (n : Nat) (dd : Option Addr) (sl : Array (Option Value)) (u : Tok) :
    Meets (Builtin.«tuple.__mul__» ⟨[.ref l, .int 1 u], []⟩) (fun _ R s => s.heap.get? l = some { cls := .type "tuple", dict := dd, data := .seq items n, slots := sl } ∧ R (.ok (.ret (Value.ref l))) s) :=
  .of_wp fun prog w A R s h => by
    obtain ⟨hp, g, d, tk, os⟩ := s
    obtain ⟨hl, h⟩ := h
    have f1 := AutoSeq1.idx_int
    have c0 : (decide ((1 : Int) < -(2 ^ 63)) || decide ((1 : Int) ≥ 2 ^ 63)) = false := by decide
    have c1 : (items.isEmpty || (1 : Int) == 1) = true := by simp
    wp_walk using wpAny_loadPart' hl
    repeat (first
      | (refine wpAny_ite_false (decide_eq_false (by rw [c0]; exact Bool.false_ne_true)) ?_; wp_walk using wpAny_loadPart' hl)
      | (refine wpAny_ite_true (decide_eq_true c1) ?_; wp_walk using wpAny_loadPart' hl))
    exact ⟨_, rfl, h⟩
theorem tuple_mul0 (l : Addr) (items : Array Value) (n : Nat) (dd : Option Addr) (sl : Array (Option Value)) (x : Int) (u : Tok) (c0 : (decide (x < -(2 ^ 63)) || decide (x ≥ 2 ^ 63)) = false) (c1 : (items.isEmpty || x == 1) = false) (c2 : (decide (x ≤ 0) || items.isEmpty) = true) :
    Meets (Builtin.«tuple.__mul__» ⟨[.ref l, .int x u], []⟩) (fun _ R s => s.heap.get? l = some { cls := .type "tuple", dict := dd, data := .seq items n, slots := sl } ∧
      R (.ok (.ret (Value.ref s.heap.objs.size))) { s with heap := s.heap.push { cls := Value.type "tuple", data := Data.seq #[] }, toks := s.toks }) :=
  .of_wp fun prog w A R s h => by
    obtain ⟨hp, g, d, tk, os⟩ := s
    obtain ⟨hl, h⟩ := h
    have f1 := AutoSeq1.idx_int
    wp_walk using wpAny_loadPart' hl
    repeat (first
      | (refine wpAny_ite_false (decide_eq_false (by rw [c0]; exact Bool.false_ne_true)) ?_; wp_walk using wpAny_loadPart' hl)
      | (refine wpAny_ite_false (decide_eq_false (by rw [c1]; exact Bool.false_ne_true)) ?_; wp_walk using wpAny_loadPart' hl)
      | (refine wpAny_ite_true (decide_eq_true c2) ?_; wp_walk using wpAny_loadPart' hl))
    exact ⟨_, rfl, h⟩
def rRepTA (K : PySem.W.Frag) : R2 := fun x y H Q => ∃ l k xs, x = .ref l ∧ y = .int k ∧ SqT K H l xs ∧ xs ≠ [] ∧ -1000 ≤ k ∧ k ≤ 1000 ∧ xs.length ≤ 1000 ∧ (k = 1 → Q (.ref l) H) ∧ (k ≠ 1 → ∀ p, H p = none → Q (.ref p) (upd H p (.tup (List.replicate k.toNat xs).flatten)))
section
variable {X : Cx}
theorem op_repTA : OpR X (binaryOp .Mult) (rRepTA X.K) := by
  intro pins s σ H x y v u Q I rx ry h
  obtain ⟨l, k, xs, rfl, rfl, hT, hne, h0, h1, hz, q1, q⟩ := h
  by_cases h2 : 2 ≤ k
  · exact op_repT pins s σ H _ _ v u Q I rx ry ⟨l, k, xs, rfl, rfl, hT, hne, h2, h1, hz, q (by omega)⟩
  cases rx
  obtain ⟨t, rfl⟩ := ry
  obtain ⟨its, r, ⟨⟨cls, dd, data, sl⟩, ho, hc, n, hd⟩, hs⟩ := I.tuple hT
  simp only at hc hd
  subst hc hd
  have hle : its.length = xs.length := r.length.symm
  have hn : its ≠ [] := fun e => hne (List.eq_nil_of_length_eq_zero (by rw [← hle, e]; rfl))
  have hi : its.toArray.isEmpty = false := by
    cases its with
    | nil => exact absurd rfl hn
    | cons a b => rfl
  by_cases e1 : k = 1
  · subst e1
    exact wpAny_binaryOp_repeat_ref (T := "tuple") (U := "int") (by decide) ⟨_, ho, rfl⟩ (fun s' => typeIs_int s' 1 t) noFill_tuple_mul F.fills_int_mul F.slot_int_rmul repeat_tuple F.slot_int_index.lookup
      (call_meets F.slot_int_rmul (typeIs_int s 1 t) F.entry_int_rmul (F.args_int_rmul_2 _ _) (int_rmul_tuple 1 t l its.toArray n dd sl) ⟨ho, rfl, ⟨_, ho, rfl⟩, call_meets F.slot_tuple_mul ⟨_, ho, rfl⟩ F.entry_tuple_mul (F.args_tuple_mul_2 _ _) (tuple_mul1 l its.toArray n dd sl t) ⟨ho, ⟨.ref l, H, I, rfl, q1 rfl⟩⟩⟩)
  · have c0 : (decide (k < -(2 ^ 63)) || decide (k ≥ 2 ^ 63)) = false := by
      rw [decide_eq_false (by omega), decide_eq_false (by omega)] <;> rfl
    have c1 : (its.toArray.isEmpty || k == 1) = false := by
      rw [hi, Bool.false_or]; exact beq_eq_false_iff_ne.mpr e1
    have c2 : (decide (k ≤ 0) || its.toArray.isEmpty) = true := by
      rw [hi, Bool.or_false]; exact decide_eq_true (by omega)
    have z : (List.replicate k.toNat xs).flatten = [] := by
      have : k.toNat = 0 := by omega
      rw [this]; rfl
    rw [z] at q
    refine wpAny_binaryOp_repeat_ref (T := "tuple") (U := "int") (by decide) ⟨_, ho, rfl⟩ (fun s' => typeIs_int s' k t) noFill_tuple_mul F.fills_int_mul F.slot_int_rmul repeat_tuple F.slot_int_index.lookup
      (call_meets F.slot_int_rmul (typeIs_int s k t) F.entry_int_rmul (F.args_int_rmul_2 _ _) (int_rmul_tuple k t l its.toArray n dd sl) ⟨ho, rfl, ⟨_, ho, rfl⟩, call_meets F.slot_tuple_mul ⟨_, ho, rfl⟩ F.entry_tuple_mul (F.args_tuple_mul_2 _ _) (tuple_mul0 l its.toArray n dd sl k t c0 c1 c2) ⟨ho, ?_⟩⟩)
    exact ⟨.ref s.heap.objs.size, _, I.laid (t' := s.toks) (o := .tup []) (fun b ob q => Heap.get?_push_of_some _ q) (Nat.le_refl _) ⟨by decide, [], .nil, IsTup.new _ _⟩, rfl, q e1 _ (I.hok.fresh (Nat.le_refl _))⟩
def dMulT (M : List MO) (x : D) (y : D) : Option D := match x, y with
  | .tup ds, .int k => if (decide (ds ≠ []) && decide (-1000 ≤ k) && decide (k ≤ 1000) && decide (ds.length ≤ 1000)) = true then some (.tup (List.replicate k.toNat ds).flatten) else none
  | x, y => dMulA M x y
theorem op_mulT : OpR X (binaryOp .Mult) (fun x y H Q => rMulA X.K x y H Q ∨ rRepTA X.K x y H Q) := op_mulL.or op_repTA
theorem ok_mulT : Ok2 X (fun x y H Q => rMulA X.K x y H Q ∨ rRepTA X.K x y H Q) dMulT := fun x y H Z ι M dx dy d Q hr rx ry e q => by
  unfold dMulT at e
  split at e
  · rename_i ds k
    split at e
    · rename_i c
      cases e
      simp only [Bool.and_eq_true, decide_eq_true_eq] at c
      obtain ⟨⟨⟨c1, c2⟩, c3⟩, c4⟩ := c
      cases ry
      cases rx with
      | tup s r =>
        have r' := r.rep k.toNat
        refine .inr ⟨_, k, _, rfl, rfl, subT hr.sub s, fun z => c1 ?_, c2, c3, by rw [← r.length]; exact c4, fun e1 => ?_, fun _ => ?_⟩
        · have := r.length
          rw [z] at this
          exact List.eq_nil_of_length_eq_zero this
        · subst e1
          refine q.now hr (.tup s ?_)
          simpa using r
        · exact q.tup hr r'
    · cases e
  · exact .inl (ok_mulL x y H Z ι M dx dy d Q hr rx ry e q)
end
@[simp] theorem e_mulT (M : List MO) (d : D) (ds : List D) (k : Int) (h1 : -1000 ≤ k) (h2 : k ≤ 1000) (h3 : ds.length < 1000) : dMulT M (.tup (d :: ds)) (.int k) = some (.tup (List.replicate k.toNat (d :: ds)).flatten) := by
  have : (d :: ds).length ≤ 1000 := by rw [List.length_cons]; omega
  simp only [dMulT]
  rw [if_pos]
  simp [h1, h2]
  omega
@[simp] theorem e_mulTi (M : List MO) (i : Int) (y : D) : dMulT M (.int i) y = dMulA M (.int i) y := Eq.trans rfl rfl
@[simp] theorem e_mulTl (M : List MO) (ds : List D) (y : D) : dMulT M (.lst ds) y = dMulA M (.lst ds) y := Eq.trans rfl rfl
end Bk

set_option Elab.async false
set_option linter.all false
set_option maxRecDepth 100000
set_option maxHeartbeats 2000000
namespace Bk
open PySem PySem.Spec PyProof.Rows L2
end Bk

set_option Elab.async false
set_option linter.all false
set_option maxRecDepth 100000
set_option maxHeartbeats 2000000
namespace Bk
open PySem PySem.Spec PyProof.Rows L2
/-! ### objects of own classes: a cell of the store, its fields by name -/
def putD (f : Str) (d : D) : List (Str × D) → List (Str × D)
  | [] => [(f, d)]
  | (g, x) :: r => if g = f then (g, d) :: r else (g, x) :: putD f d r
section
variable {K : PySem.W.Frag} {H Z : Hp} {ι : Nat → Addr} {n : Nat}
end
section
variable {K : PySem.W.Frag} {H Z : Hp} {ι : Nat → Addr} {M : List MO}
end
/-! ### what the rules of objects compute -/
def gFld (nm f : Str) (ge : GE) : GE := fun Γ M => (ge Γ M).bind fun x M1 => match x with
  | .ref k => match M1[k]? with
    | some (.obj nm' fs) => if nm' = nm then opR (fs.lookup f) M1 else .bad
    | _ => .bad
  | _ => .bad
def gSetF (nm f : Str) (ge go : GE) : GS := fun Γ M => (ge Γ M).thenS Γ fun d M1 => (go Γ M1).thenS Γ fun x M2 => match x with
  | .ref k => match M2[k]? with
    | some (.obj nm' fs) => if nm' = nm ∧ fs.length < 1000 then .nx Γ (M2.set k (.obj nm (putD f d fs))) else .bad
    | _ => .bad
  | _ => .bad
def isObj (nm m : Str) (M : List MO) : D → Bool
  | .ref k => match M[k]? with
    | some (.obj nm' fs) => decide (nm' = nm) && (fs.lookup m).isNone
    | _ => false
  | _ => false
def gMeth (nm m : Str) (n : Nat) (F : List D → List MO → R D) (go : GE) (ga : GA) : GE := fun Γ M => (go Γ M).bind fun x M1 => if isObj nm m M1 x = true then (ga Γ M1).bind fun ds M2 => if ds.length + 1 = n then callF F (x :: ds) M2 else .bad else .bad
def newR (m : Nat) : D → List MO → R D
  | .non, M => .ok (.ref m) M
  | _, _ => .bad
def gNew (nm : Str) (n : Nat) (F : List D → List MO → R D) (ga : GA) : GE := fun Γ M => (ga Γ M).bind fun ds M1 => if ds.length + 1 = n then (callF F (.ref M1.length :: ds) (M1 ++ [.obj nm []])).bind (newR M1.length) else .bad
/-- a list in a field will not be changed any more -/
def gFzF (i : Nat) (f : Str) : GS := fun Γ M => match Γ[i]? with
  | some (some (.ref k)) => match M[k]? with
    | some (.obj nm fs) => match fs.lookup f with
      | some (.ref j) => match M[j]? with
        | some (.lst ds) => .nx Γ ((M.set j .dead).set k (.obj nm (putD f (.lst ds) fs)))
        | _ => .bad
      | _ => .bad
    | _ => .bad
  | _ => .bad
section
variable {X : Cx} {C : CT} {W : WX} {e o : Expr} {nm f m x : Str} {ge go : GE} {gs : GA} {pos apos pos' p : Pos} {C0 : Addr} {es : List Expr}
variable {k n : Nat} {fa : Addr} {fd : FuncData} {ps : List Str} {F : List D → List MO → R D} {pl : Sem Bool}
end
/-! ### how they are worked out -/
@[simp] theorem u_gFld (nm f : Str) (ge : GE) (Γ : Env) (M : List MO) : gFld nm f ge Γ M = ((ge Γ M).bind fun x M1 => match x with
  | .ref k => match M1[k]? with
    | some (.obj nm' fs) => if nm' = nm then opR (fs.lookup f) M1 else .bad
    | _ => .bad
  | _ => .bad) := Eq.trans rfl rfl
@[simp] theorem u_gSetF (nm f : Str) (ge go : GE) (Γ : Env) (M : List MO) : gSetF nm f ge go Γ M = ((ge Γ M).thenS Γ fun d M1 => (go Γ M1).thenS Γ fun x M2 => match x with
  | .ref k => match M2[k]? with
    | some (.obj nm' fs) => if nm' = nm ∧ fs.length < 1000 then .nx Γ (M2.set k (.obj nm (putD f d fs))) else .bad
    | _ => .bad
  | _ => .bad) := Eq.trans rfl rfl
@[simp] theorem u_isObj (nm m : Str) (M : List MO) (k : Nat) : isObj nm m M (.ref k) = (match M[k]? with
    | some (.obj nm' fs) => decide (nm' = nm) && (fs.lookup m).isNone
    | _ => false) := Eq.trans rfl rfl
@[simp] theorem u_gMeth (nm m : Str) (n : Nat) (F : List D → List MO → R D) (go : GE) (ga : GA) (Γ : Env) (M : List MO) : gMeth nm m n F go ga Γ M = (go Γ M).bind fun x M1 => if isObj nm m M1 x = true then (ga Γ M1).bind fun ds M2 => if ds.length + 1 = n then callF F (x :: ds) M2 else .bad else .bad := Eq.trans rfl rfl
@[simp] theorem u_newR (m : Nat) (M : List MO) : newR m .non M = .ok (.ref m) M := Eq.trans rfl rfl
@[simp] theorem u_gNew (nm : Str) (n : Nat) (F : List D → List MO → R D) (ga : GA) (Γ : Env) (M : List MO) : gNew nm n F ga Γ M = (ga Γ M).bind fun ds M1 => if ds.length + 1 = n then (callF F (.ref M1.length :: ds) (M1 ++ [.obj nm []])).bind (newR M1.length) else .bad := Eq.trans rfl rfl
@[simp] theorem u_gFzF (i : Nat) (f : Str) (Γ : Env) (M : List MO) : gFzF i f Γ M = (match Γ[i]? with
  | some (some (.ref k)) => match M[k]? with
    | some (.obj nm fs) => match fs.lookup f with
      | some (.ref j) => match M[j]? with
        | some (.lst ds) => .nx Γ ((M.set j .dead).set k (.obj nm (putD f (.lst ds) fs)))
        | _ => .bad
      | _ => .bad
    | _ => .bad
  | _ => .bad) := Eq.trans rfl rfl
@[simp] theorem blo_obj (m : Nat) (nm : Str) (fs : List (Str × D)) : belowO m (.obj nm fs) = belows m (fs.map (·.2)) := Eq.trans rfl rfl
end Bk

set_option Elab.async false
set_option linter.all false
set_option maxRecDepth 100000
set_option maxHeartbeats 2000000
namespace Bk
open PySem PySem.Spec PyProof.Rows L2
/-! ### range down by ones -/
def rngDn (lo : Int) : Nat → List D
  | 0 => []
  | n + 1 => .int lo :: rngDn (lo - 1) n
def rng3 : List D → Option (List D)
  | [.int i, .int j, .int c] => if (inR i && inR j && decide (c = -1)) = true then some (rngDn i (i - j).toNat) else none
  | _ => none
def gRng3 (ga : GA) : GI := fun Γ M => (ga Γ M).bind fun ds M1 => opR (rng3 ds) M1
def gRev (ge : GE) : GI := fun Γ M => (ge Γ M).bind fun d M1 => opR ((seqD d).map List.reverse) M1
def mReverse : MF0 := fun ds => some (ds.reverse, .non)
def items1 (M : List MO) : List D → Option (List D)
  | [d] => itemsD M d
  | _ => none
def gListO (ga : GA) : GE := fun Γ M => (ga Γ M).bind fun xs M1 => match items1 M1 xs with
  | some ds => .ok (.ref M1.length) (M1 ++ [.lst ds])
  | none => .bad
section
variable {X : Cx} {C : CT} {W : WX} {tg e a b c : Expr} {g ga : GE} {gs : GA} {pos p : Pos}
end
@[simp] theorem u_gRng3 (ga : GA) (Γ : Env) (M : List MO) : gRng3 ga Γ M = (ga Γ M).bind fun ds M1 => opR (rng3 ds) M1 := Eq.trans rfl rfl
@[simp] theorem u_gRev (ge : GE) (Γ : Env) (M : List MO) : gRev ge Γ M = (ge Γ M).bind fun d M1 => opR ((seqD d).map List.reverse) M1 := Eq.trans rfl rfl
@[simp] theorem u_gListO (ga : GA) (Γ : Env) (M : List MO) : gListO ga Γ M = ((ga Γ M).bind fun xs M1 => match items1 M1 xs with
  | some ds => .ok (.ref M1.length) (M1 ++ [.lst ds])
  | none => .bad) := Eq.trans rfl rfl
@[simp] theorem u_items1 (M : List MO) (d : D) : items1 M [d] = itemsD M d := Eq.trans rfl rfl
@[simp] theorem u_rng3 (i j : Int) : rng3 [.int i, .int j, .int (-1)] = if (inR i && inR j) = true then some (rngDn i (i - j).toNat) else none := by
  show (if (inR i && inR j && decide ((-1 : Int) = -1)) = true then _ else _) = _
  simp
@[simp] theorem u_reverse (ds : List D) : mReverse ds = some (ds.reverse, .non) := Eq.trans rfl rfl
end Bk

set_option Elab.async false
set_option linter.all false
set_option maxRecDepth 100000
set_option maxHeartbeats 2000000
namespace Bk
open PySem PySem.Spec PyProof.Rows L2
/-! ### t >= u -/
def intsL : List D → Option (List Int)
  | [] => some []
  | .int i :: ds => (intsL ds).map fun is => i :: is
  | _ => none
def geI (ns ms : List Int) : Bool := Ob.lexAt (fun j => decide (ns.getD j 0 = ms.getD j 0)) (fun j => decide (ms.getD j 0 ≤ ns.getD j 0)) (decide (ns.length ≥ ms.length)) 0 (min ns.length ms.length)
def dGeA (M : List MO) (x y : D) : Option D := match x, y with
  | .tup xs, .tup ys => match intsL xs, intsL ys with
    | some ns, some ms => some (.bl (geI ns ms))
    | _, _ => none
  | x, y => dGe M x y
section
variable {X : Cx}
end
/-! ### x in l, items of any depth -/
section
variable {X : Cx}
end
/-! ### l.index(x) -/
def dIndex (M : List MO) (x y : D) : Option D := match toP (deref M x), toP (deref M y) with
  | some (.list ps), some q => if (SeqAt.shaped (.list ps) && SeqAt.shaped q) = true then (ps.findIdx? fun z => PyData.eqv z q).map fun j => .int (j : Nat) else none
  | _, _ => none
def gIndex (go ge : GE) : GE := fun Γ M => (go Γ M).bind fun x M1 => if isListD M1 x = true then (ge Γ M1).bind fun y M2 => opR (dIndex M2 x y) M2 else .bad
section
variable {X : Cx} {C : CT} {W : WX}
end
@[simp] theorem u_gIndex (go ge : GE) (Γ : Env) (M : List MO) : gIndex go ge Γ M = (go Γ M).bind fun x M1 => if isListD M1 x = true then (ge Γ M1).bind fun y M2 => opR (dIndex M2 x y) M2 else .bad := Eq.trans rfl rfl
@[simp] theorem e_geA (M : List MO) (i j : Int) : dGeA M (.int i) (.int j) = some (.bl (decide (j ≤ i))) := Eq.trans rfl rfl
end Bk

set_option Elab.async false
set_option linter.all false
set_option maxRecDepth 100000
set_option maxHeartbeats 2000000
namespace Bk
open PySem PySem.Spec PyProof.Rows L2
/-! ### abs -/
def dAbs (_ : List MO) : D → Option D
  | .int i => some (.int (if i < 0 then -i else i))
  | _ => none
/-! ### sorted, ints -/
def insI (x : Int) : List Int → List Int
  | [] => [x]
  | y :: ys => if x ≤ y then x :: y :: ys else y :: insI x ys
def srtI : List Int → List Int
  | [] => []
  | x :: xs => insI x (srtI xs)
def dSortR := ofInts fun is => some (.lst ((srtI is).reverse.map D.int))
def mClear : MF0 := fun _ => some ([], .non)
/-- a method of a list that reads it, with one argument -/
def gRd1 (f : List MO → D → D → Option D) (go ge : GE) : GE := fun Γ M => (go Γ M).bind fun x M1 => if isListD M1 x = true then (ge Γ M1).bind fun y M2 => opR (f M2 x y) M2 else .bad
def dRevL (M : List MO) (x : D) : Option D := (listD M x).map fun ds => .lst ds.reverse
def gRevL (ge : GE) : GE := fun Γ M => (ge Γ M).bind fun x M1 => opR (dRevL M1 x) M1
def gSortR (ge : GE) : GE := fun Γ M => (ge Γ M).bind fun x M1 => opR (dSortR M1 x) M1
section
variable {X : Cx} {C : CT} {W : WX} {e o : Expr} {g ge go : GE}
end
@[simp] theorem u_gRd1 (f : List MO → D → D → Option D) (go ge : GE) (Γ : Env) (M : List MO) : gRd1 f go ge Γ M = (go Γ M).bind fun x M1 => if isListD M1 x = true then (ge Γ M1).bind fun y M2 => opR (f M2 x y) M2 else .bad := Eq.trans rfl rfl
@[simp] theorem u_gRevL (ge : GE) (Γ : Env) (M : List MO) : gRevL ge Γ M = (ge Γ M).bind fun x M1 => opR (dRevL M1 x) M1 := Eq.trans rfl rfl
@[simp] theorem u_gSortR (ge : GE) (Γ : Env) (M : List MO) : gSortR ge Γ M = (ge Γ M).bind fun x M1 => opR (dSortR M1 x) M1 := Eq.trans rfl rfl
@[simp] theorem e_abs (M : List MO) (i : Int) : dAbs M (.int i) = some (.int (if i < 0 then -i else i)) := Eq.trans rfl rfl
@[simp] theorem e_revL (M : List MO) (ds : List D) : dRevL M (.lst ds) = some (.lst ds.reverse) := Eq.trans rfl rfl
@[simp] theorem e_clear (ds : List D) : mClear ds = some ([], .non) := Eq.trans rfl rfl
end Bk

set_option Elab.async false
set_option linter.all false
set_option maxRecDepth 100000
set_option maxHeartbeats 2000000
namespace Bk
open PySem PySem.Spec PyProof.Rows L2
/-! ### defs that work on the caller's whole store: things within things go in and come back -/
def finW : RS → R D
  | .rt d M' => .ok d M'
  | .nx _ M' => .ok .non M'
  | .exc c d _ M' => .exc c d M'
  | _ => .bad
def runW (n : Nat) (g : GS) (ds : List D) (M : List MO) : R D := finW (g (ds.map some ++ List.replicate (n - ds.length) none) M)
def callW (F : List D → List MO → R D) (ds : List D) (M : List MO) : R D := F ds M
def gCallW (n : Nat) (F : List D → List MO → R D) (ga : GA) : GE := fun Γ M => (ga Γ M).bind fun ds M1 => if ds.length = n then callW F ds M1 else .bad
def gCallWK (n : Nat) (F : List D → List MO → R D) (is : List Nat) (ga gk : GA) : GE := fun Γ M => (ga Γ M).bind fun ds M1 => (gk Γ M1).bind fun es M2 => if (pick (ds ++ es) is).length = n then callW F (pick (ds ++ es) is) M2 else .bad
section
variable {K : PySem.W.Frag} {C : CT} {H Z : Hp} {ι : Nat → Addr} {M : List MO} {E : XK} {Q : VK}
end
section
variable {P : Program} {w : World} {K : PySem.W.Frag} {mg : Str → Option Value} {base : Heap} {C : CT}
end
section
variable {X : Cx} {C : CT} {W : WX} {k : Nat} {f : Addr} {fd : FuncData} {ps : List Str} {F : List D → List MO → R D} {x : Str} {p pos : Pos} {e : Expr} {es : List Expr} {gs : GA}
variable {kws : List Keyword} {gk : GA} {ks : List Str} {is : List Nat} {np : Nat}
end
@[simp] theorem u_gCallW (n : Nat) (F : List D → List MO → R D) (ga : GA) (Γ : Env) (M : List MO) : gCallW n F ga Γ M = (ga Γ M).bind fun ds M1 => if ds.length = n then callW F ds M1 else .bad := Eq.trans rfl rfl
@[simp] theorem u_gCallWK (n : Nat) (F : List D → List MO → R D) (is : List Nat) (ga gk : GA) (Γ : Env) (M : List MO) : gCallWK n F is ga gk Γ M = (ga Γ M).bind fun ds M1 => (gk Γ M1).bind fun es M2 => if (pick (ds ++ es) is).length = n then callW F (pick (ds ++ es) is) M2 else .bad := Eq.trans rfl rfl
@[simp] theorem fw_rt (d : D) (M : List MO) : finW (.rt d M) = .ok d M := Eq.trans rfl rfl
@[simp] theorem fw_nx (Γ : Env) (M : List MO) : finW (.nx Γ M) = .ok .non M := Eq.trans rfl rfl
@[simp] theorem fw_ex (c : Nat) (d : D) (Γ : Env) (M : List MO) : finW (.exc c d Γ M) = .exc c d M := Eq.trans rfl rfl
end Bk

set_option Elab.async false
set_option linter.all false
set_option maxRecDepth 100000
set_option maxHeartbeats 2000000
namespace Bk
open PySem PySem.Spec PyProof.Rows L2
/-! ### keys -/
mutual
/-- the key that a tree is -/
def keyD : D → Option NestedKey
  | .non => some .none
  | .int i => some (.num i)
  | .tup ds => (keysD ds).map .tup
  | .ptu ds => (keysD ds).map .tup
  | _ => none
def keysD : List D → Option (List NestedKey)
  | [] => some []
  | d :: ds => match keyD d, keysD ds with
    | some k, some ks => some (k :: ks)
    | _, _ => none
end
section
variable {K : PySem.W.Frag} {H Z : Hp} {ι : Nat → Addr} {n : Nat}
end
section
variable {X : Cx} {pins : List (Addr × Obj)} {σ : L2.St} {H : Hp} {s : Shared}
mutual
theorem KeyV.is (I : Inv X pins σ H s) : ∀ (k : NestedKey) (v : V) (u : Value), KeyV X.K H k v → RelV v u → NestedIs s.heap k u
  | .none, _, _, h, r => by
    cases h
    have r' : _ = Value.none := r
    rw [r']
    exact .none
  | .num i, _, _, h, r => by
    cases h
    obtain ⟨t, rfl⟩ := r
    exact .int i t
  | .text _, _, _, h, _ => by cases h
  | .tup ks, _, _, h, r => by
    cases h with
    | tup sq kv =>
      have r' : _ = Value.ref _ := r
      rw [r']
      obtain ⟨its, rv, ⟨o, ho, hc, m, hd⟩, _⟩ := I.tuple sq
      exact .tup ho hc hd (by simpa using KeyVs.is I ks _ _ kv rv)
theorem KeyVs.is (I : Inv X pins σ H s) : ∀ (ks : List NestedKey) (vs : List V) (us : List Value), KeyVs X.K H ks vs → Vals vs us → NestedAll s.heap ks us
  | [], _, _, h, r => by
    cases h
    cases r
    exact .nil
  | k :: ks, _, _, h, r => by
    cases h with
    | cons h1 h2 =>
      cases r with
      | cons r1 r2 => exact .cons (KeyV.is I k _ _ h1 r1) (KeyVs.is I ks _ _ h2 r2)
end
abbrev NK (X : Cx) := nestedKind X.prog X.w
/-- a dict as the library tells of it -/
theorem Ents.trip (I : Inv X pins σ H s) : ∀ {nks : List NestedKey} {ks vs : List V} {es : List DictEntry}, Ents X.K H nks ks vs es → AllRef ks →
    ∃ xs : List (NestedKey × Addr × Value), es = xs.map (entryOfKey (NK X)) ∧ xs.map (·.1) = nks ∧ (∀ x ∈ xs, (NK X).is s.heap x.1 x.2.1) ∧ xs.length = vs.length ∧ ∀ (i : Nat) (v : V), vs[i]? = some v → ∃ x, xs[i]? = some x ∧ RelV v x.2.2
  | _, _, _, _, .nil, _ => ⟨[], rfl, rfl, by simp, rfl, by simp⟩
  | _, _, _, _, .cons (k := k) (y := y) (ku := ku) (v := v) (u := u) (hs := hs) a ry d h r t, hr => by
    obtain ⟨xs, e1, e2, e3, e4, e5⟩ := Ents.trip I t fun x hx => hr x (List.mem_cons_of_mem _ hx)
    obtain ⟨b, rfl⟩ := hr y (List.mem_cons_self)
    obtain rfl : ku = Value.ref b := ry
    refine ⟨(k, b, u) :: xs, ?_, by simp [e2], fun x hx => ?_, by simp [e4], fun i w hw => ?_⟩
    · rw [List.map_cons, ← e1]
      congr 1
      show (⟨hs, .ref b, u⟩ : DictEntry) = ⟨k.hash X.w, .ref b, u⟩
      rw [h X.w]
    · rcases List.mem_cons.mp hx with rfl | hx
      · exact ⟨KeyV.is I k _ _ a rfl, d⟩
      · exact e3 x hx
    · cases i with
      | zero =>
        have : v = w := by simpa using hw
        subst this
        exact ⟨(k, b, u), rfl, r⟩
      | succ i =>
        obtain ⟨x, hx, rx⟩ := e5 i w (by simpa using hw)
        exact ⟨x, by simpa using hx, rx⟩
theorem ExD.of (I : Inv X pins σ H s) {a : Addr} {nks : List NestedKey} {ks vs : List V} (h : ExD X.K H a nks ks vs) (hrf : AllRef ks) :
    ∃ xs : List (NestedKey × Addr × Value), s.heap.DictOfH (NK X) a xs ∧ xs.map (·.1) = nks ∧ xs.length = vs.length ∧ ∀ (i : Nat) (v : V), vs[i]? = some v → ∃ x, xs[i]? = some x ∧ RelV v x.2.2 := by
  obtain ⟨es, ep, h1, h2, h3, h4, h5⟩ := h
  obtain ⟨xs, e1, e2, e3, e4, e5⟩ := Ents.trip I h5 hrf
  obtain ⟨⟨o, ho, hx, hd⟩, _, _⟩ := I.hok a _ h1
  exact ⟨xs, ⟨o, es, ep, ho, hx, hd, e1, e3, by rw [e2]; exact h4⟩, e2, e4, e5⟩
end
theorem Ents.keys {K : PySem.W.Frag} {Z : Hp} : ∀ {nks : List NestedKey} {ks vs : List V} {es : List DictEntry}, Ents K Z nks ks vs es → KeyVs K Z nks ks ∧ ∃ us, Vals ks us
  | _, _, _, _, .nil => ⟨.nil, [], .nil⟩
  | _, _, _, _, .cons (ku := ku) a ry d h r t => by
    obtain ⟨h1, us, h2⟩ := Ents.keys t
    exact ⟨.cons a h1, ku :: us, .cons ry h2⟩
theorem ExD.keys {X : Cx} {pins : List (Addr × Obj)} {σ : L2.St} {H : Hp} {s : Shared} (I : Inv X pins σ H s) {a : Addr} {nks nks' : List NestedKey} {ks vs : List V} (h : ExD X.K H a nks ks vs) (h' : KeyVs X.K H nks' ks) : nks = nks' := by
  obtain ⟨es, ep, h1, h2, h3, h4, h5⟩ := h
  obtain ⟨k1, us, k2⟩ := h5.keys
  exact NestedAll.inj _ _ _ (KeyVs.is I _ _ _ k1 k2) (KeyVs.is I _ _ _ h' k2)
def posK (k : NestedKey) : List NestedKey → Option Nat
  | [] => none
  | x :: xs => if x = k then some 0 else (posK k xs).map (· + 1)
/-! ### d[k] -/
def isTup : D → Bool
  | .tup _ => true
  | .ptu _ => true
  | _ => false
/-- the place of a key, and the value there -/
def lookD (ks vs : List D) (y : D) : Option (Option D) := match keysD ks, keyD y with
  | some nks, some k => if (ks.all isTup && isTup y && decide (k.depth ≤ 8)) = true then some ((posK k nks).bind fun i => vs[i]?) else none
  | _, _ => none
/-- a dict, frozen or ours -/
def dctD (M : List MO) : D → Option (List D × List D)
  | .dct ks vs => some (ks, vs)
  | .ref k => match M[k]? with
    | some (.dct ks vs) => some (ks, vs)
    | _ => none
  | _ => none
section
variable {X : Cx}
end
end Bk

set_option Elab.async false
set_option linter.all false
set_option maxRecDepth 100000
set_option maxHeartbeats 2000000
namespace Bk
open PySem PySem.Spec PyProof.Rows L2
/-! ### d[k] = v for a dict that is being made -/
section
variable {K : PySem.W.Frag} {Z Z' : Hp}
mutual
theorem KeyV.map (ht : ∀ (a : Addr) (xs : List V), SqT K Z a xs → SqT K Z' a xs) : ∀ (k : NestedKey) (v : V), KeyV K Z k v → KeyV K Z' k v
  | .none, _, h => by cases h; exact .non
  | .num i, _, h => by cases h; exact .int i
  | .text x, _, h => by cases h
  | .tup ks, _, h => by
    cases h with
    | tup s r => exact .tup (ht _ _ s) (KeyVs.map ht ks _ r)
theorem KeyVs.map (ht : ∀ (a : Addr) (xs : List V), SqT K Z a xs → SqT K Z' a xs) : ∀ (ks : List NestedKey) (vs : List V), KeyVs K Z ks vs → KeyVs K Z' ks vs
  | [], _, h => by cases h; exact .nil
  | k :: ks, _, h => by
    cases h with
    | cons r s => exact .cons (KeyV.map ht k _ r) (KeyVs.map ht ks _ s)
end
mutual
/-- no text in a key: its hash is the same in every world -/
theorem KeyV.free : ∀ (k : NestedKey) (v : V), KeyV K Z k v → ∀ w w' : World, k.hash w = k.hash w'
  | .none, _, _, _, _ => rfl
  | .num _, _, _, _, _ => rfl
  | .text _, _, h, _, _ => by cases h
  | .tup ks, _, h, w, w' => by
    cases h with
    | tup s r =>
      unfold NestedKey.hash
      rw [KeyVs.free ks _ r w w']
theorem KeyVs.free : ∀ (ks : List NestedKey) (vs : List V), KeyVs K Z ks vs → ∀ w w' : World, NestedKey.hashes w ks = NestedKey.hashes w' ks
  | [], _, _, _, _ => rfl
  | k :: ks, _, h, w, w' => by
    cases h with
    | cons r s =>
      unfold NestedKey.hashes
      rw [KeyV.free k _ r w w', KeyVs.free ks _ s w w']
end
theorem Ents.map (ht : ∀ (a : Addr) (xs : List V), SqT K Z a xs → SqT K Z' a xs) : ∀ {ks : List NestedKey} {kv vs : List V} {es : List DictEntry}, Ents K Z ks kv vs es → Ents K Z' ks kv vs es
  | _, _, _, _, .nil => .nil
  | _, _, _, _, .cons a y b c d e => .cons (KeyV.map ht _ _ a) y b c d (Ents.map ht e)
theorem Ents.snoc {k : NestedKey} {y : V} {ku : Value} {z : V} {r : Value} {hs : Int} (hk : KeyV K Z k y) (hy : RelV y ku) (hd : k.depth ≤ 8) (hh : ∀ w : World, hs = k.hash w) (hr : RelV z r) : ∀ {nks : List NestedKey} {ks vs : List V} {es : List DictEntry}, Ents K Z nks ks vs es →
    Ents K Z (nks ++ [k]) (ks ++ [y]) (vs ++ [z]) (es ++ [⟨hs, ku, r⟩])
  | _, _, _, _, .nil => .cons hk hy hd hh hr .nil
  | _, _, _, _, .cons a y b c d e => .cons a y b c d (Ents.snoc hk hy hd hh hr e)
end
section
variable {X : Cx} {pins : List (Addr × Obj)} {σ : L2.St} {H : Hp} {s : Shared}
end
end Bk

set_option Elab.async false
set_option linter.all false
set_option maxRecDepth 100000
set_option maxHeartbeats 2000000
namespace Bk
open PySem PySem.Spec PyProof.Rows L2
/-! ### {k: v for t in it}, keys nested tuples: the dict in the making is an object of its own -/
section
variable {X : Cx} {kx vx tg iter : Expr} {ifs : List Expr} {scope : Scope} {own : List (Str × Nat)} {pos : Pos} {wi : TI} {g : TG} {tt : TT} {tk tv : TE}
end
end Bk

set_option Elab.async false
set_option linter.all false
set_option maxRecDepth 100000
set_option maxHeartbeats 2000000
namespace Bk
open PySem PySem.Spec PyProof.Rows L2
/-! ### dict comprehensions, as trees -/
/-- d[k] = v -/
def putKV (ks vs : List D) (k v : D) : Option (List D × List D) := match keysD ks, keyD k with
  | some nks, some nk => if (isTup k && decide (nk.depth ≤ 8) && decide (vs.length < sizeLine)) = true then (match posK nk nks with
    | some i => some (ks, vs.set i v)
    | none => some (ks ++ [k], vs ++ [v])) else none
  | _, _ => none
def gDcL (gg : GG) (gt : GT) (gk gv : GE) (Γ : Env) : List D → List D → List D → List MO → R D
  | [], ks, vs, M => .ok (.dct ks vs) M
  | d :: ds, ks, vs, M => match gg d Γ with
    | none => .bad
    | some Γ1 => (gt Γ1 M).only fun b M1 => if b = true then (gk Γ1 M1).only fun k M2 => (gv Γ1 M2).only fun v M3 => match putKV ks vs k v with
        | some r => gDcL gg gt gk gv Γ ds r.1 r.2 M3
        | none => .bad
      else gDcL gg gt gk gv Γ ds ks vs M1
def gDc (gi : GI) (gg : GG) (gt : GT) (gk gv : GE) (own : List Nat) : GE := fun Γ M => (gi Γ M).bind fun ds M1 => gDcL gg gt gk gv (forget Γ own) ds [] [] M1
/-- a dict that is being made, as it stands -/
def DI (K : PySem.W.Frag) (H Z : Hp) (ι : Nat → Addr) (n : Nat) (p : Addr) (ks vs : List D) : Prop :=
  ∃ (es : Array DictEntry) (ep : Nat) (nks : List NestedKey) (kx xs : List V), H p = some (dnO p es ep) ∧ Ents K Z nks kx xs es.toList ∧ nks.Nodup ∧ Rps K Z ι n ks kx ∧ Rps K Z ι n vs xs ∧ keysD ks = some nks ∧ kx.length ≤ sizeLine ∧ kx.length = xs.length ∧ AllRef kx
theorem DI.ext {K : PySem.W.Frag} {H Z H1 Z1 : Hp} {ι ι1 : Nat → Addr} {n n1 : Nat} {p : Addr} {ks vs : List D} (h : DI K H Z ι n p ks vs) (od : Odd Z ι n p) (e : Ext H Z ι n H1 Z1 ι1 n1) : DI K H1 Z1 ι1 n1 p ks vs := by
  obtain ⟨es, ep, nks, kx, xs, h1, h2, h3, h4, h5, h6, h7, h8, h9⟩ := h
  exact ⟨es, ep, nks, kx, xs, (od.ext h1 e).2, h2.sub e.zz, h3, h4.ext e, h5.ext e, h6, h7, h8, h9⟩
section
variable {X : Cx} {C : CT} {W : WX}
end
end Bk

set_option Elab.async false
set_option linter.all false
set_option maxRecDepth 100000
set_option maxHeartbeats 2000000
namespace Bk
open PySem PySem.Spec PyProof.Rows L2
/-! ### for k in d -/
section
variable {P : Program} {w : World} {K : PySem.W.Frag} {tg : Expr} {d : Addr} {es : Array DictEntry} {ep : Nat} {kx : List V}
end
def dKeys : D → Option (List D)
  | .dct ks _ => some ks
  | _ => none
def gKeysI (ge : GE) : GI := fun Γ M => (ge Γ M).bind fun d M1 => opR (dKeys d) M1
@[simp] theorem u_gKeysI (ge : GE) (Γ : Env) (M : List MO) : gKeysI ge Γ M = (ge Γ M).bind fun d M1 => opR (dKeys d) M1 := Eq.trans rfl rfl
@[simp] theorem e_keys (ks vs : List D) : dKeys (.dct ks vs) = some ks := Eq.trans rfl rfl
end Bk

set_option Elab.async false
set_option linter.all false
set_option maxRecDepth 100000
set_option maxHeartbeats 2000000
namespace Bk
open PySem PySem.Spec PyProof.Rows L2
/-! ### len(d) -/
def dLenN (M : List MO) (x : D) : Option D := match dctD M x with
  | some p => some (.int (p.2.length : Nat))
  | none => dLen M x
@[simp] theorem e_lenN (M : List MO) (ks vs : List D) : dLenN M (.dct ks vs) = some (.int (vs.length : Nat)) := Eq.trans rfl rfl
end Bk

set_option Elab.async false
set_option linter.all false
set_option maxRecDepth 100000
set_option maxHeartbeats 2000000
namespace Bk
open PySem PySem.Spec PyProof.Rows L2
/-! ### for v in d.values() -/
section
variable {P : Program} {w : World} {K : PySem.W.Frag} {tg : Expr} {d : Addr} {es : Array DictEntry} {ep : Nat} {xs : List V}
end
def dVals : D → Option (List D)
  | .dct _ vs => some vs
  | _ => none
def gValsI (ge : GE) : GI := fun Γ M => (ge Γ M).bind fun d M1 => opR (dVals d) M1
@[simp] theorem u_gValsI (ge : GE) (Γ : Env) (M : List MO) : gValsI ge Γ M = (ge Γ M).bind fun d M1 => opR (dVals d) M1 := Eq.trans rfl rfl
@[simp] theorem e_vals (ks vs : List D) : dVals (.dct ks vs) = some vs := Eq.trans rfl rfl
end Bk

set_option Elab.async false
set_option linter.all false
set_option maxRecDepth 100000
set_option maxHeartbeats 2000000
namespace Bk
open PySem PySem.Spec PyProof.Rows L2
/-! ### for k, v in d.items() -/
section
variable {P : Program} {w : World} {K : PySem.W.Frag} {d : Addr} {es : Array DictEntry} {ep : Nat} {kx xs : List V}
end
def pairsD (ks vs : List D) : List D := (ks.zip vs).map fun p => .tup [p.1, p.2]
def dItems : D → Option (List D)
  | .dct ks vs => some (pairsD ks vs)
  | _ => none
def gItemsI (ge : GE) : GI := fun Γ M => (ge Γ M).bind fun d M1 => opR (dItems d) M1
@[simp] theorem u_gItemsI (ge : GE) (Γ : Env) (M : List MO) : gItemsI ge Γ M = (ge Γ M).bind fun d M1 => opR (dItems d) M1 := Eq.trans rfl rfl
@[simp] theorem e_items (ks vs : List D) : dItems (.dct ks vs) = some (pairsD ks vs) := Eq.trans rfl rfl
end Bk

set_option Elab.async false
set_option linter.all false
set_option maxRecDepth 100000
set_option maxHeartbeats 2000000
namespace Bk
open PySem PySem.Spec PyProof.Rows L2
/-! ### d.get(k, x) -/
def dGetN (M : List MO) (x y z : D) : Option D := match dctD M x with
  | some p => (lookD p.1 p.2 y).map fun o => o.getD z
  | none => none
def isDct (M : List MO) (d : D) : Bool := match dctD M d with
  | some p => p.1.all isTup
  | none => false
def gGetN (go gk gx : GE) : GE := fun Γ M => (go Γ M).bind fun x M1 => if isDct M1 x = true then (gk Γ M1).bind fun y M2 => (gx Γ M2).bind fun z M3 => opR (dGetN M3 x y z) M3 else .bad
@[simp] theorem u_gGetN (go gk gx : GE) (Γ : Env) (M : List MO) : gGetN go gk gx Γ M = (go Γ M).bind fun x M1 => if isDct M1 x = true then (gk Γ M1).bind fun y M2 => (gx Γ M2).bind fun z M3 => opR (dGetN M3 x y z) M3 else .bad := Eq.trans rfl rfl
end Bk

set_option Elab.async false
set_option linter.all false
set_option maxRecDepth 100000
set_option maxHeartbeats 4000000
namespace Bk
open PySem PySem.Spec PyProof.Rows L2
/-! ### {k: v for t in it for t1 in it1} -/
section
variable {prog : Program} {w : World} {A : Around} {R : Result → Shared → Prop} {s : Shared} {kx vx t0 i0 t1 i1 : Expr} {ifs0 ifs1 : List Expr} {scope : Scope} {pos : Pos} {it : Value} {D : Addr} {env : PySem.Env}
end
section
variable {X : Cx} {kx vx tg iter tg1 iter1 : Expr} {ifs ifs1 : List Expr} {scope : Scope} {own : List (Str × Nat)} {vs1 : List Nat} {pos : Pos} {wi wi1 : TI} {g g1 : TG} {tt tt1 : TT} {tk tv : TE}
end
end Bk

set_option Elab.async false
set_option linter.all false
set_option maxRecDepth 100000
set_option maxHeartbeats 4000000
namespace Bk
open PySem PySem.Spec PyProof.Rows L2
/-! ### {k: v for t in it for t1 in it1}, as trees -/
def gDcI (gg : GG) (gt : GT) (gk gv : GE) (Γ : Env) : List D → List D → List D → List MO → R (List D × List D)
  | [], ks, vs, M => .ok (ks, vs) M
  | d :: ds, ks, vs, M => match gg d Γ with
    | none => .bad
    | some Γ1 => (gt Γ1 M).only fun b M1 => if b = true then (gk Γ1 M1).only fun k M2 => (gv Γ1 M2).only fun v M3 => match putKV ks vs k v with
        | some r => gDcI gg gt gk gv Γ ds r.1 r.2 M3
        | none => .bad
      else gDcI gg gt gk gv Γ ds ks vs M1
def gDcO (gg : GG) (gt : GT) (gi1 : GI) (gg1 : GG) (gt1 : GT) (gk gv : GE) (vs1 : List Nat) (Γ : Env) : List D → List D → List D → List MO → R D
  | [], ks, vs, M => .ok (.dct ks vs) M
  | d :: ds, ks, vs, M => match gg d Γ with
    | none => .bad
    | some Γ1 => (gt Γ1 M).only fun b M1 => if b = true then (gi1 Γ1 M1).only fun ds1 M2 => (gDcI gg1 gt1 gk gv (forget Γ1 vs1) ds1 ks vs M2).only fun r M3 => gDcO gg gt gi1 gg1 gt1 gk gv vs1 Γ ds r.1 r.2 M3
      else gDcO gg gt gi1 gg1 gt1 gk gv vs1 Γ ds ks vs M1
def gDc2 (gi : GI) (gg : GG) (gt : GT) (gi1 : GI) (gg1 : GG) (gt1 : GT) (gk gv : GE) (own vs1 : List Nat) : GE := fun Γ M => (gi Γ M).bind fun ds M1 => gDcO gg gt gi1 gg1 gt1 gk gv vs1 (forget Γ own) ds [] [] M1
section
variable {X : Cx} {C : CT} {W : WX}
section
variable {kx vx tg iter tg1 iter1 : Expr} {ifs ifs1 : List Expr} {scope : Scope} {own : List (Str × Nat)} {pos spos py : Pos} {gi gi1 : GI} {gg gg1 : GG} {gt gt1 : GT} {gk gv : GE} {is is1 ixs vs1 : List Nat}
end
end
@[simp] theorem u_gDc2 (gi : GI) (gg : GG) (gt : GT) (gi1 : GI) (gg1 : GG) (gt1 : GT) (gk gv : GE) (own vs1 : List Nat) (Γ : Env) (M : List MO) : gDc2 gi gg gt gi1 gg1 gt1 gk gv own vs1 Γ M = (gi Γ M).bind fun ds M1 => gDcO gg gt gi1 gg1 gt1 gk gv vs1 (forget Γ own) ds [] [] M1 := Eq.trans rfl rfl
@[simp] theorem u_gDc (gi : GI) (gg : GG) (gt : GT) (gk gv : GE) (own : List Nat) (Γ : Env) (M : List MO) : gDc gi gg gt gk gv own Γ M = (gi Γ M).bind fun ds M1 => gDcL gg gt gk gv (forget Γ own) ds [] [] M1 := Eq.trans rfl rfl
end Bk

set_option Elab.async false
set_option linter.all false
set_option maxRecDepth 100000
set_option maxHeartbeats 4000000
namespace Bk
open PySem PySem.Spec PyProof.Rows L2
/-! ### sum(d.values()) -/
def gSumV (ge : GE) : GE := fun Γ M => (ge Γ M).bind fun d M1 => opR (match d with
  | .dct _ vs => (intsD vs).map fun is => .int is.sum
  | _ => none) M1
@[simp] theorem u_gSumV (ge : GE) (Γ : Env) (M : List MO) : gSumV ge Γ M = (ge Γ M).bind fun d M1 => opR (match d with
  | .dct _ vs => (intsD vs).map fun is => .int is.sum
  | _ => none) M1 := Eq.trans rfl rfl
end Bk

set_option Elab.async false
set_option linter.all false
set_option maxRecDepth 100000
set_option maxHeartbeats 4000000
namespace Bk
open PySem PySem.Spec PyProof.Rows L2
/-! ### a new thing of ours, from a thing that is neither frozen nor ours -/
section
variable {K : PySem.W.Frag} {H Z : Hp} {ι : Nat → Addr} {M : List MO} {p : Addr}
end
/-! ### dict displays -/
section
variable {X : Cx} {C : CT} {W : WX} {pos : Pos}
theorem pe_dnewN : PE X (.Dict [] [] pos) (fun _ H Q => ∀ p, H p = none → (p == sysModules) = false → Q (.ref p) (upd H p (dnO p #[] 0))) := ⟨fun pins s σ H Q I h => by
  have sm : (s.heap.objs.size == sysModules) = false := (dk_empty (P := X.prog) (w := X.w) (H := H) s.heap I.big).2.1
  have hnew : (s.heap.push { cls := .type "dict", data := .dict #[] }).get? s.heap.objs.size = some { cls := .type "dict", data := .dict #[] } := Heap.get?_push_size _ rfl
  refine wpAny_Dict_empty ⟨.ref s.heap.objs.size, _, I.laid (a := s.heap.objs.size) (o := dnO s.heap.objs.size #[] 0) (t' := s.toks) (fun _ _ q => Heap.get?_push_of_some _ q) (Nat.le_refl _) ?_, rfl, h _ (I.hok.fresh (Nat.le_refl _)) sm⟩
  exact ⟨⟨_, hnew, ⟨rfl, rfl, rfl⟩, rfl⟩, ⟨_, hnew⟩, fun h1 h2 ⟨u, a1, a2, a3⟩ hh => ⟨u, hh u a1, a2, a3⟩⟩⟩
def gDct0 : GE := fun _ M => .ok (.dct [] []) M
def gDct0O : GE := fun _ M => .ok (.ref M.length) (M ++ [.dct [] []])
def gDki0O : GE := fun _ M => .ok (.ref M.length) (M ++ [.dki []])
theorem qe_dct0 : QE X C W (.Dict [] [] pos) gDct0 := ⟨_, pe_dnewN, fun σ H Z ι Γ M Q sl hr h p hp hs => by
  obtain ⟨hr1, e1⟩ := hr.frozen (o := dnO p #[] 0) hp
  exact h _ _ _ ι e1 hr1 (.dct ⟨#[], 0, upd_same, hs, Nat.zero_le _, List.nodup_nil, .nil⟩ .nil .nil)⟩
def okKey (k : D) : Bool := isTup k && match keyD k with
  | some nk => decide (nk.depth ≤ 8)
  | none => false
def gDisp1 (ga gb : GE) : GE := fun Γ M => (ga Γ M).bind fun k M1 => (gb Γ M1).bind fun v M2 => if okKey k = true then .ok (.dct [k] [v]) M2 else .bad
def gDisp1O (ga gb : GE) : GE := fun Γ M => (ga Γ M).bind fun k M1 => (gb Γ M1).bind fun v M2 => if okKey k = true then .ok (.ref M2.length) (M2 ++ [.dct [k] [v]]) else .bad
@[simp] theorem u_gDct0 (Γ : Env) (M : List MO) : gDct0 Γ M = .ok (.dct [] []) M := Eq.trans rfl rfl
@[simp] theorem u_gDct0O (Γ : Env) (M : List MO) : gDct0O Γ M = .ok (.ref M.length) (M ++ [.dct [] []]) := Eq.trans rfl rfl
@[simp] theorem u_gDki0O (Γ : Env) (M : List MO) : gDki0O Γ M = .ok (.ref M.length) (M ++ [.dki []]) := Eq.trans rfl rfl
@[simp] theorem u_gDisp1 (ga gb : GE) (Γ : Env) (M : List MO) : gDisp1 ga gb Γ M = (ga Γ M).bind fun k M1 => (gb Γ M1).bind fun v M2 => if okKey k = true then .ok (.dct [k] [v]) M2 else .bad := Eq.trans rfl rfl
@[simp] theorem u_gDisp1O (ga gb : GE) (Γ : Env) (M : List MO) : gDisp1O ga gb Γ M = (ga Γ M).bind fun k M1 => (gb Γ M1).bind fun v M2 => if okKey k = true then .ok (.ref M2.length) (M2 ++ [.dct [k] [v]]) else .bad := Eq.trans rfl rfl
end
end Bk

set_option Elab.async false
set_option linter.all false
set_option maxRecDepth 100000
set_option maxHeartbeats 4000000
namespace Bk
open PySem PySem.Spec PyProof.Rows L2
/-! ### tuples that are known to have no dict -/
section
variable {X : Cx} {C : CT} {W : WX} {pos : Pos}
def gTup0P : GE := fun _ M => .ok (.ptu []) M
theorem After.ptu {H Z : Hp} {ι : Nat → Addr} {M : List MO} {ds : List D} {Q : VK} {xs : List V} (h : After X H Z ι M (.ptu ds) Q) (hr : HR X.K H Z ι M) (r : Rps X.K Z ι M.length ds xs) : ∀ (p : Addr) (o : Obj), H p = none → o.dict = none → Q (.ref p) (upd H p (.frz o (.tup xs))) := fun p o hp ho => by
  obtain ⟨h1, e1⟩ := hr.frozen (o := .frz o (.tup xs)) hp
  exact h _ _ _ e1 h1 (.ptu ⟨o, upd_same, ho⟩ (r.ext e1))
end
/-! ### sorted, pairs of ints -/
def duoD (p : Int × Int) : D := .tup [.int p.1, .int p.2]
def pairsOf : List D → Option (List (Int × Int))
  | [] => some []
  | .tup [.int a, .int b] :: ds => (pairsOf ds).map ((a, b) :: ·)
  | _ => none
@[simp] theorem pairsOf_map (ps : List (Int × Int)) : pairsOf (ps.map duoD) = some ps := by
  induction ps with
  | nil => rfl
  | cons p ps ih => simp [pairsOf, duoD] at ih ⊢; exact ih
section
variable {X : Cx}
end
@[simp] theorem u_gTup0P (Γ : Env) (M : List MO) : gTup0P Γ M = .ok (.ptu []) M := Eq.trans rfl rfl
end Bk

set_option Elab.async false
set_option linter.all false
set_option maxRecDepth 100000
set_option maxHeartbeats 4000000
namespace Bk
open PySem PySem.Spec PyProof.Rows L2
/-! ### dicts of ours with whole numbers as keys -/
def kiGet : List (Int × D) → Int → Option D
  | [], _ => none
  | p :: r, i => if p.1 = i then some p.2 else kiGet r i
def kiHas : List (Int × D) → Int → Bool
  | [], _ => false
  | p :: r, i => decide (p.1 = i) || kiHas r i
def kiRep : List (Int × D) → Int → D → List (Int × D)
  | [], _, _ => []
  | p :: r, i, d => (if p.1 = i then (p.1, d) else p) :: kiRep r i d
def kiPut (kvs : List (Int × D)) (i : Int) (d : D) : List (Int × D) := if kiHas kvs i = true then kiRep kvs i d else kvs ++ [(i, d)]
/-- the entries as they stand -/
inductive KiR (K : PySem.W.Frag) (Z : Hp) (ι : Nat → Addr) (n : Nat) : List (Int × D) → List (L2.Key × V) → Prop
  | nil : KiR K Z ι n [] []
  | cons {i : Int} {d : D} {v : V} {ks : List (Int × D)} {gs : List (L2.Key × V)} : Rp K Z ι n d v → KiR K Z ι n ks gs → KiR K Z ι n ((i, d) :: ks) ((Sum.inl i, v) :: gs)
section
variable {K : PySem.W.Frag} {Z : Hp} {ι : Nat → Addr} {n : Nat}
theorem KiR.of : ∀ {ks : List (Int × D)} {gs : List (L2.Key × V)}, gs.map (·.1) = ks.map (fun p => Sum.inl p.1) → Rps K Z ι n (ks.map (·.2)) (gs.map (·.2)) → KiR K Z ι n ks gs
  | [], [], _, _ => .nil
  | [], g :: gs, h, _ => by simp at h
  | k :: ks, [], h, _ => by simp at h
  | (i, d) :: ks, (j, v) :: gs, h, r => by
    simp only [List.map_cons, List.cons.injEq] at h
    obtain ⟨rfl, h2⟩ := h
    simp only [List.map_cons] at r
    cases r with
    | cons r1 r2 => exact .cons r1 (KiR.of h2 r2)
theorem KiR.back : ∀ {ks : List (Int × D)} {gs : List (L2.Key × V)}, KiR K Z ι n ks gs → gs.map (·.1) = ks.map (fun p => Sum.inl p.1) ∧ Rps K Z ι n (ks.map (·.2)) (gs.map (·.2)) ∧ Rps K Z ι n (ks.map fun p => .int p.1) (gs.map fun p => kV p.1) ∧ ks.length = gs.length
  | _, _, .nil => ⟨rfl, .nil, .nil, rfl⟩
  | _, _, .cons r s => by
    obtain ⟨a, b, c, d⟩ := s.back
    exact ⟨by simp [a], .cons r b, .cons (.int _) c, by simp [d]⟩
theorem KiR.get (i : Int) : ∀ {ks : List (Int × D)} {gs : List (L2.Key × V)}, KiR K Z ι n ks gs → (match kiGet ks i with
    | some d => ∃ v, valV gs (Sum.inl i) = some v ∧ Rp K Z ι n d v
    | none => valV gs (Sum.inl i) = none)
  | _, _, .nil => rfl
  | _, _, .cons (i := j) (d := d) (v := v) r s => by
    by_cases e : j = i
    · subst e
      simp only [kiGet, if_true]
      exact ⟨v, valV_pos rfl, r⟩
    · have ne : ¬ ((Sum.inl j : L2.Key) = Sum.inl i) := fun z => e (Sum.inl.inj z)
      simp only [kiGet, if_neg e]
      have ih := s.get i
      rw [valV_neg (p := ((Sum.inl j : L2.Key), v)) ne]
      exact ih
theorem KiR.has (i : Int) : ∀ {ks : List (Int × D)} {gs : List (L2.Key × V)}, KiR K Z ι n ks gs → (gs.any fun kv => decide (kv.1 = Sum.inl i)) = kiHas ks i
  | _, _, .nil => rfl
  | _, _, .cons (i := j) r s => by
    rw [List.any_cons, s.has i]
    have : (decide ((Sum.inl j : L2.Key) = Sum.inl i)) = decide (j = i) := by
      rw [decide_eq_decide]
      exact ⟨fun z => Sum.inl.inj z, fun z => by rw [z]⟩
    rw [this]
    rfl
theorem KiR.rep (i : Int) {d : D} {v : V} (rv : Rp K Z ι n d v) : ∀ {ks : List (Int × D)} {gs : List (L2.Key × V)}, KiR K Z ι n ks gs → KiR K Z ι n (kiRep ks i d) (gs.map fun kv => if kv.1 = Sum.inl i then (kv.1, v) else kv)
  | _, _, .nil => .nil
  | _, _, .cons (i := j) (v := w) r s => by
    have ih := s.rep i rv
    by_cases e : j = i
    · subst e
      simp only [kiRep, List.map_cons, if_true]
      exact .cons rv ih
    · have ne : ¬ ((Sum.inl j : L2.Key) = Sum.inl i) := fun z => e (Sum.inl.inj z)
      simp only [kiRep, List.map_cons, if_neg e, if_neg ne]
      exact .cons r ih
theorem KiR.snoc {i : Int} {d : D} {v : V} (rv : Rp K Z ι n d v) : ∀ {ks : List (Int × D)} {gs : List (L2.Key × V)}, KiR K Z ι n ks gs → KiR K Z ι n (ks ++ [(i, d)]) (gs ++ [(Sum.inl i, v)])
  | _, _, .nil => .cons rv .nil
  | _, _, .cons r s => .cons r (s.snoc rv)
theorem KiR.put (i : Int) {d : D} {v : V} (rv : Rp K Z ι n d v) {ks : List (Int × D)} {gs : List (L2.Key × V)} (h : KiR K Z ι n ks gs) : KiR K Z ι n (kiPut ks i d) (putK gs (Sum.inl i) v) := by
  unfold kiPut putK
  rw [h.has i]
  by_cases c : kiHas ks i = true
  · rw [if_pos c, if_pos c]
    exact h.rep i rv
  · rw [if_neg c, if_neg c]
    exact h.snoc rv
def kiMerge (kvs more : List (Int × D)) : List (Int × D) := more.foldl (fun acc p => kiPut acc p.1 p.2) kvs
theorem KiR.mono {Z' : Hp} {ι' : Nat → Addr} {n' : Nat} (hz : Sub Z Z') (hi : ∀ k, k < n → ι' k = ι k) (hn : n ≤ n') : ∀ {ks : List (Int × D)} {gs : List (L2.Key × V)}, KiR K Z ι n ks gs → KiR K Z' ι' n' ks gs
  | _, _, .nil => .nil
  | _, _, .cons r s => .cons (Rp.mono hz hi hn _ _ r) (s.mono hz hi hn)
end
/-! ### dict(t), t a tuple of pairs -/
section
variable {X : Cx}
end
end Bk

set_option Elab.async false
set_option linter.all false
set_option maxRecDepth 100000
set_option maxHeartbeats 4000000
namespace Bk
open PySem PySem.Spec PyProof.Rows L2
/-! ### dict(t) as a dict of ours -/
def kiOf : List D → Option (List (Int × D))
  | [] => some []
  | .tup [.int i, d] :: ds => (kiOf ds).map ((i, d) :: ·)
  | _ => none
@[simp] theorem kiOf_map (ps : List (Int × D)) : kiOf (ps.map fun p => .tup [.int p.1, p.2]) = some ps := by
  induction ps with
  | nil => rfl
  | cons p ps ih => simp [kiOf, ih]
def gDictT (ge : GE) : GE := fun Γ M => (ge Γ M).bind fun x M1 => match x with
  | .ptu ds => match kiOf ds with
    | some kvs => .ok (.ref M1.length) (M1 ++ [.dki (kiMerge [] kvs)])
    | none => .bad
  | _ => .bad
def gGetK (go gk gx : GE) : GE := fun Γ M => (go Γ M).bind fun x M1 => match x with
  | .ref k => match M1[k]? with
    | some (.dki _) => (gk Γ M1).bind fun y M2 => (gx Γ M2).bind fun z M3 => match y, M3[k]? with
      | .int i, some (.dki kvs) => .ok ((kiGet kvs i).getD z) M3
      | _, _ => .bad
    | _ => .bad
  | _ => .bad
section
variable {X : Cx} {C : CT} {W : WX}
/-! ### d[k] = v -/
theorem PSet.or {t t' : TSet} (h : PSet X t) (h' : PSet X t') : PSet X (fun o i v H Q => t o i v H Q ∨ t' o i v H Q) := by
  intro pins s σ H o i v ov iv u Q I ro ri rv q
  rcases q with q | q
  · exact h pins s σ H o i v ov iv u Q I ro ri rv q
  · exact h' pins s σ H o i v ov iv u Q I ro ri rv q
def setX (M : List MO) (o i v : D) : Option (List MO) := match o with
  | .ref k => match M[k]? with
    | some (.dct ks vs) => (putKV ks vs i v).bind fun r => if ks.all isTup = true then some (M.set k (.dct r.1 r.2)) else none
    | some (.dki kvs) => match i with
      | .int j => if kvs.length < sizeLine then some (M.set k (.dki (kiPut kvs j v))) else none
      | _ => none
    | _ => setR M o i v
  | _ => none
def gSetX (ge go gi : GE) : GS := fun Γ M => (ge Γ M).thenS Γ fun v M1 => (go Γ M1).thenS Γ fun o M2 => (gi Γ M2).thenS Γ fun i M3 => match setX M3 o i v with
  | some M4 => .nx Γ M4
  | none => .bad
end
end Bk

set_option Elab.async false
set_option linter.all false
set_option maxRecDepth 100000
set_option maxHeartbeats 4000000
namespace Bk
open PySem PySem.Spec PyProof.Rows L2
/-! ### methods on the whole store -/
def gMethW (nm m : Str) (n : Nat) (F : List D → List MO → R D) (go : GE) (ga : GA) : GE := fun Γ M => (go Γ M).bind fun x M1 => if isObj nm m M1 x = true then (ga Γ M1).bind fun ds M2 => if ds.length + 1 = n then callW F (x :: ds) M2 else .bad else .bad
section
variable {X : Cx} {C : CT} {W : WX} {e o : Expr} {nm f m x : Str} {ge go : GE} {gs : GA} {pos apos pos' p : Pos} {C0 : Addr} {es : List Expr}
variable {k n : Nat} {fa : Addr} {fd : FuncData} {ps : List Str} {F : List D → List MO → R D} {pl : Sem Bool}
end
@[simp] theorem u_gMethW (nm m : Str) (n : Nat) (F : List D → List MO → R D) (go : GE) (ga : GA) (Γ : Env) (M : List MO) : gMethW nm m n F go ga Γ M = (go Γ M).bind fun x M1 => if isObj nm m M1 x = true then (ga Γ M1).bind fun ds M2 => if ds.length + 1 = n then callW F (x :: ds) M2 else .bad else .bad := Eq.trans rfl rfl
/-! ### for k, v in d.items() of a dict of ours with whole numbers as keys; it is not used any more -/
def gItemsK (ge : GE) : GI := fun Γ M => (ge Γ M).bind fun x M1 => match x with
  | .ref k => match M1[k]? with
    | some (.dki kvs) => .ok (kvs.map fun p => .tup [.int p.1, p.2]) (M1.set k .dead)
    | _ => .bad
  | _ => .bad
@[simp] theorem u_gItemsK (ge : GE) (Γ : Env) (M : List MO) : gItemsK ge Γ M = (ge Γ M).bind fun x M1 => match x with
  | .ref k => match M1[k]? with
    | some (.dki kvs) => .ok (kvs.map fun p => .tup [.int p.1, p.2]) (M1.set k .dead)
    | _ => .bad
  | _ => .bad := Eq.trans rfl rfl
@[simp] theorem u_gDictT (ge : GE) (Γ : Env) (M : List MO) : gDictT ge Γ M = (ge Γ M).bind fun x M1 => match x with
  | .ptu ds => match kiOf ds with
    | some kvs => .ok (.ref M1.length) (M1 ++ [.dki (kiMerge [] kvs)])
    | none => .bad
  | _ => .bad := Eq.trans rfl rfl
@[simp] theorem u_gGetK (go gk gx : GE) (Γ : Env) (M : List MO) : gGetK go gk gx Γ M = (go Γ M).bind fun x M1 => match x with
  | .ref k => match M1[k]? with
    | some (.dki _) => (gk Γ M1).bind fun y M2 => (gx Γ M2).bind fun z M3 => match y, M3[k]? with
      | .int i, some (.dki kvs) => .ok ((kiGet kvs i).getD z) M3
      | _, _ => .bad
    | _ => .bad
  | _ => .bad := Eq.trans rfl rfl
@[simp] theorem u_gSetX (ge go gi : GE) (Γ : Env) (M : List MO) : gSetX ge go gi Γ M = (ge Γ M).thenS Γ fun v M1 => (go Γ M1).thenS Γ fun o M2 => (gi Γ M2).thenS Γ fun i M3 => match setX M3 o i v with
  | some M4 => .nx Γ M4
  | none => .bad := Eq.trans rfl rfl
end Bk

set_option Elab.async false
set_option linter.all false
set_option maxRecDepth 100000
set_option maxHeartbeats 4000000
namespace Bk
open PySem PySem.Spec PyProof.Rows L2
@[simp] theorem rr_ptu (m : Nat) (M : List MO) (ds : List D) : retR m M (.ptu ds) = if belows m ds = true then .ok (.ptu ds) (M.take m) else .bad := Eq.trans rfl rfl
@[simp] theorem rr_dct (m : Nat) (M : List MO) (ks vs : List D) : retR m M (.dct ks vs) = if (belows m ks && belows m vs) = true then .ok (.dct ks vs) (M.take m) else .bad := Eq.trans rfl rfl
@[simp] theorem bl_ptu (m : Nat) (ds : List D) : below m (.ptu ds) = belows m ds := Eq.trans rfl rfl
@[simp] theorem bl_dct (m : Nat) (ks vs : List D) : below m (.dct ks vs) = (belows m ks && belows m vs) := Eq.trans rfl rfl
@[simp] theorem blo_dct (m : Nat) (ks vs : List D) : belowO m (.dct ks vs) = (belows m ks && belows m vs) := Eq.trans rfl rfl
@[simp] theorem blo_dki (m : Nat) (kvs : List (Int × D)) : belowO m (.dki kvs) = belows m (kvs.map (·.2)) := Eq.trans rfl rfl
@[simp] theorem it_ptu (M : List MO) (ds : List D) : itemsD M (.ptu ds) = some ds := Eq.trans rfl rfl
@[simp] theorem e_lenNd (M : List MO) (ks vs : List D) : dLenN M (.dct ks vs) = some (.int (vs.length : Nat)) := Eq.trans rfl rfl
@[simp] theorem dn_dct (M : List MO) (ks vs : List D) : dctD M (.dct ks vs) = some (ks, vs) := Eq.trans rfl rfl
@[simp] theorem u_runW (n : Nat) (g : GS) (ds : List D) (M : List MO) : runW n g ds M = finW (g (ds.map some ++ List.replicate (n - ds.length) none) M) := Eq.trans rfl rfl
@[simp] theorem u_callW (F : List D → List MO → R D) (ds : List D) (M : List MO) : callW F ds M = F ds M := Eq.trans rfl rfl
@[simp] theorem seqD_p (ds : List D) : seqD (.ptu ds) = some ds := Eq.trans rfl rfl
end Bk

set_option Elab.async false
set_option linter.all false
set_option maxRecDepth 100000
set_option maxHeartbeats 4000000
namespace Bk
open PySem PySem.Spec PyProof.Rows L2
/-! ### a, b = a list -/
def gToL (gs : GGs) : GG := fun d Γ => match d with
  | .lst ds => gs ds Γ
  | _ => none
section
variable {X : Cx} {es : List Expr} {gs : GGs} {is : List Nat} {pos : Pos}
end
@[simp] theorem u_gToL (gs : GGs) (ds : List D) (Γ : Env) : gToL gs (.lst ds) Γ = gs ds Γ := Eq.trans rfl rfl
end Bk

set_option Elab.async false
set_option linter.all false
set_option maxRecDepth 100000
set_option maxHeartbeats 4000000
namespace Bk
open PySem PySem.Spec PyProof.Rows L2
/-! ### {"a": "b", "c": "d"}[e] -/
def gStrM (a b c d : Str) (ge : GE) : GE := fun Γ M => (ge Γ M).bind fun x M1 => match x with
  | .str s => if s = a then .ok (.str b) M1 else if s = c then .ok (.str d) M1 else .bad
  | _ => .bad
section
variable {X : Cx} {C : CT} {W : WX} {e : Expr} {ge : GE} {pos dp p1 p2 p3 p4 : Pos}
@[simp] theorem u_gStrM (a b c d : Str) (ge : GE) (Γ : Env) (M : List MO) : gStrM a b c d ge Γ M = (ge Γ M).bind fun x M1 => match x with
  | .str s => if s = a then .ok (.str b) M1 else if s = c then .ok (.str d) M1 else .bad
  | _ => .bad := Eq.trans rfl rfl
end
end Bk

set_option Elab.async false
set_option linter.all false
set_option maxRecDepth 100000
set_option maxHeartbeats 2000000
namespace Bk
open PySem PySem.Spec PyProof.Rows L2
/-! ### t < u, t > u of tuples of ints; sorted of a list of them -/
def dLtA (M : List MO) (x y : D) : Option D := match x, y with
  | .tup xs, .tup ys => match intsL xs, intsL ys with
    | some ns, some ms => some (.bl (decide (ns < ms)))
    | _, _ => none
  | x, y => dLt M x y
def dGtA (M : List MO) (x y : D) : Option D := match x, y with
  | .tup xs, .tup ys => match intsL xs, intsL ys with
    | some ns, some ms => some (.bl (decide (ms < ns)))
    | _, _ => none
  | x, y => dGt M x y
section
variable {X : Cx}
end
@[simp] theorem e_ltA_i (M : List MO) (i j : Int) : dLtA M (.int i) (.int j) = some (.bl (decide (i < j))) := Eq.trans rfl rfl
@[simp] theorem e_gtA_i (M : List MO) (i j : Int) : dGtA M (.int i) (.int j) = some (.bl (decide (j < i))) := Eq.trans rfl rfl
/-! sorted -/
abbrev tupI (is : List Int) : D := .tup (is.map D.int)
def rowsL : List D → Option (List (List Int))
  | [] => some []
  | .tup xs :: ds => match intsL xs with
    | some is => (rowsL ds).map fun rs => is :: rs
    | none => none
  | _ => none
def leR (p q : List Int) : Bool := decide (p ≤ q)
def srtR (rs : List (List Int)) : List (List Int) := rs.mergeSort leR
def srtOk (rs : List (List Int)) : Bool := decide (rs.length ≤ 1) || rs.all fun r => decide (r ≠ [])
section
variable {X : Cx}
end
end Bk

set_option Elab.async false
set_option linter.all false
set_option maxRecDepth 100000
set_option maxHeartbeats 2000000
namespace Bk
open PySem PySem.Spec PyProof.Rows L2
/-! ### sum of a tuple of ints -/
def dSumT (M : List MO) (d : D) : Option D := match d with
  | .tup xs => (intsL xs).map fun is => .int is.sum
  | d => dSum M d
section
variable {X : Cx}
end
@[simp] theorem e_sumT_l (M : List MO) (l : List D) : dSumT M (.lst l) = dSum M (.lst l) := Eq.trans rfl rfl
@[simp] theorem e_sumT_r (M : List MO) (k : Nat) : dSumT M (.ref k) = dSum M (.ref k) := Eq.trans rfl rfl
end Bk

set_option Elab.async false
set_option linter.all false
set_option maxRecDepth 100000
set_option maxHeartbeats 2000000
namespace Bk
open PySem PySem.Spec PyProof.Rows L2
/-! ### a chain of three comparisons, as a test -/
def gChain3 (f f' f'' : List MO → D → D → Option D) (ga gb gc gd : GE) : GE := fun Γ M => (ga Γ M).bind fun x M1 => (gb Γ M1).bind fun y M2 => (opR (f M2 x y) M2).bind fun k M3 => match k with
  | .bl c => if c = true then (gc Γ M3).bind fun z M4 => (opR (f' M4 y z) M4).bind fun k' M5 => match k' with
      | .bl c' => if c' = true then (gd Γ M5).bind fun w M6 => opR (f'' M6 z w) M6 else .ok (.bl false) M5
      | _ => .bad
    else .ok (.bl false) M3
  | _ => .bad
@[simp] theorem u_gChain3 (f f' f'' : List MO → D → D → Option D) (ga gb gc gd : GE) (Γ : Env) (M : List MO) : gChain3 f f' f'' ga gb gc gd Γ M = ((ga Γ M).bind fun x M1 => (gb Γ M1).bind fun y M2 => (opR (f M2 x y) M2).bind fun k M3 => match k with
  | .bl c => if c = true then (gc Γ M3).bind fun z M4 => (opR (f' M4 y z) M4).bind fun k' M5 => match k' with
      | .bl c' => if c' = true then (gd Γ M5).bind fun w M6 => opR (f'' M6 z w) M6 else .ok (.bl false) M5
      | _ => .bad
    else .ok (.bl false) M3
  | _ => .bad) := Eq.trans rfl rfl
section
variable {X : Cx} {C : CT} {W : WX}
variable {a b c d : Expr} {ga gb gc gd : GE} {pos : Pos} {f f' f'' : List MO → D → D → Option D}
end
end Bk

set_option Elab.async false
set_option linter.all false
set_option maxRecDepth 100000
set_option maxHeartbeats 2000000
namespace Bk
open PySem PySem.Spec PyProof.Rows L2 HT
/-! ### t[::-1] of a tuple -/
section
variable {prog : Program} {w : World} {A : Around} {E : Value → Shared → Prop} {s : Shared}
end
def dRevA (M : List MO) (x : D) : Option D := match x with
  | .tup ds => some (.tup ds.reverse)
  | x => dRevL M x
def gRevA (ge : GE) : GE := fun Γ M => (ge Γ M).bind fun x M1 => opR (dRevA M1 x) M1
@[simp] theorem u_gRevA (ge : GE) (Γ : Env) (M : List MO) : gRevA ge Γ M = (ge Γ M).bind fun x M1 => opR (dRevA M1 x) M1 := Eq.trans rfl rfl
@[simp] theorem e_revAt (M : List MO) (ds : List D) : dRevA M (.tup ds) = some (.tup ds.reverse) := Eq.trans rfl rfl
@[simp] theorem e_revAl (M : List MO) (ds : List D) : dRevA M (.lst ds) = some (.lst ds.reverse) := Eq.trans rfl rfl
section
variable {X : Cx} {C : CT} {W : WX} {e : Expr} {g : GE}
end
end Bk

set_option Elab.async false
set_option linter.all false
set_option maxRecDepth 100000
set_option maxHeartbeats 2000000
namespace Bk
open PySem PySem.Spec PyProof.Rows L2
/-! ### the lists within a list are left as they are from now on -/
def frz1 : D → List MO → Option (D × List MO)
  | .ref k, M => match M[k]? with
    | some (.lst es) => some (.lst es, M.set k .dead)
    | _ => none
  | d, M => some (d, M)
def frzI : List D → List MO → Option (List D × List MO)
  | [], M => some ([], M)
  | d :: ds, M => (frz1 d M).bind fun p => (frzI ds p.2).map fun q => (p.1 :: q.1, q.2)
def gFzI (i : Nat) : GS := fun Γ M => match Γ[i]? with
  | some (some (.lst ds)) => match frzI ds M with
    | some p => .nx (Γ.set i (some (.lst p.1))) p.2
    | none => .bad
  | _ => .bad
@[simp] theorem u_gFzI (i : Nat) (Γ : Env) (M : List MO) : gFzI i Γ M = (match Γ[i]? with
  | some (some (.lst ds)) => match frzI ds M with
    | some p => .nx (Γ.set i (some (.lst p.1))) p.2
    | none => .bad
  | _ => .bad) := Eq.trans rfl rfl
section
variable {K : PySem.W.Frag} {H Z : Hp} {ι : Nat → Addr} {M M' : List MO}
end
section
variable {X : Cx} {C : CT} {W : WX} {st : Stmt} {g : GS}
end
end Bk

set_option Elab.async false
set_option linter.all false
set_option maxRecDepth 100000
set_option maxHeartbeats 2000000
namespace Bk
open PySem PySem.Spec PyProof.Rows L2
/-! ### xs * k as a list of ours -/
def repO (ds : Option (List D)) (y : D) (M : List MO) : R D := match ds, y with
  | some ds, .int k => if (decide (k < 2 ^ 63) && decide (-(2 ^ 63) ≤ k) && decide (ds.length * k.toNat ≤ sizeLine)) = true then .ok (.ref M.length) (M ++ [.lst (List.replicate k.toNat ds).flatten]) else .bad
  | _, _ => .bad
def gRepO (ga gb : GE) : GE := fun Γ M => (ga Γ M).bind fun x M1 => (gb Γ M1).bind fun y M2 => repO (listD M2 x) y M2
@[simp] theorem u_gRepO (ga gb : GE) (Γ : Env) (M : List MO) : gRepO ga gb Γ M = ((ga Γ M).bind fun x M1 => (gb Γ M1).bind fun y M2 => repO (listD M2 x) y M2) := Eq.trans rfl rfl
section
variable {X : Cx} {C : CT} {W : WX} {a b : Expr} {ga gb : GE} {pos : Pos}
end
end Bk

set_option Elab.async false
set_option linter.all false
set_option maxRecDepth 100000
set_option maxHeartbeats 4000000
namespace Bk
open PySem PySem.Spec PyProof.Rows L2 Srt SrtO SrtR
/-! ### sorted(t, reverse=True) of a tuple of ints -/
section
variable {prog : Program} {w : World} {A : Around} {E : Value → Shared → Prop} {s : Shared}
end
section
variable {X : Cx}
end
def dSortRT (M : List MO) : D → Option D
  | .tup ds => (intsD ds).map fun is => .lst ((srtI is).reverse.map D.int)
  | x => dSortR M x
def gSortRT (ge : GE) : GE := fun Γ M => (ge Γ M).bind fun x M1 => opR (dSortRT M1 x) M1
@[simp] theorem u_gSortRT (ge : GE) (Γ : Env) (M : List MO) : gSortRT ge Γ M = (ge Γ M).bind fun x M1 => opR (dSortRT M1 x) M1 := Eq.trans rfl rfl
section
variable {X : Cx} {C : CT} {W : WX} {e : Expr} {g : GE}
end
end Bk

set_option Elab.async false
set_option linter.all false
set_option maxRecDepth 100000
set_option maxHeartbeats 2000000
namespace Bk
open PySem PySem.Spec PyProof.Rows L2
/-! ### a list of ours that comes back from a call, and will not be changed -/
def fzD (d : D) (M : List MO) : R D := match d with
  | .ref k => match M[k]? with
    | some (.lst ds) => .ok (.lst ds) (M.set k .dead)
    | _ => .bad
  | d => .ok d M
def gFzE (ge : GE) : GE := fun Γ M => (ge Γ M).bind fzD
@[simp] theorem u_gFzE (ge : GE) (Γ : Env) (M : List MO) : gFzE ge Γ M = (ge Γ M).bind fzD := Eq.trans rfl rfl
section
variable {X : Cx} {C : CT} {W : WX} {e : Expr} {ge : GE}
end
end Bk

set_option Elab.async false
set_option linter.all false
set_option maxRecDepth 100000
set_option maxHeartbeats 2000000
namespace Bk
open PySem PySem.Spec PyProof.Rows L2
/-! ### a loop over a list of ours, read anew at each turn -/
def gForN (gg : GG) (body : GS) (k : Nat) : Nat → Nat → GS
  | 0, _ => gBad
  | n + 1, i => fun Γ M => match M[k]? with
    | some (.lst ds) => match ds[i]? with
      | some d => optS (gg d Γ) fun Γ1 => (body Γ1 M).turn (gForN gg body k n (i + 1))
      | none => .nx Γ M
    | _ => .bad
def gForO (ge : GE) (gg : GG) (body : GS) (n : Nat) : GS := fun Γ M => (ge Γ M).thenS Γ fun d M1 => match d with
  | .ref k => gForN gg body k n 0 Γ M1
  | _ => .bad
@[simp] theorem u_gForO (ge : GE) (gg : GG) (body : GS) (n : Nat) (Γ : Env) (M : List MO) : gForO ge gg body n Γ M = ((ge Γ M).thenS Γ fun d M1 => match d with
  | .ref k => gForN gg body k n 0 Γ M1
  | _ => .bad) := Eq.trans rfl rfl
section
variable {X : Cx} {C : CT} {W : WX} {tg : Expr} {ge : GE} {gg : GG} {g : GS} {pos : Pos}
/-! ### a slice as a list of ours -/
def slO (ds : Option (List D)) (lo hi : Option Int) (M : List MO) : R D := match ds with
  | some ds => .ok (.ref M.length) (M ++ [.lst (cutD ds lo hi)])
  | none => .bad
def gSlO (ge : GE) (lo hi : GO) : GE := fun Γ M => (ge Γ M).bind fun x M1 => (lo Γ M1).bind fun a M2 => (hi Γ M2).bind fun b M3 => slO (listD M3 x) a b M3
@[simp] theorem u_gSlO (ge : GE) (lo hi : GO) (Γ : Env) (M : List MO) : gSlO ge lo hi Γ M = ((ge Γ M).bind fun x M1 => (lo Γ M1).bind fun a M2 => (hi Γ M2).bind fun b M3 => slO (listD M3 x) a b M3) := Eq.trans rfl rfl
@[simp] theorem slO_some (ds : List D) (lo hi : Option Int) (M : List MO) : slO (some ds) lo hi M = .ok (.ref M.length) (M ++ [.lst (cutD ds lo hi)]) := Eq.trans rfl rfl
end
end Bk

set_option Elab.async false
set_option linter.all false
set_option maxRecDepth 100000
set_option maxHeartbeats 4000000
namespace Bk
open PySem PySem.Spec PyProof.Rows L2
/-! ### sets of tuples of ints: sorted(set(xs)) -/
/-- each row once -/
def uniqR : List (List Int) → List (List Int)
  | [] => []
  | r :: rs => if r ∈ rs then uniqR rs else r :: uniqR rs
section
variable {prog : Program} {w : World} {A : Around} {E : Value → Shared → Prop} {s : Shared}
variable {a : Addr} {L : List (Addr × List Int)} {es : Array (Int × Value)} {ep : Nat} {t : SetTable}
end
end Bk

set_option Elab.async false
set_option linter.all false
set_option maxRecDepth 100000
set_option maxHeartbeats 4000000
namespace Bk
open PySem PySem.Spec PyProof.Rows L2
/-! ### sorted(set(xs)), the rule -/
section
variable {X : Cx}
end
/-! what the layer says -/
def dSortS (M : List MO) (d : D) : Option D := ((listD M d).bind rowsL).bind fun rs => if (decide (rs.length < 64) && srtOk (uniqR rs)) = true then some (.lst ((srtR (uniqR rs)).map tupI)) else none
def gSortS (ge : GE) : GE := fun Γ M => (ge Γ M).bind fun d M1 => opR (dSortS M1 d) M1
@[simp] theorem u_gSortS (ge : GE) (Γ : Env) (M : List MO) : gSortS ge Γ M = ((ge Γ M).bind fun d M1 => opR (dSortS M1 d) M1) := Eq.trans rfl rfl
section
variable {X : Cx} {C : CT} {W : WX} {a : Expr} {ge : GE} {p p2 pos q : Pos}
end
end Bk

set_option Elab.async false
set_option linter.all false
set_option maxRecDepth 100000
set_option maxHeartbeats 4000000
namespace Bk
open PySem PySem.Spec PyProof.Rows L2 PpSet
/-! ### a set comprehension of tuples of ints, and how many they are -/
section
variable {X : Cx} {pins : List (Addr × Obj)} {σ : St} {H : Hp} {s : Shared}
end
end Bk

set_option Elab.async false
set_option linter.all false
set_option maxRecDepth 100000
set_option maxHeartbeats 4000000
namespace Bk
open PySem PySem.Spec PyProof.Rows L2 PpSet
/-! ### len({e for x in xs if ..}), e a tuple of ints -/
def rowD : D → Option (List Int)
  | .tup xs => intsL xs
  | _ => none
def gScL (gg : GG) (gt : GT) (ge : GE) (Γ0 : Env) : List D → List (List Int) → List MO → R (List (List Int))
  | [], rs, M => .ok rs M
  | d :: ds, rs, M => match gg d Γ0 with
    | none => .bad
    | some Γ1 => (gt Γ1 M).only fun k M1 => if k = true then (ge Γ1 M1).only fun y M2 => match rowD y with
        | some r => if rs.length + 1 < 64 then gScL gg gt ge Γ0 ds (rs ++ [r]) M2 else .bad
        | none => .bad
      else gScL gg gt ge Γ0 ds rs M1
def gLenSc (gi : GI) (gg : GG) (gt : GT) (ge : GE) (vs : List Nat) : GE := fun Γ M => (gi Γ M).bind fun ds M1 => (gScL gg gt ge (forget Γ vs) ds [] M1).bind fun rs M2 => .ok (.int ((uniqR rs).length : Nat)) M2
@[simp] theorem u_gLenSc (gi : GI) (gg : GG) (gt : GT) (ge : GE) (vs : List Nat) (Γ : Env) (M : List MO) : gLenSc gi gg gt ge vs Γ M = ((gi Γ M).bind fun ds M1 => (gScL gg gt ge (forget Γ vs) ds [] M1).bind fun rs M2 => .ok (.int ((uniqR rs).length : Nat)) M2) := Eq.trans rfl rfl
@[simp] theorem scL_nil (gg : GG) (gt : GT) (ge : GE) (Γ0 : Env) (rs : List (List Int)) (M : List MO) : gScL gg gt ge Γ0 [] rs M = .ok rs M := by simp [gScL]
section
variable {X : Cx} {C : CT} {W : WX}
variable {elt tg iter : Expr} {ifs : List Expr} {scope : Scope} {own : List (Str × Nat)} {p q pos : Pos} {gi : GI} {gg : GG} {gt : GT} {ge : GE} {is ixs : List Nat}
end
end Bk

set_option Elab.async false
set_option linter.all false
set_option maxRecDepth 100000
set_option maxHeartbeats 4000000
namespace Bk
open PySem PySem.Spec PyProof.Rows L2
/-! ### attributes stored at once, objects whose fields are ours, keys of a dict of ours, defs that call themselves -/
section
variable {X : Cx} {C : CT} {W : WX} {e o : Expr} {es : List Expr} {nm f m x : Str} {ge go : GE} {gs : GA} {pos apos pos' p : Pos} {C0 : Addr}
abbrev HHs := List D → Env → List MO → Option (List MO)
def gSetFs (ge : GE) (hs : HHs) : GS := fun Γ M => (ge Γ M).thenS Γ fun d M1 => match d with
  | .tup ds => match hs ds Γ M1 with
    | some M2 => .nx Γ M2
    | none => .bad
  | _ => .bad
/-! C(e, ..), the fields may be ours -/
def gNewW (nm : Str) (n : Nat) (F : List D → List MO → R D) (ga : GA) : GE := fun Γ M => (ga Γ M).bind fun ds M1 => if ds.length + 1 = n then (callW F (.ref M1.length :: ds) (M1 ++ [.obj nm []])).bind (newR M1.length) else .bad
variable {k n : Nat} {fa : Addr} {fd : FuncData} {ps : List Str} {F : List D → List MO → R D}
end
/-! a key that is not in a dict -/
section
variable {X : Cx}
end
@[simp] theorem u_gSetFs (ge : GE) (hs : HHs) (Γ : Env) (M : List MO) : gSetFs ge hs Γ M = ((ge Γ M).thenS Γ fun d M1 => match d with
  | .tup ds => match hs ds Γ M1 with
    | some M2 => .nx Γ M2
    | none => .bad
  | _ => .bad) := Eq.trans rfl rfl
@[simp] theorem u_gNewW (nm : Str) (n : Nat) (F : List D → List MO → R D) (ga : GA) (Γ : Env) (M : List MO) : gNewW nm n F ga Γ M = ((ga Γ M).bind fun ds M1 => if ds.length + 1 = n then (callW F (.ref M1.length :: ds) (M1 ++ [.obj nm []])).bind (newR M1.length) else .bad) := Eq.trans rfl rfl
end Bk

set_option Elab.async false
set_option linter.all false
set_option maxRecDepth 100000
set_option maxHeartbeats 4000000
namespace Bk
open PySem PySem.Spec PyProof.Rows L2
/-! ### len(set(xs)) of tuples of ints -/
def dLenSet (M : List MO) (d : D) : Option D := ((listD M d).bind rowsL).bind fun rs => if rs.length < 64 then some (.int ((uniqR rs).length : Nat)) else none
def gLenSet (ge : GE) : GE := fun Γ M => (ge Γ M).bind fun d M1 => opR (dLenSet M1 d) M1
@[simp] theorem u_gLenSet (ge : GE) (Γ : Env) (M : List MO) : gLenSet ge Γ M = ((ge Γ M).bind fun d M1 => opR (dLenSet M1 d) M1) := Eq.trans rfl rfl
section
variable {X : Cx} {C : CT} {W : WX} {a : Expr} {ge : GE} {p p2 pos q : Pos}
end
end Bk

set_option Elab.async false
set_option linter.all false
set_option maxRecDepth 100000
set_option maxHeartbeats 4000000
namespace Bk
open PySem PySem.Spec PyProof.Rows L2
open PySem.Sem (wp)
/-! ### zip(.., strict=True) of two iterators, its step -/
section
variable {prog : Program} {w : World} {A : Around} {E : Value → Shared → Prop} {s : Shared} {z TI TO i1 i2 : Addr} {fp1 fp2 : List Addr} {n1 n2 n i : Nat} {P1 P2 P : Nat → Value → Prop} {St1 St2 St : Nat → Heap → Prop} {a1 a2 : Value}
end
end Bk

set_option Elab.async false
set_option linter.all false
set_option maxRecDepth 100000
set_option maxHeartbeats 4000000
namespace Bk
open PySem PySem.Spec PyProof.Rows L2
open PySem.Sem (wp)
/-! ### enumerate(zip(.., .., strict=True), k) -/
section
variable {prog : Program} {w : World} {A : Around} {E : Value → Shared → Prop} {s : Shared} {z TI TO i1 i2 : Addr} {fp1 fp2 : List Addr} {n1 n2 n i : Nat} {P1 P2 P : Nat → Value → Prop} {St1 St2 St : Nat → Heap → Prop} {a1 a2 : Value}
end
end Bk

set_option Elab.async false
set_option linter.all false
set_option maxRecDepth 100000
set_option maxHeartbeats 4000000
namespace Bk
open PySem PySem.Spec PyProof.Rows L2
/-! ### enumerate(zip(.., .., strict=True), k), the rule -/
end Bk

set_option Elab.async false
set_option linter.all false
set_option maxRecDepth 100000
set_option maxHeartbeats 4000000
namespace Bk
open PySem PySem.Spec PyProof.Rows L2
/-! ### for i, (a, b) in enumerate(zip(.., .., strict=True), k) -/
def enumZO (x y : D) (k : Int) : Option (List D) := match seqD x, seqD y with
  | some ds, some es => if (decide (ds.length = es.length) && decide (-(2 ^ 63) ≤ k) && decide (k < 2 ^ 63)) = true then some (enumL k (zipL ds es)) else none
  | _, _ => none
def gEnumZ (ga gb : GE) (k : Int) : GI := fun Γ M => (ga Γ M).bind fun x M1 => (gb Γ M1).bind fun y M2 => opR (enumZO x y k) M2
@[simp] theorem u_gEnumZ (ga gb : GE) (k : Int) (Γ : Env) (M : List MO) : gEnumZ ga gb k Γ M = (ga Γ M).bind fun x M1 => (gb Γ M1).bind fun y M2 => opR (enumZO x y k) M2 := Eq.trans rfl rfl
section
open PySem.Sem (wp)
variable {prog : Program} {w : World} {A : Around} {E : Value → Shared → Prop} {s : Shared} {z TI TO : Addr} {f0 : Value} {f : Bool}
end
section
variable {X : Cx} {C : CT} {W : WX} {e e2 : Expr} {ga gb : GE} {p p2 pos zpos tpos cp kp ip : Pos} {elts : List Expr} {kk j j2 : Nat} {k : Int}
end
end Bk

set_option Elab.async false
set_option linter.all false
set_option maxRecDepth 100000
set_option maxHeartbeats 4000000
namespace Bk
open PySem PySem.Spec PyProof.Rows L2
/-! ### for a, b in zip(.., .., strict=True) -/
section
variable {prog : Program} {w : World} {A : Around} {E : Value → Shared → Prop} {s : Shared} {z TI TO i1 i2 : Addr} {fp1 fp2 : List Addr} {n1 n2 n i : Nat} {P1 P2 P : Nat → Value → Prop} {St1 St2 St : Nat → Heap → Prop} {a1 a2 : Value}
end
def zipSO (x y : D) : Option (List D) := match seqD x, seqD y with
  | some ds, some es => if ds.length = es.length then some (zipL ds es) else none
  | _, _ => none
def gZipS (ga gb : GE) : GI := fun Γ M => (ga Γ M).bind fun x M1 => (gb Γ M1).bind fun y M2 => opR (zipSO x y) M2
@[simp] theorem u_gZipS (ga gb : GE) (Γ : Env) (M : List MO) : gZipS ga gb Γ M = (ga Γ M).bind fun x M1 => (gb Γ M1).bind fun y M2 => opR (zipSO x y) M2 := Eq.trans rfl rfl
section
variable {X : Cx} {C : CT} {W : WX} {e e2 : Expr} {ga gb : GE} {p2 zpos tpos cp kp : Pos} {elts : List Expr} {kk j : Nat}
end
end Bk

set_option Elab.async false
set_option linter.all false
set_option maxRecDepth 100000
set_option maxHeartbeats 2000000
namespace Bk
open PySem PySem.Spec PyProof.Rows L2
/-! ### errors: classes of the program over ValueError, each with one attribute -/
def errOk (B : Addr) (kd : ClassData) (ar : Array (Option Value)) : Bool := match kd.mro, ar.toList with
  | .ref B2 :: tl, [_, _, _, _, some (.builtin nw), _] => B2 == B && nw == "ValueError.__new__" && !kd.hasDel && kd.hasDict && PySem.HandSPX.refsVE tl
  | _, _ => false
theorem errOk_cls {K : PySem.W.Frag} {B : Addr} {dd : Option Addr} {kd : ClassData} {ar : Array (Option Value)} (ho : K.lookup B = some ⟨.type "type", dd, .cls kd, ar⟩) (q : errOk B kd ar = true) : ∃ nm qn N bs tl sn sub ab col dd k0 k1 k2 k3 k5,
    K.lookup B = some (excClassObj nm qn B N bs tl true sn sub ab col dd k0 k1 k2 k3 k5 "ValueError.__new__") ∧ PySem.HandSPX.refsVE tl = true := by
  unfold errOk at q
  split at q
  · rename_i B2 tl k0 k1 k2 k3 nw k5 hm hs
    simp only [Bool.and_eq_true, beq_iff_eq, Bool.not_eq_true'] at q
    obtain ⟨⟨⟨⟨rfl, rfl⟩, hdel⟩, hdi⟩, hrf⟩ := q
    obtain ⟨nm, bs, mro, ns, qn, hd, sn, sub, ab, col, del⟩ := kd
    dsimp only at hm hdel hdi
    subst hm hdel hdi
    obtain ⟨l⟩ := ar
    simp only at hs
    subst hs
    exact ⟨nm, qn, ns, bs, tl, sn, sub, ab, col, dd, k0, k1, k2, k3, k5, ho, hrf⟩
  · cases q
/-- a class of errors: at B, its attribute f, its maker at fI -/
structure XC (K : PySem.W.Frag) (B fI : Addr) (f : Str) (fd : FuncData) (st : Stmt) (qual : Str) : Prop where
  ok : OexC K B
  xf : XfC K B
  no : PySem.W.findIn K (.ref B) f = some none
  ini : PySem.W.findIn K (.ref B) "__init__" = some (some (.ref fI))
  typ : PySem.W.typeIn K (.ref fI) = some (.type "function")
  fn : Fun K "__init__" qual st fI fd
  bi : Binds K fd ["self", f] []
/-- what the maker does -/
def spI (B : Addr) (f : Str) : Sp := fun vs H Q _ => ∃ (a : Addr) (y : V), vs = [.ref a, y] ∧ H a = some (exo a B none) ∧ ∀ dx, H dx = none → dx ≠ a → Q .non (upd (upd H dx (exd dx [(f, y)])) a (exo a B (some dx)))
theorem maker_ok {P : Program} {w : World} {K : PySem.W.Frag} {mg : Str → Option Value} {base : Heap} {B fI : Addr} {f qual : Str} {fd : FuncData} {st : Stmt} {p1 p2 p3 p4 : Pos} (I : XC K B fI f fd st qual) (S : FnScope ["self", f] ["self", f] (defScope st))
    (hb : defBody st = [.Assign [.Attribute (.Name "self" p1) f p2] (.Name f p3) p4]) (hd : (f == ("__debug__" : Str)) = false) (hcd : (f == ("__classdict__" : Str)) = false) (vs1 : Vis (defScope st) "self") (vs2 : Vis (defScope st) f)
    (hsw : ∀ env : PySem.Env, swapsWith (.Name f p3) (some (.Attribute (.Name "self" p1) f p2)) p4.line env = pure false) : FnOk P w K mg base CX0 1 fI fd ["self", f] (spI B f) := by
  obtain ⟨oc, od, kV, doc, pm, an, cdv, ct, osl, rfl, lk, hcode⟩ := I.fn.ex
  refine fn_of (k := 0) (N := ["self", f]) lk hcode S (fun vs H Q E h => ?_) fun A outer s H vs Q E hr h => ?_
  · obtain ⟨a, y, e, _⟩ := h
    rw [e]
    rfl
  · obtain ⟨a, y, e, ea, q⟩ := h
    subst e
    rw [hb]
    have pv : PE (cxOf CX0 P w K mg base ["self", f] qual (defScope st) fI cdv A outer s H E) (.Name f p3) (tVar 1) := pe_var rfl vs2 hd hcd
    have pself : PE (cxOf CX0 P w K mg base ["self", f] qual (defScope st) fI cdv A outer s H E) (.Name "self" p1) (tVar 0) := pe_var rfl vs1 (by decide) (by decide)
    refine ⟨_, pss_one (ps_ost pself pv (hsw _)), ?_⟩
    exact ⟨y, rfl, .ref a, rfl, a, B, rfl, I.ok, I.no, .inl ⟨ea, fun dx n ne => q dx n ne⟩⟩
section
variable {X : Cx} {C : CT} {W : WX} {B fI : Addr} {f x qual : Str} {fd : FuncData} {st : Stmt} {e : Expr} {ge : GE} {p pos pos1 : Pos}
/-- an error is raised -/
def gRaise (c : Nat) (ge : GE) : GS := fun Γ M => (ge Γ M).thenS Γ fun d M1 => .exc c d Γ M1
end
@[simp] theorem u_gRaise (c : Nat) (ge : GE) (Γ : Env) (M : List MO) : gRaise c ge Γ M = (ge Γ M).thenS Γ fun d M1 => .exc c d Γ M1 := rfl

/-! ### try -/
theorem Slots.unset {K : PySem.W.Frag} {Z : Hp} {ι : Nat → Addr} {n i : Nat} {Γ : Env} {σ : St} (s : Slots K Z ι n Γ σ) (o : Option V) : Slots K Z ι n (Γ.set i none) (σ.set i o) := by
  refine ⟨by rw [List.length_set, List.length_set]; exact s.1, fun j d h => ?_⟩
  by_cases hj : i = j
  · subst hj
    have lt : i < Γ.length := by
      have := (List.getElem?_eq_some_iff.mp h).1
      rw [List.length_set] at this
      exact this
    rw [List.getElem?_set_self lt] at h
    cases h
  · rw [List.getElem?_set_ne hj] at h ⊢
    exact s.2 j d h
/-- a clause: which classes it takes, the slot of its name, what it does with the error's attribute -/
structure Hd where
  is : Nat → Bool
  slot : Option Nat
  run : D → GS
def RS.noExc (r : RS) : RS := match r with
  | .exc _ _ _ _ => .bad
  | r => r
def RS.unset (i : Nat) (r : RS) : RS := match r with
  | .nx Γ M => .nx (Γ.set i none) M
  | .bk Γ M => .bk (Γ.set i none) M
  | .ct Γ M => .ct (Γ.set i none) M
  | r => r
def pickH : List Hd → Nat → D → GS
  | [], c, d => fun Γ M => .exc c d Γ M
  | h :: r, c, d => fun Γ M => if h.is c = true then (match h.slot with
      | none => (h.run d Γ M).noExc
      | some i => if i < Γ.length then ((h.run d (Γ.set i none) M).noExc).unset i else .bad) else pickH r c d Γ M
def RS.caught (m : Nat) (hs : List Hd) (r : RS) : RS := match r with
  | .exc c d Γ M => if c < m then pickH hs c d Γ M else .bad
  | r => r
def gTry (m : Nat) (body : GS) (hs : List Hd) : GS := fun Γ M => (body Γ M).caught m hs

/-- readings of the suites -/
abbrev TSx := Addr → Value → Option Addr → TS
def endsU (i : Nat) (Dd : Ends) : Ends := { nx := fun σ H => Dd.nx (σ.set i none) H, rt := Dd.rt, bk := fun σ H => Dd.bk (σ.set i none) H, ct := fun σ H => Dd.ct (σ.set i none) H }
section
variable {X : Cx} {body : List Stmt} {h0 : ExceptHandler} {hds : List ExceptHandler} {l : List (Value × Option Nat × TSx)} {pos : Pos} {tb : WX → TS} {Wo : WX}
end
end Bk

set_option Elab.async false
set_option linter.all false
set_option maxRecDepth 100000
set_option maxHeartbeats 2000000
namespace Bk
open PySem PySem.Spec PyProof.Rows L2
/-! ### try: the rule, and the readings of an error's attribute -/
section
variable {X : Cx} {C : CT} {W : WX} {H Z H1 Z1 : Hp} {ι ι1 : Nat → Addr} {M M1 : List MO} {Dd : Ends}
theorem ExcR.ext {n n' c : Nat} {d : D} {cls : Value} {dd : Option Addr} (x : ExcR X.K C H Z ι n c d cls dd) (e : Ext H Z ι n H1 Z1 ι1 n') : ExcR X.K C H1 Z1 ι1 n' c d cls dd := by
  obtain ⟨x1, a, v, x2, x3, x4⟩ := x
  exact ⟨x1, a, v, x2, e.zz _ _ x3, x4.ext e⟩
theorem PostS.noExc {r : RS} (h : PostS X C W H Z ι M r.noExc Dd) : PostS X C noW H Z ι M r Dd := by
  cases r with
  | exc c d Γ M' => exact False.elim h
  | nx Γ M' => exact h
  | bk Γ M' => exact h
  | ct Γ M' => exact h
  | rt d M' => exact h
  | bad => exact h
theorem PostS.unset {r : RS} {i : Nat} (h : PostS X C W H Z ι M (r.unset i) Dd) : PostS X C W H Z ι M r (endsU i Dd) := by
  cases r with
  | nx Γ M' => exact fun σ' H' Z' ι' e hr sl => h _ H' Z' ι' e hr (sl.unset none)
  | bk Γ M' => exact fun σ' H' Z' ι' e hr sl => h _ H' Z' ι' e hr (sl.unset none)
  | ct Γ M' => exact fun σ' H' Z' ι' e hr sl => h _ H' Z' ι' e hr (sl.unset none)
  | rt d M' => exact h
  | exc c d Γ M' => exact h
  | bad => exact h
end
section
variable {X : Cx} {C : CT} {W : WX}
/-! expressions in a suite that read the error's attribute -/
variable {k i : Nat} {e e1 e2 : Expr} {es : List Expr} {g ga gb : D → GE} {gs : D → GA} {gt : D → GT} {pos np : Pos}
/-! suites -/
end
@[simp] theorem u_gTry (m : Nat) (b : GS) (hs : List Hd) (Γ : Env) (M : List MO) : gTry m b hs Γ M = (b Γ M).caught m hs := rfl
@[simp] theorem u_cExc (m : Nat) (hs : List Hd) (c : Nat) (d : D) (Γ : Env) (M : List MO) : (RS.exc c d Γ M).caught m hs = if c < m then pickH hs c d Γ M else .bad := rfl
@[simp] theorem u_cNx (m : Nat) (hs : List Hd) (Γ : Env) (M : List MO) : (RS.nx Γ M).caught m hs = .nx Γ M := rfl
@[simp] theorem u_cRt (m : Nat) (hs : List Hd) (d : D) (M : List MO) : (RS.rt d M).caught m hs = .rt d M := rfl
@[simp] theorem u_pickNil (c : Nat) (d : D) (Γ : Env) (M : List MO) : pickH [] c d Γ M = .exc c d Γ M := rfl
@[simp] theorem u_pickO (is : Nat → Bool) (g : D → GS) (r : List Hd) (c : Nat) (d : D) (Γ : Env) (M : List MO) : pickH (⟨is, none, g⟩ :: r) c d Γ M = if is c = true then (g d Γ M).noExc else pickH r c d Γ M := rfl
@[simp] theorem u_pickA (is : Nat → Bool) (i : Nat) (g : D → GS) (r : List Hd) (c : Nat) (d : D) (Γ : Env) (M : List MO) : pickH (⟨is, some i, g⟩ :: r) c d Γ M = if is c = true then (if i < Γ.length then ((g d (Γ.set i none) M).noExc).unset i else .bad) else pickH r c d Γ M := rfl
@[simp] theorem u_noNx (Γ : Env) (M : List MO) : (RS.nx Γ M).noExc = .nx Γ M := rfl
@[simp] theorem u_noRt (d : D) (M : List MO) : (RS.rt d M).noExc = .rt d M := rfl
@[simp] theorem u_unNx (i : Nat) (Γ : Env) (M : List MO) : (RS.nx Γ M).unset i = .nx (Γ.set i none) M := rfl
@[simp] theorem u_unRt (i : Nat) (d : D) (M : List MO) : (RS.rt d M).unset i = .rt d M := rfl
end Bk

set_option Elab.async false
set_option linter.all false
set_option maxRecDepth 100000
set_option maxHeartbeats 2000000
namespace Bk
open PySem PySem.Spec PyProof.Rows L2
/-! ### xs + ys as a list of ours; len(set(xs)) of ints -/
def gAddO (ga gb : GE) : GE := fun Γ M => (ga Γ M).bind fun x M1 => (gb Γ M1).bind fun y M2 => match listD M2 x, listD M2 y with
  | some a, some b => if a.length + b.length ≤ sizeLine then .ok (.ref M2.length) (M2 ++ [.lst (a ++ b)]) else .bad
  | _, _ => .bad
@[simp] theorem u_gAddO (ga gb : GE) (Γ : Env) (M : List MO) : gAddO ga gb Γ M = ((ga Γ M).bind fun x M1 => (gb Γ M1).bind fun y M2 => match listD M2 x, listD M2 y with
  | some a, some b => if a.length + b.length ≤ sizeLine then .ok (.ref M2.length) (M2 ++ [.lst (a ++ b)]) else .bad
  | _, _ => .bad) := Eq.trans rfl rfl
section
variable {X : Cx} {C : CT} {W : WX} {a b : Expr} {ga gb : GE} {pos : Pos}
end
def dupI (ns : List Int) : List Int := PyProof.Rows.firstMet (fun i => ns.getD i 0) ns.length
def dLenSetI (M : List MO) (d : D) : Option D := ((listD M d).bind intsD).bind fun ns => if ns.length < 1000 then some (.int ((dupI ns).length : Nat)) else none
def gLenSetI (ge : GE) : GE := fun Γ M => (ge Γ M).bind fun d M1 => opR (dLenSetI M1 d) M1
@[simp] theorem u_gLenSetI (ge : GE) (Γ : Env) (M : List MO) : gLenSetI ge Γ M = ((ge Γ M).bind fun d M1 => opR (dLenSetI M1 d) M1) := Eq.trans rfl rfl
section
variable {X : Cx} {C : CT} {W : WX} {a : Expr} {ge : GE} {p p2 pos q : Pos}
end
end Bk

set_option Elab.async false
set_option linter.all false
set_option maxRecDepth 100000
set_option maxHeartbeats 2000000
namespace Bk
open PySem PySem.Spec PyProof.Rows L2
/-! ### a loop over enumerate(xs), xs a list of ours (read anew at each turn) or a frozen one -/
def gForEN (gg : GG) (body : GS) (k : Nat) : Nat → Nat → GS
  | 0, _ => gBad
  | n + 1, i => fun Γ M => match M[k]? with
    | some (.lst ds) => match ds[i]? with
      | some d => optS (gg (.tup [.int (0 + (i : Nat)), d]) Γ) fun Γ1 => (body Γ1 M).turn (gForEN gg body k n (i + 1))
      | none => if ds.length = i then .nx Γ M else .bad
    | _ => .bad
def gForE (ge : GE) (gg : GG) (body : GS) (n : Nat) : GS := fun Γ M => (ge Γ M).thenS Γ fun d M1 => match d with
  | .ref k => gForEN gg body k n 0 Γ M1
  | d => match seqD d with
    | some ds => gForL gg body (enumL 0 ds) Γ M1
    | none => .bad
@[simp] theorem u_gForE (ge : GE) (gg : GG) (body : GS) (n : Nat) (Γ : Env) (M : List MO) : gForE ge gg body n Γ M = ((ge Γ M).thenS Γ fun d M1 => match d with
  | .ref k => gForEN gg body k n 0 Γ M1
  | d => match seqD d with
    | some ds => gForL gg body (enumL 0 ds) Γ M1
    | none => .bad) := Eq.trans rfl rfl
section
variable {X : Cx} {C : CT} {W : WX} {e : Expr} {ge : GE} {gg : GG} {g : GS} {p pos tpos pos2 : Pos} {elts : List Expr} {kk : Nat}
end
end Bk

set_option Elab.async false
set_option linter.all false
set_option maxRecDepth 100000
set_option maxHeartbeats 2000000
namespace Bk
open PySem PySem.Spec PyProof.Rows L2
/-! ### a comprehension over a list of ours (read anew at each turn) or a frozen one -/
def gLcB (ge : GE) (gg : GG) (gt : GT) (gel : GE) (own : List Nat) : GE := fun Γ M => (ge Γ M).bind fun d M1 => match d with
  | .ref k => match M1[k]? with
    | some (.lst ds) => (gLcL gg gt gel (forget Γ own) ds [] M1).bind fun acc M2 => .ok (.lst acc) M2
    | _ => .bad
  | d => match seqD d with
    | some ds => (gLcL gg gt gel (forget Γ own) ds [] M1).bind fun acc M2 => .ok (.lst acc) M2
    | none => .bad
@[simp] theorem u_gLcB (ge : GE) (gg : GG) (gt : GT) (gel : GE) (own : List Nat) (Γ : Env) (M : List MO) : gLcB ge gg gt gel own Γ M = (ge Γ M).bind fun d M1 => match d with
  | .ref k => match M1[k]? with
    | some (.lst ds) => (gLcL gg gt gel (forget Γ own) ds [] M1).bind fun acc M2 => .ok (.lst acc) M2
    | _ => .bad
  | d => match seqD d with
    | some ds => (gLcL gg gt gel (forget Γ own) ds [] M1).bind fun acc M2 => .ok (.lst acc) M2
    | none => .bad := Eq.trans rfl rfl
section
variable {X : Cx} {C : CT} {W : WX} {elt tg iter : Expr} {ifs : List Expr} {scope : Scope} {own : List (Str × Nat)} {pos : Pos} {gi : GE} {gg : GG} {gt : GT} {ge : GE} {is ixs : List Nat}
end
end Bk

set_option Elab.async false
set_option linter.all false
set_option maxRecDepth 100000
set_option maxHeartbeats 2000000
namespace Bk
open PySem PySem.Spec PyProof.Rows L2
/-! ### max of a list of tuples of whole numbers -/
def maxR (r : List Int) (rs : List (List Int)) : List Int := rs.foldl (fun a y => if a < y then y else a) r
def dMaxT (M : List MO) (d : D) : Option D := ((listD M d).bind rowsL).bind fun rs => match rs with
  | [] => none
  | r :: rs => some (tupI (maxR r rs))
section
variable {X : Cx}
def dMaxB (M : List MO) (d : D) : Option D := match dMax M d with
  | some r => some r
  | none => dMaxT M d
end
@[simp] theorem e_maxB_i (M : List MO) {is : List Int} (h : is ≠ []) : dMaxB M (.lst (is.map D.int)) = some (.int (maxI is)) := by
  have : dMax M (.lst (is.map D.int)) = some (.int (maxI is)) := by
    simp only [dMax, ofInts, listD, Option.bind_some, intsD_map, if_neg h]
  simp only [dMaxB, this]
end Bk

set_option Elab.async false
set_option linter.all false
set_option maxRecDepth 100000
set_option maxHeartbeats 2000000
namespace Bk
open PySem PySem.Spec PyProof.Rows L2
/-! ### walks over lists of ours that stay as they are while they are walked, and over frozen ones -/
abbrev Wt := List (Nat × List D)
def wOk (w : Wt) (M : List MO) : Prop := ∀ p ∈ w, M[p.1]? = some (.lst p.2)
theorem wOk_nil (M : List MO) : wOk [] M := fun _ h => absurd h (by simp)
abbrev GJ := Env → List MO → R (List D × Wt)
def srcW (M : List MO) : D → Option (List D × Wt)
  | .lst ds => some (ds, [])
  | .tup ds => some (ds, [])
  | .ptu ds => some (ds, [])
  | .ref k => match M[k]? with
    | some (.lst ds) => some (ds, [(k, ds)])
    | _ => none
  | _ => none
@[simp] theorem srcW_lst (M : List MO) (ds : List D) : srcW M (.lst ds) = some (ds, []) := Eq.trans rfl rfl
@[simp] theorem srcW_tup (M : List MO) (ds : List D) : srcW M (.tup ds) = some (ds, []) := Eq.trans rfl rfl
@[simp] theorem srcW_ptu (M : List MO) (ds : List D) : srcW M (.ptu ds) = some (ds, []) := Eq.trans rfl rfl
def SrcOk (K : PySem.W.Frag) (S : Src) (ds : List D) (w : Wt) (Z : Hp) (ι : Nat → Addr) (n : Nat) : Prop :=
  ∀ (H' Z' : Hp) (ι' : Nat → Addr) (M' : List MO), Sub Z Z' → (∀ k, k < n → ι' k = ι k) → n ≤ M'.length → HR K H' Z' ι' M' → wOk w M' → ∃ xs, S.here K H' xs ∧ Rps K Z' ι' M'.length ds xs
theorem SrcOk.mono {K : PySem.W.Frag} {S : Src} {ds : List D} {w : Wt} {Z Z1 : Hp} {ι ι1 : Nat → Addr} {n n1 : Nat} (h : SrcOk K S ds w Z ι n) (hz : Sub Z Z1) (hi : ∀ k, k < n → ι1 k = ι k) (hn : n ≤ n1) : SrcOk K S ds w Z1 ι1 n1 :=
  fun H' Z' ι' M' a b c d e => h H' Z' ι' M' (fun x o q => a _ _ (hz _ _ q)) (fun k hk => (b k (Nat.lt_of_lt_of_le hk hn)).trans (hi k hk)) (Nat.le_trans hn c) d e
section
variable {K : PySem.W.Frag} {Z : Hp} {ι : Nat → Addr} {n : Nat} {S S1 S2 : Src} {ds es : List D} {w w' : Wt}
end
def gSeqJ (ge : GE) : GJ := fun Γ M => (ge Γ M).bind fun d M1 => opR (srcW M1 d) M1
def gEnumJ (ge : GE) : GJ := fun Γ M => (ge Γ M).bind fun d M1 => opR ((srcW M1 d).map fun p => (enumL 0 p.1, p.2)) M1
def gEnumKJ (ge gk : GE) : GJ := fun Γ M => (ge Γ M).bind fun d M1 => (gk Γ M1).bind fun k M2 => match k with
  | .int k => if decide (-(2 ^ 63) ≤ k) && decide (k < 2 ^ 63) then opR ((srcW M2 d).map fun p => (enumL k p.1, p.2)) M2 else .bad
  | _ => .bad
def zipW (M : List MO) (x y : D) : Option (List D × Wt) := match srcW M x, srcW M y with
  | some p, some q => some (zipL p.1 q.1, p.2 ++ q.2)
  | _, _ => none
def gZipJ (ga gb : GE) : GJ := fun Γ M => (ga Γ M).bind fun x M1 => (gb Γ M1).bind fun y M2 => opR (zipW M2 x y) M2
@[simp] theorem u_gSeqJ (ge : GE) (Γ : Env) (M : List MO) : gSeqJ ge Γ M = (ge Γ M).bind fun d M1 => opR (srcW M1 d) M1 := Eq.trans rfl rfl
@[simp] theorem u_gEnumJ (ge : GE) (Γ : Env) (M : List MO) : gEnumJ ge Γ M = (ge Γ M).bind fun d M1 => opR ((srcW M1 d).map fun p => (enumL 0 p.1, p.2)) M1 := Eq.trans rfl rfl
@[simp] theorem u_gEnumKJ (ge gk : GE) (Γ : Env) (M : List MO) : gEnumKJ ge gk Γ M = (ge Γ M).bind fun d M1 => (gk Γ M1).bind fun k M2 => match k with
  | .int k => if decide (-(2 ^ 63) ≤ k) && decide (k < 2 ^ 63) then opR ((srcW M2 d).map fun p => (enumL k p.1, p.2)) M2 else .bad
  | _ => .bad := Eq.trans rfl rfl
@[simp] theorem u_gZipJ (ga gb : GE) (Γ : Env) (M : List MO) : gZipJ ga gb Γ M = (ga Γ M).bind fun x M1 => (gb Γ M1).bind fun y M2 => opR (zipW M2 x y) M2 := Eq.trans rfl rfl
section
variable {X : Cx} {C : CT} {W : WX} {e e2 : Expr} {ge ga gb gk : GE} {p pos tpos : Pos} {elts : List Expr} {kk : Nat}
end
/-! the loop -/
open Classical in
noncomputable def chkW (w : Wt) (M : List MO) (r : RS) : RS := if wOk w M then r else .bad
theorem chkW_t {w : Wt} {M : List MO} {r : RS} (h : wOk w M) : chkW w M r = r := by unfold chkW; rw [if_pos h]
noncomputable def gForW (gg : GG) (body : GS) (w : Wt) : List D → GS
  | [] => fun Γ M => chkW w M (.nx Γ M)
  | d :: ds => fun Γ M => chkW w M (optS (gg d Γ) fun Γ1 => (body Γ1 M).turn (gForW gg body w ds))
noncomputable def gForJ (gj : GJ) (gg : GG) (body : GS) : GS := fun Γ M => (gj Γ M).thenS Γ fun iw M1 => gForW gg body iw.2 iw.1 Γ M1
@[simp] theorem u_gForJ (gj : GJ) (gg : GG) (body : GS) (Γ : Env) (M : List MO) : gForJ gj gg body Γ M = (gj Γ M).thenS Γ fun iw M1 => gForW gg body iw.2 iw.1 Γ M1 := Eq.trans rfl rfl
@[simp] theorem forW_nil (gg : GG) (body : GS) (ds : List D) (Γ : Env) (M : List MO) : gForW gg body [] ds Γ M = gForL gg body ds Γ M := by
  suffices h : gForW gg body [] ds = gForL gg body ds by rw [h]
  induction ds with
  | nil => funext Γ M; exact chkW_t (wOk_nil M)
  | cons d ds ih =>
    funext Γ M
    show chkW [] M (optS (gg d Γ) fun Γ1 => (body Γ1 M).turn (gForW gg body [] ds)) = _
    rw [chkW_t (wOk_nil M), ih]
    rfl
section
variable {X : Cx} {C : CT} {W : WX} {tg : Expr} {gg : GG} {g : GS} {pos : Pos}
end
/-! the comprehension: what is within changes nothing -/
def gLcJ (gj : GJ) (gg : GG) (gt : GT) (gel : GE) (own : List Nat) : GE := fun Γ M => (gj Γ M).bind fun iw M1 => (gLcL gg gt gel (forget Γ own) iw.1 [] M1).bind fun acc M2 => .ok (.lst acc) M2
@[simp] theorem u_gLcJ (gj : GJ) (gg : GG) (gt : GT) (gel : GE) (own : List Nat) (Γ : Env) (M : List MO) : gLcJ gj gg gt gel own Γ M = (gj Γ M).bind fun iw M1 => (gLcL gg gt gel (forget Γ own) iw.1 [] M1).bind fun acc M2 => .ok (.lst acc) M2 := Eq.trans rfl rfl
section
variable {X : Cx} {C : CT} {W : WX} {elt tg iter : Expr} {ifs : List Expr} {scope : Scope} {own : List (Str × Nat)} {pos : Pos} {gj : GJ} {gg : GG} {gt : GT} {ge : GE} {is ixs : List Nat}
end
end Bk

set_option Elab.async false
set_option linter.all false
set_option maxRecDepth 100000
set_option maxHeartbeats 2000000
namespace Bk
open PySem PySem.Spec PyProof.Rows L2
/-! ### xs == [] and xs != [], whatever xs holds -/
section
variable {X : Cx}
end
/-! ### == of data that holds lists of ours at any depth -/
section
variable {K : PySem.W.Frag} {H Z : Hp} {ι : Nat → Addr} {M : List MO}
end
section
variable {X : Cx}
end
/-! ### a comprehension over a list of ours that stays as it is, looked at at each turn -/
open Classical in
noncomputable def chkR {α : Type} (w : Wt) (M : List MO) (r : R α) : R α := if wOk w M then r else .bad
theorem chkR_t {α : Type} {w : Wt} {M : List MO} {r : R α} (h : wOk w M) : chkR w M r = r := by unfold chkR; rw [if_pos h]
noncomputable def gLcLW (gg : GG) (gt : GT) (ge : GE) (Γ : Env) (w : Wt) : List D → List D → List MO → R (List D)
  | [], acc => fun M => chkR w M (.ok acc M)
  | d :: ds, acc => fun M => chkR w M (match gg d Γ with
    | none => .bad
    | some Γ1 => (gt Γ1 M).only fun k M1 => if k = true then (ge Γ1 M1).only fun y M2 => if acc.length < sizeLine then gLcLW gg gt ge Γ w ds (acc ++ [y]) M2 else .bad
        else gLcLW gg gt ge Γ w ds acc M1)
@[simp] theorem lcLW_nil (gg : GG) (gt : GT) (ge : GE) (Γ : Env) (ds acc : List D) (M : List MO) : gLcLW gg gt ge Γ [] ds acc M = gLcL gg gt ge Γ ds acc M := by
  suffices h : ∀ (ds acc : List D) (M : List MO), gLcLW gg gt ge Γ [] ds acc M = gLcL gg gt ge Γ ds acc M from h ds acc M
  intro ds
  induction ds with
  | nil => intro acc M; exact chkR_t (wOk_nil M)
  | cons d ds ih =>
    intro acc M
    refine (chkR_t (wOk_nil M)).trans ?_
    unfold gLcL
    cases gg d Γ with
    | none => rfl
    | some Γ1 => simp only [ih]
noncomputable def gLcK (gj : GJ) (gg : GG) (gt : GT) (gel : GE) (own : List Nat) : GE := fun Γ M => (gj Γ M).bind fun iw M1 => (gLcLW gg gt gel (forget Γ own) iw.2 iw.1 [] M1).bind fun acc M2 => .ok (.lst acc) M2
@[simp] theorem u_gLcK (gj : GJ) (gg : GG) (gt : GT) (gel : GE) (own : List Nat) (Γ : Env) (M : List MO) : gLcK gj gg gt gel own Γ M = (gj Γ M).bind fun iw M1 => (gLcLW gg gt gel (forget Γ own) iw.2 iw.1 [] M1).bind fun acc M2 => .ok (.lst acc) M2 := Eq.trans rfl rfl
section
variable {X : Cx} {C : CT} {W : WX}
end
section
variable {X : Cx} {C : CT} {W : WX} {elt tg iter : Expr} {ifs : List Expr} {scope : Scope} {own : List (Str × Nat)} {pos : Pos} {gj : GJ} {gg : GG} {gt : GT} {ge : GE} {is ixs : List Nat}
end
end Bk

set_option Elab.async false
set_option linter.all false
set_option maxRecDepth 100000
set_option maxHeartbeats 4000000
namespace Bk
open PySem PySem.Spec PyProof.Rows L2
/-! ### C(k = v, ..), the fields may be ours -/
def gNewWK (nm : Str) (n : Nat) (F : List D → List MO → R D) (is : List Nat) (gk : GA) : GE := fun Γ M => (gk Γ M).bind fun ds M1 => if (pick (.ref M1.length :: ds) is).length = n then (callW F (pick (.ref M1.length :: ds) is) (M1 ++ [.obj nm []])).bind (newR M1.length) else .bad
section
variable {X : Cx} {C : CT} {W : WX} {nm x : Str} {pos p : Pos} {C0 : Addr} {k n : Nat} {fa : Addr} {fd : FuncData} {ps : List Str} {F : List D → List MO → R D} {kws : List Keyword} {gk : GA} {ks : List Str} {is : List Nat}
end
/-! ### list(range(a, b, -1)) -/
def gRg3L (gs : GA) : GE := fun Γ M => (gs Γ M).bind fun ds M1 => match rng3 ds with
  | some xs => if xs.length ≤ 2 ^ 24 then .ok (.lst xs) M1 else .bad
  | none => .bad
section
variable {X : Cx} {C : CT} {W : WX} {a b c : Expr} {gs : GA} {ta : TA} {p pos p2 pos2 : Pos}
end
@[simp] theorem u_gRg3L (gs : GA) (Γ : Env) (M : List MO) : gRg3L gs Γ M = ((gs Γ M).bind fun ds M1 => match rng3 ds with
  | some xs => if xs.length ≤ 2 ^ 24 then .ok (.lst xs) M1 else .bad
  | none => .bad) := Eq.trans rfl rfl
@[simp] theorem u_gNewWK (nm : Str) (n : Nat) (F : List D → List MO → R D) (is : List Nat) (gk : GA) (Γ : Env) (M : List MO) : gNewWK nm n F is gk Γ M = ((gk Γ M).bind fun ds M1 => if (pick (.ref M1.length :: ds) is).length = n then (callW F (pick (.ref M1.length :: ds) is) (M1 ++ [.obj nm []])).bind (newR M1.length) else .bad) := Eq.trans rfl rfl
end Bk

set_option Elab.async false
set_option linter.all false
set_option maxRecDepth 100000
set_option maxHeartbeats 2000000
namespace Bk
open PySem PySem.Spec PyProof.Rows L2
/-! ### min of a tuple of whole numbers -/
section
variable {X : Cx}
end
end Bk

set_option Elab.async false
set_option linter.all false
set_option maxRecDepth 100000
set_option maxHeartbeats 2000000
namespace Bk
open PySem PySem.Spec PyProof.Rows L2
/-! ### isinstance(x, C) of an object of the class itself -/
def gIsC (nm : Str) (ge : GE) : GE := fun Γ M => (ge Γ M).bind fun x M1 => match x with
  | .ref k => match M1[k]? with
    | some (.obj nm' _) => if nm' = nm then .ok (.bl true) M1 else .bad
    | _ => .bad
  | _ => .bad
@[simp] theorem u_gIsC (nm : Str) (ge : GE) (Γ : Env) (M : List MO) : gIsC nm ge Γ M = ((ge Γ M).bind fun x M1 => match x with
  | .ref k => match M1[k]? with
    | some (.obj nm' _) => if nm' = nm then .ok (.bl true) M1 else .bad
    | _ => .bad
  | _ => .bad) := Eq.trans rfl rfl
section
variable {X : Cx} {C : CT} {W : WX} {e : Expr} {ga : GE} {p pos q : Pos} {C0 : Addr} {nm TN : Str}
end
end Bk

set_option Elab.async false
set_option linter.all false
set_option maxRecDepth 100000
set_option maxHeartbeats 4000000
namespace Bk
open PySem PySem.Spec PyProof.Rows L2
/-! ### d.setdefault(k, x), keys that are tuples -/
def setdX (M : List MO) (x y z : D) : Option (D × List MO) := match x with
  | .ref k => match M[k]? with
    | some (.dct ks vs) => match keysD ks, keyD y with
      | some nks, some nk => if (ks.all isTup && isTup y && decide (nk.depth ≤ 8) && decide (vs.length < sizeLine)) = true then (match posK nk nks with
        | some i => (vs[i]?).map fun w => (w, M)
        | none => some (z, M.set k (.dct (ks ++ [y]) (vs ++ [z])))) else none
      | _, _ => none
    | _ => none
  | _ => none
def isDctR (M : List MO) (x : D) : Bool := match x with
  | .ref k => match M[k]? with
    | some (.dct _ _) => true
    | _ => false
  | _ => false
def gSetd (go gk gx : GE) : GE := fun Γ M => (go Γ M).bind fun x M1 => if isDctR M1 x = true then (gk Γ M1).bind fun y M2 => (gx Γ M2).bind fun z M3 => match setdX M3 x y z with
  | some r => .ok r.1 r.2
  | none => .bad else .bad
@[simp] theorem u_gSetd (go gk gx : GE) (Γ : Env) (M : List MO) : gSetd go gk gx Γ M = ((go Γ M).bind fun x M1 => if isDctR M1 x = true then (gk Γ M1).bind fun y M2 => (gx Γ M2).bind fun z M3 => match setdX M3 x y z with
  | some r => .ok r.1 r.2
  | none => .bad else .bad) := Eq.trans rfl rfl
end Bk

set_option Elab.async false
set_option linter.all false
set_option maxRecDepth 100000
set_option maxHeartbeats 4000000
namespace Bk
open PySem PySem.Spec PyProof.Rows L2
/-! ### for i, x in enumerate(xs, start=k) -/
section
variable {X : Cx} {C : CT} {W : WX} {e : Expr} {ge : GE} {p pos tpos cp kp : Pos} {elts : List Expr} {kk j : Nat} {k : Int}
end
end Bk

set_option Elab.async false
set_option linter.all false
set_option maxRecDepth 100000
set_option maxHeartbeats 2000000
namespace Bk
open PySem PySem.Spec PyProof.Rows L2
/-! ### y = [.. for x in xs], xs a list of ours that stays as it is, or a frozen one -/
section
variable {X : Cx} {C : CT} {W : WX} {elt tg iter : Expr} {ifs : List Expr} {scope : Scope} {own : List (Str × Nat)} {pos spos py : Pos} {gj : GJ} {gg : GG} {gt : GT} {ge : GE} {is ixs : List Nat}
end
end Bk

set_option Elab.async false
set_option linter.all false
set_option maxRecDepth 100000
set_option maxHeartbeats 2000000
namespace Bk
open PySem PySem.Spec PyProof.Rows L2
/-! ### max of a tuple of whole numbers -/
section
variable {X : Cx}
end
end Bk

set_option Elab.async false
set_option linter.all false
set_option maxRecDepth 100000
set_option maxHeartbeats 4000000
namespace Bk
open PySem PySem.Spec PyProof.Rows L2
/-! ### tuples that are known to have no dict: displays, (x,) + t, t.count(k) of ints -/
section
variable {X : Cx} {C : CT} {W : WX} {pos : Pos}
def gTupP (gs : GA) : GE := fun Γ M => (gs Γ M).bind fun ds M1 => if ds.length ≤ sizeLine then .ok (.ptu ds) M1 else .bad
@[simp] theorem u_gTupP (gs : GA) (Γ : Env) (M : List MO) : gTupP gs Γ M = (gs Γ M).bind fun ds M1 => if ds.length ≤ sizeLine then .ok (.ptu ds) M1 else .bad := Eq.trans rfl rfl
/-! t + u, t not empty -/
def dAddP (M : List MO) (x y : D) : Option D := match x, y with
  | .ptu (a :: as), .ptu b => if (a :: as).length + b.length ≤ sizeLine then some (.ptu ((a :: as) ++ b)) else none
  | _, _ => none
@[simp] theorem e_addP (M : List MO) (a : D) (as b : List D) : dAddP M (.ptu (a :: as)) (.ptu b) = if (a :: as).length + b.length ≤ sizeLine then some (.ptu ((a :: as) ++ b)) else none := Eq.trans rfl rfl
/-! t.count(k) -/
def gCntP (go ge : GE) : GE := fun Γ M => (go Γ M).bind fun x M1 => match x with
  | .ptu ds => (ge Γ M1).bind fun y M2 => opR (match intsD ds, y with
    | some is, .int k => some (D.int (is.count k : Nat))
    | _, _ => none) M2
  | _ => .bad
@[simp] theorem u_gCntP (go ge : GE) (Γ : Env) (M : List MO) : gCntP go ge Γ M = ((go Γ M).bind fun x M1 => match x with
  | .ptu ds => (ge Γ M1).bind fun y M2 => opR (match intsD ds, y with
    | some is, .int k => some (D.int (is.count k : Nat))
    | _, _ => none) M2
  | _ => .bad) := Eq.trans rfl rfl
/-! such a tuple as any tuple -/
def wkD : D → D
  | .ptu ds => .tup ds
  | d => d
@[simp] theorem wkD_p (ds : List D) : wkD (.ptu ds) = .tup ds := Eq.trans rfl rfl
@[simp] theorem wkD_t (ds : List D) : wkD (.tup ds) = .tup ds := Eq.trans rfl rfl
@[simp] theorem wkD_l (ds : List D) : wkD (.lst ds) = .lst ds := Eq.trans rfl rfl
@[simp] theorem wkD_r (k : Nat) : wkD (.ref k) = .ref k := Eq.trans rfl rfl
@[simp] theorem wkD_i (k : Int) : wkD (.int k) = .int k := Eq.trans rfl rfl
def gWk (ge : GE) : GE := fun Γ M => (ge Γ M).bind fun x M1 => .ok (wkD x) M1
@[simp] theorem u_gWk (ge : GE) (Γ : Env) (M : List MO) : gWk ge Γ M = (ge Γ M).bind fun x M1 => .ok (wkD x) M1 := Eq.trans rfl rfl
end
end Bk

set_option Elab.async false
set_option linter.all false
set_option maxRecDepth 100000
set_option maxHeartbeats 4000000
namespace Bk
open PySem PySem.Spec PyProof.Rows L2
/-! a key in a dict -/
section
variable {X : Cx}
end
end Bk

set_option Elab.async false
set_option linter.all false
set_option maxRecDepth 100000
set_option maxHeartbeats 4000000
namespace Bk
open PySem PySem.Spec PyProof.Rows L2 PpSet
/-! ### sorted({e for x in xs if ..}), e an int -/
section
variable {X : Cx} {pins : List (Addr × Obj)} {σ : St} {H : Hp} {s : Shared}
end
def sciD : D → Option Int
  | .int i => some i
  | _ => none
def insU (rs : List Int) (r : Int) : List Int := if r ∈ rs then rs else rs ++ [r]
def gScI (gg : GG) (gt : GT) (ge : GE) (Γ0 : Env) : List D → List Int → List MO → R (List Int)
  | [], rs, M => .ok rs M
  | d :: ds, rs, M => match gg d Γ0 with
    | none => .bad
    | some Γ1 => (gt Γ1 M).only fun k M1 => if k = true then (ge Γ1 M1).only fun y M2 => match sciD y with
        | some r => if rs.length + 1 < 64 then gScI gg gt ge Γ0 ds (insU rs r) M2 else .bad
        | none => .bad
      else gScI gg gt ge Γ0 ds rs M1
def gSortSc (gi : GI) (gg : GG) (gt : GT) (ge : GE) (vs : List Nat) : GE := fun Γ M => (gi Γ M).bind fun ds M1 => (gScI gg gt ge (forget Γ vs) ds [] M1).bind fun rs M2 => .ok (.lst ((srtI rs).map D.int)) M2
@[simp] theorem u_gSortSc (gi : GI) (gg : GG) (gt : GT) (ge : GE) (vs : List Nat) (Γ : Env) (M : List MO) : gSortSc gi gg gt ge vs Γ M = ((gi Γ M).bind fun ds M1 => (gScI gg gt ge (forget Γ vs) ds [] M1).bind fun rs M2 => .ok (.lst ((srtI rs).map D.int)) M2) := Eq.trans rfl rfl
@[simp] theorem scI_nil (gg : GG) (gt : GT) (ge : GE) (Γ0 : Env) (rs : List Int) (M : List MO) : gScI gg gt ge Γ0 [] rs M = .ok rs M := by simp [gScI]
section
variable {X : Cx} {C : CT} {W : WX}
variable {elt tg iter : Expr} {ifs : List Expr} {scope : Scope} {own : List (Str × Nat)} {p q pos : Pos} {gi : GI} {gg : GG} {gt : GT} {ge : GE} {is ixs : List Nat}
end
end Bk

set_option Elab.async false
set_option linter.all false
set_option maxRecDepth 100000
set_option maxHeartbeats 2000000
namespace Bk
open PySem PySem.Spec PyProof.Rows L2
/-! ### lambdas: made, called in the def that got one -/
section
variable {K : PySem.W.Frag} {H Z : Hp} {ι : Nat → Addr} {M : List MO}
end
/-- a lambda is made: k, where the maker's table lies in the store -/
def gLam (k : Nat) (nm : Str) (l : LSy) (cl : List (Str × Addr)) : GE := fun _ M => match M[k]? with
  | some (.tab nm') => if nm' = nm then .ok (.lam l cl) M else .bad
  | _ => .bad
section
variable {X : Cx} {C : CT} {W : WX} {pins : List (Addr × Obj)} {σ : L2.St} {H : Hp} {s : Shared}
end
@[simp] theorem u_gLam (k : Nat) (nm : Str) (l : LSy) (cl : List (Str × Addr)) (Γ : Env) (M : List MO) : gLam k nm l cl Γ M = (match M[k]? with
  | some (.tab nm') => if nm' = nm then .ok (.lam l cl) M else .bad
  | _ => .bad) := Eq.trans rfl rfl
end Bk

set_option Elab.async false
set_option linter.all false
set_option maxRecDepth 100000
set_option maxHeartbeats 4000000
namespace Bk
open PySem PySem.Spec PySem.Calls PyProof.Rows L2
/-! ### a caught error as data: isinstance, its attribute -/
section
variable {pg : Program} {wd : World} {Ar : Around} {E : Value → Shared → Prop} {K : PySem.W.Frag} {x B : Addr} {ob : Obj} {od : Option Obj}
theorem found_class (c : ExcC K B) : PySem.W.findObj K B od "__class__" = some (.bind (.builtin "getset_descriptor.__get__") (.builtin "object.__class__")) := by
  obtain ⟨cd, hc, _⟩ := PySem.W.any_some c.hd
  unfold PySem.W.findObj
  rw [hc, Option.bind_some, c.ha, Option.bind_some]
  simp [c.hn, c.ht]
theorem exc_class {st : Shared} {Q : Option Value → Shared → Prop} (c : ExcC K B) (inK : K.In st.heap) (J : PySem.W.InstAt st.heap x ob B od) (q : Q (some (.ref B)) { st with toks := st.toks + 1 }) : wpAny (model pg wd) Ar (getAttr? (.ref x) "__class__") Q E st := by
  obtain ⟨hp, ge, dr, tt, oz⟩ := st
  have T0 := J.type (M := model pg wd)
  have T1 := PySem.W.looks_findIn (M := model pg wd) inK c.hg
  have T2 := PySem.W.looks_findIn (M := model pg wd) inK c.hk
  have T3 := PySem.W.looks_find (M := model pg wd) inK J (found_class c)
  have under : PySem.W.Looks (model pg wd) hp (isInstance (.ref x) (.type "BaseException")) true := T0.andThen (PySem.W.looks_subIn inK c.hs)
  have no1 : (Value.builtin "BaseException.__getattribute__" == Value.builtin "object.__getattribute__") = false := by decide +kernel
  have no2 : (onTheHeap (Value.ref B) && Value.builtin "BaseException.__getattribute__" == Value.builtin "object.__getattribute__") = false := by rw [no1]; rfl
  have no3 : (false && onTheHeap (Value.builtin "BaseException.__getattribute__")) = false := rfl
  unfold getAttr? getAttrBy? getAttrBy
  refine wpAny_bind (wpAny_mkText (wpAny_bind (wpAny_attempt (wpAny_holding (wpAny_bind (T0.at (wpAny_bind (T1.at ?_))))))))
  show wpAny _ _ (if (onTheHeap (Value.ref B) && Value.builtin "BaseException.__getattribute__" == Value.builtin "object.__getattribute__") = true then _ else _) _ _ _
  rw [no2, if_neg Bool.false_ne_true]
  unfold getAttrByItsOwn hookBefore
  refine wpAny_bind ?_
  rw [if_pos (show onTheHeap (Value.ref B) = true from rfl)]
  refine T2.at ?_
  refine wpAny_bind (wpAny_attempt (wpAny_holding ?_))
  unfold callGetattribute
  rw [no3, if_neg Bool.false_ne_true]
  unfold boundAndCalled
  rw [PySem.F.excAttr_ValueError.ga.bind (.ref x)]
  refine wpAny_bind (wpAny_pure ?_)
  show wpAny _ _ (call (.builtin "BaseException.__getattribute__") [.ref x, .str "__class__" tt]) _ _ _
  refine wpAny_call (codeAny_call_builtin PySem.F.excAttr_ValueError.ga.plain PySem.F.entry_bexc_ga ?_)
  refine @PySem.W.check_slot (model pg wd) _ _ ⟨hp, ge, dr, tt + 1, oz⟩ "BaseException.__getattribute__" "BaseException" "__getattribute__" (.ref x) [.str "__class__" tt] [] _ (by decide +kernel) (by decide +kernel) under (PySem.F.args_bexc_ga (.ref x) (.str "__class__" tt)) ?_
  unfold Builtin.«object.__getattribute__»
  refine wpAny_bind (wpAny_of_eq (a := ((Value.ref x : Value), [Value.str "__class__" tt])) (by first | rfl | (simp only [slotArgs]; rfl)) ?_)
  refine wpAny_bind (wpAny_pure (wpAny_bind (T0.at (wpAny_bind (T3.at ?_)))))
  show wpAny _ _ (holding [Value.builtin "object.__class__"] (call (.builtin "getset_descriptor.__get__") [.builtin "object.__class__", .ref x, .ref B]) >>= ret) _ _ _
  refine wpAny_bind (wpAny_holding (wpAny_call (PySem.W.class_get (s := ⟨hp, ge, dr, tt + 1, oz⟩) (ox := ob) (od := od) inK J c.hm ?_)))
  refine wpAny_pure ?_
  show wpAny _ _ (handedOut (.ref B)) _ _ _
  rw [PySem.W.handedOut_of (v := .ref B) rfl]
  first
    | exact wpAny_pure (wpAny_pure q)
    | exact wpAny_pure q
    | exact wpAny_pure (wpAny_bind (wpAny_pure (wpAny_pure q)))
theorem kitx_err (c : ExcC K B) : PySem.W.KitX K (.ref x) (.ref B) (fun h => ∃ od, PySem.W.InstAt h x ob B od) where
  ty := fun _ _ _ J => let ⟨_, J⟩ := J; J.type
  it := fun _ _ inK _ => by
    obtain ⟨cd, hc, _⟩ := PySem.W.any_some c.hd
    unfold PySem.W.clsIn at hc
    split at hc
    · rename_i c1 d1 e1 f1 ho
      intro A' Q' E' s' k q
      unfold isType loadHead
      exact wpAny_bind (wpAny_loadPart (k _ _ (inK _ _ ho)) (wpAny_pure q))
    · cases hc
  ne := fun h tp dd its n sl inK htp => by
    obtain ⟨cd, hc, _⟩ := PySem.W.any_some c.hd
    refine Bool.eq_false_iff.mpr fun q => ?_
    have e : B = tp := Value.ref.inj (beq_iff_eq.mp q)
    subst e
    unfold PySem.W.clsIn at hc
    split at hc
    · rename_i c1 d1 e1 f1 ho
      have z := (inK _ _ ho).symm.trans htp
      cases z
    · cases hc
  ca := fun inK J q => let ⟨_, J⟩ := J; exc_class c inK J q
end
section
variable {X : Cx} {C : CT} {a B dx : Addr} {oe : Obj} {pn : List (Addr × Obj)}
end
end Bk

set_option Elab.async false
set_option linter.all false
set_option maxRecDepth 100000
set_option maxHeartbeats 4000000
namespace Bk
open PySem PySem.Spec PyProof.Rows L2
/-! ### suites that look at the caught error; defs that call what they get -/
section
variable {X : Cx} {C : CT} {W : WX} {a B dx : Addr} {oe : Obj} {pn : List (Addr × Obj)} {p pos ep np : Pos} {en : Str}
end
section
variable {X : Cx} {C : CT} {W : WX} {a B dx : Addr} {oe : Obj} {pn : List (Addr × Obj)} {p pos ep np : Pos} {en : Str}
end
/-! clauses -/
/-- what holds for all addresses alike -/
noncomputable def allA (f : Addr → Addr → RS) : RS := open Classical in if ∀ a b, f a b = f 0 0 then f 0 0 else .bad
theorem allA_eq {f : Addr → Addr → RS} {r : RS} (h : ∀ a b, f a b = r) : allA f = r := by
  unfold allA
  rw [if_pos fun a b => (h a b).trans (h 0 0).symm]
  exact h 0 0
@[simp] theorem allA_c (r : RS) : allA (fun _ _ => r) = r := allA_eq fun _ _ => rfl
/-! defs that call what they get, in a try at their head -/
/-- the def at f calls its only parameter a: computed by Fr from the meaning of that call -/
structure AskQ (P : Program) (w : World) (K : PySem.W.Frag) (mg : Str → Option Value) (base : Heap) (C : CT) (k : Nat) (f : Addr) (N : List Str) (qual : Str) (sc : Scope) (a : Str) (Fr : (List MO → R D) → List MO → R D) : Prop where
  run : ∀ (A : Around) (outer : List PySem.Env) (s : Shared) (H : Hp) (u : Addr) (Q : VK) (E : XK) (Z : Hp) (ι : Nat → Addr) (M : List MO) (t : List MO → R D), Room k A → A.guards = some [] → Env0 P w K mg base A outer s H → HR K H Z ι M →
    (∀ (cdv : Value) (V : WX) (pn : List (Addr × Obj)) (xe : Value → Shared → Prop) (p1 p2 : Pos), Takes ((cxOf (L2.CX P w) P w K mg base N qual sc f cdv A outer s H E).tr pn xe) V →
      PE ((cxOf (L2.CX P w) P w K mg base N qual sc f cdv A outer s H E).tr pn xe) (.Call (.Name a p1) [] [] p2) (fun σ H' Q' => σ[0]? = some (some (.ref u)) ∧ H' = H ∧ Post (cxOf (L2.CX P w) P w K mg base N qual sc f cdv A outer s H E) C V (rpE K) σ H Z ι M (t M) Q')) →
    PostF K C E H Z ι M (Fr t M) Q → codeAny (model P w) A (.call (.ref f) ⟨[.ref u], []⟩) (CR (L2.CX P w) outer P w H s Q E) s
section
variable {P : Program} {w : World} {K : PySem.W.Frag} {mg : Str → Option Value} {base : Heap} {C : CT}
end
end Bk

set_option Elab.async false
set_option linter.all false
set_option maxRecDepth 100000
set_option maxHeartbeats 4000000
namespace Bk
open PySem PySem.Spec PyProof.Rows L2
/-! ### a lambda handed to a def that calls it; lists of lambdas walked -/
/-- the words of a lambda, and what its body computes in the maker's names -/
abbrev LTab := List (LSy × GE)
noncomputable def askOf (tb : LTab) (cl : List (Str × Addr)) : D → Option GE
  | .lam l cl' => match tb[l.ix]? with
    | some (l', g) => open Classical in if l = l' ∧ cl' = cl then some g else none
    | none => none
  | _ => none
noncomputable def gAsk (tb : LTab) (cl : List (Str × Addr)) (Fr : (List MO → R D) → List MO → R D) (ga : GE) : GE := fun Γ M => (ga Γ M).bind fun x M1 => match askOf tb cl x with
  | some g => Fr (fun M2 => g Γ M2) M1
  | none => .bad
section
variable {X : Cx} {C : CT} {W : WX} {pins : List (Addr × Obj)} {σ : L2.St} {H : Hp} {s : Shared} {k k' : Nat} {f : Addr} {N : List Str} {qual : Str} {sc : Scope} {a : Str} {Fr : (List MO → R D) → List MO → R D}
end
@[simp] theorem u_gAsk (tb : LTab) (cl : List (Str × Addr)) (Fr : (List MO → R D) → List MO → R D) (ga : GE) (Γ : Bk.Env) (M : List MO) : gAsk tb cl Fr ga Γ M = ((ga Γ M).bind fun x M1 => match askOf tb cl x with
  | some g => Fr (fun M2 => g Γ M2) M1
  | none => .bad) := Eq.trans rfl rfl
end Bk

set_option Elab.async false
set_option linter.all false
set_option maxRecDepth 100000
set_option maxHeartbeats 2000000
namespace Bk
open PySem PySem.Spec PyProof.Rows L2
/-! ### the law's own call, where defs make lambdas -/
end Bk

set_option Elab.async false
set_option linter.all false
set_option maxRecDepth 100000
set_option maxHeartbeats 2000000
namespace Bk
open PySem PySem.Spec PyProof.Rows L2
/-! ### makers of lambdas: defs whose body is read with its own cells; words for the printed part -/
section
variable {P : Program} {w : World} {K : PySem.W.Frag} {mg : Str → Option Value} {base : Heap} {C : CT}
theorem AskQ.mono {j k : Nat} {f : Addr} {N : List Str} {qual : Str} {sc : Scope} {a : Str} {Fr : (List MO → R D) → List MO → R D} (x : AskQ P w K mg base C j f N qual sc a Fr) (h : j ≤ k) : AskQ P w K mg base C k f N qual sc a Fr :=
  ⟨fun A outer s H u Q E Z ι M t hr => x.run A outer s H u Q E Z ι M t (hr.mono h)⟩
end
/-! isinstance of classes, from the except clauses' facts -/
section
variable {K : PySem.W.Frag}
theorem kit_exm {A B : Addr} {b : Bool} (h : PySem.W.exmOne K (.ref A) (.ref B) = some b) (hs : PySem.W.exmOne K (.ref A) (.ref A) = some true) : PySem.W.kitOne K (.ref A) (.ref B) = some b := by
  by_cases e : A = B
  · subst e
    rw [h] at hs
    cases hs
    unfold PySem.W.kitOne
    rw [if_pos (beq_self_eq_true _)]
  · unfold PySem.W.kitOne
    rw [if_neg (by
      intro z
      exact e (Value.ref.inj (beq_iff_eq.mp z)))]
    unfold PySem.W.exmOne at h
    split at h
    · exact h
    · cases h
theorem kit_bt {A : Addr} {T : String} {b : Bool} (hm : PySem.W.kitMeta T = true) (h : PySem.W.subIn K (.ref A) (.type T) = some b) : PySem.W.kitOne K (.ref A) (.type T) = some b := by
  unfold PySem.W.kitOne
  rw [if_neg (by intro z; cases (beq_iff_eq.mp z))]
  unfold PySem.W.kitCls
  simp only [hm, if_true, h]
end
/-! a piece of syntax by its place -/
end Bk

set_option Elab.async false
set_option linter.all false
set_option maxRecDepth 100000
set_option maxHeartbeats 2000000
namespace Bk
open PySem PySem.Spec PyProof.Rows L2
/-! ### l.count(x) of data of any kind -/
section
variable {X : Cx} {C : CT} {W : WX}
end
end Bk

set_option Elab.async false
set_option linter.all false
set_option maxRecDepth 100000
set_option maxHeartbeats 2000000
namespace Bk
open PySem PySem.Spec PyProof.Rows L2
/-! ### a text times a number -/
section
variable {X : Cx}
end
end Bk

set_option Elab.async false
set_option linter.all false
set_option maxRecDepth 100000
set_option maxHeartbeats 2000000
namespace Bk
open PySem PySem.Spec PyProof.Rows L2
/-! ### a dict of one entry, its key an int or a text: data that is not looked into -/
def gDcx (k : Key) (gb : GE) : GE := fun Γ M => (gb Γ M).bind fun v M2 => .ok (.dcx k v) M2
section
variable {X : Cx} {C : CT} {W : WX} {pos : Pos}
theorem dcx_read {ve : Expr} {gb : GE} {tk tb : TE} {k : Key} (hk : ∀ (σ : St) (H : Hp) (Q : VK), Q (kV k) H → tk σ H Q) (qb : Rd1 X C W gb tb) : Rd1 X C W (gDcx k gb) (tDisp [(tk, tb)]) := by
  intro σ H Z ι Γ M Q sl hr h p hp
  have od0 : Odd Z ι M.length p := .new hr hp
  have hr0 : HR X.K (upd H p (.dK [])) Z ι M := hr.odd od0
  have x0 : Ext H Z ι M.length (upd H p (.dK [])) Z ι M.length := Ext.touch .refl hp
  have h : Post X C W (rpE X.K) σ H Z ι M ((gb Γ M).bind fun v M2 => .ok (.dcx k v) M2) Q := h
  refine hk σ _ _ ?_
  refine qb σ _ Z ι Γ M _ sl hr0 ?_
  cases eb : gb Γ M with
  | bad => rw [eb] at h; exact h.elim
  | exc c d M' =>
    rw [eb] at h
    exact Post.shift (r := (.exc c d M' : R D)) (rp := rpE X.K) (Q := Q) h x0 hr0
  | ok v M2 =>
    rw [eb] at h
    intro z H2 Z2 ι2 e2 hr2 r2
    have e02 := x0.trans e2 hr0.ali
    obtain ⟨od2, hp2⟩ := od0.ext upd_same e2
    show H2 p = some (.dK []) ∧ _
    refine ⟨hp2, [(k, z)], rfl, by simp, ?_⟩
    have em : mergeK [] [(k, z)] = [(k, z)] := rfl
    rw [em]
    have s1 : Sub Z2 (upd Z2 p (.dK [(k, z)])) := fun a u q => by rw [upd_ne (ne_of_none q od2.z)]; exact q
    have hr1 : HR X.K (upd H2 p (.dK [(k, z)])) Z2 ι2 M2 := hr2.odd od2
    exact h _ _ _ ι2 ((e02.touch hp).adoptZ od2.z hp) (hr1.adoptZ od2 upd_same) (.dcx upd_same (Rp.mono s1 (fun _ _ => rfl) (Nat.le_refl _) _ _ r2))
theorem qe_dcxS {ve : Expr} {gb : GE} {x : Str} {j : Nat} {kp : Pos} (hb : QE X C W ve gb) : QE X C W (.Dict [some (.Constant (.str x) j kp)] [ve] pos) (gDcx (.inr x) gb) := by
  obtain ⟨tb, pb, qb⟩ := hb
  exact ⟨_, pe_disp (pps_cons pe_str pb pps_nil) rfl rfl (by simp) (by simp), dcx_read (ve := ve) (fun σ H Q q => q) qb⟩
end
@[simp] theorem u_gDcx (k : Key) (gb : GE) (Γ : Env) (M : List MO) : gDcx k gb Γ M = (gb Γ M).bind fun v M2 => .ok (.dcx k v) M2 := Eq.trans rfl rfl
end Bk

set_option Elab.async false
set_option linter.all false
set_option maxRecDepth 100000
namespace Bk
open PySem PySem.Spec PyProof.Rows L2
/-! ### an object that will not be looked at any more (ahead of a raise in its making) -/
def gDie (i : Nat) : GS := fun Γ M => match Γ[i]? with
  | some (some (.ref k)) => match M[k]? with
    | some (.obj _ _) => .nx Γ (M.set k .dead)
    | _ => .bad
  | _ => .bad
@[simp] theorem u_gDie (i : Nat) (Γ : Env) (M : List MO) : gDie i Γ M = (match Γ[i]? with
  | some (some (.ref k)) => match M[k]? with
    | some (.obj _ _) => .nx Γ (M.set k .dead)
    | _ => .bad
  | _ => .bad) := Eq.trans rfl rfl
section
variable {X : Cx} {C : CT} {W : WX} {st : Stmt} {g : GS}
end
end Bk

set_option Elab.async false
set_option linter.all false
set_option maxRecDepth 100000
namespace Bk
open PySem PySem.Spec PyProof.Rows L2
/-! ### repr of a whole number -/
end Bk

set_option Elab.async false
set_option linter.all false
set_option maxRecDepth 100000
namespace Bk
open PySem PySem.Spec PyProof.Rows L2
/-! ### repr of None, and of lists in which empty dicts may stand -/
def EmD (H : Hp) (a : Addr) : Prop := ∃ ep, H a = some (dnO a #[] ep) ∧ (a == sysModules) = false
inductive ItX (K : PySem.W.Frag) (H : Hp) : V → PyData → Prop
  | dp {v : V} {p : PyData} : Dp K H v p → p.hasDict = false → ItX K H v p
  | emp {a : Addr} : EmD H a → ItX K H (.ref a) (.dict [])
section
variable {X : Cx} {pins : List (Addr × Obj)} {σ : St} {H : Hp} {s : Shared}
theorem EmD.obj (I : Inv X pins σ H s) {a : Addr} (h : EmD H a) : ∃ o ep, s.heap.get? a = some o ∧ o.cls = .type "dict" ∧ o.data = .dict #[] ep := by
  obtain ⟨ep, e, _⟩ := h
  obtain ⟨⟨o, e1, e2, e3⟩, _⟩ := I.hok a _ e
  exact ⟨o, ep, e1, e2.1, e3⟩
theorem ItX.reads (I : Inv X pins σ H s) {v : V} {p : PyData} {u : Value} (h : ItX X.K H v p) (r : RelV v u) : ∃ as, Reads s.heap u p as ∧ (p.hasDict = true → sysModules ∉ as) := by
  cases h with
  | dp h e =>
    obtain ⟨as, q⟩ := Dp.reads I _ _ _ h r
    exact ⟨as, q, fun z => by rw [e] at z; cases z⟩
  | emp h =>
    cases r
    obtain ⟨o, ep, e1, e2, e3⟩ := h.obj I
    obtain ⟨_, _, hs⟩ := h
    refine ⟨_, Reads.dict (kvs := []) e1 e2 e3 .nil .nil, fun _ hm => ?_⟩
    simp only [List.append_nil, List.mem_singleton] at hm
    rw [← hm] at hs
    simp at hs
end
section
variable {X : Cx}
end
def itT : D → Option PyData
  | .dct [] [] => some (.dict [])
  | d => (toP d).bind fun p => if p.hasDict = true then none else some p
section
variable {X : Cx} {K : PySem.W.Frag} {H Z : Hp} {ι : Nat → Addr} {n : Nat} {M : List MO}
theorem itT_run (hs : Sub Z H) {d : D} {v : V} {p : PyData} (r : Rp K Z ι n d v) (e : itT d = some p) : ItX K H v p := by
  have plain : ∀ {d : D}, Rp K Z ι n d v → ((toP d).bind fun p => if p.hasDict = true then none else some p) = some p → ItX K H v p := fun {d} r e => by
    cases e1 : toP d with
    | none => rw [e1] at e; cases e
    | some p0 =>
      rw [e1, Option.bind_some] at e
      by_cases c : p0.hasDict = true
      · rw [if_pos c] at e; cases e
      · rw [if_neg c] at e
        cases e
        exact .dp (toP_dp hs d v p r e1) (by simpa using c)
  unfold itT at e
  split at e
  · cases e
    cases r with
    | dct h rk rv =>
      cases rk
      obtain ⟨es, ep, h1, h2, _, _, h5⟩ := h
      have : es = #[] := by
        cases h5' : es.toList with
        | nil => exact Array.toList_inj.mp h5'
        | cons a b => rw [h5'] at h5; cases h5
      subst this
      exact .emp ⟨ep, hs _ _ h1, h2⟩
  · exact plain r e
end
end Bk

set_option Elab.async false
set_option linter.all false
set_option maxRecDepth 100000
namespace Bk
open PySem PySem.Spec PyProof.Rows L2
/-! ### list.insert -/
abbrev MF2 := List MO → List D → D → D → Option (List D × D)
def gMeth2 (f : MF2) (go ge gx : GE) : GE := fun Γ M => (go Γ M).bind fun x M1 => if isListD M1 x = true then (ge Γ M1).bind fun y M2 => (gx Γ M2).bind fun z M3 => mutR M3 x fun ds => f M3 ds y z else .bad
@[simp] theorem u_gMeth2 (f : MF2) (go ge gx : GE) (Γ : Env) (M : List MO) : gMeth2 f go ge gx Γ M = (go Γ M).bind fun x M1 => if isListD M1 x = true then (ge Γ M1).bind fun y M2 => (gx Γ M2).bind fun z M3 => mutR M3 x fun ds => f M3 ds y z else .bad := rfl
section
variable {X : Cx} {C : CT} {W : WX}
end
end Bk

set_option Elab.async false
set_option linter.all false
set_option maxRecDepth 100000
set_option maxHeartbeats 4000000
namespace Bk
open PySem PySem.Spec PyProof.Rows L2
/-! ### tuples known to have no dict: t * k of two and more, t + u with t empty too -/
section
variable {X : Cx} {C : CT} {W : WX} {pos : Pos}
def dMulP (M : List MO) (x y : D) : Option D := match x, y with
  | .tup ds, .int k => if (decide (ds ≠ []) && decide (2 ≤ k) && decide (k ≤ 100) && decide (ds.length ≤ 100)) = true then some (.ptu (List.replicate k.toNat ds).flatten) else none
  | _, _ => none
/-! t + u -/
end
@[simp] theorem e_mulP (M : List MO) (d : D) (ds : List D) (k : Int) (h1 : 2 ≤ k) (h2 : k ≤ 100) (h3 : ds.length < 100) : dMulP M (.tup (d :: ds)) (.int k) = some (.ptu (List.replicate k.toNat (d :: ds)).flatten) := by
  have c : (decide (d :: ds ≠ []) && decide (2 ≤ k) && decide (k ≤ 100) && decide ((d :: ds).length ≤ 100)) = true := by
    simp [h1, h2]
    omega
  simp only [dMulP, c, if_true]
end Bk

set_option Elab.async false
set_option linter.all false
set_option maxRecDepth 100000
set_option maxHeartbeats 4000000
namespace Bk
open PySem PySem.HandSPX PySem.Builtin PySem.Builtin.ObjectAttr
section
variable {M : Model} {A : Around} {E : Value → Shared → Prop} {h : Heap} {g : Array GenState} {d : Drawn} {t : Nat} {os : OsState}
variable {nm q : Str} {C N : Addr} {bs bm bmB : List Value} {hdct : Bool} {sn : List Str} {sub : List Value} {ab : Bool} {col : Option Bool} {dd : Option Addr} {k0 k1 k2 k3 k5 : Option Value} {B newId initId : String}
theorem kwCheck (F : ExcBaseFacts B newId initId bmB) (hT : ∀ X : String, bm.contains (.type X) = bmB.contains (.type X)) {kw : List (Str × Value)} {Q : Unit → Shared → Prop}
    (hK : h.get? C = some (excClassObj nm q C N bs bm hdct sn sub ab col dd k0 k1 k2 k3 k5 newId)) (hq : Q () ⟨h, g, d, t, os⟩) : wpAny M A (checkBuiltinCall newId ⟨[.ref C], kw⟩) Q E ⟨h, g, d, t, os⟩ := by
  have inB : (Value.ref C :: bm).contains (.type B) = true := by rw [List.contains_cons, hT, F.hasB, Bool.or_true]
  have st1 := F.noStar
  simp only [checkBuiltinCall, F.newKind, F.newSplit, F.newRow]
  repeat (first | refine wpAny_loadPart_at hK ?_ | (refine wpAny_isSubtype_exc hK ?_; rw [inB]) | refine wpAny_staticBase_exc hK ?_ | refine wpAny_madeBy_exc hK ?_ | simp only [bne_self_eq_false, Bool.false_eq_true, if_false] | wp_step)
  all_goals exact hq
end
section
variable {prog : Program} {w : World} {A : Around} {E : Value → Shared → Prop} {R : Result → Shared → Prop} {h : Heap} {g : Array GenState} {d : Drawn} {t : Nat} {os : OsState}
variable {nm q : Str} {C N : Addr} {bs bm bmB : List Value} {hdct : Bool} {sn : List Str} {sub : List Value} {ab : Bool} {col : Option Bool} {dd : Option Addr} {k0 k1 k2 k3 k5 : Option Value} {B newId initId : String} {kw : List (Str × Value)}
theorem kwNew (F : ExcBaseFacts B newId initId bmB) (hT : ∀ X : String, bm.contains (.type X) = bmB.contains (.type X))
    (hK : h.get? C = some (excClassObj nm q C N bs bm hdct sn sub ab col dd k0 k1 k2 k3 k5 newId))
    (hq : R (.ok (.ret (.ref (h.objs.size + 1)))) ⟨(h.push (W.kdv_tup [])).push (excO C h.objs.size), g, d, t, os⟩) :
    codeAny (model prog w) A (.builtin newId ⟨[.ref C], kw⟩) R ⟨h, g, d, t, os⟩ := by
  have en := F.ends
  have inB : (Value.ref C :: bm).contains (.type B) = true := by rw [List.contains_cons, hT, F.hasB, Bool.or_true]
  have inA : (Value.ref C :: bm).contains (.type "AttributeError") = false := by rw [List.contains_cons, hT, F.noAttr]; rfl
  have inN : (Value.ref C :: bm).contains (.type "NameError") = false := by rw [List.contains_cons, hT, F.noName]; rfl
  refine codeAny_builtinAt F.entry ?_
  unfold Builtin.«BaseException.__new__»
  refine wpAt_bind ?_
  show wpAt _ _ _ (stack >>= _) _ _ _
  refine wpAt_bind (wpAt_stack fun p below => wpAt_of_wpAny ?_)
  wp_walk
  refine wpAt_of_wpAny ?_
  rw [F.owner]
  repeat (first | with_reducible refine wpAny_madeHere_exc F.canon hK ?_ | with_reducible refine wpAny_loadPart_at hK ?_ | (with_reducible refine wpAny_isSubtype_exc hK ?_; first | rw [inB] | rw [inA] | rw [inN]) | wp_step)
  show R _ _
  rw [Heap.size_push]
  exact hq
theorem kwType (F : ExcBaseFacts B newId initId bmB) (hT : ∀ X : String, bm.contains (.type X) = bmB.contains (.type X)) {fI : Addr} {Q : Fin → Shared → Prop}
    (hK : h.get? C = some (excClassObj nm q C N bs bm hdct sn sub ab col dd k0 k1 k2 k3 k5 newId))
    (hi : W.Looks (model prog w) h (typeLookup (.ref C) "__init__") (some (.ref fI))) (hb : ∀ self, W.Looks (model prog w) h (bindSpecial (.ref fI) self) (.ref fI, [self]))
    (hq : codeAny (model prog w) A (.call (.ref fI) ⟨[.ref (h.objs.size + 1)], kw⟩)
      (fun r s' => match r with | .ok (.ret v) => v = .none ∧ Q (.done (.ret (.ref (h.objs.size + 1)))) s' | .ok _ => False | .error e => E e s')
      ⟨(h.push (W.kdv_tup [])).push (excO C h.objs.size), g, d, t, os⟩) :
    wpAny (model prog w) A (Builtin.«type.__call__» ⟨[.ref C], kw⟩) Q E ⟨h, g, d, t, os⟩ := by
  repeat (first | with_reducible refine wpAny_loadPart_at hK ?_ | with_reducible refine wpAny_madeBy_exc hK ?_ | wp_step)
  refine codeAny_call_builtin_code (Code.quiet_builtin _ F.quiet) (kwCheck F hT hK ?_)
  refine kwNew F hT hK ?_
  show wpAny _ _ _ _ _ _
  have kp : ∀ b o, h.get? b = some o → ((h.push (W.kdv_tup [])).push (excO C h.objs.size)).get? b = some o := fun b o e => Heap.get?_push_of_some _ (Heap.get?_push_of_some _ e)
  have hK1 := kp _ _ hK
  have eO : ((h.push (W.kdv_tup [])).push (excO C h.objs.size)).get? (h.objs.size + 1) = some (excO C h.objs.size) := by heap_get
  have inC : (Value.ref C :: bm).contains (.ref C) = true := by simp
  have i1 := hi.keeps kp
  have b1 := (hb (.ref (h.objs.size + 1))).keeps kp
  unfold isInstance
  repeat (first | with_reducible refine wpAny_loadPart_at eO ?_ | (with_reducible refine wpAny_isSubtype_exc hK1 ?_; rw [inC]) | wp_step)
  show wpAny _ _ (typeLookup (.ref C) _) _ _ _
  refine i1.at ?_
  refine wpAny_holding (wpAny_bind (b1.at ?_))
  refine wpAny_bind (wpAny_call (codeAny_mono hq fun r s' z => ?_))
  rcases r with e | f
  · exact z
  · cases f with
    | ret v =>
      obtain ⟨rfl, z⟩ := z
      first
        | exact wpAny_pure (wpAny_pure z)
        | (wp_walk; exact z)
    | next => exact z.elim
    | brk => exact z.elim
    | cont => exact z.elim
theorem kwCall (F : ExcBaseFacts B newId initId bmB) (hT : ∀ X : String, bm.contains (.type X) = bmB.contains (.type X)) {fI : Addr}
    (hK : h.get? C = some (excClassObj nm q C N bs bm hdct sn sub ab col dd k0 k1 k2 k3 k5 newId))
    (hi : W.Looks (model prog w) h (typeLookup (.ref C) "__init__") (some (.ref fI))) (hb : ∀ self, W.Looks (model prog w) h (bindSpecial (.ref fI) self) (.ref fI, [self]))
    (hq : codeAny (model prog w) (A.under (.builtin "type.__call__" ⟨[.ref C], kw⟩)) (.call (.ref fI) ⟨[.ref (h.objs.size + 1)], kw⟩) (W.InitBack (h.objs.size + 1) R)
      ⟨(h.push (W.kdv_tup [])).push (excO C h.objs.size), g, d, t, os⟩) :
    codeAny (model prog w) A (.call (.ref C) ⟨[], kw⟩) R ⟨h, g, d, t, os⟩ := by
  have f1 := tc_lookup
  have f2 := tc_bind (.ref C)
  have ty : (⟨h, g, d, t, os⟩ : Shared).TypeIs (.ref C) "type" := ⟨_, hK, rfl⟩
  refine codeAny_of_tree ?_
  show wpAny _ _ (callAny (.ref C) _) _ _ _
  repeat (any_goals (first | assumption | with_reducible refine wpAny_loadPart_at hK ?_ | wp_step))
  refine ⟨rfl, ?_⟩
  refine codeAny_call_builtin_at (Code.quiet_builtin _ (by decide +kernel)) entry_typeCall ?_
  refine wpAny_check_type_call_sub hK ?_
  refine kwType F hT hK hi hb ?_
  refine codeAny_mono hq fun r s' z => ?_
  rcases r with e | (v | _ | _ | _) <;> exact z
end
end Bk
namespace Bk
open PySem PySem.Spec PyProof.Rows L2
/-! ### errors made as values -/
section
variable {X : Cx}
theorem kept_err {pins : List (Addr × Obj)} {σ : L2.St} {H1 H2 : Hp} {s1 s2 : Shared} {hq : Heap} {a C d : Addr} {fs : List (Str × V)} (I1 : Inv X pins σ H1 s1) (ha : s1.heap.objs.size ≤ a) (k : ∀ b o, s1.heap.get? b = some o → hq.get? b = some o)
    (un : Un (frs X.stack) [] (upd H1 a (exo a C none)) H2 hq s2.heap) (hok : HOk X.prog X.w H2 s2.heap) (ho : s2.os = s1.os) (hb : AllBare s2.gens) (ed : H2 d = some (exd d fs)) (hd1 : H1 d = none) : Inv X pins σ (upd H2 d (.xd fs)) s2 := by
  obtain ⟨mA, hns, rel⟩ := exd_at hok ed
  have hn : H1 a = none := I1.hok.fresh ha
  have na : ∀ {b : Addr} {o : Obj}, s1.heap.get? b = some o → b ≠ a := fun z => Nat.ne_of_lt (Nat.lt_of_lt_of_le (Heap.lt_size z) ha)
  have up : ∀ {b : Addr}, b ≠ a → H1 b = none → upd H1 a (exo a C none) b = none := fun q n => by
    rw [upd_ne q]
    exact n
  have nd : ∀ {b : Addr} {o : Obj}, s1.heap.get? b = some o → H1 b = none → b ≠ d := fun {b o} z n e => by
    have y := un.free b o (k b o z) (up (na z) n) (by simp)
    rw [e, ed] at y
    cases y
  refine I1.call' (ch := []) ho ?_ ?_ hb (fun b z => by cases z)
  · constructor
    · exact fun b o z n hf hx => un.keep b o (k b o z) (up (na z) n) hf hx
    · exact fun b o z n hf hx => un.slot b o (k b o z) (up (na z) n) hf hx
    · intro b o z n hx
      rw [upd_ne (nd z n)]
      exact un.free b o (k b o z) (up (na z) n) hx
    · exact fun b o z hx => un.there b o (k b o z) hx
    · intro b xs z
      rw [upd_ne (ne_of_none z hd1)]
      exact un.tups b xs (by rw [upd_ne (ne_of_none z hn)]; exact z)
    · intro b o v z
      rw [upd_ne (ne_of_none z hd1)]
      exact un.frzs b o v (by rw [upd_ne (ne_of_none z hn)]; exact z)
    · intro b ps z
      rw [upd_ne (ne_of_none z hd1)]
      exact un.tbls b ps (by rw [upd_ne (ne_of_none z hn)]; exact z)
  · intro b o z
    by_cases q : b = d
    · subst q
      rw [upd_same] at z
      cases z
      exact ⟨mA, hns, rel⟩
    · rw [upd_ne q] at z
      exact (hok b o z).stay (fun c v _ y => y) (fun c hc => by rw [upd_ne (at_ne ed hc exd_own)]; exact hc) (fun c xs hc => by rw [upd_ne (at_ne ed hc exd_tup)]; exact hc)
end
/-- the reading of Cls(e) -/
def tNewX (B : Addr) (f : Str) (ta : TA) : TE := fun σ H Q => ta σ H fun vs H1 => ∃ v, vs = [v] ∧ ∀ a dx, H1 a = none → H1 dx = none → dx ≠ a → Q (.ref a) (upd (upd H1 a (exo a B (some dx))) dx (.xd [(f, v)]))
theorem upd_swap5 {H : Hp} {a dx : Addr} {o1 o2 o3 o4 : HO} (h : dx ≠ a) : upd (upd (upd (upd H a o1) dx o2) a o3) dx o4 = upd (upd H a o3) dx o4 := by
  funext b
  by_cases h1 : b = dx
  · rw [h1, upd_same, upd_same]
  · rw [upd_ne h1, upd_ne h1]
    by_cases h2 : b = a
    · rw [h2, upd_same, upd_same]
    · rw [upd_ne h2, upd_ne h1, upd_ne h2, upd_ne h2]
section
variable {X : Cx} {C : CT} {W : WX} {B fI : Addr} {f x qual nm : Str} {fd : FuncData} {st : Stmt} {e : Expr} {ge : GE} {p pos pos1 : Pos}
/-- what the maker leaves -/
theorem made_err {pins : List (Addr × Obj)} {σ : L2.St} {H1 : Hp} {s1 s2 : Shared} {hq : Heap} {v : V} {Q : VK} (I1 : Inv X pins σ H1 s1) (k : ∀ b o, s1.heap.get? b = some o → hq.get? b = some o) {a : Addr} (ha : s1.heap.objs.size ≤ a)
    (q : ∀ a dx, H1 a = none → H1 dx = none → dx ≠ a → Q (.ref a) (upd (upd H1 a (exo a B (some dx))) dx (.xd [(f, v)]))) {H2 : Hp} (un : Un (frs X.stack) [] (upd H1 a (exo a B none)) H2 hq s2.heap) (hok : HOk X.prog X.w H2 s2.heap) (ho : s2.os = s1.os) (hb : AllBare s2.gens)
    (w : ∃ dx, dx ≠ a ∧ H1 dx = none ∧ H2 = upd (upd (upd H1 a (exo a B none)) dx (exd dx [(f, v)])) a (exo a B (some dx))) : EP X pins σ Q (.ref a) s2 := by
  obtain ⟨dx, ne, hd, rfl⟩ := w
  have J := kept_err I1 ha k un hok ho hb (fs := [(f, v)]) (d := dx) (by rw [upd_ne ne]; exact upd_same) hd
  rw [upd_swap5 ne] at J
  exact ⟨.ref a, _, J, rfl, q a dx (I1.hok.fresh ha) hd ne⟩
end
end Bk
namespace Bk
open PySem PySem.Spec PyProof.Rows L2
section
variable {X : Cx} {C : CT} {W : WX} {B fI : Addr} {f x qual nm : Str} {fd : FuncData} {st : Stmt} {e : Expr} {ge : GE} {p pos pos1 : Pos}
/-- Cls(e) as a value -/
theorem pe_newX {ta : TA} (I0 : XC X.K B fI f fd st qual) (F1 : FnOk X.prog X.w X.K X.mg X.base CX0 1 fI fd ["self", f] (spI B f)) (hr : Room 2 X.A) (hg : Gl X x) (hm : X.mg x = some (.ref B)) (ha : PA X [e] ta)
    (hdb : (x == ("__debug__" : Str)) = false := by decide) (he : starEach [e] X.env = (false, eval e X.env) :: starEach [] X.env := by rfl) (hpl : (backTo pos (starEach [] X.env)).any (·.1) = false := by rfl) :
    PE X (.Call (.Name x p) [e] [] pos) (tNewX B f ta) := by
  refine ⟨fun pins s σ H Q I h => ?_⟩
  obtain ⟨nm, q, N, bs, bm, sn, sub, ab, col, dd, k0, k1, k2, k3, k5, hC, hbm⟩ := I0.ok.cls
  refine wpAny_Call_Name_kw (ld_glob I hg hm ?_ hdb)
  refine PySem.W.callWith_K (h₀ := X.base) I.ok.mod.kin I0.ok.kC (thn (ha.run pos pins s σ H _ I h) fun us s1 hh => ?_) he hpl
  obtain ⟨vs, H1, I1, r1, q1⟩ := hh
  refine ⟨I1.kIn, ?_⟩
  obtain ⟨v, rfl, q1⟩ := q1
  obtain ⟨u, rfl, ru⟩ : ∃ u, us = [u] ∧ RelV v u := by
    cases r1 with
    | cons r t =>
      cases t
      exact ⟨_, rfl, r⟩
  show wpAny _ _ (call (.ref B) [u]) _ _ _
  obtain ⟨hp, g, dr, tk, os⟩ := s1
  have hsz : hp.objs.size ≤ hp.objs.size + 1 := Nat.le_succ _
  have kk : ∀ b o, hp.get? b = some o → ((hp.push (PySem.W.kdv_tup [u])).push (PySem.HandSPX.excO B hp.objs.size)).get? b = some o := fun b o z => Heap.get?_push_of_some _ (Heap.get?_push_of_some _ z)
  have hget : ((hp.push (PySem.W.kdv_tup [u])).push (PySem.HandSPX.excO B hp.objs.size)).get? (hp.objs.size + 1) = some (PySem.HandSPX.excO B hp.objs.size) := by heap_get
  have I2 : Inv X pins σ (upd H1 (hp.objs.size + 1) (exo (hp.objs.size + 1) B none)) ⟨(hp.push (PySem.W.kdv_tup [u])).push (PySem.HandSPX.excO B hp.objs.size), g, dr, tk, os⟩ :=
    I1.laid (t' := tk) kk hsz (exo_ok hget)
  refine wpAny_call (PySem.HandSPX.call_own F.excBase_ValueError (fun Y => PySem.HandSPX.refsVE_contains Y bm hbm) (I1.kIn _ _ hC) (PySem.W.looks_findIn I1.kIn I0.ini) (fun self => PySem.W.bind_fn I1.kIn self I0.typ) (by show 1 ≤ sizeLine; rw [sizeLine_eq]; decide)
    (codeAny_mono (F1.run _ X.stack _ _ ⟨[Value.ref (hp.objs.size + 1), u], []⟩ [Value.ref (hp.objs.size + 1), u] [.ref (hp.objs.size + 1), v]
      (fun w H2 => w = .non ∧ ∃ dx, dx ≠ hp.objs.size + 1 ∧ H1 dx = none ∧ H2 = upd (upd (upd H1 (hp.objs.size + 1) (exo (hp.objs.size + 1) B none)) dx (exd dx [(f, v)])) (hp.objs.size + 1) (exo (hp.objs.size + 1) B (some dx)))
      (fun _ _ _ => False) (hr.make B [u] []) (I2.env0.make B [u] []) (I0.bi _ [Value.ref (hp.objs.size + 1), u] I2.kIn rfl) (.cons rfl (.cons ru .nil))
      ⟨_, v, rfl, upd_same, fun dx hdx ne => ⟨rfl, dx, ne, by rw [upd_ne ne] at hdx; exact hdx, rfl⟩⟩) fun r s' hq' => ?_))
  cases r with
  | error er => exact pass0 pins σ _ _ er s' I2 hq'
  | ok fl =>
    cases fl with
    | ret w =>
      obtain ⟨w1, H2, os2, bare2, un2, hok2, rv, ev, q2⟩ := hq'
      subst ev
      exact ⟨rv, made_err I1 kk hsz q1 un2 hok2 os2 bare2 q2⟩
    | next => exact False.elim hq'
    | brk => exact False.elim hq'
    | cont => exact False.elim hq'
/-- Cls(f=e) as a value -/
theorem pe_newXK {ta : TA} {kws : List Keyword} (I0 : XC X.K B fI f fd st qual) (hbk : KwBinds X.K fd ["self", f] [f] 1 [0, 1]) (F1 : FnOk X.prog X.w X.K X.mg X.base CX0 1 fI fd ["self", f] (spI B f)) (hr : Room 2 X.A) (hg : Gl X x) (hm : X.mg x = some (.ref B)) (ha : PK X kws ta)
    (hall : (backToKw pos (keywordEach kws X.env)).all (·.1.isSome) = true := by rfl) (hks : (backToKw pos (keywordEach kws X.env)).filterMap (·.1) = [f] := by rfl) (hdb : (x == ("__debug__" : Str)) = false := by decide)
    (hpl : ((backTo pos (starEach [] X.env)).any (·.1) || (backToKw pos (keywordEach kws X.env)).any (·.1.isNone)) = false := by rfl) :
    PE X (.Call (.Name x p) [] kws pos) (tNewX B f ta) := by
  refine ⟨fun pins s σ H Q I h => ?_⟩
  obtain ⟨nm, q, N, bs, bm, sn, sub, ab, col, dd, k0, k1, k2, k3, k5, hC, hbm⟩ := I0.ok.cls
  refine wpAny_Call_Name_kw (ld_glob I hg hm ?_ hdb)
  refine PySem.W.callWith_KW0 (h₀ := X.base) I.ok.mod.kin I0.ok.kC hall (thn (ha.run pos pins s σ H _ I h) fun us s1 hh => ?_) hpl
  obtain ⟨vs, H1, I1, r1, q1⟩ := hh
  refine ⟨I1.kIn, ?_⟩
  obtain ⟨v, rfl, q1⟩ := q1
  obtain ⟨u, rfl, ru⟩ : ∃ u, us = [u] ∧ RelV v u := by
    cases r1 with
    | cons r t =>
      cases t
      exact ⟨_, rfl, r⟩
  rw [hks]
  show wpAny _ _ (call (.ref B) [] [(f, u)]) _ _ _
  obtain ⟨hp, g, dr, tk, os⟩ := s1
  have hsz : hp.objs.size ≤ hp.objs.size + 1 := Nat.le_succ _
  have kk : ∀ b o, hp.get? b = some o → ((hp.push (PySem.W.kdv_tup [])).push (PySem.HandSPX.excO B hp.objs.size)).get? b = some o := fun b o z => Heap.get?_push_of_some _ (Heap.get?_push_of_some _ z)
  have hget : ((hp.push (PySem.W.kdv_tup [])).push (PySem.HandSPX.excO B hp.objs.size)).get? (hp.objs.size + 1) = some (PySem.HandSPX.excO B hp.objs.size) := by heap_get
  have I2 : Inv X pins σ (upd H1 (hp.objs.size + 1) (exo (hp.objs.size + 1) B none)) ⟨(hp.push (PySem.W.kdv_tup [])).push (PySem.HandSPX.excO B hp.objs.size), g, dr, tk, os⟩ :=
    I1.laid (t' := tk) kk hsz (exo_ok hget)
  have hbb := hbk _ [Value.ref (hp.objs.size + 1)] [u] I2.kIn rfl rfl
  refine wpAny_call (kwCall F.excBase_ValueError (fun Y => PySem.HandSPX.refsVE_contains Y bm hbm) (I1.kIn _ _ hC) (PySem.W.looks_findIn I1.kIn I0.ini) (fun self => PySem.W.bind_fn I1.kIn self I0.typ)
    (codeAny_mono (F1.run _ X.stack _ _ ⟨[Value.ref (hp.objs.size + 1)], [(f, u)]⟩ [Value.ref (hp.objs.size + 1), u] [.ref (hp.objs.size + 1), v]
      (fun w H2 => w = .non ∧ ∃ dx, dx ≠ hp.objs.size + 1 ∧ H1 dx = none ∧ H2 = upd (upd (upd H1 (hp.objs.size + 1) (exo (hp.objs.size + 1) B none)) dx (exd dx [(f, v)])) (hp.objs.size + 1) (exo (hp.objs.size + 1) B (some dx)))
      (fun _ _ _ => False) (hr.make B [] [(f, u)]) (I2.env0.make B [] [(f, u)]) hbb (.cons rfl (.cons ru .nil))
      ⟨_, v, rfl, upd_same, fun dx hdx ne => ⟨rfl, dx, ne, by rw [upd_ne ne] at hdx; exact hdx, rfl⟩⟩) fun r s' hq' => ?_))
  cases r with
  | error er => exact pass0 pins σ _ _ er s' I2 hq'
  | ok fl =>
    cases fl with
    | ret w =>
      obtain ⟨w1, H2, os2, bare2, un2, hok2, rv, ev, q2⟩ := hq'
      subst ev
      exact ⟨rv, made_err I1 kk hsz q1 un2 hok2 os2 bare2 q2⟩
    | next => exact False.elim hq'
    | brk => exact False.elim hq'
    | cont => exact False.elim hq'
/-- an error of the class named nm, its attribute f -/
def gNewX (nm f : Str) (ge : GE) : GE := fun Γ M => (ge Γ M).bind fun d M1 => .ok (.exn nm f d) M1
theorem newX_post {σ : L2.St} {H Z : Hp} {ι : Nat → Addr} {Γ : Env} {M : List MO} {Q Q1 : VK} {te : TE} (hn0 : PySem.W.nsIn X.K mainGlobals nm = some (some (.ref B))) (qe : ∀ (σ : L2.St) (H Z : Hp) (ι : Nat → Addr) (Γ : Env) (M : List MO) (Q : VK), Slots X.K Z ι M.length Γ σ → HR X.K H Z ι M → Post X C W (rpE X.K) σ H Z ι M (ge Γ M) Q → te σ H Q)
    (sl : Slots X.K Z ι M.length Γ σ) (hr : HR X.K H Z ι M) (h : Post X C W (rpE X.K) σ H Z ι M (gNewX nm f ge Γ M) Q) (k : ∀ v H1, (∀ a dx, H1 a = none → H1 dx = none → dx ≠ a → Q (.ref a) (upd (upd H1 a (exo a B (some dx))) dx (.xd [(f, v)]))) → Q1 v H1) : te σ H Q1 := by
  refine qe σ H Z ι Γ M _ sl hr (Post.bind h fun d M1 v H1 Z1 ι1 e1 hr1 r1 h1 => k v H1 fun a dx ha hd ne => ?_)
  obtain ⟨hr2, x2⟩ := hr1.frozen (o := exo a B (some dx)) ha
  have hd2 : upd H1 a (exo a B (some dx)) dx = none := by rw [upd_ne ne]; exact hd
  obtain ⟨hr3, x3⟩ := hr2.frozen (o := .xd [(f, v)]) hd2
  refine h1 (.ref a) _ _ ι1 (x2.trans x3 hr2.ali) hr3 ?_
  refine .exn hn0 ?_ upd_same ((r1.ext x2).ext x3)
  rw [upd_ne (Ne.symm ne)]
  exact upd_same
theorem qe_newX (hn0 : PySem.W.nsIn X.K mainGlobals nm = some (some (.ref B))) (I0 : XC X.K B fI f fd st qual) (F1 : FnOk X.prog X.w X.K X.mg X.base CX0 1 fI fd ["self", f] (spI B f)) (hr : Room 2 X.A) (hg : Gl X x) (hm : X.mg x = some (.ref B)) (he : QE X C W e ge)
    (hdb : (x == ("__debug__" : Str)) = false := by decide) (hs : starEach [e] X.env = (false, eval e X.env) :: starEach [] X.env := by rfl) (hpl : (backTo pos (starEach [] X.env)).any (·.1) = false := by rfl) :
    QE X C W (.Call (.Name x p) [e] [] pos) (gNewX nm f ge) := by
  obtain ⟨te, pe, qe⟩ := he
  exact ⟨_, pe_newX I0 F1 hr hg hm (pa_cons pe pa_nil hs) hdb hs hpl, fun σ H Z ι Γ M Q sl hr h => by
    show te σ H _
    exact newX_post (te := te) hn0 qe sl hr h fun v H1 q => ⟨v, rfl, q⟩⟩
theorem qe_newXK {kpos : Pos} (hn0 : PySem.W.nsIn X.K mainGlobals nm = some (some (.ref B))) (I0 : XC X.K B fI f fd st qual) (hbk : KwBinds X.K fd ["self", f] [f] 1 [0, 1]) (F1 : FnOk X.prog X.w X.K X.mg X.base CX0 1 fI fd ["self", f] (spI B f)) (hr : Room 2 X.A) (hg : Gl X x) (hm : X.mg x = some (.ref B)) (he : QE X C W e ge)
    (hall : (backToKw pos (keywordEach [⟨some f, e, kpos⟩] X.env)).all (·.1.isSome) = true := by rfl) (hks : (backToKw pos (keywordEach [⟨some f, e, kpos⟩] X.env)).filterMap (·.1) = [f] := by rfl) (hdb : (x == ("__debug__" : Str)) = false := by decide)
    (hpl : ((backTo pos (starEach [] X.env)).any (·.1) || (backToKw pos (keywordEach [⟨some f, e, kpos⟩] X.env)).any (·.1.isNone)) = false := by rfl) :
    QE X C W (.Call (.Name x p) [] [⟨some f, e, kpos⟩] pos) (gNewX nm f ge) := by
  obtain ⟨te, pe, qe⟩ := he
  exact ⟨_, pe_newXK I0 hbk F1 hr hg hm (pk_cons pe pk_nil) hall hks hdb hpl, fun σ H Z ι Γ M Q sl hr h => by
    show te σ H _
    exact newX_post (te := te) hn0 qe sl hr h fun v H1 q => ⟨v, rfl, q⟩⟩
@[simp] theorem u_gNewX (nm f : Str) (ge : GE) (Γ : Env) (M : List MO) : gNewX nm f ge Γ M = (ge Γ M).bind fun d M1 => .ok (.exn nm f d) M1 := Eq.trans rfl rfl
end
end Bk

set_option Elab.async false
set_option linter.all false
set_option maxRecDepth 100000
set_option maxHeartbeats 4000000
namespace Bk
open PySem PySem.Spec PySem.Calls PyProof.Rows L2
/-! ### errors as values: isinstance, the attribute; repr and == of data with small dicts -/
section
variable {X : Cx}
theorem exn_inst {pins : List (Addr × Obj)} {σ : L2.St} {H : Hp} {s : Shared} {a B dx : Addr} {fs : List (Str × V)} (I : Inv X pins σ H s) (ea : H a = some (exo a B (some dx))) (ed : H dx = some (.xd fs)) :
    ∃ (ob od : Obj) (mA : Str → Option Value), PySem.W.InstAt s.heap a ob B (some od) ∧ (∀ n, PySem.W.lookIn n od = some (mA n)) ∧ ∀ n, RelO (fs.lookup n) (mA n) := by
  obtain ⟨t1, ha⟩ := exo_at I.hok ea
  obtain ⟨mA, hns, hr⟩ := (show ObjOk X.prog X.w H s.heap dx (.xd fs) from I.hok dx _ ed)
  obtain ⟨od, ho, hl⟩ := lookIn_ns hns
  exact ⟨_, od, mA, ⟨ha, rfl, by unfold PySem.W.notCls; rfl, ho⟩, hl, hr⟩
def rIsX (K : PySem.W.Frag) : List V → Hp → VK → Prop := fun xs H Q => ∃ (a B dx : Addr) (c : V) (cv : Value) (b : Bool) (fs : List (Str × V)), xs = [.ref a, c] ∧ (∀ u, RelV c u → u = cv) ∧ ExcC K B ∧ PySem.W.kitOne K (.ref B) cv = some b ∧ H a = some (exo a B (some dx)) ∧ H dx = some (.xd fs) ∧ Q (.bl b) H
theorem call_isX : CallR X (.builtin "isinstance") (rIsX X.K) := by
  intro pins s σ H xs us Q I r h
  obtain ⟨a, B, dx, c, cv, b, fs, rfl, hcv, xc, e, ea, ed, q⟩ := h
  obtain ⟨u1, u2, rfl, ru1, ru2⟩ := vals2 r
  cases ru1
  have ec := hcv _ ru2
  subst ec
  obtain ⟨ob, od, _, J, _⟩ := exn_inst I ea ed
  exact PySem.W.kia_one (kitx_err (ob := ob) xc) I.kIn ⟨_, J⟩ e (fun z => nomatch z) fun tk => ⟨.bl b, H, I.kept (t' := tk) fun _ _ z => z, rfl, q⟩
def tAtX (K : PySem.W.Frag) (f : Str) (te : TE) : TE := fun σ H Q => te σ H fun x H1 => ∃ (a B dx : Addr) (fs : List (Str × V)) (v : V), x = .ref a ∧ XfC K B ∧ PySem.W.findIn K (.ref B) f = some none ∧ H1 a = some (exo a B (some dx)) ∧ H1 dx = some (.xd fs) ∧ fs.lookup f = some v ∧ Q v H1
theorem pe_atX {e : Expr} {te : TE} {pos : Pos} {n : Str} (he : PE X e te) (hb : attributeBase e n X.env (eval e X.env) = eval e X.env := by rfl) : PE X (.Attribute e n pos) (tAtX X.K n te) := by
  refine ⟨fun pins s σ H Q I h => ?_⟩
  refine attr_of hb (thn (he.run pins s σ H _ I h) fun u s1 hh => ?_)
  obtain ⟨x, H1, I1, rx, a, B, dx, fs, v, rfl, T, hno, ea, ed, l, q⟩ := hh
  obtain rfl : u = Value.ref a := rx
  obtain ⟨ob, od, mA, J, hl, hr⟩ := exn_inst I1 ea ed
  obtain ⟨u, hu, ru⟩ := RelO.some_of (v := v) (o := mA n) (by rw [← l]; exact hr n)
  exact HandSPX.exc_get I1.kIn J T.ga T.gg T.exC (PySem.W.findObj_own T.hdC hno rfl (by rw [hl, hu])) (handed_of ru) ⟨v, H1, I1.tok _, ru, q⟩
end
/-- isinstance(e, K) of an error made as a value; num gives its class's number, b what that class is -/
def gIsX (num : Str → Option Nat) (b : Nat → Bool) (ge : GE) : GE := fun Γ M => (ge Γ M).bind fun d M1 => match d with
  | .exn nm _ _ => match num nm with
    | some j => .ok (.bl (b j)) M1
    | none => .bad
  | _ => .bad
def gAtX (num : Str → Option Nat) (nms : Nat → Str) (f : Str) (ge : GE) : GE := fun Γ M => (ge Γ M).bind fun d M1 => match d with
  | .exn nm f' x => match num nm with
    | some j => if f' = f ∧ nms j = f then .ok x M1 else .bad
    | none => .bad
  | _ => .bad
/-- the numbers of the classes -/
def NumC (K : PySem.W.Frag) (C : CT) (m : Nat) (num : Str → Option Nat) : Prop := ∀ nm j, num nm = some j → j < m ∧ PySem.W.nsIn K mainGlobals nm = some (some (.ref (C.at_ j)))
section
variable {X : Cx} {C : CT} {W : WX} {e : Expr} {ge : GE} {p pos q : Pos} {m : Nat} {num : Str → Option Nat} {b : Nat → Bool}
theorem isX_post {σ : L2.St} {H Z : Hp} {ι : Nat → Addr} {Γ : Env} {M : List MO} {Q Q1 : VK} {te : TE} (hN : NumC X.K C m num) (qe : ∀ (σ : L2.St) (H Z : Hp) (ι : Nat → Addr) (Γ : Env) (M : List MO) (Q : VK), Slots X.K Z ι M.length Γ σ → HR X.K H Z ι M → Post X C W (rpE X.K) σ H Z ι M (ge Γ M) Q → te σ H Q)
    (sl : Slots X.K Z ι M.length Γ σ) (hr : HR X.K H Z ι M) (h : Post X C W (rpE X.K) σ H Z ι M (gIsX num b ge Γ M) Q) (k : ∀ (a dx : Addr) (j : Nat) (fs : List (Str × V)) (H1 : Hp), j < m → H1 a = some (exo a (C.at_ j) (some dx)) → H1 dx = some (.xd fs) → Q (.bl (b j)) H1 → Q1 (.ref a) H1) : te σ H Q1 := by
  refine qe σ H Z ι Γ M _ sl hr (Post.bind h fun d M1 v H1 Z1 ι1 e1 hr1 r1 h1 => ?_)
  cases d with
  | exn nm f x =>
    simp only at h1
    cases en : num nm with
    | none => rw [en] at h1; exact h1.elim
    | some j =>
      rw [en] at h1
      obtain ⟨hj, hn⟩ := hN nm j en
      cases r1 with
      | exn hn2 ea ed r =>
        rw [hn] at hn2
        cases hn2
        exact k _ _ j _ H1 hj (hr1.sub _ _ ea) (hr1.sub _ _ ed) (h1 (.bl (b j)) H1 Z1 ι1 .refl hr1 (.bl (b j)))
  | _ => exact h1.elim
theorem qe_isX {TN : Str} {K0 : Addr} (hN : NumC X.K C m num) (xc : ∀ j, j < m → ExcC X.K (C.at_ j)) (hk : ∀ j, j < m → PySem.W.kitOne X.K (.ref (C.at_ j)) (.ref K0) = some (b j)) (hg : Gl X "isinstance") (hm : X.mg "isinstance" = none) (hT : Gl X TN) (hmT : X.mg TN = some (.ref K0)) (he : QE X C W e ge)
    (hd : (TN == ("__debug__" : Str)) = false := by decide) (hs : starEach [e, Expr.Name TN q] X.env = (false, eval e X.env) :: starEach [Expr.Name TN q] X.env := by rfl) (hs2 : starEach [Expr.Name TN q] X.env = (false, eval (Expr.Name TN q) X.env) :: starEach [] X.env := by rfl)
    (hpl : (backTo pos (starEach [Expr.Name TN q] X.env)).any (·.1) = false := by rfl) : QE X C W (.Call (.Name "isinstance" p) [e, .Name TN q] [] pos) (gIsX num b ge) := by
  obtain ⟨te, pe, qe⟩ := he
  refine ⟨_, pe_callB call_isX hg hm (by decide +kernel) (pa_cons pe (pa_cons (pe_glob (v := .ref K0) hT hmT rfl hd) pa_nil hs2) hs) (he := hs) (hpl := hpl), fun σ H Z ι Γ M Q sl hr h => ?_⟩
  show te σ H _
  refine isX_post hN qe sl hr h fun a dx j fs H1 hj ea ed q => ?_
  exact ⟨a, C.at_ j, dx, .ref K0, .ref K0, b j, fs, rfl, fun u r => r, xc j hj, hk j hj, ea, ed, q⟩
theorem qe_isXB {TN : Str} {T : String} (hN : NumC X.K C m num) (xc : ∀ j, j < m → ExcC X.K (C.at_ j)) (hk : ∀ j, j < m → PySem.W.kitOne X.K (.ref (C.at_ j)) (.type T) = some (b j)) (hg : Gl X "isinstance") (hm : X.mg "isinstance" = none) (hT : Gl X TN) (hmT : X.mg TN = none) (hvT : bootBuiltins TN = some (.type T)) (he : QE X C W e ge)
    (hn : TN ≠ "__name__" := by decide) (hd : (TN == ("__debug__" : Str)) = false := by decide) (hs : starEach [e, Expr.Name TN q] X.env = (false, eval e X.env) :: starEach [Expr.Name TN q] X.env := by rfl) (hs2 : starEach [Expr.Name TN q] X.env = (false, eval (Expr.Name TN q) X.env) :: starEach [] X.env := by rfl)
    (hpl : (backTo pos (starEach [Expr.Name TN q] X.env)).any (·.1) = false := by rfl) : QE X C W (.Call (.Name "isinstance" p) [e, .Name TN q] [] pos) (gIsX num b ge) := by
  obtain ⟨te, pe, qe⟩ := he
  refine ⟨_, pe_callB call_isX hg hm (by decide +kernel) (pa_cons pe (pa_cons (pe_bltn (v := .ty T) hT hmT hvT rfl hn hd) pa_nil hs2) hs) (he := hs) (hpl := hpl), fun σ H Z ι Γ M Q sl hr h => ?_⟩
  show te σ H _
  refine isX_post hN qe sl hr h fun a dx j fs H1 hj ea ed q => ?_
  exact ⟨a, C.at_ j, dx, .ty T, .type T, b j, fs, rfl, fun u r => r, xc j hj, hk j hj, ea, ed, q⟩
theorem qe_atX {nms : Nat → Str} {f : Str} (hN : NumC X.K C m num) (xf : ∀ j, j < m → XfC X.K (C.at_ j)) (no : ∀ j, j < m → PySem.W.findIn X.K (.ref (C.at_ j)) (nms j) = some none) (he : QE X C W e ge) (hb : attributeBase e f X.env (eval e X.env) = eval e X.env := by rfl) : QE X C W (.Attribute e f pos) (gAtX num nms f ge) := by
  obtain ⟨te, pe, qe⟩ := he
  refine ⟨_, pe_atX pe hb, fun σ H Z ι Γ M Q sl hr h => ?_⟩
  refine qe σ H Z ι Γ M _ sl hr (Post.bind h fun d M1 v H1 Z1 ι1 e1 hr1 r1 h1 => ?_)
  cases d with
  | exn nm f2 x =>
    simp only at h1
    cases en : num nm with
    | none => rw [en] at h1; exact h1.elim
    | some j =>
      rw [en] at h1
      obtain ⟨hj, hn⟩ := hN nm j en
      simp only at h1
      by_cases c : f2 = f ∧ nms j = f
      · rw [if_pos c] at h1
        obtain ⟨rfl, c2⟩ := c
        cases r1 with
        | exn hn2 ea ed r =>
          rw [hn] at hn2
          cases hn2
          refine ⟨_, C.at_ j, _, _, _, rfl, xf j hj, ?_, hr1.sub _ _ ea, hr1.sub _ _ ed, by simp [List.lookup], h1 _ H1 Z1 ι1 .refl hr1 r⟩
          rw [← c2]
          exact no j hj
      · rw [if_neg c] at h1
        exact h1.elim
  | _ => exact h1.elim
end
@[simp] theorem u_gIsX (num : Str → Option Nat) (b : Nat → Bool) (ge : GE) (Γ : Env) (M : List MO) : gIsX num b ge Γ M = (ge Γ M).bind fun d M1 => match d with
  | .exn nm _ _ => match num nm with
    | some j => .ok (.bl (b j)) M1
    | none => .bad
  | _ => .bad := Eq.trans rfl rfl
@[simp] theorem u_gAtX (num : Str → Option Nat) (nms : Nat → Str) (f : Str) (ge : GE) (Γ : Env) (M : List MO) : gAtX num nms f ge Γ M = (ge Γ M).bind fun d M1 => match d with
  | .exn nm f' x => match num nm with
    | some j => if f' = f ∧ nms j = f then .ok x M1 else .bad
    | none => .bad
  | _ => .bad := Eq.trans rfl rfl
end Bk

set_option Elab.async false
set_option linter.all false
set_option maxRecDepth 100000
set_option maxHeartbeats 4000000
namespace Bk
open PySem PySem.Spec PySem.Calls PyProof.Rows L2
/-! ### repr and == of data with small dicts -/
def toQ : D → Option PyData
  | .dct [] [] => some (.dict [])
  | .dcx (.inr x) (.int i) => some (.dict [(.str x, .int i)])
  | d => (toP d).bind fun p => if p.hasDict = true then none else some p
def dReprQ (M : List MO) (d : D) : Option D := (toQ d).bind fun p => if (p.showable && decide (p.depth ≤ 60) && decide (p.shown.length ≤ sizeLine)) = true then some (.str p.shown) else none
def dEqQ (M : List MO) (x y : D) : Option D := match x, y with
  | .dcx k1 (.int i), .dcx k2 (.int j) => if k1 = k2 ∧ i = j then some (.bl true) else none
  | .dct [] [], .dct [] [] => some (.bl true)
  | x, y => dEqA M x y
section
variable {X : Cx} {pins : List (Addr × Obj)} {σ : L2.St} {H Z : Hp} {s : Shared} {ι : Nat → Addr} {n : Nat}
/-- a dict with one entry or none stands there -/
def DkQ (H : Hp) (a : Addr) (kvs : List (Key × V)) : Prop := H a = some (.dK kvs) ∨ (kvs = [] ∧ EmD H a)
theorem DkQ.of {kvs : List (Key × V)} {a : Addr} (I : Inv X pins σ H s) (h : DkQ H a kvs) : (a == sysModules) = false ∧ ∃ vs, KV kvs vs ∧ s.heap.DictOf (mixKind X.prog X.w) a vs := by
  rcases h with h | ⟨rfl, ep, h, hs⟩
  · obtain ⟨_, y, vs, r, dd⟩ := (show ObjOk X.prog X.w H s.heap a (.dK kvs) from I.hok a _ h)
    exact ⟨y, vs, r, dd⟩
  · obtain ⟨⟨o, e1, e2, e3⟩, _⟩ := I.hok a _ h
    exact ⟨hs, [], .nil, o, #[], ep, e1, e2, e3, fun e he => by simp at he, .nil, List.nodup_nil⟩
theorem reads_dk {a : Addr} {x : Str} {i : Int} (I : Inv X pins σ H s) (h : H a = some (.dK [(.inr x, .int i)])) : ∃ as, Reads s.heap (.ref a) (.dict [(.str x, .int i)]) as ∧ sysModules ∉ as := by
  obtain ⟨y, vs, r, o, es, ep, ho, hex, hd, _, pr, _⟩ := DkQ.of I (.inl h)
  obtain ⟨t2, rfl⟩ : ∃ t2, vs = [((.inr x : Key), Value.int i t2)] := by
    cases r with
    | cons r1 r2 =>
      cases r2
      obtain ⟨ke, t2, ve⟩ := r1
      exact ⟨t2, by rw [List.cons.injEq]; exact ⟨Prod.ext ke.symm ve, rfl⟩⟩
  cases hes : es.toList with
  | nil => rw [hes] at pr; cases pr
  | cons e1 e2 =>
    rw [hes] at pr
    cases pr with
    | cons k1 v1 tl =>
      cases tl
      rcases keyIs_shape (k := .inr x) (v := e1.key) k1 with ⟨_, _, q1, _⟩ | ⟨x2, t, q1, q2⟩
      · cases q1
      · cases q1
        refine ⟨_, Reads.dict (kvs := [(.str x, .int i)]) ho hex.1 hd (as := []) (bs := []) ?_ ?_, ?_⟩
        · rw [hes]
          simp only [List.map_cons, List.map_nil, q2]
          exact ReadsAll.cons (as := []) (Reads.str _ _) .nil
        · rw [hes]
          simp only [List.map_cons, List.map_nil, v1]
          exact ReadsAll.cons (as := []) (Reads.int _ _) .nil
        · intro hm
          simp only [List.append_nil, List.mem_singleton] at hm
          rw [← hm] at y
          simp at y
theorem readsQ (hs : Sub Z H) (I : Inv X pins σ H s) {d : D} {v : V} {p : PyData} {u : Value} (r : Rp X.K Z ι n d v) (e : toQ d = some p) (ru : RelV v u) : ∃ as, Reads s.heap u p as ∧ (p.hasDict = true → sysModules ∉ as) := by
  unfold toQ at e
  split at e
  · exact ItX.reads I (itT_run hs r (by rw [← e]; rfl)) ru
  · cases e
    cases r with
    | dcx q w =>
      cases w
      cases ru
      obtain ⟨as, h1, h2⟩ := reads_dk I (hs _ _ q)
      exact ⟨as, h1, fun _ => h2⟩
  · cases e1 : toP d with
    | none => rw [e1] at e; cases e
    | some p0 =>
      rw [e1, Option.bind_some] at e
      by_cases c : p0.hasDict = true
      · rw [if_pos c] at e; cases e
      · rw [if_neg c] at e
        cases e
        obtain ⟨as, q⟩ := Dp.reads I _ _ _ (toP_dp hs d v p r e1) ru
        exact ⟨as, q, fun z => absurd z c⟩
def rReprQ (X : Cx) : List V → Hp → VK → Prop := fun xs H Q => ∃ (Z : Hp) (ι : Nat → Addr) (n : Nat) (d : D) (v : V) (p : PyData), xs = [v] ∧ Sub Z H ∧ Rp X.K Z ι n d v ∧ toQ d = some p ∧ p.showable = true ∧ p.depth ≤ 60 ∧ p.shown.length ≤ sizeLine ∧ Q (.str p.shown) H
theorem call_reprQ (hgu : X.A.guards = some []) (hu : X.A.units + 64 < cLine) : CallR X (.builtin "repr") (rReprQ X) := by
  intro pins s σ H xs us Q I r h
  obtain ⟨Z, ι, n, d, v, p, rfl, hs, rv, e, h1, h2, h3, q⟩ := h
  obtain ⟨u, rfl, ru⟩ := Vals.one r
  obtain ⟨as, hr, hm⟩ := readsQ hs I rv e ru
  cases hr with
  | none => exact PySem.P.repr_of_none ⟨.str _, H, I.tok _, ⟨_, rfl⟩, q⟩
  | bool b => exact PySem.P.repr_of_bool ⟨.str _, H, I.tok _, ⟨_, rfl⟩, by cases b <;> exact q⟩
  | int i t => exact PySem.P.repr_of_int (by simpa [PyData.showable] using h1) ⟨.str _, H, I.tok _, ⟨_, rfl⟩, q⟩
  | str x t => exact PySem.P.repr_of_str ⟨.str _, H, I.tok _, ⟨_, rfl⟩, q⟩ (by simpa [PyData.shown] using h3)
  | list a1 a2 a3 a4 => exact repr_of_reads' (.list a1 a2 a3 a4) h1 hm hgu (by omega) (fun _ _ e => e) (fun h' u tk k => ⟨.str _, H, I.kept (t' := tk) k, ⟨u, rfl⟩, q⟩) h3
  | tuple a1 a2 a3 a4 => exact repr_of_reads' (.tuple a1 a2 a3 a4) h1 hm hgu (by omega) (fun _ _ e => e) (fun h' u tk k => ⟨.str _, H, I.kept (t' := tk) k, ⟨u, rfl⟩, q⟩) h3
  | dict a1 a2 a3 a4 a5 => exact repr_of_reads' (.dict a1 a2 a3 a4 a5) h1 hm hgu (by omega) (fun _ _ e => e) (fun h' u tk k => ⟨.str _, H, I.kept (t' := tk) k, ⟨u, rfl⟩, q⟩) h3
theorem ok_reprQ : Ok1 X (fun x H Q => rReprQ X [x] H Q) dReprQ := fun x H Z ι M dx d Q hr rx e q => by
  unfold dReprQ at e
  cases e1 : toQ dx with
  | none => rw [e1] at e; cases e
  | some p =>
    rw [e1, Option.bind_some] at e
    by_cases c : (p.showable && decide (p.depth ≤ 60) && decide (p.shown.length ≤ sizeLine)) = true
    · rw [if_pos c] at e
      cases e
      simp only [Bool.and_eq_true, decide_eq_true_eq] at c
      exact ⟨Z, ι, _, dx, x, p, rfl, hr.sub, rx, e1, c.1.1, c.1.2, c.2, q.now hr (.str _)⟩
    · rw [if_neg c] at e
      cases e
def rEqQ : R2 := fun x y H Q => ∃ (a b : Addr) (kv : List (Key × V)), x = .ref a ∧ y = .ref b ∧ DkQ H a kv ∧ DkQ H b kv ∧ kv.length ≤ 1 ∧ (∀ p ∈ kv, flatB p.2 = true) ∧ Q (.bl true) H
theorem op_eqQ (hu : X.A.units < cLine) : OpR X (compareOp .Eq) rEqQ := by
  intro pins s σ H x y v u Q I rx ry h
  obtain ⟨a, b, kv, rfl, rfl, ea, eb, hl1, hp, q⟩ := h
  obtain rfl : v = Value.ref a := rx
  obtain rfl : u = Value.ref b := ry
  obtain ⟨ya, va, ra, da⟩ := DkQ.of I ea
  obtain ⟨yb, vb, rb, db⟩ := DkQ.of I eb
  have hl : va.length = vb.length := by rw [← ra.length, ← rb.length]
  refine PySem.W.keq_eq (knd := mixKind X.prog X.w) (r := true) ya yb da db hu (fun _ => hits_all rb ra fun p hp1 => ⟨?_, hp p hp1⟩) (fin_bl I q (by simp [hl]))
  cases kv with
  | nil => cases hp1
  | cons p0 t =>
    cases t with
    | nil =>
      have e : p = p0 := by simpa using hp1
      subst e
      simp [valV]
    | cons _ _ => simp at hl1
theorem op_eqQQ (hu : X.A.units + 64 < cLine) : OpR X (compareOp .Eq) (fun x y H Q => rEqQ x y H Q ∨ rEqD X.K x y H Q ∨ rEq x y H Q) := (op_eqQ (by omega)).or (op_eqA hu)
theorem ok_eqQ : Ok2 X (fun x y H Q => rEqQ x y H Q ∨ rEqD X.K x y H Q ∨ rEq x y H Q) dEqQ := fun x y H Z ι M dx dy d Q hr rx ry e q => by
  unfold dEqQ at e
  split at e
  · split at e
    · rename_i c
      obtain ⟨rfl, rfl⟩ := c
      cases e
      cases rx with
      | dcx a1 w1 =>
        cases ry with
        | dcx a2 w2 =>
          cases w1
          cases w2
          exact .inl ⟨_, _, _, rfl, rfl, .inl (hr.sub _ _ a1), .inl (hr.sub _ _ a2), Nat.le_refl _, fun p hp => by
            simp only [List.mem_singleton] at hp
            rw [hp]
            rfl, q.now hr (.bl _)⟩
    · cases e
  · cases e
    have em : ∀ {v : V}, Rp X.K Z ι M.length (.dct [] []) v → ∃ a, v = .ref a ∧ EmD H a := fun {v} r => by
      have := itT_run (d := .dct [] []) hr.sub r rfl
      cases this with
      | dp h1 h2 => cases h1
      | emp h1 => exact ⟨_, rfl, h1⟩
    obtain ⟨a, rfl, ha⟩ := em rx
    obtain ⟨b, rfl, hb⟩ := em ry
    exact .inl ⟨a, b, [], rfl, rfl, .inr ⟨rfl, ha⟩, .inr ⟨rfl, hb⟩, by simp, (fun p hp => by cases hp), q.now hr (.bl _)⟩
  · exact .inr (ok_eqA x y H Z ι M dx dy d Q hr rx ry e q)
end
end Bk

set_option Elab.async false
set_option linter.all false
set_option maxRecDepth 100000
namespace My
open PySem PySem.Spec PyProof.Rows L2 Bk
/-! ### the text -/
def topS (i : Nat) : Stmt := PySem.Challenge.pw_breakrows_k04_error_types.main.body.getD i (.Pass ⟨0, 0, 0, 0⟩)
abbrev s_law_mixed : Stmt := topS 22
theorem sc_law_mixed : FnScope ["_law_cell", "_law_draw", "_law_figure"] ["_law_cell", "_law_draw"] (defScope s_law_mixed) := ⟨rfl, rfl, rfl, by decide +kernel, rfl, by decide +kernel, by decide +kernel⟩
abbrev s_law_source : Stmt := topS 23
theorem sc_law_source : FnScope ["_law_cell"] ["_law_cell"] (defScope s_law_source) := ⟨rfl, rfl, rfl, by decide +kernel, rfl, by decide +kernel, by decide +kernel⟩
abbrev s_law_take : Stmt := topS 24
theorem sc_law_take : FnScope ["_law_source_here", "_law_bound", "_law_drawn"] ["_law_source_here", "_law_bound"] (defScope s_law_take) := ⟨rfl, rfl, rfl, by decide +kernel, rfl, by decide +kernel, by decide +kernel⟩
abbrev s_law_places : Stmt := topS 25
theorem sc_law_places : FnScope ["_law_one", "_law_good", "_law_at", "_law_fit"] ["_law_one"] (defScope s_law_places) := ⟨rfl, rfl, rfl, by decide +kernel, rfl, by decide +kernel, by decide +kernel⟩
abbrev s_law_stores : Stmt := topS 26
theorem sc_law_stores : FnScope ["_law_one", "_law_place", "_law_stored", "_law_thing"] ["_law_one", "_law_place", "_law_stored", "_law_thing"] (defScope s_law_stores) := ⟨rfl, rfl, rfl, by decide +kernel, rfl, by decide +kernel, by decide +kernel⟩
abbrev s_law_first_errors : Stmt := topS 27
theorem sc_law_first_errors : FnScope ["_law_thing", "_law_pair", "_law_one"] ["_law_thing"] (defScope s_law_first_errors) := ⟨rfl, rfl, rfl, by decide +kernel, rfl, by decide +kernel, by decide +kernel⟩
abbrev s_law_middle_errors : Stmt := topS 28
theorem sc_law_middle_errors : FnScope ["_law_thing", "_law_pair", "_law_one"] ["_law_thing"] (defScope s_law_middle_errors) := ⟨rfl, rfl, rfl, by decide +kernel, rfl, by decide +kernel, by decide +kernel⟩
abbrev s_law_last_errors : Stmt := topS 29
theorem sc_law_last_errors : FnScope ["_law_thing", "_law_pair", "_law_one"] ["_law_thing"] (defScope s_law_last_errors) := ⟨rfl, rfl, rfl, by decide +kernel, rfl, by decide +kernel, by decide +kernel⟩
abbrev s_law : Stmt := topS 30
theorem sc_law : FnScope ["_law_script", "_law_cell", "_law_source_here", "_law_far", "_law_some", "_law_k", "_law_thing"] ["_law_script"] (defScope s_law) := ⟨rfl, rfl, rfl, by decide +kernel, rfl, by decide +kernel, by decide +kernel⟩
abbrev s_InvalidCalendar_init : Stmt := inClass (topS 2) 0
theorem sc_InvalidCalendar_init : FnScope ["self", "index"] ["self", "index"] (defScope s_InvalidCalendar_init) := ⟨rfl, rfl, rfl, by decide +kernel, rfl, by decide +kernel, by decide +kernel⟩
abbrev s_InvalidHolidays_init : Stmt := inClass (topS 4) 0
theorem sc_InvalidHolidays_init : FnScope ["self", "index"] ["self", "index"] (defScope s_InvalidHolidays_init) := ⟨rfl, rfl, rfl, by decide +kernel, rfl, by decide +kernel, by decide +kernel⟩
abbrev s_InvalidPlan_init : Stmt := inClass (topS 7) 0
theorem sc_InvalidPlan_init : FnScope ["self", "index"] ["self", "index"] (defScope s_InvalidPlan_init) := ⟨rfl, rfl, rfl, by decide +kernel, rfl, by decide +kernel, by decide +kernel⟩
abbrev s_InvalidNumber_init : Stmt := inClass (topS 3) 0
theorem sc_InvalidNumber_init : FnScope ["self", "name"] ["self", "name"] (defScope s_InvalidNumber_init) := ⟨rfl, rfl, rfl, by decide +kernel, rfl, by decide +kernel, by decide +kernel⟩
abbrev s_InvalidRow_init : Stmt := inClass (topS 5) 0
theorem sc_InvalidRow_init : FnScope ["self", "index"] ["self", "index"] (defScope s_InvalidRow_init) := ⟨rfl, rfl, rfl, by decide +kernel, rfl, by decide +kernel, by decide +kernel⟩
abbrev s_InvalidPast_init : Stmt := inClass (topS 6) 0
theorem sc_InvalidPast_init : FnScope ["self", "day"] ["self", "day"] (defScope s_InvalidPast_init) := ⟨rfl, rfl, rfl, by decide +kernel, rfl, by decide +kernel, by decide +kernel⟩
abbrev s_InvalidStrategy_init : Stmt := inClass (topS 9) 0
theorem sc_InvalidStrategy_init : FnScope ["self", "strategy"] ["self", "strategy"] (defScope s_InvalidStrategy_init) := ⟨rfl, rfl, rfl, by decide +kernel, rfl, by decide +kernel, by decide +kernel⟩
abbrev s_InvalidPrices_init : Stmt := inClass (topS 11) 0
theorem sc_InvalidPrices_init : FnScope ["self", "index"] ["self", "index"] (defScope s_InvalidPrices_init) := ⟨rfl, rfl, rfl, by decide +kernel, rfl, by decide +kernel, by decide +kernel⟩
abbrev s_InvalidWeights_init : Stmt := inClass (topS 12) 0
theorem sc_InvalidWeights_init : FnScope ["self", "index"] ["self", "index"] (defScope s_InvalidWeights_init) := ⟨rfl, rfl, rfl, by decide +kernel, rfl, by decide +kernel, by decide +kernel⟩
abbrev s_InvalidQueue_init : Stmt := inClass (topS 14) 0
theorem sc_InvalidQueue_init : FnScope ["self", "index"] ["self", "index"] (defScope s_InvalidQueue_init) := ⟨rfl, rfl, rfl, by decide +kernel, rfl, by decide +kernel, by decide +kernel⟩
abbrev s_InvalidTest_init : Stmt := inClass (topS 8) 0
theorem sc_InvalidTest_init : FnScope ["self", "index"] ["self", "index"] (defScope s_InvalidTest_init) := ⟨rfl, rfl, rfl, by decide +kernel, rfl, by decide +kernel, by decide +kernel⟩
abbrev s_InvalidDays_init : Stmt := inClass (topS 10) 0
theorem sc_InvalidDays_init : FnScope ["self", "index"] ["self", "index"] (defScope s_InvalidDays_init) := ⟨rfl, rfl, rfl, by decide +kernel, rfl, by decide +kernel, by decide +kernel⟩
abbrev s_InvalidTable_init : Stmt := inClass (topS 13) 0
theorem sc_InvalidTable_init : FnScope ["self", "index"] ["self", "index"] (defScope s_InvalidTable_init) := ⟨rfl, rfl, rfl, by decide +kernel, rfl, by decide +kernel, by decide +kernel⟩
abbrev s_InvalidStocks_init : Stmt := inClass (topS 15) 0
theorem sc_InvalidStocks_init : FnScope ["self", "index"] ["self", "index"] (defScope s_InvalidStocks_init) := ⟨rfl, rfl, rfl, by decide +kernel, rfl, by decide +kernel, by decide +kernel⟩
abbrev s_TooLarge_init : Stmt := inClass (topS 20) 0
theorem sc_TooLarge_init : FnScope ["self", "limit"] ["self", "limit"] (defScope s_TooLarge_init) := ⟨rfl, rfl, rfl, by decide +kernel, rfl, by decide +kernel, by decide +kernel⟩
abbrev s_Impossible_init : Stmt := inClass (topS 16) 0
theorem sc_Impossible_init : FnScope ["self", "broken"] ["self", "broken"] (defScope s_Impossible_init) := ⟨rfl, rfl, rfl, by decide +kernel, rfl, by decide +kernel, by decide +kernel⟩
abbrev s_Mismatch_init : Stmt := inClass (topS 17) 0
theorem sc_Mismatch_init : FnScope ["self", "name"] ["self", "name"] (defScope s_Mismatch_init) := ⟨rfl, rfl, rfl, by decide +kernel, rfl, by decide +kernel, by decide +kernel⟩
abbrev s_Over_init : Stmt := inClass (topS 18) 0
theorem sc_Over_init : FnScope ["self", "day"] ["self", "day"] (defScope s_Over_init) := ⟨rfl, rfl, rfl, by decide +kernel, rfl, by decide +kernel, by decide +kernel⟩
abbrev s_TooMany_init : Stmt := inClass (topS 19) 0
theorem sc_TooMany_init : FnScope ["self", "count"] ["self", "count"] (defScope s_TooMany_init) := ⟨rfl, rfl, rfl, by decide +kernel, rfl, by decide +kernel, by decide +kernel⟩
def errN : Nat → Str := fun n => match n with | 0 => "index" | 1 => "index" | 2 => "index" | 3 => "name" | 4 => "index" | 5 => "day" | 6 => "strategy" | 7 => "index" | 8 => "index" | 9 => "index" | 10 => "index" | 11 => "index" | 12 => "index" | 13 => "index" | 14 => "limit" | 15 => "broken" | 16 => "name" | 17 => "day" | 18 => "count" | _ => ""
def numX : Str → Option Nat := fun n => if n = "InvalidCalendar" then some 0 else if n = "InvalidHolidays" then some 1 else if n = "InvalidPlan" then some 2 else if n = "InvalidNumber" then some 3 else if n = "InvalidRow" then some 4 else if n = "InvalidPast" then some 5 else if n = "InvalidStrategy" then some 6 else if n = "InvalidPrices" then some 7 else if n = "InvalidWeights" then some 8 else if n = "InvalidQueue" then some 9 else if n = "InvalidTest" then some 10 else if n = "InvalidDays" then some 11 else if n = "InvalidTable" then some 12 else if n = "InvalidStocks" then some 13 else if n = "TooLarge" then some 14 else if n = "Impossible" then some 15 else if n = "Mismatch" then some 16 else if n = "Over" then some 17 else if n = "TooMany" then some 18 else none
@[simp] theorem num_InvalidCalendar : numX "InvalidCalendar" = some 0 := by decide +kernel
@[simp] theorem num_InvalidHolidays : numX "InvalidHolidays" = some 1 := by decide +kernel
@[simp] theorem num_InvalidPlan : numX "InvalidPlan" = some 2 := by decide +kernel
@[simp] theorem num_InvalidNumber : numX "InvalidNumber" = some 3 := by decide +kernel
@[simp] theorem num_InvalidRow : numX "InvalidRow" = some 4 := by decide +kernel
@[simp] theorem num_InvalidPast : numX "InvalidPast" = some 5 := by decide +kernel
@[simp] theorem num_InvalidStrategy : numX "InvalidStrategy" = some 6 := by decide +kernel
@[simp] theorem num_InvalidPrices : numX "InvalidPrices" = some 7 := by decide +kernel
@[simp] theorem num_InvalidWeights : numX "InvalidWeights" = some 8 := by decide +kernel
@[simp] theorem num_InvalidQueue : numX "InvalidQueue" = some 9 := by decide +kernel
@[simp] theorem num_InvalidTest : numX "InvalidTest" = some 10 := by decide +kernel
@[simp] theorem num_InvalidDays : numX "InvalidDays" = some 11 := by decide +kernel
@[simp] theorem num_InvalidTable : numX "InvalidTable" = some 12 := by decide +kernel
@[simp] theorem num_InvalidStocks : numX "InvalidStocks" = some 13 := by decide +kernel
@[simp] theorem num_TooLarge : numX "TooLarge" = some 14 := by decide +kernel
@[simp] theorem num_Impossible : numX "Impossible" = some 15 := by decide +kernel
@[simp] theorem num_Mismatch : numX "Mismatch" = some 16 := by decide +kernel
@[simp] theorem num_Over : numX "Over" = some 17 := by decide +kernel
@[simp] theorem num_TooMany : numX "TooMany" = some 18 := by decide +kernel
@[simp] theorem en_InvalidCalendar : errN 0 = "index" := Eq.trans rfl rfl
@[simp] theorem en_InvalidHolidays : errN 1 = "index" := Eq.trans rfl rfl
@[simp] theorem en_InvalidPlan : errN 2 = "index" := Eq.trans rfl rfl
@[simp] theorem en_InvalidNumber : errN 3 = "name" := Eq.trans rfl rfl
@[simp] theorem en_InvalidRow : errN 4 = "index" := Eq.trans rfl rfl
@[simp] theorem en_InvalidPast : errN 5 = "day" := Eq.trans rfl rfl
@[simp] theorem en_InvalidStrategy : errN 6 = "strategy" := Eq.trans rfl rfl
@[simp] theorem en_InvalidPrices : errN 7 = "index" := Eq.trans rfl rfl
@[simp] theorem en_InvalidWeights : errN 8 = "index" := Eq.trans rfl rfl
@[simp] theorem en_InvalidQueue : errN 9 = "index" := Eq.trans rfl rfl
@[simp] theorem en_InvalidTest : errN 10 = "index" := Eq.trans rfl rfl
@[simp] theorem en_InvalidDays : errN 11 = "index" := Eq.trans rfl rfl
@[simp] theorem en_InvalidTable : errN 12 = "index" := Eq.trans rfl rfl
@[simp] theorem en_InvalidStocks : errN 13 = "index" := Eq.trans rfl rfl
@[simp] theorem en_TooLarge : errN 14 = "limit" := Eq.trans rfl rfl
@[simp] theorem en_Impossible : errN 15 = "broken" := Eq.trans rfl rfl
@[simp] theorem en_Mismatch : errN 16 = "name" := Eq.trans rfl rfl
@[simp] theorem en_Over : errN 17 = "day" := Eq.trans rfl rfl
@[simp] theorem en_TooMany : errN 18 = "count" := Eq.trans rfl rfl
/-! ### what the bodies compute -/
def b_law_mixed : GS := gSeq (gAsg (gOp2 dMod (gOp2 dMulT (gOp2 dAdd (gOp2 dMod (gV 0) (gC (.int 2147483646))) (gC (.int 1))) (gOp2 dAdd (gOp2 dMulT (gV 1) (gC (.int 7919))) (gC (.int 104729)))) (gC (.int 2147483647))) (gTo 2)) (gSeq (gAsg (gOp2 dMod (gOp2 dMulT (gOp2 dAdd (gV 2) (gOp2 dMulT (gOp2 dMod (gOp2 dFdiv (gV 0) (gC (.int 2147483646))) (gC (.int 1000003))) (gOp2 dAdd (gV 1) (gC (.int 31))))) (gC (.int 48271))) (gC (.int 2147483629))) (gTo 2)) (gSeq (gAsg (gOp2 dMod (gOp2 dMulT (gV 2) (gOp2 dAdd (gOp2 dAdd (gOp2 dFdiv (gV 2) (gC (.int 1013))) (gC (.int 69621))) (gV 1))) (gC (.int 2147483587))) (gTo 2)) (gRet (gOp2 dMod (gOp2 dMulT (gV 2) (gOp2 dAdd (gOp2 dFdiv (gV 2) (gC (.int 2003))) (gC (.int 40692)))) (gC (.int 2147483563))))))
def F_law_mixed : List D → List MO → R D := runF 3 b_law_mixed
def b_law_source : GS := gRet (gLstO (gCons (gV 0) (gCons (gV 0) (gCons (gC (.int 0)) (gNil)))))
def F_law_source : List D → List MO → R D := runF 1 b_law_source
def b_law_take : GS := gSeq (gIf (gVal (gOp2 dGe (gOp2 dIx (gV 0) (gC (.int 0))) (gOp2 dPow (gC (.int 10)) (gC (.int 18))))) (gSeq (gAsg (gOp2 dMod (gOp2 dIx (gV 0) (gC (.int 0))) (gV 1)) (gTo 2)) (gSeq (gSetI (gOp2 dFdiv (gOp2 dIx (gV 0) (gC (.int 0))) (gV 1)) (gV 0) (gC (.int 0))) (gRet (gV 2)))) (gPass)) (gSeq (gSetI (gOp2 dAdd (gOp2 dIx (gV 0) (gC (.int 2))) (gC (.int 1))) (gV 0) (gC (.int 2))) (gRet (gOp2 dMod (gCallF 2 F_law_mixed (gCons (gOp2 dIx (gV 0) (gC (.int 1))) (gCons (gOp2 dIx (gV 0) (gC (.int 2))) (gNil)))) (gV 1))))
def F_law_take : List D → List MO → R D := runF 3 b_law_take
def b_law_places : GS := gSeq (gAsg (gLst (gCons (gIsX numX (fun j => (decide (j = 0))) (gV 0)) (gCons (gIsX numX (fun j => (decide (j = 3))) (gV 0)) (gCons (gIsX numX (fun j => (decide (j = 1))) (gV 0)) (gNil))))) (gTo 1)) (gSeq (gAsg (gOp2 dAdd (gV 1) (gLst (gCons (gIsX numX (fun j => (decide (j = 4))) (gV 0)) (gCons (gIsX numX (fun j => (decide (j = 5))) (gV 0)) (gCons (gIsX numX (fun j => (decide (j = 2))) (gV 0)) (gNil)))))) (gTo 1)) (gSeq (gAsg (gOp2 dAdd (gV 1) (gLst (gCons (gIsX numX (fun j => (decide (j = 10))) (gV 0)) (gCons (gIsX numX (fun j => (decide (j = 6))) (gV 0)) (gCons (gIsX numX (fun j => (decide (j = 11))) (gV 0)) (gNil)))))) (gTo 1)) (gSeq (gAsg (gOp2 dAdd (gV 1) (gLst (gCons (gIsX numX (fun j => (decide (j = 7))) (gV 0)) (gCons (gIsX numX (fun j => (decide (j = 8))) (gV 0)) (gCons (gIsX numX (fun j => (decide (j = 12))) (gV 0)) (gNil)))))) (gTo 1)) (gSeq (gAsg (gOp2 dAdd (gV 1) (gLst (gCons (gIsX numX (fun j => (decide (j = 9))) (gV 0)) (gCons (gIsX numX (fun j => (decide (j = 13))) (gV 0)) (gCons (gIsX numX (fun j => (decide (j = 15))) (gV 0)) (gNil)))))) (gTo 1)) (gSeq (gAsg (gOp2 dAdd (gV 1) (gLst (gCons (gIsX numX (fun j => (decide (j = 16))) (gV 0)) (gCons (gIsX numX (fun j => (decide (j = 17))) (gV 0)) (gCons (gIsX numX (fun j => (decide (j = 18))) (gV 0)) (gNil)))))) (gTo 1)) (gRet (gLc (gEnum (gOp2 dAdd (gV 1) (gLst (gCons (gIsX numX (fun j => (decide (j = 14))) (gV 0)) (gNil))))) (gToT (gToCons (gTo 2) (gToCons (gTo 3) (gToNil)))) (gVal (gV 3)) (gV 2) [2, 3])))))))
def F_law_places : List D → List MO → R D := runF 4 b_law_places
def b_law_stores : GS := gSeq (gIf (gOrT (gVal (gOp2 dNeA (gCallF 1 F_law_places (gCons (gV 0) (gNil))) (gLst (gCons (gV 1) (gNil))))) (gOrT (gNotT (gVal (gIsX numX (fun j => true) (gV 0)))) (gNotT (gVal (gIsX numX (fun _ => true) (gV 0)))))) (gRet (gC (.bl false))) (gPass)) (gRet (gAndV (gOp2 dEqQ (gCall (fn1 dReprQ) (gCons (gV 2) (gNil))) (gCall (fn1 dReprQ) (gCons (gV 3) (gNil)))) (gOp2 dEqQ (gV 2) (gV 3))))
def F_law_stores : List D → List MO → R D := runF 4 b_law_stores
def le_law_first_errors_1 : GE := gCallF 4 F_law_stores (gCons (gV 2) (gCons (gC (.int 0)) (gCons (gAtX numX errN "index" (gV 2)) (gCons (gV 0) (gNil)))))
def le_law_first_errors_2 : GE := gCallF 4 F_law_stores (gCons (gV 2) (gCons (gC (.int 1)) (gCons (gAtX numX errN "name" (gV 2)) (gCons (gV 0) (gNil)))))
def le_law_first_errors_3 : GE := gCallF 4 F_law_stores (gCons (gV 2) (gCons (gC (.int 2)) (gCons (gAtX numX errN "index" (gV 2)) (gCons (gV 0) (gNil)))))
def le_law_first_errors_4 : GE := gCallF 4 F_law_stores (gCons (gV 2) (gCons (gC (.int 3)) (gCons (gAtX numX errN "index" (gV 2)) (gCons (gV 0) (gNil)))))
def le_law_first_errors_5 : GE := gCallF 4 F_law_stores (gCons (gV 2) (gCons (gC (.int 4)) (gCons (gAtX numX errN "day" (gV 2)) (gCons (gV 0) (gNil)))))
def le_law_first_errors_6 : GE := gCallF 4 F_law_stores (gCons (gV 2) (gCons (gC (.int 5)) (gCons (gAtX numX errN "index" (gV 2)) (gCons (gV 0) (gNil)))))
def b_law_first_errors : GS := gSeq (gAsg (gLst (gCons (gNewX "InvalidCalendar" "index" (gV 0)) (gCons (gNewX "InvalidCalendar" "index" (gV 0)) (gNil)))) (gTo 1)) (gSeq (gIf (gNotT (gVal (gCall (fn1 dAll) (gCons (gLc (gSeqI (gV 1)) (gTo 2) (gYes) (le_law_first_errors_1) [2]) (gNil))))) (gRet (gC (.bl false))) (gPass)) (gSeq (gIf (gNotT (gVal (gCall (fn1 dAll) (gCons (gLc (gSeqI (gLst (gCons (gNewX "InvalidNumber" "name" (gV 0)) (gCons (gNewX "InvalidNumber" "name" (gV 0)) (gNil))))) (gTo 2) (gYes) (le_law_first_errors_2) [2]) (gNil))))) (gRet (gC (.bl false))) (gPass)) (gSeq (gAsg (gLst (gCons (gNewX "InvalidHolidays" "index" (gV 0)) (gCons (gNewX "InvalidHolidays" "index" (gV 0)) (gNil)))) (gTo 1)) (gSeq (gIf (gNotT (gVal (gCall (fn1 dAll) (gCons (gLc (gSeqI (gV 1)) (gTo 2) (gYes) (le_law_first_errors_3) [2]) (gNil))))) (gRet (gC (.bl false))) (gPass)) (gSeq (gIf (gNotT (gVal (gCall (fn1 dAll) (gCons (gLc (gSeqI (gLst (gCons (gNewX "InvalidRow" "index" (gV 0)) (gCons (gNewX "InvalidRow" "index" (gV 0)) (gNil))))) (gTo 2) (gYes) (le_law_first_errors_4) [2]) (gNil))))) (gRet (gC (.bl false))) (gPass)) (gSeq (gIf (gNotT (gVal (gCall (fn1 dAll) (gCons (gLc (gSeqI (gLst (gCons (gNewX "InvalidPast" "day" (gV 0)) (gCons (gNewX "InvalidPast" "day" (gV 0)) (gNil))))) (gTo 2) (gYes) (le_law_first_errors_5) [2]) (gNil))))) (gRet (gC (.bl false))) (gPass)) (gRet (gCall (fn1 dAll) (gCons (gLc (gSeqI (gLst (gCons (gNewX "InvalidPlan" "index" (gV 0)) (gCons (gNewX "InvalidPlan" "index" (gV 0)) (gNil))))) (gTo 2) (gYes) (le_law_first_errors_6) [2]) (gNil))))))))))
def F_law_first_errors : List D → List MO → R D := runF 3 b_law_first_errors
def le_law_middle_errors_1 : GE := gCallF 4 F_law_stores (gCons (gV 2) (gCons (gC (.int 6)) (gCons (gAtX numX errN "index" (gV 2)) (gCons (gV 0) (gNil)))))
def le_law_middle_errors_2 : GE := gCallF 4 F_law_stores (gCons (gV 2) (gCons (gC (.int 7)) (gCons (gAtX numX errN "strategy" (gV 2)) (gCons (gV 0) (gNil)))))
def le_law_middle_errors_3 : GE := gCallF 4 F_law_stores (gCons (gV 2) (gCons (gC (.int 8)) (gCons (gAtX numX errN "index" (gV 2)) (gCons (gV 0) (gNil)))))
def le_law_middle_errors_4 : GE := gCallF 4 F_law_stores (gCons (gV 2) (gCons (gC (.int 9)) (gCons (gAtX numX errN "index" (gV 2)) (gCons (gV 0) (gNil)))))
def le_law_middle_errors_5 : GE := gCallF 4 F_law_stores (gCons (gV 2) (gCons (gC (.int 10)) (gCons (gAtX numX errN "index" (gV 2)) (gCons (gV 0) (gNil)))))
def le_law_middle_errors_6 : GE := gCallF 4 F_law_stores (gCons (gV 2) (gCons (gC (.int 11)) (gCons (gAtX numX errN "index" (gV 2)) (gCons (gV 0) (gNil)))))
def le_law_middle_errors_7 : GE := gCallF 4 F_law_stores (gCons (gV 2) (gCons (gC (.int 12)) (gCons (gAtX numX errN "index" (gV 2)) (gCons (gV 0) (gNil)))))
def b_law_middle_errors : GS := gSeq (gIf (gNotT (gVal (gCall (fn1 dAll) (gCons (gLc (gSeqI (gLst (gCons (gNewX "InvalidTest" "index" (gV 0)) (gCons (gNewX "InvalidTest" "index" (gV 0)) (gNil))))) (gTo 2) (gYes) (le_law_middle_errors_1) [2]) (gNil))))) (gRet (gC (.bl false))) (gPass)) (gSeq (gAsg (gLst (gCons (gNewX "InvalidStrategy" "strategy" (gV 0)) (gCons (gNewX "InvalidStrategy" "strategy" (gV 0)) (gNil)))) (gTo 1)) (gSeq (gIf (gNotT (gVal (gCall (fn1 dAll) (gCons (gLc (gSeqI (gV 1)) (gTo 2) (gYes) (le_law_middle_errors_2) [2]) (gNil))))) (gRet (gC (.bl false))) (gPass)) (gSeq (gIf (gNotT (gVal (gCall (fn1 dAll) (gCons (gLc (gSeqI (gLst (gCons (gNewX "InvalidDays" "index" (gV 0)) (gCons (gNewX "InvalidDays" "index" (gV 0)) (gNil))))) (gTo 2) (gYes) (le_law_middle_errors_3) [2]) (gNil))))) (gRet (gC (.bl false))) (gPass)) (gSeq (gAsg (gLst (gCons (gNewX "InvalidPrices" "index" (gV 0)) (gCons (gNewX "InvalidPrices" "index" (gV 0)) (gNil)))) (gTo 1)) (gSeq (gIf (gNotT (gVal (gCall (fn1 dAll) (gCons (gLc (gSeqI (gV 1)) (gTo 2) (gYes) (le_law_middle_errors_4) [2]) (gNil))))) (gRet (gC (.bl false))) (gPass)) (gSeq (gAsg (gLst (gCons (gNewX "InvalidWeights" "index" (gV 0)) (gCons (gNewX "InvalidWeights" "index" (gV 0)) (gNil)))) (gTo 1)) (gSeq (gIf (gNotT (gVal (gCall (fn1 dAll) (gCons (gLc (gSeqI (gV 1)) (gTo 2) (gYes) (le_law_middle_errors_5) [2]) (gNil))))) (gRet (gC (.bl false))) (gPass)) (gSeq (gIf (gNotT (gVal (gCall (fn1 dAll) (gCons (gLc (gSeqI (gLst (gCons (gNewX "InvalidTable" "index" (gV 0)) (gCons (gNewX "InvalidTable" "index" (gV 0)) (gNil))))) (gTo 2) (gYes) (le_law_middle_errors_6) [2]) (gNil))))) (gRet (gC (.bl false))) (gPass)) (gRet (gCall (fn1 dAll) (gCons (gLc (gSeqI (gLst (gCons (gNewX "InvalidQueue" "index" (gV 0)) (gCons (gNewX "InvalidQueue" "index" (gV 0)) (gNil))))) (gTo 2) (gYes) (le_law_middle_errors_7) [2]) (gNil))))))))))))
def F_law_middle_errors : List D → List MO → R D := runF 3 b_law_middle_errors
def le_law_last_errors_1 : GE := gCallF 4 F_law_stores (gCons (gV 2) (gCons (gC (.int 13)) (gCons (gAtX numX errN "index" (gV 2)) (gCons (gV 0) (gNil)))))
def le_law_last_errors_2 : GE := gCallF 4 F_law_stores (gCons (gV 2) (gCons (gC (.int 14)) (gCons (gAtX numX errN "broken" (gV 2)) (gCons (gV 0) (gNil)))))
def le_law_last_errors_3 : GE := gCallF 4 F_law_stores (gCons (gV 2) (gCons (gC (.int 15)) (gCons (gAtX numX errN "name" (gV 2)) (gCons (gV 0) (gNil)))))
def le_law_last_errors_4 : GE := gCallF 4 F_law_stores (gCons (gV 2) (gCons (gC (.int 16)) (gCons (gAtX numX errN "day" (gV 2)) (gCons (gV 0) (gNil)))))
def le_law_last_errors_5 : GE := gCallF 4 F_law_stores (gCons (gV 2) (gCons (gC (.int 17)) (gCons (gAtX numX errN "count" (gV 2)) (gCons (gV 0) (gNil)))))
def le_law_last_errors_6 : GE := gCallF 4 F_law_stores (gCons (gV 2) (gCons (gC (.int 18)) (gCons (gAtX numX errN "limit" (gV 2)) (gCons (gV 0) (gNil)))))
def b_law_last_errors : GS := gSeq (gAsg (gLst (gCons (gNewX "InvalidStocks" "index" (gV 0)) (gCons (gNewX "InvalidStocks" "index" (gV 0)) (gNil)))) (gTo 1)) (gSeq (gIf (gNotT (gVal (gCall (fn1 dAll) (gCons (gLc (gSeqI (gV 1)) (gTo 2) (gYes) (le_law_last_errors_1) [2]) (gNil))))) (gRet (gC (.bl false))) (gPass)) (gSeq (gIf (gNotT (gVal (gCall (fn1 dAll) (gCons (gLc (gSeqI (gLst (gCons (gNewX "Impossible" "broken" (gV 0)) (gCons (gNewX "Impossible" "broken" (gV 0)) (gNil))))) (gTo 2) (gYes) (le_law_last_errors_2) [2]) (gNil))))) (gRet (gC (.bl false))) (gPass)) (gSeq (gIf (gNotT (gVal (gCall (fn1 dAll) (gCons (gLc (gSeqI (gLst (gCons (gNewX "Mismatch" "name" (gV 0)) (gCons (gNewX "Mismatch" "name" (gV 0)) (gNil))))) (gTo 2) (gYes) (le_law_last_errors_3) [2]) (gNil))))) (gRet (gC (.bl false))) (gPass)) (gSeq (gIf (gNotT (gVal (gCall (fn1 dAll) (gCons (gLc (gSeqI (gLst (gCons (gNewX "Over" "day" (gV 0)) (gCons (gNewX "Over" "day" (gV 0)) (gNil))))) (gTo 2) (gYes) (le_law_last_errors_4) [2]) (gNil))))) (gRet (gC (.bl false))) (gPass)) (gSeq (gIf (gNotT (gVal (gCall (fn1 dAll) (gCons (gLc (gSeqI (gLst (gCons (gNewX "TooMany" "count" (gV 0)) (gCons (gNewX "TooMany" "count" (gV 0)) (gNil))))) (gTo 2) (gYes) (le_law_last_errors_5) [2]) (gNil))))) (gRet (gC (.bl false))) (gPass)) (gRet (gCall (fn1 dAll) (gCons (gLc (gSeqI (gLst (gCons (gNewX "TooLarge" "limit" (gV 0)) (gCons (gNewX "TooLarge" "limit" (gV 0)) (gNil))))) (gTo 2) (gYes) (le_law_last_errors_6) [2]) (gNil)))))))))
def F_law_last_errors : List D → List MO → R D := runF 3 b_law_last_errors
def lb_law_2 : GS := gSeq (gAsg (gOp2 dIx (gV 4) (gCallF 2 F_law_take (gCons (gV 2) (gCons (gC (.int 12)) (gNil))))) (gTo 6)) (gSeq (gIf (gOrT (gNotT (gVal (gCallF 1 F_law_first_errors (gCons (gV 6) (gNil))))) (gOrT (gNotT (gVal (gCallF 1 F_law_middle_errors (gCons (gV 6) (gNil))))) (gNotT (gVal (gCallF 1 F_law_last_errors (gCons (gV 6) (gNil))))))) (gRet (gC (.bl false))) (gPass)) (gForget [5, 6]))
def lb_law_1 : GS := gScope (gSeq (gAsg (gCallF 1 F_law_source (gCons (gV 1) (gNil))) (gTo 2)) (gSeq (gAsg (gOp2 dSub (gOp2 dMod (gV 1) (gOp2 dAdd (gOp2 dMulT (gC (.int 2)) (gOp2 dPow (gC (.int 10)) (gC (.int 40)))) (gC (.int 1)))) (gOp2 dPow (gC (.int 10)) (gC (.int 40)))) (gTo 3)) (gSeq (gAsg (gLst (gCons (gV 3) (gCons (gC (.str (Str.ofString "A"))) (gCons (gC (.str (Str.ofString ""))) (gCons (gC .non) (gCons (gC (.bl true)) (gCons (gTup (gCons (gC (.int 0)) (gCons (gC (.int 1)) (gNil)))) (gCons (gLst (gCons (gV 3) (gNil))) (gCons (gDcx (.inr (Str.ofString "b")) (gC (.int 1))) (gCons (gTup (gCons (gTup (gCons (gC (.int 2)) (gCons (gC (.int 1)) (gNil)))) (gCons (gC (.int 7)) (gNil)))) (gCons (gOp1 dNeg (gC (.int 1))) (gCons (gOp2 dPow (gC (.int 10)) (gC (.int 20))) (gCons (gDct0) (gNil)))))))))))))) (gTo 4)) (gSeq (gSeq (gSeq (gForget [5, 6]) (gFor (gRng1 (gCons (gC (.int 4)) (gNil))) (gTo 5) (lb_law_2))) (gForget [5, 6])) (gForget [1, 2, 3, 4, 5, 6])))))
def b_law : GS := gSeq (gSeq (gSeq (gForget [1, 2, 3, 4, 5, 6]) (gFor (gSeqI (gSl (gOp2 dAdd (gV 0) (gLst (gCons (gC (.int 0)) (gNil)))) (gNoO) (gO (gC (.int 3))))) (gTo 1) (lb_law_1))) (gForget [1, 2, 3, 4, 5, 6])) (gRet (gC (.bl true)))
def F_law : List D → List MO → R D := runF 7 b_law
/-! ### where everything stands -/
structure Ad where
  f_law_mixed : Addr
  fd_law_mixed : FuncData
  f_law_source : Addr
  fd_law_source : FuncData
  f_law_take : Addr
  fd_law_take : FuncData
  f_law_places : Addr
  fd_law_places : FuncData
  f_law_stores : Addr
  fd_law_stores : FuncData
  f_law_first_errors : Addr
  fd_law_first_errors : FuncData
  f_law_middle_errors : Addr
  fd_law_middle_errors : FuncData
  f_law_last_errors : Addr
  fd_law_last_errors : FuncData
  f_law : Addr
  fd_law : FuncData
  xf_InvalidCalendar : Addr
  xd_InvalidCalendar : FuncData
  xf_InvalidHolidays : Addr
  xd_InvalidHolidays : FuncData
  xf_InvalidPlan : Addr
  xd_InvalidPlan : FuncData
  xf_InvalidNumber : Addr
  xd_InvalidNumber : FuncData
  xf_InvalidRow : Addr
  xd_InvalidRow : FuncData
  xf_InvalidPast : Addr
  xd_InvalidPast : FuncData
  xf_InvalidStrategy : Addr
  xd_InvalidStrategy : FuncData
  xf_InvalidPrices : Addr
  xd_InvalidPrices : FuncData
  xf_InvalidWeights : Addr
  xd_InvalidWeights : FuncData
  xf_InvalidQueue : Addr
  xd_InvalidQueue : FuncData
  xf_InvalidTest : Addr
  xd_InvalidTest : FuncData
  xf_InvalidDays : Addr
  xd_InvalidDays : FuncData
  xf_InvalidTable : Addr
  xd_InvalidTable : FuncData
  xf_InvalidStocks : Addr
  xd_InvalidStocks : FuncData
  xf_TooLarge : Addr
  xd_TooLarge : FuncData
  xf_Impossible : Addr
  xd_Impossible : FuncData
  xf_Mismatch : Addr
  xd_Mismatch : FuncData
  xf_Over : Addr
  xd_Over : FuncData
  xf_TooMany : Addr
  xd_TooMany : FuncData
  x_InvalidCalendar : Addr
  x_InvalidHolidays : Addr
  x_InvalidPlan : Addr
  x_InvalidNumber : Addr
  x_InvalidRow : Addr
  x_InvalidPast : Addr
  x_InvalidStrategy : Addr
  x_InvalidPrices : Addr
  x_InvalidWeights : Addr
  x_InvalidQueue : Addr
  x_InvalidTest : Addr
  x_InvalidDays : Addr
  x_InvalidTable : Addr
  x_InvalidStocks : Addr
  x_TooLarge : Addr
  x_Impossible : Addr
  x_Mismatch : Addr
  x_Over : Addr
  x_TooMany : Addr
  x_BreakError : Addr
def errC (A : Ad) : CT := ⟨fun n => match n with | 0 => A.x_InvalidCalendar | 1 => A.x_InvalidHolidays | 2 => A.x_InvalidPlan | 3 => A.x_InvalidNumber | 4 => A.x_InvalidRow | 5 => A.x_InvalidPast | 6 => A.x_InvalidStrategy | 7 => A.x_InvalidPrices | 8 => A.x_InvalidWeights | 9 => A.x_InvalidQueue | 10 => A.x_InvalidTest | 11 => A.x_InvalidDays | 12 => A.x_InvalidTable | 13 => A.x_InvalidStocks | 14 => A.x_TooLarge | 15 => A.x_Impossible | 16 => A.x_Mismatch | 17 => A.x_Over | 18 => A.x_TooMany | _ => A.x_InvalidCalendar, fun n => match n with | 0 => "index" | 1 => "index" | 2 => "index" | 3 => "name" | 4 => "index" | 5 => "day" | 6 => "strategy" | 7 => "index" | 8 => "index" | 9 => "index" | 10 => "index" | 11 => "index" | 12 => "index" | 13 => "index" | 14 => "limit" | 15 => "broken" | 16 => "name" | 17 => "day" | 18 => "count" | _ => ""⟩
structure Tx (K : PySem.W.Frag) (mg : Str → Option Value) (A : Ad) : Prop where
  F_law_mixed : Fun K "_law_mixed" "_law_mixed" s_law_mixed A.f_law_mixed A.fd_law_mixed
  b_law_mixed : Binds K A.fd_law_mixed ["_law_cell", "_law_draw"] []
  g_law_mixed : mg "_law_mixed" = some (.ref A.f_law_mixed)
  F_law_source : Fun K "_law_source" "_law_source" s_law_source A.f_law_source A.fd_law_source
  b_law_source : Binds K A.fd_law_source ["_law_cell"] []
  g_law_source : mg "_law_source" = some (.ref A.f_law_source)
  F_law_take : Fun K "_law_take" "_law_take" s_law_take A.f_law_take A.fd_law_take
  b_law_take : Binds K A.fd_law_take ["_law_source_here", "_law_bound"] []
  g_law_take : mg "_law_take" = some (.ref A.f_law_take)
  F_law_places : Fun K "_law_places" "_law_places" s_law_places A.f_law_places A.fd_law_places
  b_law_places : Binds K A.fd_law_places ["_law_one"] []
  g_law_places : mg "_law_places" = some (.ref A.f_law_places)
  F_law_stores : Fun K "_law_stores" "_law_stores" s_law_stores A.f_law_stores A.fd_law_stores
  b_law_stores : Binds K A.fd_law_stores ["_law_one", "_law_place", "_law_stored", "_law_thing"] []
  g_law_stores : mg "_law_stores" = some (.ref A.f_law_stores)
  F_law_first_errors : Fun K "_law_first_errors" "_law_first_errors" s_law_first_errors A.f_law_first_errors A.fd_law_first_errors
  b_law_first_errors : Binds K A.fd_law_first_errors ["_law_thing"] []
  g_law_first_errors : mg "_law_first_errors" = some (.ref A.f_law_first_errors)
  F_law_middle_errors : Fun K "_law_middle_errors" "_law_middle_errors" s_law_middle_errors A.f_law_middle_errors A.fd_law_middle_errors
  b_law_middle_errors : Binds K A.fd_law_middle_errors ["_law_thing"] []
  g_law_middle_errors : mg "_law_middle_errors" = some (.ref A.f_law_middle_errors)
  F_law_last_errors : Fun K "_law_last_errors" "_law_last_errors" s_law_last_errors A.f_law_last_errors A.fd_law_last_errors
  b_law_last_errors : Binds K A.fd_law_last_errors ["_law_thing"] []
  g_law_last_errors : mg "_law_last_errors" = some (.ref A.f_law_last_errors)
  F_law : Fun K "law" "law" s_law A.f_law A.fd_law
  b_law : Binds K A.fd_law ["_law_script"] []
  g_law : mg "law" = some (.ref A.f_law)
  x_InvalidCalendar : XC K A.x_InvalidCalendar A.xf_InvalidCalendar "index" A.xd_InvalidCalendar s_InvalidCalendar_init "InvalidCalendar.__init__"
  x_InvalidHolidays : XC K A.x_InvalidHolidays A.xf_InvalidHolidays "index" A.xd_InvalidHolidays s_InvalidHolidays_init "InvalidHolidays.__init__"
  x_InvalidPlan : XC K A.x_InvalidPlan A.xf_InvalidPlan "index" A.xd_InvalidPlan s_InvalidPlan_init "InvalidPlan.__init__"
  x_InvalidNumber : XC K A.x_InvalidNumber A.xf_InvalidNumber "name" A.xd_InvalidNumber s_InvalidNumber_init "InvalidNumber.__init__"
  x_InvalidRow : XC K A.x_InvalidRow A.xf_InvalidRow "index" A.xd_InvalidRow s_InvalidRow_init "InvalidRow.__init__"
  x_InvalidPast : XC K A.x_InvalidPast A.xf_InvalidPast "day" A.xd_InvalidPast s_InvalidPast_init "InvalidPast.__init__"
  x_InvalidStrategy : XC K A.x_InvalidStrategy A.xf_InvalidStrategy "strategy" A.xd_InvalidStrategy s_InvalidStrategy_init "InvalidStrategy.__init__"
  x_InvalidPrices : XC K A.x_InvalidPrices A.xf_InvalidPrices "index" A.xd_InvalidPrices s_InvalidPrices_init "InvalidPrices.__init__"
  x_InvalidWeights : XC K A.x_InvalidWeights A.xf_InvalidWeights "index" A.xd_InvalidWeights s_InvalidWeights_init "InvalidWeights.__init__"
  x_InvalidQueue : XC K A.x_InvalidQueue A.xf_InvalidQueue "index" A.xd_InvalidQueue s_InvalidQueue_init "InvalidQueue.__init__"
  x_InvalidTest : XC K A.x_InvalidTest A.xf_InvalidTest "index" A.xd_InvalidTest s_InvalidTest_init "InvalidTest.__init__"
  x_InvalidDays : XC K A.x_InvalidDays A.xf_InvalidDays "index" A.xd_InvalidDays s_InvalidDays_init "InvalidDays.__init__"
  x_InvalidTable : XC K A.x_InvalidTable A.xf_InvalidTable "index" A.xd_InvalidTable s_InvalidTable_init "InvalidTable.__init__"
  x_InvalidStocks : XC K A.x_InvalidStocks A.xf_InvalidStocks "index" A.xd_InvalidStocks s_InvalidStocks_init "InvalidStocks.__init__"
  x_TooLarge : XC K A.x_TooLarge A.xf_TooLarge "limit" A.xd_TooLarge s_TooLarge_init "TooLarge.__init__"
  x_Impossible : XC K A.x_Impossible A.xf_Impossible "broken" A.xd_Impossible s_Impossible_init "Impossible.__init__"
  x_Mismatch : XC K A.x_Mismatch A.xf_Mismatch "name" A.xd_Mismatch s_Mismatch_init "Mismatch.__init__"
  x_Over : XC K A.x_Over A.xf_Over "day" A.xd_Over s_Over_init "Over.__init__"
  x_TooMany : XC K A.x_TooMany A.xf_TooMany "count" A.xd_TooMany s_TooMany_init "TooMany.__init__"
  gx_InvalidCalendar : mg "InvalidCalendar" = some (.ref A.x_InvalidCalendar)
  gx_InvalidHolidays : mg "InvalidHolidays" = some (.ref A.x_InvalidHolidays)
  gx_InvalidPlan : mg "InvalidPlan" = some (.ref A.x_InvalidPlan)
  gx_InvalidNumber : mg "InvalidNumber" = some (.ref A.x_InvalidNumber)
  gx_InvalidRow : mg "InvalidRow" = some (.ref A.x_InvalidRow)
  gx_InvalidPast : mg "InvalidPast" = some (.ref A.x_InvalidPast)
  gx_InvalidStrategy : mg "InvalidStrategy" = some (.ref A.x_InvalidStrategy)
  gx_InvalidPrices : mg "InvalidPrices" = some (.ref A.x_InvalidPrices)
  gx_InvalidWeights : mg "InvalidWeights" = some (.ref A.x_InvalidWeights)
  gx_InvalidQueue : mg "InvalidQueue" = some (.ref A.x_InvalidQueue)
  gx_InvalidTest : mg "InvalidTest" = some (.ref A.x_InvalidTest)
  gx_InvalidDays : mg "InvalidDays" = some (.ref A.x_InvalidDays)
  gx_InvalidTable : mg "InvalidTable" = some (.ref A.x_InvalidTable)
  gx_InvalidStocks : mg "InvalidStocks" = some (.ref A.x_InvalidStocks)
  gx_TooLarge : mg "TooLarge" = some (.ref A.x_TooLarge)
  gx_Impossible : mg "Impossible" = some (.ref A.x_Impossible)
  gx_Mismatch : mg "Mismatch" = some (.ref A.x_Mismatch)
  gx_Over : mg "Over" = some (.ref A.x_Over)
  gx_TooMany : mg "TooMany" = some (.ref A.x_TooMany)
  gx_BreakError : mg "BreakError" = some (.ref A.x_BreakError)
  e_InvalidCalendar : ∀ j, j < 19 → PySem.W.exmOne K (.ref ((errC A).at_ j)) (.ref A.x_InvalidCalendar) = some ((decide (j = 0)))
  e_InvalidNumber : ∀ j, j < 19 → PySem.W.exmOne K (.ref ((errC A).at_ j)) (.ref A.x_InvalidNumber) = some ((decide (j = 3)))
  e_InvalidHolidays : ∀ j, j < 19 → PySem.W.exmOne K (.ref ((errC A).at_ j)) (.ref A.x_InvalidHolidays) = some ((decide (j = 1)))
  e_InvalidRow : ∀ j, j < 19 → PySem.W.exmOne K (.ref ((errC A).at_ j)) (.ref A.x_InvalidRow) = some ((decide (j = 4)))
  e_InvalidPast : ∀ j, j < 19 → PySem.W.exmOne K (.ref ((errC A).at_ j)) (.ref A.x_InvalidPast) = some ((decide (j = 5)))
  e_InvalidPlan : ∀ j, j < 19 → PySem.W.exmOne K (.ref ((errC A).at_ j)) (.ref A.x_InvalidPlan) = some ((decide (j = 2)))
  e_InvalidTest : ∀ j, j < 19 → PySem.W.exmOne K (.ref ((errC A).at_ j)) (.ref A.x_InvalidTest) = some ((decide (j = 10)))
  e_InvalidStrategy : ∀ j, j < 19 → PySem.W.exmOne K (.ref ((errC A).at_ j)) (.ref A.x_InvalidStrategy) = some ((decide (j = 6)))
  e_InvalidDays : ∀ j, j < 19 → PySem.W.exmOne K (.ref ((errC A).at_ j)) (.ref A.x_InvalidDays) = some ((decide (j = 11)))
  e_InvalidPrices : ∀ j, j < 19 → PySem.W.exmOne K (.ref ((errC A).at_ j)) (.ref A.x_InvalidPrices) = some ((decide (j = 7)))
  e_InvalidWeights : ∀ j, j < 19 → PySem.W.exmOne K (.ref ((errC A).at_ j)) (.ref A.x_InvalidWeights) = some ((decide (j = 8)))
  e_InvalidTable : ∀ j, j < 19 → PySem.W.exmOne K (.ref ((errC A).at_ j)) (.ref A.x_InvalidTable) = some ((decide (j = 12)))
  e_InvalidQueue : ∀ j, j < 19 → PySem.W.exmOne K (.ref ((errC A).at_ j)) (.ref A.x_InvalidQueue) = some ((decide (j = 9)))
  e_InvalidStocks : ∀ j, j < 19 → PySem.W.exmOne K (.ref ((errC A).at_ j)) (.ref A.x_InvalidStocks) = some ((decide (j = 13)))
  e_Impossible : ∀ j, j < 19 → PySem.W.exmOne K (.ref ((errC A).at_ j)) (.ref A.x_Impossible) = some ((decide (j = 15)))
  e_Mismatch : ∀ j, j < 19 → PySem.W.exmOne K (.ref ((errC A).at_ j)) (.ref A.x_Mismatch) = some ((decide (j = 16)))
  e_Over : ∀ j, j < 19 → PySem.W.exmOne K (.ref ((errC A).at_ j)) (.ref A.x_Over) = some ((decide (j = 17)))
  e_TooMany : ∀ j, j < 19 → PySem.W.exmOne K (.ref ((errC A).at_ j)) (.ref A.x_TooMany) = some ((decide (j = 18)))
  e_TooLarge : ∀ j, j < 19 → PySem.W.exmOne K (.ref ((errC A).at_ j)) (.ref A.x_TooLarge) = some ((decide (j = 14)))
  e_BreakError : ∀ j, j < 19 → PySem.W.exmOne K (.ref ((errC A).at_ j)) (.ref A.x_BreakError) = some (true)
  en_InvalidCalendar : PySem.W.nsIn K mainGlobals "InvalidCalendar" = some (some (.ref A.x_InvalidCalendar))
  kwx_InvalidCalendar : KwBinds K A.xd_InvalidCalendar ["self", "index"] ["index"] 1 [0, 1]
  en_InvalidHolidays : PySem.W.nsIn K mainGlobals "InvalidHolidays" = some (some (.ref A.x_InvalidHolidays))
  kwx_InvalidHolidays : KwBinds K A.xd_InvalidHolidays ["self", "index"] ["index"] 1 [0, 1]
  en_InvalidPlan : PySem.W.nsIn K mainGlobals "InvalidPlan" = some (some (.ref A.x_InvalidPlan))
  kwx_InvalidPlan : KwBinds K A.xd_InvalidPlan ["self", "index"] ["index"] 1 [0, 1]
  en_InvalidNumber : PySem.W.nsIn K mainGlobals "InvalidNumber" = some (some (.ref A.x_InvalidNumber))
  kwx_InvalidNumber : KwBinds K A.xd_InvalidNumber ["self", "name"] ["name"] 1 [0, 1]
  en_InvalidRow : PySem.W.nsIn K mainGlobals "InvalidRow" = some (some (.ref A.x_InvalidRow))
  kwx_InvalidRow : KwBinds K A.xd_InvalidRow ["self", "index"] ["index"] 1 [0, 1]
  en_InvalidPast : PySem.W.nsIn K mainGlobals "InvalidPast" = some (some (.ref A.x_InvalidPast))
  kwx_InvalidPast : KwBinds K A.xd_InvalidPast ["self", "day"] ["day"] 1 [0, 1]
  en_InvalidStrategy : PySem.W.nsIn K mainGlobals "InvalidStrategy" = some (some (.ref A.x_InvalidStrategy))
  kwx_InvalidStrategy : KwBinds K A.xd_InvalidStrategy ["self", "strategy"] ["strategy"] 1 [0, 1]
  en_InvalidPrices : PySem.W.nsIn K mainGlobals "InvalidPrices" = some (some (.ref A.x_InvalidPrices))
  kwx_InvalidPrices : KwBinds K A.xd_InvalidPrices ["self", "index"] ["index"] 1 [0, 1]
  en_InvalidWeights : PySem.W.nsIn K mainGlobals "InvalidWeights" = some (some (.ref A.x_InvalidWeights))
  kwx_InvalidWeights : KwBinds K A.xd_InvalidWeights ["self", "index"] ["index"] 1 [0, 1]
  en_InvalidQueue : PySem.W.nsIn K mainGlobals "InvalidQueue" = some (some (.ref A.x_InvalidQueue))
  kwx_InvalidQueue : KwBinds K A.xd_InvalidQueue ["self", "index"] ["index"] 1 [0, 1]
  en_InvalidTest : PySem.W.nsIn K mainGlobals "InvalidTest" = some (some (.ref A.x_InvalidTest))
  kwx_InvalidTest : KwBinds K A.xd_InvalidTest ["self", "index"] ["index"] 1 [0, 1]
  en_InvalidDays : PySem.W.nsIn K mainGlobals "InvalidDays" = some (some (.ref A.x_InvalidDays))
  kwx_InvalidDays : KwBinds K A.xd_InvalidDays ["self", "index"] ["index"] 1 [0, 1]
  en_InvalidTable : PySem.W.nsIn K mainGlobals "InvalidTable" = some (some (.ref A.x_InvalidTable))
  kwx_InvalidTable : KwBinds K A.xd_InvalidTable ["self", "index"] ["index"] 1 [0, 1]
  en_InvalidStocks : PySem.W.nsIn K mainGlobals "InvalidStocks" = some (some (.ref A.x_InvalidStocks))
  kwx_InvalidStocks : KwBinds K A.xd_InvalidStocks ["self", "index"] ["index"] 1 [0, 1]
  en_TooLarge : PySem.W.nsIn K mainGlobals "TooLarge" = some (some (.ref A.x_TooLarge))
  kwx_TooLarge : KwBinds K A.xd_TooLarge ["self", "limit"] ["limit"] 1 [0, 1]
  en_Impossible : PySem.W.nsIn K mainGlobals "Impossible" = some (some (.ref A.x_Impossible))
  kwx_Impossible : KwBinds K A.xd_Impossible ["self", "broken"] ["broken"] 1 [0, 1]
  en_Mismatch : PySem.W.nsIn K mainGlobals "Mismatch" = some (some (.ref A.x_Mismatch))
  kwx_Mismatch : KwBinds K A.xd_Mismatch ["self", "name"] ["name"] 1 [0, 1]
  en_Over : PySem.W.nsIn K mainGlobals "Over" = some (some (.ref A.x_Over))
  kwx_Over : KwBinds K A.xd_Over ["self", "day"] ["day"] 1 [0, 1]
  en_TooMany : PySem.W.nsIn K mainGlobals "TooMany" = some (some (.ref A.x_TooMany))
  kwx_TooMany : KwBinds K A.xd_TooMany ["self", "count"] ["count"] 1 [0, 1]
  xc_InvalidCalendar : ExcC K A.x_InvalidCalendar
  kv_InvalidCalendar : PySem.W.subIn K (.ref A.x_InvalidCalendar) (.type "ValueError") = some true
  xc_InvalidHolidays : ExcC K A.x_InvalidHolidays
  kv_InvalidHolidays : PySem.W.subIn K (.ref A.x_InvalidHolidays) (.type "ValueError") = some true
  xc_InvalidPlan : ExcC K A.x_InvalidPlan
  kv_InvalidPlan : PySem.W.subIn K (.ref A.x_InvalidPlan) (.type "ValueError") = some true
  xc_InvalidNumber : ExcC K A.x_InvalidNumber
  kv_InvalidNumber : PySem.W.subIn K (.ref A.x_InvalidNumber) (.type "ValueError") = some true
  xc_InvalidRow : ExcC K A.x_InvalidRow
  kv_InvalidRow : PySem.W.subIn K (.ref A.x_InvalidRow) (.type "ValueError") = some true
  xc_InvalidPast : ExcC K A.x_InvalidPast
  kv_InvalidPast : PySem.W.subIn K (.ref A.x_InvalidPast) (.type "ValueError") = some true
  xc_InvalidStrategy : ExcC K A.x_InvalidStrategy
  kv_InvalidStrategy : PySem.W.subIn K (.ref A.x_InvalidStrategy) (.type "ValueError") = some true
  xc_InvalidPrices : ExcC K A.x_InvalidPrices
  kv_InvalidPrices : PySem.W.subIn K (.ref A.x_InvalidPrices) (.type "ValueError") = some true
  xc_InvalidWeights : ExcC K A.x_InvalidWeights
  kv_InvalidWeights : PySem.W.subIn K (.ref A.x_InvalidWeights) (.type "ValueError") = some true
  xc_InvalidQueue : ExcC K A.x_InvalidQueue
  kv_InvalidQueue : PySem.W.subIn K (.ref A.x_InvalidQueue) (.type "ValueError") = some true
  xc_InvalidTest : ExcC K A.x_InvalidTest
  kv_InvalidTest : PySem.W.subIn K (.ref A.x_InvalidTest) (.type "ValueError") = some true
  xc_InvalidDays : ExcC K A.x_InvalidDays
  kv_InvalidDays : PySem.W.subIn K (.ref A.x_InvalidDays) (.type "ValueError") = some true
  xc_InvalidTable : ExcC K A.x_InvalidTable
  kv_InvalidTable : PySem.W.subIn K (.ref A.x_InvalidTable) (.type "ValueError") = some true
  xc_InvalidStocks : ExcC K A.x_InvalidStocks
  kv_InvalidStocks : PySem.W.subIn K (.ref A.x_InvalidStocks) (.type "ValueError") = some true
  xc_TooLarge : ExcC K A.x_TooLarge
  kv_TooLarge : PySem.W.subIn K (.ref A.x_TooLarge) (.type "ValueError") = some true
  xc_Impossible : ExcC K A.x_Impossible
  kv_Impossible : PySem.W.subIn K (.ref A.x_Impossible) (.type "ValueError") = some true
  xc_Mismatch : ExcC K A.x_Mismatch
  kv_Mismatch : PySem.W.subIn K (.ref A.x_Mismatch) (.type "ValueError") = some true
  xc_Over : ExcC K A.x_Over
  kv_Over : PySem.W.subIn K (.ref A.x_Over) (.type "ValueError") = some true
  xc_TooMany : ExcC K A.x_TooMany
  kv_TooMany : PySem.W.subIn K (.ref A.x_TooMany) (.type "ValueError") = some true
  m_ValueError : mg "ValueError" = none
  m_all : mg "all" = none
  m_enumerate : mg "enumerate" = none
  m_isinstance : mg "isinstance" = none
  m_range : mg "range" = none
  m_repr : mg "repr" = none
section
variable {K : PySem.W.Frag} {mg : Str → Option Value} {A : Ad}
theorem self_at (T : Tx K mg A) : ∀ j, j < 19 → PySem.W.exmOne K (.ref ((errC A).at_ j)) (.ref ((errC A).at_ j)) = some true := fun j hj => match j, hj with | 0, h => T.e_InvalidCalendar 0 h | 1, h => T.e_InvalidHolidays 1 h | 2, h => T.e_InvalidPlan 2 h | 3, h => T.e_InvalidNumber 3 h | 4, h => T.e_InvalidRow 4 h | 5, h => T.e_InvalidPast 5 h | 6, h => T.e_InvalidStrategy 6 h | 7, h => T.e_InvalidPrices 7 h | 8, h => T.e_InvalidWeights 8 h | 9, h => T.e_InvalidQueue 9 h | 10, h => T.e_InvalidTest 10 h | 11, h => T.e_InvalidDays 11 h | 12, h => T.e_InvalidTable 12 h | 13, h => T.e_InvalidStocks 13 h | 14, h => T.e_TooLarge 14 h | 15, h => T.e_Impossible 15 h | 16, h => T.e_Mismatch 16 h | 17, h => T.e_Over 17 h | 18, h => T.e_TooMany 18 h | n + 19, h => absurd h (by omega)
theorem exc_at (T : Tx K mg A) : ∀ j, j < 19 → ExcC K ((errC A).at_ j) := fun j hj => match j, hj with | 0, h => T.xc_InvalidCalendar | 1, h => T.xc_InvalidHolidays | 2, h => T.xc_InvalidPlan | 3, h => T.xc_InvalidNumber | 4, h => T.xc_InvalidRow | 5, h => T.xc_InvalidPast | 6, h => T.xc_InvalidStrategy | 7, h => T.xc_InvalidPrices | 8, h => T.xc_InvalidWeights | 9, h => T.xc_InvalidQueue | 10, h => T.xc_InvalidTest | 11, h => T.xc_InvalidDays | 12, h => T.xc_InvalidTable | 13, h => T.xc_InvalidStocks | 14, h => T.xc_TooLarge | 15, h => T.xc_Impossible | 16, h => T.xc_Mismatch | 17, h => T.xc_Over | 18, h => T.xc_TooMany | n + 19, h => absurd h (by omega)
theorem xf_at (T : Tx K mg A) : ∀ j, j < 19 → XfC K ((errC A).at_ j) := fun j hj => match j, hj with | 0, h => T.x_InvalidCalendar.xf | 1, h => T.x_InvalidHolidays.xf | 2, h => T.x_InvalidPlan.xf | 3, h => T.x_InvalidNumber.xf | 4, h => T.x_InvalidRow.xf | 5, h => T.x_InvalidPast.xf | 6, h => T.x_InvalidStrategy.xf | 7, h => T.x_InvalidPrices.xf | 8, h => T.x_InvalidWeights.xf | 9, h => T.x_InvalidQueue.xf | 10, h => T.x_InvalidTest.xf | 11, h => T.x_InvalidDays.xf | 12, h => T.x_InvalidTable.xf | 13, h => T.x_InvalidStocks.xf | 14, h => T.x_TooLarge.xf | 15, h => T.x_Impossible.xf | 16, h => T.x_Mismatch.xf | 17, h => T.x_Over.xf | 18, h => T.x_TooMany.xf | n + 19, h => absurd h (by omega)
theorem num_c (T : Tx K mg A) : NumC K (errC A) 19 numX := fun n j h => by
  unfold numX at h
  by_cases c0 : n = "InvalidCalendar"
  · rw [c0] at h ⊢
    rw [if_pos rfl] at h
    cases h
    exact ⟨by decide, T.en_InvalidCalendar⟩
  rw [if_neg c0] at h
  by_cases c1 : n = "InvalidHolidays"
  · rw [c1] at h ⊢
    rw [if_pos rfl] at h
    cases h
    exact ⟨by decide, T.en_InvalidHolidays⟩
  rw [if_neg c1] at h
  by_cases c2 : n = "InvalidPlan"
  · rw [c2] at h ⊢
    rw [if_pos rfl] at h
    cases h
    exact ⟨by decide, T.en_InvalidPlan⟩
  rw [if_neg c2] at h
  by_cases c3 : n = "InvalidNumber"
  · rw [c3] at h ⊢
    rw [if_pos rfl] at h
    cases h
    exact ⟨by decide, T.en_InvalidNumber⟩
  rw [if_neg c3] at h
  by_cases c4 : n = "InvalidRow"
  · rw [c4] at h ⊢
    rw [if_pos rfl] at h
    cases h
    exact ⟨by decide, T.en_InvalidRow⟩
  rw [if_neg c4] at h
  by_cases c5 : n = "InvalidPast"
  · rw [c5] at h ⊢
    rw [if_pos rfl] at h
    cases h
    exact ⟨by decide, T.en_InvalidPast⟩
  rw [if_neg c5] at h
  by_cases c6 : n = "InvalidStrategy"
  · rw [c6] at h ⊢
    rw [if_pos rfl] at h
    cases h
    exact ⟨by decide, T.en_InvalidStrategy⟩
  rw [if_neg c6] at h
  by_cases c7 : n = "InvalidPrices"
  · rw [c7] at h ⊢
    rw [if_pos rfl] at h
    cases h
    exact ⟨by decide, T.en_InvalidPrices⟩
  rw [if_neg c7] at h
  by_cases c8 : n = "InvalidWeights"
  · rw [c8] at h ⊢
    rw [if_pos rfl] at h
    cases h
    exact ⟨by decide, T.en_InvalidWeights⟩
  rw [if_neg c8] at h
  by_cases c9 : n = "InvalidQueue"
  · rw [c9] at h ⊢
    rw [if_pos rfl] at h
    cases h
    exact ⟨by decide, T.en_InvalidQueue⟩
  rw [if_neg c9] at h
  by_cases c10 : n = "InvalidTest"
  · rw [c10] at h ⊢
    rw [if_pos rfl] at h
    cases h
    exact ⟨by decide, T.en_InvalidTest⟩
  rw [if_neg c10] at h
  by_cases c11 : n = "InvalidDays"
  · rw [c11] at h ⊢
    rw [if_pos rfl] at h
    cases h
    exact ⟨by decide, T.en_InvalidDays⟩
  rw [if_neg c11] at h
  by_cases c12 : n = "InvalidTable"
  · rw [c12] at h ⊢
    rw [if_pos rfl] at h
    cases h
    exact ⟨by decide, T.en_InvalidTable⟩
  rw [if_neg c12] at h
  by_cases c13 : n = "InvalidStocks"
  · rw [c13] at h ⊢
    rw [if_pos rfl] at h
    cases h
    exact ⟨by decide, T.en_InvalidStocks⟩
  rw [if_neg c13] at h
  by_cases c14 : n = "TooLarge"
  · rw [c14] at h ⊢
    rw [if_pos rfl] at h
    cases h
    exact ⟨by decide, T.en_TooLarge⟩
  rw [if_neg c14] at h
  by_cases c15 : n = "Impossible"
  · rw [c15] at h ⊢
    rw [if_pos rfl] at h
    cases h
    exact ⟨by decide, T.en_Impossible⟩
  rw [if_neg c15] at h
  by_cases c16 : n = "Mismatch"
  · rw [c16] at h ⊢
    rw [if_pos rfl] at h
    cases h
    exact ⟨by decide, T.en_Mismatch⟩
  rw [if_neg c16] at h
  by_cases c17 : n = "Over"
  · rw [c17] at h ⊢
    rw [if_pos rfl] at h
    cases h
    exact ⟨by decide, T.en_Over⟩
  rw [if_neg c17] at h
  by_cases c18 : n = "TooMany"
  · rw [c18] at h ⊢
    rw [if_pos rfl] at h
    cases h
    exact ⟨by decide, T.en_TooMany⟩
  rw [if_neg c18] at h
  cases h
theorem no_at (T : Tx K mg A) : ∀ j, j < 19 → PySem.W.findIn K (.ref ((errC A).at_ j)) (errN j) = some none := fun j hj => match j, hj with | 0, h => T.x_InvalidCalendar.no | 1, h => T.x_InvalidHolidays.no | 2, h => T.x_InvalidPlan.no | 3, h => T.x_InvalidNumber.no | 4, h => T.x_InvalidRow.no | 5, h => T.x_InvalidPast.no | 6, h => T.x_InvalidStrategy.no | 7, h => T.x_InvalidPrices.no | 8, h => T.x_InvalidWeights.no | 9, h => T.x_InvalidQueue.no | 10, h => T.x_InvalidTest.no | 11, h => T.x_InvalidDays.no | 12, h => T.x_InvalidTable.no | 13, h => T.x_InvalidStocks.no | 14, h => T.x_TooLarge.no | 15, h => T.x_Impossible.no | 16, h => T.x_Mismatch.no | 17, h => T.x_Over.no | 18, h => T.x_TooMany.no | n + 19, h => absurd h (by omega)
theorem ve_at (T : Tx K mg A) : ∀ j, j < 19 → PySem.W.kitOne K (.ref ((errC A).at_ j)) (.type "ValueError") = some true := fun j hj => match j, hj with | 0, h => kit_bt (by decide +kernel) T.kv_InvalidCalendar | 1, h => kit_bt (by decide +kernel) T.kv_InvalidHolidays | 2, h => kit_bt (by decide +kernel) T.kv_InvalidPlan | 3, h => kit_bt (by decide +kernel) T.kv_InvalidNumber | 4, h => kit_bt (by decide +kernel) T.kv_InvalidRow | 5, h => kit_bt (by decide +kernel) T.kv_InvalidPast | 6, h => kit_bt (by decide +kernel) T.kv_InvalidStrategy | 7, h => kit_bt (by decide +kernel) T.kv_InvalidPrices | 8, h => kit_bt (by decide +kernel) T.kv_InvalidWeights | 9, h => kit_bt (by decide +kernel) T.kv_InvalidQueue | 10, h => kit_bt (by decide +kernel) T.kv_InvalidTest | 11, h => kit_bt (by decide +kernel) T.kv_InvalidDays | 12, h => kit_bt (by decide +kernel) T.kv_InvalidTable | 13, h => kit_bt (by decide +kernel) T.kv_InvalidStocks | 14, h => kit_bt (by decide +kernel) T.kv_TooLarge | 15, h => kit_bt (by decide +kernel) T.kv_Impossible | 16, h => kit_bt (by decide +kernel) T.kv_Mismatch | 17, h => kit_bt (by decide +kernel) T.kv_Over | 18, h => kit_bt (by decide +kernel) T.kv_TooMany | n + 19, h => absurd h (by omega)
theorem kit_InvalidCalendar (T : Tx K mg A) : ∀ j, j < 19 → PySem.W.kitOne K (.ref ((errC A).at_ j)) (.ref A.x_InvalidCalendar) = some ((decide (j = 0))) := fun j hj => kit_exm (T.e_InvalidCalendar j hj) (self_at T j hj)
theorem kit_InvalidNumber (T : Tx K mg A) : ∀ j, j < 19 → PySem.W.kitOne K (.ref ((errC A).at_ j)) (.ref A.x_InvalidNumber) = some ((decide (j = 3))) := fun j hj => kit_exm (T.e_InvalidNumber j hj) (self_at T j hj)
theorem kit_InvalidHolidays (T : Tx K mg A) : ∀ j, j < 19 → PySem.W.kitOne K (.ref ((errC A).at_ j)) (.ref A.x_InvalidHolidays) = some ((decide (j = 1))) := fun j hj => kit_exm (T.e_InvalidHolidays j hj) (self_at T j hj)
theorem kit_InvalidRow (T : Tx K mg A) : ∀ j, j < 19 → PySem.W.kitOne K (.ref ((errC A).at_ j)) (.ref A.x_InvalidRow) = some ((decide (j = 4))) := fun j hj => kit_exm (T.e_InvalidRow j hj) (self_at T j hj)
theorem kit_InvalidPast (T : Tx K mg A) : ∀ j, j < 19 → PySem.W.kitOne K (.ref ((errC A).at_ j)) (.ref A.x_InvalidPast) = some ((decide (j = 5))) := fun j hj => kit_exm (T.e_InvalidPast j hj) (self_at T j hj)
theorem kit_InvalidPlan (T : Tx K mg A) : ∀ j, j < 19 → PySem.W.kitOne K (.ref ((errC A).at_ j)) (.ref A.x_InvalidPlan) = some ((decide (j = 2))) := fun j hj => kit_exm (T.e_InvalidPlan j hj) (self_at T j hj)
theorem kit_InvalidTest (T : Tx K mg A) : ∀ j, j < 19 → PySem.W.kitOne K (.ref ((errC A).at_ j)) (.ref A.x_InvalidTest) = some ((decide (j = 10))) := fun j hj => kit_exm (T.e_InvalidTest j hj) (self_at T j hj)
theorem kit_InvalidStrategy (T : Tx K mg A) : ∀ j, j < 19 → PySem.W.kitOne K (.ref ((errC A).at_ j)) (.ref A.x_InvalidStrategy) = some ((decide (j = 6))) := fun j hj => kit_exm (T.e_InvalidStrategy j hj) (self_at T j hj)
theorem kit_InvalidDays (T : Tx K mg A) : ∀ j, j < 19 → PySem.W.kitOne K (.ref ((errC A).at_ j)) (.ref A.x_InvalidDays) = some ((decide (j = 11))) := fun j hj => kit_exm (T.e_InvalidDays j hj) (self_at T j hj)
theorem kit_InvalidPrices (T : Tx K mg A) : ∀ j, j < 19 → PySem.W.kitOne K (.ref ((errC A).at_ j)) (.ref A.x_InvalidPrices) = some ((decide (j = 7))) := fun j hj => kit_exm (T.e_InvalidPrices j hj) (self_at T j hj)
theorem kit_InvalidWeights (T : Tx K mg A) : ∀ j, j < 19 → PySem.W.kitOne K (.ref ((errC A).at_ j)) (.ref A.x_InvalidWeights) = some ((decide (j = 8))) := fun j hj => kit_exm (T.e_InvalidWeights j hj) (self_at T j hj)
theorem kit_InvalidTable (T : Tx K mg A) : ∀ j, j < 19 → PySem.W.kitOne K (.ref ((errC A).at_ j)) (.ref A.x_InvalidTable) = some ((decide (j = 12))) := fun j hj => kit_exm (T.e_InvalidTable j hj) (self_at T j hj)
theorem kit_InvalidQueue (T : Tx K mg A) : ∀ j, j < 19 → PySem.W.kitOne K (.ref ((errC A).at_ j)) (.ref A.x_InvalidQueue) = some ((decide (j = 9))) := fun j hj => kit_exm (T.e_InvalidQueue j hj) (self_at T j hj)
theorem kit_InvalidStocks (T : Tx K mg A) : ∀ j, j < 19 → PySem.W.kitOne K (.ref ((errC A).at_ j)) (.ref A.x_InvalidStocks) = some ((decide (j = 13))) := fun j hj => kit_exm (T.e_InvalidStocks j hj) (self_at T j hj)
theorem kit_Impossible (T : Tx K mg A) : ∀ j, j < 19 → PySem.W.kitOne K (.ref ((errC A).at_ j)) (.ref A.x_Impossible) = some ((decide (j = 15))) := fun j hj => kit_exm (T.e_Impossible j hj) (self_at T j hj)
theorem kit_Mismatch (T : Tx K mg A) : ∀ j, j < 19 → PySem.W.kitOne K (.ref ((errC A).at_ j)) (.ref A.x_Mismatch) = some ((decide (j = 16))) := fun j hj => kit_exm (T.e_Mismatch j hj) (self_at T j hj)
theorem kit_Over (T : Tx K mg A) : ∀ j, j < 19 → PySem.W.kitOne K (.ref ((errC A).at_ j)) (.ref A.x_Over) = some ((decide (j = 17))) := fun j hj => kit_exm (T.e_Over j hj) (self_at T j hj)
theorem kit_TooMany (T : Tx K mg A) : ∀ j, j < 19 → PySem.W.kitOne K (.ref ((errC A).at_ j)) (.ref A.x_TooMany) = some ((decide (j = 18))) := fun j hj => kit_exm (T.e_TooMany j hj) (self_at T j hj)
theorem kit_TooLarge (T : Tx K mg A) : ∀ j, j < 19 → PySem.W.kitOne K (.ref ((errC A).at_ j)) (.ref A.x_TooLarge) = some ((decide (j = 14))) := fun j hj => kit_exm (T.e_TooLarge j hj) (self_at T j hj)
theorem kit_BreakError (T : Tx K mg A) : ∀ j, j < 19 → PySem.W.kitOne K (.ref ((errC A).at_ j)) (.ref A.x_BreakError) = some (true) := fun j hj => kit_exm (T.e_BreakError j hj) (self_at T j hj)
end
/-! ### each def computes its function -/
section
variable {P : Program} {w : World} {K : PySem.W.Frag} {mg : Str → Option Value} {base : Heap} {A : Ad}
theorem mkX_InvalidCalendar (T : Tx K mg A) : FnOk P w K mg base CX0 1 A.xf_InvalidCalendar A.xd_InvalidCalendar ["self", "index"] (spI A.x_InvalidCalendar "index") := maker_ok T.x_InvalidCalendar sc_InvalidCalendar_init rfl (by decide) (by decide) (by first | exact Or.inl rfl | exact Or.inr (Or.inl rfl) | exact Or.inr (Or.inr rfl)) (by first | exact Or.inl rfl | exact Or.inr (Or.inl rfl) | exact Or.inr (Or.inr rfl)) (fun _ => rfl)
theorem mkX_InvalidHolidays (T : Tx K mg A) : FnOk P w K mg base CX0 1 A.xf_InvalidHolidays A.xd_InvalidHolidays ["self", "index"] (spI A.x_InvalidHolidays "index") := maker_ok T.x_InvalidHolidays sc_InvalidHolidays_init rfl (by decide) (by decide) (by first | exact Or.inl rfl | exact Or.inr (Or.inl rfl) | exact Or.inr (Or.inr rfl)) (by first | exact Or.inl rfl | exact Or.inr (Or.inl rfl) | exact Or.inr (Or.inr rfl)) (fun _ => rfl)
theorem mkX_InvalidPlan (T : Tx K mg A) : FnOk P w K mg base CX0 1 A.xf_InvalidPlan A.xd_InvalidPlan ["self", "index"] (spI A.x_InvalidPlan "index") := maker_ok T.x_InvalidPlan sc_InvalidPlan_init rfl (by decide) (by decide) (by first | exact Or.inl rfl | exact Or.inr (Or.inl rfl) | exact Or.inr (Or.inr rfl)) (by first | exact Or.inl rfl | exact Or.inr (Or.inl rfl) | exact Or.inr (Or.inr rfl)) (fun _ => rfl)
theorem mkX_InvalidNumber (T : Tx K mg A) : FnOk P w K mg base CX0 1 A.xf_InvalidNumber A.xd_InvalidNumber ["self", "name"] (spI A.x_InvalidNumber "name") := maker_ok T.x_InvalidNumber sc_InvalidNumber_init rfl (by decide) (by decide) (by first | exact Or.inl rfl | exact Or.inr (Or.inl rfl) | exact Or.inr (Or.inr rfl)) (by first | exact Or.inl rfl | exact Or.inr (Or.inl rfl) | exact Or.inr (Or.inr rfl)) (fun _ => rfl)
theorem mkX_InvalidRow (T : Tx K mg A) : FnOk P w K mg base CX0 1 A.xf_InvalidRow A.xd_InvalidRow ["self", "index"] (spI A.x_InvalidRow "index") := maker_ok T.x_InvalidRow sc_InvalidRow_init rfl (by decide) (by decide) (by first | exact Or.inl rfl | exact Or.inr (Or.inl rfl) | exact Or.inr (Or.inr rfl)) (by first | exact Or.inl rfl | exact Or.inr (Or.inl rfl) | exact Or.inr (Or.inr rfl)) (fun _ => rfl)
theorem mkX_InvalidPast (T : Tx K mg A) : FnOk P w K mg base CX0 1 A.xf_InvalidPast A.xd_InvalidPast ["self", "day"] (spI A.x_InvalidPast "day") := maker_ok T.x_InvalidPast sc_InvalidPast_init rfl (by decide) (by decide) (by first | exact Or.inl rfl | exact Or.inr (Or.inl rfl) | exact Or.inr (Or.inr rfl)) (by first | exact Or.inl rfl | exact Or.inr (Or.inl rfl) | exact Or.inr (Or.inr rfl)) (fun _ => rfl)
theorem mkX_InvalidStrategy (T : Tx K mg A) : FnOk P w K mg base CX0 1 A.xf_InvalidStrategy A.xd_InvalidStrategy ["self", "strategy"] (spI A.x_InvalidStrategy "strategy") := maker_ok T.x_InvalidStrategy sc_InvalidStrategy_init rfl (by decide) (by decide) (by first | exact Or.inl rfl | exact Or.inr (Or.inl rfl) | exact Or.inr (Or.inr rfl)) (by first | exact Or.inl rfl | exact Or.inr (Or.inl rfl) | exact Or.inr (Or.inr rfl)) (fun _ => rfl)
theorem mkX_InvalidPrices (T : Tx K mg A) : FnOk P w K mg base CX0 1 A.xf_InvalidPrices A.xd_InvalidPrices ["self", "index"] (spI A.x_InvalidPrices "index") := maker_ok T.x_InvalidPrices sc_InvalidPrices_init rfl (by decide) (by decide) (by first | exact Or.inl rfl | exact Or.inr (Or.inl rfl) | exact Or.inr (Or.inr rfl)) (by first | exact Or.inl rfl | exact Or.inr (Or.inl rfl) | exact Or.inr (Or.inr rfl)) (fun _ => rfl)
theorem mkX_InvalidWeights (T : Tx K mg A) : FnOk P w K mg base CX0 1 A.xf_InvalidWeights A.xd_InvalidWeights ["self", "index"] (spI A.x_InvalidWeights "index") := maker_ok T.x_InvalidWeights sc_InvalidWeights_init rfl (by decide) (by decide) (by first | exact Or.inl rfl | exact Or.inr (Or.inl rfl) | exact Or.inr (Or.inr rfl)) (by first | exact Or.inl rfl | exact Or.inr (Or.inl rfl) | exact Or.inr (Or.inr rfl)) (fun _ => rfl)
theorem mkX_InvalidQueue (T : Tx K mg A) : FnOk P w K mg base CX0 1 A.xf_InvalidQueue A.xd_InvalidQueue ["self", "index"] (spI A.x_InvalidQueue "index") := maker_ok T.x_InvalidQueue sc_InvalidQueue_init rfl (by decide) (by decide) (by first | exact Or.inl rfl | exact Or.inr (Or.inl rfl) | exact Or.inr (Or.inr rfl)) (by first | exact Or.inl rfl | exact Or.inr (Or.inl rfl) | exact Or.inr (Or.inr rfl)) (fun _ => rfl)
theorem mkX_InvalidTest (T : Tx K mg A) : FnOk P w K mg base CX0 1 A.xf_InvalidTest A.xd_InvalidTest ["self", "index"] (spI A.x_InvalidTest "index") := maker_ok T.x_InvalidTest sc_InvalidTest_init rfl (by decide) (by decide) (by first | exact Or.inl rfl | exact Or.inr (Or.inl rfl) | exact Or.inr (Or.inr rfl)) (by first | exact Or.inl rfl | exact Or.inr (Or.inl rfl) | exact Or.inr (Or.inr rfl)) (fun _ => rfl)
theorem mkX_InvalidDays (T : Tx K mg A) : FnOk P w K mg base CX0 1 A.xf_InvalidDays A.xd_InvalidDays ["self", "index"] (spI A.x_InvalidDays "index") := maker_ok T.x_InvalidDays sc_InvalidDays_init rfl (by decide) (by decide) (by first | exact Or.inl rfl | exact Or.inr (Or.inl rfl) | exact Or.inr (Or.inr rfl)) (by first | exact Or.inl rfl | exact Or.inr (Or.inl rfl) | exact Or.inr (Or.inr rfl)) (fun _ => rfl)
theorem mkX_InvalidTable (T : Tx K mg A) : FnOk P w K mg base CX0 1 A.xf_InvalidTable A.xd_InvalidTable ["self", "index"] (spI A.x_InvalidTable "index") := maker_ok T.x_InvalidTable sc_InvalidTable_init rfl (by decide) (by decide) (by first | exact Or.inl rfl | exact Or.inr (Or.inl rfl) | exact Or.inr (Or.inr rfl)) (by first | exact Or.inl rfl | exact Or.inr (Or.inl rfl) | exact Or.inr (Or.inr rfl)) (fun _ => rfl)
theorem mkX_InvalidStocks (T : Tx K mg A) : FnOk P w K mg base CX0 1 A.xf_InvalidStocks A.xd_InvalidStocks ["self", "index"] (spI A.x_InvalidStocks "index") := maker_ok T.x_InvalidStocks sc_InvalidStocks_init rfl (by decide) (by decide) (by first | exact Or.inl rfl | exact Or.inr (Or.inl rfl) | exact Or.inr (Or.inr rfl)) (by first | exact Or.inl rfl | exact Or.inr (Or.inl rfl) | exact Or.inr (Or.inr rfl)) (fun _ => rfl)
theorem mkX_TooLarge (T : Tx K mg A) : FnOk P w K mg base CX0 1 A.xf_TooLarge A.xd_TooLarge ["self", "limit"] (spI A.x_TooLarge "limit") := maker_ok T.x_TooLarge sc_TooLarge_init rfl (by decide) (by decide) (by first | exact Or.inl rfl | exact Or.inr (Or.inl rfl) | exact Or.inr (Or.inr rfl)) (by first | exact Or.inl rfl | exact Or.inr (Or.inl rfl) | exact Or.inr (Or.inr rfl)) (fun _ => rfl)
theorem mkX_Impossible (T : Tx K mg A) : FnOk P w K mg base CX0 1 A.xf_Impossible A.xd_Impossible ["self", "broken"] (spI A.x_Impossible "broken") := maker_ok T.x_Impossible sc_Impossible_init rfl (by decide) (by decide) (by first | exact Or.inl rfl | exact Or.inr (Or.inl rfl) | exact Or.inr (Or.inr rfl)) (by first | exact Or.inl rfl | exact Or.inr (Or.inl rfl) | exact Or.inr (Or.inr rfl)) (fun _ => rfl)
theorem mkX_Mismatch (T : Tx K mg A) : FnOk P w K mg base CX0 1 A.xf_Mismatch A.xd_Mismatch ["self", "name"] (spI A.x_Mismatch "name") := maker_ok T.x_Mismatch sc_Mismatch_init rfl (by decide) (by decide) (by first | exact Or.inl rfl | exact Or.inr (Or.inl rfl) | exact Or.inr (Or.inr rfl)) (by first | exact Or.inl rfl | exact Or.inr (Or.inl rfl) | exact Or.inr (Or.inr rfl)) (fun _ => rfl)
theorem mkX_Over (T : Tx K mg A) : FnOk P w K mg base CX0 1 A.xf_Over A.xd_Over ["self", "day"] (spI A.x_Over "day") := maker_ok T.x_Over sc_Over_init rfl (by decide) (by decide) (by first | exact Or.inl rfl | exact Or.inr (Or.inl rfl) | exact Or.inr (Or.inr rfl)) (by first | exact Or.inl rfl | exact Or.inr (Or.inl rfl) | exact Or.inr (Or.inr rfl)) (fun _ => rfl)
theorem mkX_TooMany (T : Tx K mg A) : FnOk P w K mg base CX0 1 A.xf_TooMany A.xd_TooMany ["self", "count"] (spI A.x_TooMany "count") := maker_ok T.x_TooMany sc_TooMany_init rfl (by decide) (by decide) (by first | exact Or.inl rfl | exact Or.inr (Or.inl rfl) | exact Or.inr (Or.inr rfl)) (by first | exact Or.inl rfl | exact Or.inr (Or.inl rfl) | exact Or.inr (Or.inr rfl)) (fun _ => rfl)
set_option maxHeartbeats 4000000 in
theorem ok_law_mixed (T : Tx K mg A) : FnQ P w K mg base (errC A) 2 A.f_law_mixed A.fd_law_mixed ["_law_cell", "_law_draw"] F_law_mixed := by
  refine fq_of T.F_law_mixed sc_law_mixed fun cdv A' outer s H E hr hgu => ?_
  exact qss_cons (qs_asg (qe_bin op_modP ok_mod (qe_bin op_mulT ok_mulT (qe_bin op_addA ok_add (qe_bin op_modP ok_mod (qe_v 0) (qe_int)) (qe_int)) (qe_bin op_addA ok_add (qe_bin op_mulT ok_mulT (qe_v 1) (qe_int)) (qe_int))) (qe_int)) (qg_name 2 sc_law_mixed.nd)) (qss_cons (qs_asg (qe_bin op_modP ok_mod (qe_bin op_mulT ok_mulT (qe_bin op_addA ok_add (qe_v 2) (qe_bin op_mulT ok_mulT (qe_bin op_modP ok_mod (qe_bin op_fdivW ok_fdiv (qe_v 0) (qe_int)) (qe_int)) (qe_bin op_addA ok_add (qe_v 1) (qe_int)))) (qe_int)) (qe_int)) (qg_name 2 sc_law_mixed.nd)) (qss_cons (qs_asg (qe_bin op_modP ok_mod (qe_bin op_mulT ok_mulT (qe_v 2) (qe_bin op_addA ok_add (qe_bin op_addA ok_add (qe_bin op_fdivW ok_fdiv (qe_v 2) (qe_int)) (qe_int)) (qe_v 1))) (qe_int)) (qg_name 2 sc_law_mixed.nd)) (qss_one (qs_ret (qe_bin op_modP ok_mod (qe_bin op_mulT ok_mulT (qe_v 2) (qe_bin op_addA ok_add (qe_bin op_fdivW ok_fdiv (qe_v 2) (qe_int)) (qe_int))) (qe_int))))))
set_option maxHeartbeats 4000000 in
theorem ok_law_source (T : Tx K mg A) : FnQ P w K mg base (errC A) 2 A.f_law_source A.fd_law_source ["_law_cell"] F_law_source := by
  refine fq_of T.F_law_source sc_law_source fun cdv A' outer s H E hr hgu => ?_
  exact qss_one (qs_ret (qe_lstO (qa_cons (qe_v 0) (qa_cons (qe_v 0) (qa_cons (qe_int) (qa_nil))))))
set_option maxHeartbeats 4000000 in
theorem ok_law_take (T : Tx K mg A) : FnQ P w K mg base (errC A) 3 A.f_law_take A.fd_law_take ["_law_source_here", "_law_bound"] F_law_take := by
  have c_law_mixed := ok_law_mixed (P := P) (w := w) (base := base) T
  refine fq_of T.F_law_take sc_law_take fun cdv A' outer s H E hr hgu => ?_
  exact qss_cons (qs_if (qt_cmp op_ge ok_ge (qe_ix ix_A ok_ix (qe_v 0) (qe_int)) (qe_bin op_pow ok_pow (qe_int) (qe_int)) rfl) (qss_cons (qs_asg (qe_bin op_modP ok_mod (qe_ix ix_A ok_ix (qe_v 0) (qe_int)) (qe_v 1)) (qg_name 2 sc_law_take.nd)) (qss_cons (qs_setI (qe_bin op_fdivW ok_fdiv (qe_ix ix_A ok_ix (qe_v 0) (qe_int)) (qe_v 1)) (qe_v 0) (qe_int)) (qss_one (qs_ret (qe_v 2))))) (qss_nil)) (qss_cons (qs_setI (qe_bin op_addA ok_add (qe_ix ix_A ok_ix (qe_v 0) (qe_int)) (qe_int)) (qe_v 0) (qe_int)) (qss_one (qs_ret (qe_bin op_modP ok_mod (qe_call c_law_mixed (hr.mono (by decide)) hgu (takes_of rfl rfl rfl rfl) rfl T.g_law_mixed T.F_law_mixed.kp T.b_law_mixed (qa_cons (qe_ix ix_A ok_ix (qe_v 0) (qe_int)) (qa_cons (qe_ix ix_A ok_ix (qe_v 0) (qe_int)) (qa_nil)))) (qe_v 1)))))
set_option maxHeartbeats 4000000 in
theorem ok_law_places (T : Tx K mg A) : FnQ P w K mg base (errC A) 2 A.f_law_places A.fd_law_places ["_law_one"] F_law_places := by
  refine fq_of T.F_law_places sc_law_places fun cdv A' outer s H E hr hgu => ?_
  exact qss_cons (qs_asg (qe_lst (qa_cons (qe_isX (num_c T) (exc_at T) (kit_InvalidCalendar T) rfl T.m_isinstance rfl T.gx_InvalidCalendar (qe_v 0)) (qa_cons (qe_isX (num_c T) (exc_at T) (kit_InvalidNumber T) rfl T.m_isinstance rfl T.gx_InvalidNumber (qe_v 0)) (qa_cons (qe_isX (num_c T) (exc_at T) (kit_InvalidHolidays T) rfl T.m_isinstance rfl T.gx_InvalidHolidays (qe_v 0)) (qa_nil))))) (qg_name 1 sc_law_places.nd)) (qss_cons (qs_asg (qe_bin op_addA ok_add (qe_v 1) (qe_lst (qa_cons (qe_isX (num_c T) (exc_at T) (kit_InvalidRow T) rfl T.m_isinstance rfl T.gx_InvalidRow (qe_v 0)) (qa_cons (qe_isX (num_c T) (exc_at T) (kit_InvalidPast T) rfl T.m_isinstance rfl T.gx_InvalidPast (qe_v 0)) (qa_cons (qe_isX (num_c T) (exc_at T) (kit_InvalidPlan T) rfl T.m_isinstance rfl T.gx_InvalidPlan (qe_v 0)) (qa_nil)))))) (qg_name 1 sc_law_places.nd)) (qss_cons (qs_asg (qe_bin op_addA ok_add (qe_v 1) (qe_lst (qa_cons (qe_isX (num_c T) (exc_at T) (kit_InvalidTest T) rfl T.m_isinstance rfl T.gx_InvalidTest (qe_v 0)) (qa_cons (qe_isX (num_c T) (exc_at T) (kit_InvalidStrategy T) rfl T.m_isinstance rfl T.gx_InvalidStrategy (qe_v 0)) (qa_cons (qe_isX (num_c T) (exc_at T) (kit_InvalidDays T) rfl T.m_isinstance rfl T.gx_InvalidDays (qe_v 0)) (qa_nil)))))) (qg_name 1 sc_law_places.nd)) (qss_cons (qs_asg (qe_bin op_addA ok_add (qe_v 1) (qe_lst (qa_cons (qe_isX (num_c T) (exc_at T) (kit_InvalidPrices T) rfl T.m_isinstance rfl T.gx_InvalidPrices (qe_v 0)) (qa_cons (qe_isX (num_c T) (exc_at T) (kit_InvalidWeights T) rfl T.m_isinstance rfl T.gx_InvalidWeights (qe_v 0)) (qa_cons (qe_isX (num_c T) (exc_at T) (kit_InvalidTable T) rfl T.m_isinstance rfl T.gx_InvalidTable (qe_v 0)) (qa_nil)))))) (qg_name 1 sc_law_places.nd)) (qss_cons (qs_asg (qe_bin op_addA ok_add (qe_v 1) (qe_lst (qa_cons (qe_isX (num_c T) (exc_at T) (kit_InvalidQueue T) rfl T.m_isinstance rfl T.gx_InvalidQueue (qe_v 0)) (qa_cons (qe_isX (num_c T) (exc_at T) (kit_InvalidStocks T) rfl T.m_isinstance rfl T.gx_InvalidStocks (qe_v 0)) (qa_cons (qe_isX (num_c T) (exc_at T) (kit_Impossible T) rfl T.m_isinstance rfl T.gx_Impossible (qe_v 0)) (qa_nil)))))) (qg_name 1 sc_law_places.nd)) (qss_cons (qs_asg (qe_bin op_addA ok_add (qe_v 1) (qe_lst (qa_cons (qe_isX (num_c T) (exc_at T) (kit_Mismatch T) rfl T.m_isinstance rfl T.gx_Mismatch (qe_v 0)) (qa_cons (qe_isX (num_c T) (exc_at T) (kit_Over T) rfl T.m_isinstance rfl T.gx_Over (qe_v 0)) (qa_cons (qe_isX (num_c T) (exc_at T) (kit_TooMany T) rfl T.m_isinstance rfl T.gx_TooMany (qe_v 0)) (qa_nil)))))) (qg_name 1 sc_law_places.nd)) (qss_one (qs_ret (qe_lc rfl sc_law_places.nd (qi_enum rfl T.m_enumerate (qe_bin op_addA ok_add (qe_v 1) (qe_lst (qa_cons (qe_isX (num_c T) (exc_at T) (kit_TooLarge T) rfl T.m_isinstance rfl T.gx_TooLarge (qe_v 0)) (qa_nil))))) (blkOk_by (N := ["_law_one", "_law_good", "_law_at", "_law_fit"]) (sc := defScope s_law_places) (own := [("_law_at", 2), ("_law_fit", 3)]) (by decide +kernel)) (fun _ _ _ _ _ => qg_tup rfl (qgs_cons (qg_name 2 sc_law_places.nd) (qgs_cons (qg_name 3 sc_law_places.nd) (qgs_nil))) (hlen := len_cons (len_cons (len_nil)))) (fun _ _ _ _ _ => qts_one (qt_val (qe_v 3))) (fun _ _ _ _ _ => qe_v 2)))))))))
set_option maxHeartbeats 4000000 in
theorem ok_law_stores (T : Tx K mg A) : FnQ P w K mg base (errC A) 3 A.f_law_stores A.fd_law_stores ["_law_one", "_law_place", "_law_stored", "_law_thing"] F_law_stores := by
  have c_law_places := ok_law_places (P := P) (w := w) (base := base) T
  refine fq_of T.F_law_stores sc_law_stores fun cdv A' outer s H E hr hgu => ?_
  exact qss_cons (qs_if (qt_of (qw_or (qt_cmp (op_neA hr.units) ok_neA (qe_call c_law_places (hr.mono (by decide)) hgu (takes_of rfl rfl rfl rfl) rfl T.g_law_places T.F_law_places.kp T.b_law_places (qa_cons (qe_v 0) (qa_nil))) (qe_lst (qa_cons (qe_v 1) (qa_nil))) rfl) (qw_or (qt_not (qt_val (qe_isX (num_c T) (exc_at T) (kit_BreakError T) rfl T.m_isinstance rfl T.gx_BreakError (qe_v 0)))) (qw_or1 (qt_not (qt_val (qe_isXB (num_c T) (exc_at T) (ve_at T) rfl T.m_isinstance rfl T.m_ValueError (by decide +kernel) (qe_v 0)))))))) (qss_one (qs_ret (qe_bl))) (qss_nil)) (qss_one (qs_ret (qe_and (qe_cmp (op_eqQQ hr.units) ok_eqQ (qe_callB (call_reprQ hgu hr.units) (.of1 ok_reprQ) rfl T.m_repr (by decide +kernel) (qa_cons (qe_v 2) (qa_nil))) (qe_callB (call_reprQ hgu hr.units) (.of1 ok_reprQ) rfl T.m_repr (by decide +kernel) (qa_cons (qe_v 3) (qa_nil))) rfl) (qe_one (qe_cmp (op_eqQQ hr.units) ok_eqQ (qe_v 2) (qe_v 3) rfl)))))
set_option maxHeartbeats 4000000 in
theorem ok_law_first_errors (T : Tx K mg A) : FnQ P w K mg base (errC A) 4 A.f_law_first_errors A.fd_law_first_errors ["_law_thing"] F_law_first_errors := by
  have c_law_stores := ok_law_stores (P := P) (w := w) (base := base) T
  refine fq_of T.F_law_first_errors sc_law_first_errors fun cdv A' outer s H E hr hgu => ?_
  exact qss_cons (qs_asg (qe_lst (qa_cons (qe_newX T.en_InvalidCalendar T.x_InvalidCalendar (mkX_InvalidCalendar T) (hr.mono (by decide)) rfl T.gx_InvalidCalendar (qe_v 0)) (qa_cons (qe_newXK T.en_InvalidCalendar T.x_InvalidCalendar T.kwx_InvalidCalendar (mkX_InvalidCalendar T) (hr.mono (by decide)) rfl T.gx_InvalidCalendar (qe_v 0)) (qa_nil)))) (qg_name 1 sc_law_first_errors.nd)) (qss_cons (qs_if (qt_not (qt_val (qe_callB (cr_all rfl) (.of1 ok_all) rfl T.m_all (by decide +kernel) (qa_cons (qe_lc rfl sc_law_first_errors.nd (qi_seq (qe_v 1)) (blkOk_by (N := ["_law_thing", "_law_pair", "_law_one"]) (sc := defScope s_law_first_errors) (own := [("_law_one", 2)]) (by decide +kernel)) (fun _ _ _ _ _ => qg_name 2 sc_law_first_errors.nd) (fun _ _ _ _ _ => qts_nil) (fun _ _ _ _ _ => qe_call c_law_stores (hr.mono (by decide)) hgu takes_no rfl T.g_law_stores T.F_law_stores.kp T.b_law_stores (qa_cons (qe_v 2) (qa_cons (qe_int) (qa_cons (qe_atX (num_c T) (xf_at T) (no_at T) (qe_v 2)) (qa_cons (qe_v 0) (qa_nil))))))) (qa_nil))))) (qss_one (qs_ret (qe_bl))) (qss_nil)) (qss_cons (qs_if (qt_not (qt_val (qe_callB (cr_all rfl) (.of1 ok_all) rfl T.m_all (by decide +kernel) (qa_cons (qe_lc rfl sc_law_first_errors.nd (qi_seq (qe_lst (qa_cons (qe_newX T.en_InvalidNumber T.x_InvalidNumber (mkX_InvalidNumber T) (hr.mono (by decide)) rfl T.gx_InvalidNumber (qe_v 0)) (qa_cons (qe_newXK T.en_InvalidNumber T.x_InvalidNumber T.kwx_InvalidNumber (mkX_InvalidNumber T) (hr.mono (by decide)) rfl T.gx_InvalidNumber (qe_v 0)) (qa_nil))))) (blkOk_by (N := ["_law_thing", "_law_pair", "_law_one"]) (sc := defScope s_law_first_errors) (own := [("_law_one", 2)]) (by decide +kernel)) (fun _ _ _ _ _ => qg_name 2 sc_law_first_errors.nd) (fun _ _ _ _ _ => qts_nil) (fun _ _ _ _ _ => qe_call c_law_stores (hr.mono (by decide)) hgu takes_no rfl T.g_law_stores T.F_law_stores.kp T.b_law_stores (qa_cons (qe_v 2) (qa_cons (qe_int) (qa_cons (qe_atX (num_c T) (xf_at T) (no_at T) (qe_v 2)) (qa_cons (qe_v 0) (qa_nil))))))) (qa_nil))))) (qss_one (qs_ret (qe_bl))) (qss_nil)) (qss_cons (qs_asg (qe_lst (qa_cons (qe_newX T.en_InvalidHolidays T.x_InvalidHolidays (mkX_InvalidHolidays T) (hr.mono (by decide)) rfl T.gx_InvalidHolidays (qe_v 0)) (qa_cons (qe_newXK T.en_InvalidHolidays T.x_InvalidHolidays T.kwx_InvalidHolidays (mkX_InvalidHolidays T) (hr.mono (by decide)) rfl T.gx_InvalidHolidays (qe_v 0)) (qa_nil)))) (qg_name 1 sc_law_first_errors.nd)) (qss_cons (qs_if (qt_not (qt_val (qe_callB (cr_all rfl) (.of1 ok_all) rfl T.m_all (by decide +kernel) (qa_cons (qe_lc rfl sc_law_first_errors.nd (qi_seq (qe_v 1)) (blkOk_by (N := ["_law_thing", "_law_pair", "_law_one"]) (sc := defScope s_law_first_errors) (own := [("_law_one", 2)]) (by decide +kernel)) (fun _ _ _ _ _ => qg_name 2 sc_law_first_errors.nd) (fun _ _ _ _ _ => qts_nil) (fun _ _ _ _ _ => qe_call c_law_stores (hr.mono (by decide)) hgu takes_no rfl T.g_law_stores T.F_law_stores.kp T.b_law_stores (qa_cons (qe_v 2) (qa_cons (qe_int) (qa_cons (qe_atX (num_c T) (xf_at T) (no_at T) (qe_v 2)) (qa_cons (qe_v 0) (qa_nil))))))) (qa_nil))))) (qss_one (qs_ret (qe_bl))) (qss_nil)) (qss_cons (qs_if (qt_not (qt_val (qe_callB (cr_all rfl) (.of1 ok_all) rfl T.m_all (by decide +kernel) (qa_cons (qe_lc rfl sc_law_first_errors.nd (qi_seq (qe_lst (qa_cons (qe_newX T.en_InvalidRow T.x_InvalidRow (mkX_InvalidRow T) (hr.mono (by decide)) rfl T.gx_InvalidRow (qe_v 0)) (qa_cons (qe_newXK T.en_InvalidRow T.x_InvalidRow T.kwx_InvalidRow (mkX_InvalidRow T) (hr.mono (by decide)) rfl T.gx_InvalidRow (qe_v 0)) (qa_nil))))) (blkOk_by (N := ["_law_thing", "_law_pair", "_law_one"]) (sc := defScope s_law_first_errors) (own := [("_law_one", 2)]) (by decide +kernel)) (fun _ _ _ _ _ => qg_name 2 sc_law_first_errors.nd) (fun _ _ _ _ _ => qts_nil) (fun _ _ _ _ _ => qe_call c_law_stores (hr.mono (by decide)) hgu takes_no rfl T.g_law_stores T.F_law_stores.kp T.b_law_stores (qa_cons (qe_v 2) (qa_cons (qe_int) (qa_cons (qe_atX (num_c T) (xf_at T) (no_at T) (qe_v 2)) (qa_cons (qe_v 0) (qa_nil))))))) (qa_nil))))) (qss_one (qs_ret (qe_bl))) (qss_nil)) (qss_cons (qs_if (qt_not (qt_val (qe_callB (cr_all rfl) (.of1 ok_all) rfl T.m_all (by decide +kernel) (qa_cons (qe_lc rfl sc_law_first_errors.nd (qi_seq (qe_lst (qa_cons (qe_newX T.en_InvalidPast T.x_InvalidPast (mkX_InvalidPast T) (hr.mono (by decide)) rfl T.gx_InvalidPast (qe_v 0)) (qa_cons (qe_newXK T.en_InvalidPast T.x_InvalidPast T.kwx_InvalidPast (mkX_InvalidPast T) (hr.mono (by decide)) rfl T.gx_InvalidPast (qe_v 0)) (qa_nil))))) (blkOk_by (N := ["_law_thing", "_law_pair", "_law_one"]) (sc := defScope s_law_first_errors) (own := [("_law_one", 2)]) (by decide +kernel)) (fun _ _ _ _ _ => qg_name 2 sc_law_first_errors.nd) (fun _ _ _ _ _ => qts_nil) (fun _ _ _ _ _ => qe_call c_law_stores (hr.mono (by decide)) hgu takes_no rfl T.g_law_stores T.F_law_stores.kp T.b_law_stores (qa_cons (qe_v 2) (qa_cons (qe_int) (qa_cons (qe_atX (num_c T) (xf_at T) (no_at T) (qe_v 2)) (qa_cons (qe_v 0) (qa_nil))))))) (qa_nil))))) (qss_one (qs_ret (qe_bl))) (qss_nil)) (qss_one (qs_ret (qe_callB (cr_all rfl) (.of1 ok_all) rfl T.m_all (by decide +kernel) (qa_cons (qe_lc rfl sc_law_first_errors.nd (qi_seq (qe_lst (qa_cons (qe_newX T.en_InvalidPlan T.x_InvalidPlan (mkX_InvalidPlan T) (hr.mono (by decide)) rfl T.gx_InvalidPlan (qe_v 0)) (qa_cons (qe_newXK T.en_InvalidPlan T.x_InvalidPlan T.kwx_InvalidPlan (mkX_InvalidPlan T) (hr.mono (by decide)) rfl T.gx_InvalidPlan (qe_v 0)) (qa_nil))))) (blkOk_by (N := ["_law_thing", "_law_pair", "_law_one"]) (sc := defScope s_law_first_errors) (own := [("_law_one", 2)]) (by decide +kernel)) (fun _ _ _ _ _ => qg_name 2 sc_law_first_errors.nd) (fun _ _ _ _ _ => qts_nil) (fun _ _ _ _ _ => qe_call c_law_stores (hr.mono (by decide)) hgu takes_no rfl T.g_law_stores T.F_law_stores.kp T.b_law_stores (qa_cons (qe_v 2) (qa_cons (qe_int) (qa_cons (qe_atX (num_c T) (xf_at T) (no_at T) (qe_v 2)) (qa_cons (qe_v 0) (qa_nil))))))) (qa_nil)))))))))))
set_option maxHeartbeats 4000000 in
theorem ok_law_middle_errors (T : Tx K mg A) : FnQ P w K mg base (errC A) 4 A.f_law_middle_errors A.fd_law_middle_errors ["_law_thing"] F_law_middle_errors := by
  have c_law_stores := ok_law_stores (P := P) (w := w) (base := base) T
  refine fq_of T.F_law_middle_errors sc_law_middle_errors fun cdv A' outer s H E hr hgu => ?_
  exact qss_cons (qs_if (qt_not (qt_val (qe_callB (cr_all rfl) (.of1 ok_all) rfl T.m_all (by decide +kernel) (qa_cons (qe_lc rfl sc_law_middle_errors.nd (qi_seq (qe_lst (qa_cons (qe_newX T.en_InvalidTest T.x_InvalidTest (mkX_InvalidTest T) (hr.mono (by decide)) rfl T.gx_InvalidTest (qe_v 0)) (qa_cons (qe_newXK T.en_InvalidTest T.x_InvalidTest T.kwx_InvalidTest (mkX_InvalidTest T) (hr.mono (by decide)) rfl T.gx_InvalidTest (qe_v 0)) (qa_nil))))) (blkOk_by (N := ["_law_thing", "_law_pair", "_law_one"]) (sc := defScope s_law_middle_errors) (own := [("_law_one", 2)]) (by decide +kernel)) (fun _ _ _ _ _ => qg_name 2 sc_law_middle_errors.nd) (fun _ _ _ _ _ => qts_nil) (fun _ _ _ _ _ => qe_call c_law_stores (hr.mono (by decide)) hgu takes_no rfl T.g_law_stores T.F_law_stores.kp T.b_law_stores (qa_cons (qe_v 2) (qa_cons (qe_int) (qa_cons (qe_atX (num_c T) (xf_at T) (no_at T) (qe_v 2)) (qa_cons (qe_v 0) (qa_nil))))))) (qa_nil))))) (qss_one (qs_ret (qe_bl))) (qss_nil)) (qss_cons (qs_asg (qe_lst (qa_cons (qe_newX T.en_InvalidStrategy T.x_InvalidStrategy (mkX_InvalidStrategy T) (hr.mono (by decide)) rfl T.gx_InvalidStrategy (qe_v 0)) (qa_cons (qe_newXK T.en_InvalidStrategy T.x_InvalidStrategy T.kwx_InvalidStrategy (mkX_InvalidStrategy T) (hr.mono (by decide)) rfl T.gx_InvalidStrategy (qe_v 0)) (qa_nil)))) (qg_name 1 sc_law_middle_errors.nd)) (qss_cons (qs_if (qt_not (qt_val (qe_callB (cr_all rfl) (.of1 ok_all) rfl T.m_all (by decide +kernel) (qa_cons (qe_lc rfl sc_law_middle_errors.nd (qi_seq (qe_v 1)) (blkOk_by (N := ["_law_thing", "_law_pair", "_law_one"]) (sc := defScope s_law_middle_errors) (own := [("_law_one", 2)]) (by decide +kernel)) (fun _ _ _ _ _ => qg_name 2 sc_law_middle_errors.nd) (fun _ _ _ _ _ => qts_nil) (fun _ _ _ _ _ => qe_call c_law_stores (hr.mono (by decide)) hgu takes_no rfl T.g_law_stores T.F_law_stores.kp T.b_law_stores (qa_cons (qe_v 2) (qa_cons (qe_int) (qa_cons (qe_atX (num_c T) (xf_at T) (no_at T) (qe_v 2)) (qa_cons (qe_v 0) (qa_nil))))))) (qa_nil))))) (qss_one (qs_ret (qe_bl))) (qss_nil)) (qss_cons (qs_if (qt_not (qt_val (qe_callB (cr_all rfl) (.of1 ok_all) rfl T.m_all (by decide +kernel) (qa_cons (qe_lc rfl sc_law_middle_errors.nd (qi_seq (qe_lst (qa_cons (qe_newX T.en_InvalidDays T.x_InvalidDays (mkX_InvalidDays T) (hr.mono (by decide)) rfl T.gx_InvalidDays (qe_v 0)) (qa_cons (qe_newXK T.en_InvalidDays T.x_InvalidDays T.kwx_InvalidDays (mkX_InvalidDays T) (hr.mono (by decide)) rfl T.gx_InvalidDays (qe_v 0)) (qa_nil))))) (blkOk_by (N := ["_law_thing", "_law_pair", "_law_one"]) (sc := defScope s_law_middle_errors) (own := [("_law_one", 2)]) (by decide +kernel)) (fun _ _ _ _ _ => qg_name 2 sc_law_middle_errors.nd) (fun _ _ _ _ _ => qts_nil) (fun _ _ _ _ _ => qe_call c_law_stores (hr.mono (by decide)) hgu takes_no rfl T.g_law_stores T.F_law_stores.kp T.b_law_stores (qa_cons (qe_v 2) (qa_cons (qe_int) (qa_cons (qe_atX (num_c T) (xf_at T) (no_at T) (qe_v 2)) (qa_cons (qe_v 0) (qa_nil))))))) (qa_nil))))) (qss_one (qs_ret (qe_bl))) (qss_nil)) (qss_cons (qs_asg (qe_lst (qa_cons (qe_newX T.en_InvalidPrices T.x_InvalidPrices (mkX_InvalidPrices T) (hr.mono (by decide)) rfl T.gx_InvalidPrices (qe_v 0)) (qa_cons (qe_newXK T.en_InvalidPrices T.x_InvalidPrices T.kwx_InvalidPrices (mkX_InvalidPrices T) (hr.mono (by decide)) rfl T.gx_InvalidPrices (qe_v 0)) (qa_nil)))) (qg_name 1 sc_law_middle_errors.nd)) (qss_cons (qs_if (qt_not (qt_val (qe_callB (cr_all rfl) (.of1 ok_all) rfl T.m_all (by decide +kernel) (qa_cons (qe_lc rfl sc_law_middle_errors.nd (qi_seq (qe_v 1)) (blkOk_by (N := ["_law_thing", "_law_pair", "_law_one"]) (sc := defScope s_law_middle_errors) (own := [("_law_one", 2)]) (by decide +kernel)) (fun _ _ _ _ _ => qg_name 2 sc_law_middle_errors.nd) (fun _ _ _ _ _ => qts_nil) (fun _ _ _ _ _ => qe_call c_law_stores (hr.mono (by decide)) hgu takes_no rfl T.g_law_stores T.F_law_stores.kp T.b_law_stores (qa_cons (qe_v 2) (qa_cons (qe_int) (qa_cons (qe_atX (num_c T) (xf_at T) (no_at T) (qe_v 2)) (qa_cons (qe_v 0) (qa_nil))))))) (qa_nil))))) (qss_one (qs_ret (qe_bl))) (qss_nil)) (qss_cons (qs_asg (qe_lst (qa_cons (qe_newX T.en_InvalidWeights T.x_InvalidWeights (mkX_InvalidWeights T) (hr.mono (by decide)) rfl T.gx_InvalidWeights (qe_v 0)) (qa_cons (qe_newXK T.en_InvalidWeights T.x_InvalidWeights T.kwx_InvalidWeights (mkX_InvalidWeights T) (hr.mono (by decide)) rfl T.gx_InvalidWeights (qe_v 0)) (qa_nil)))) (qg_name 1 sc_law_middle_errors.nd)) (qss_cons (qs_if (qt_not (qt_val (qe_callB (cr_all rfl) (.of1 ok_all) rfl T.m_all (by decide +kernel) (qa_cons (qe_lc rfl sc_law_middle_errors.nd (qi_seq (qe_v 1)) (blkOk_by (N := ["_law_thing", "_law_pair", "_law_one"]) (sc := defScope s_law_middle_errors) (own := [("_law_one", 2)]) (by decide +kernel)) (fun _ _ _ _ _ => qg_name 2 sc_law_middle_errors.nd) (fun _ _ _ _ _ => qts_nil) (fun _ _ _ _ _ => qe_call c_law_stores (hr.mono (by decide)) hgu takes_no rfl T.g_law_stores T.F_law_stores.kp T.b_law_stores (qa_cons (qe_v 2) (qa_cons (qe_int) (qa_cons (qe_atX (num_c T) (xf_at T) (no_at T) (qe_v 2)) (qa_cons (qe_v 0) (qa_nil))))))) (qa_nil))))) (qss_one (qs_ret (qe_bl))) (qss_nil)) (qss_cons (qs_if (qt_not (qt_val (qe_callB (cr_all rfl) (.of1 ok_all) rfl T.m_all (by decide +kernel) (qa_cons (qe_lc rfl sc_law_middle_errors.nd (qi_seq (qe_lst (qa_cons (qe_newX T.en_InvalidTable T.x_InvalidTable (mkX_InvalidTable T) (hr.mono (by decide)) rfl T.gx_InvalidTable (qe_v 0)) (qa_cons (qe_newXK T.en_InvalidTable T.x_InvalidTable T.kwx_InvalidTable (mkX_InvalidTable T) (hr.mono (by decide)) rfl T.gx_InvalidTable (qe_v 0)) (qa_nil))))) (blkOk_by (N := ["_law_thing", "_law_pair", "_law_one"]) (sc := defScope s_law_middle_errors) (own := [("_law_one", 2)]) (by decide +kernel)) (fun _ _ _ _ _ => qg_name 2 sc_law_middle_errors.nd) (fun _ _ _ _ _ => qts_nil) (fun _ _ _ _ _ => qe_call c_law_stores (hr.mono (by decide)) hgu takes_no rfl T.g_law_stores T.F_law_stores.kp T.b_law_stores (qa_cons (qe_v 2) (qa_cons (qe_int) (qa_cons (qe_atX (num_c T) (xf_at T) (no_at T) (qe_v 2)) (qa_cons (qe_v 0) (qa_nil))))))) (qa_nil))))) (qss_one (qs_ret (qe_bl))) (qss_nil)) (qss_one (qs_ret (qe_callB (cr_all rfl) (.of1 ok_all) rfl T.m_all (by decide +kernel) (qa_cons (qe_lc rfl sc_law_middle_errors.nd (qi_seq (qe_lst (qa_cons (qe_newX T.en_InvalidQueue T.x_InvalidQueue (mkX_InvalidQueue T) (hr.mono (by decide)) rfl T.gx_InvalidQueue (qe_v 0)) (qa_cons (qe_newXK T.en_InvalidQueue T.x_InvalidQueue T.kwx_InvalidQueue (mkX_InvalidQueue T) (hr.mono (by decide)) rfl T.gx_InvalidQueue (qe_v 0)) (qa_nil))))) (blkOk_by (N := ["_law_thing", "_law_pair", "_law_one"]) (sc := defScope s_law_middle_errors) (own := [("_law_one", 2)]) (by decide +kernel)) (fun _ _ _ _ _ => qg_name 2 sc_law_middle_errors.nd) (fun _ _ _ _ _ => qts_nil) (fun _ _ _ _ _ => qe_call c_law_stores (hr.mono (by decide)) hgu takes_no rfl T.g_law_stores T.F_law_stores.kp T.b_law_stores (qa_cons (qe_v 2) (qa_cons (qe_int) (qa_cons (qe_atX (num_c T) (xf_at T) (no_at T) (qe_v 2)) (qa_cons (qe_v 0) (qa_nil))))))) (qa_nil)))))))))))))
set_option maxHeartbeats 4000000 in
theorem ok_law_last_errors (T : Tx K mg A) : FnQ P w K mg base (errC A) 4 A.f_law_last_errors A.fd_law_last_errors ["_law_thing"] F_law_last_errors := by
  have c_law_stores := ok_law_stores (P := P) (w := w) (base := base) T
  refine fq_of T.F_law_last_errors sc_law_last_errors fun cdv A' outer s H E hr hgu => ?_
  exact qss_cons (qs_asg (qe_lst (qa_cons (qe_newX T.en_InvalidStocks T.x_InvalidStocks (mkX_InvalidStocks T) (hr.mono (by decide)) rfl T.gx_InvalidStocks (qe_v 0)) (qa_cons (qe_newXK T.en_InvalidStocks T.x_InvalidStocks T.kwx_InvalidStocks (mkX_InvalidStocks T) (hr.mono (by decide)) rfl T.gx_InvalidStocks (qe_v 0)) (qa_nil)))) (qg_name 1 sc_law_last_errors.nd)) (qss_cons (qs_if (qt_not (qt_val (qe_callB (cr_all rfl) (.of1 ok_all) rfl T.m_all (by decide +kernel) (qa_cons (qe_lc rfl sc_law_last_errors.nd (qi_seq (qe_v 1)) (blkOk_by (N := ["_law_thing", "_law_pair", "_law_one"]) (sc := defScope s_law_last_errors) (own := [("_law_one", 2)]) (by decide +kernel)) (fun _ _ _ _ _ => qg_name 2 sc_law_last_errors.nd) (fun _ _ _ _ _ => qts_nil) (fun _ _ _ _ _ => qe_call c_law_stores (hr.mono (by decide)) hgu takes_no rfl T.g_law_stores T.F_law_stores.kp T.b_law_stores (qa_cons (qe_v 2) (qa_cons (qe_int) (qa_cons (qe_atX (num_c T) (xf_at T) (no_at T) (qe_v 2)) (qa_cons (qe_v 0) (qa_nil))))))) (qa_nil))))) (qss_one (qs_ret (qe_bl))) (qss_nil)) (qss_cons (qs_if (qt_not (qt_val (qe_callB (cr_all rfl) (.of1 ok_all) rfl T.m_all (by decide +kernel) (qa_cons (qe_lc rfl sc_law_last_errors.nd (qi_seq (qe_lst (qa_cons (qe_newX T.en_Impossible T.x_Impossible (mkX_Impossible T) (hr.mono (by decide)) rfl T.gx_Impossible (qe_v 0)) (qa_cons (qe_newXK T.en_Impossible T.x_Impossible T.kwx_Impossible (mkX_Impossible T) (hr.mono (by decide)) rfl T.gx_Impossible (qe_v 0)) (qa_nil))))) (blkOk_by (N := ["_law_thing", "_law_pair", "_law_one"]) (sc := defScope s_law_last_errors) (own := [("_law_one", 2)]) (by decide +kernel)) (fun _ _ _ _ _ => qg_name 2 sc_law_last_errors.nd) (fun _ _ _ _ _ => qts_nil) (fun _ _ _ _ _ => qe_call c_law_stores (hr.mono (by decide)) hgu takes_no rfl T.g_law_stores T.F_law_stores.kp T.b_law_stores (qa_cons (qe_v 2) (qa_cons (qe_int) (qa_cons (qe_atX (num_c T) (xf_at T) (no_at T) (qe_v 2)) (qa_cons (qe_v 0) (qa_nil))))))) (qa_nil))))) (qss_one (qs_ret (qe_bl))) (qss_nil)) (qss_cons (qs_if (qt_not (qt_val (qe_callB (cr_all rfl) (.of1 ok_all) rfl T.m_all (by decide +kernel) (qa_cons (qe_lc rfl sc_law_last_errors.nd (qi_seq (qe_lst (qa_cons (qe_newX T.en_Mismatch T.x_Mismatch (mkX_Mismatch T) (hr.mono (by decide)) rfl T.gx_Mismatch (qe_v 0)) (qa_cons (qe_newXK T.en_Mismatch T.x_Mismatch T.kwx_Mismatch (mkX_Mismatch T) (hr.mono (by decide)) rfl T.gx_Mismatch (qe_v 0)) (qa_nil))))) (blkOk_by (N := ["_law_thing", "_law_pair", "_law_one"]) (sc := defScope s_law_last_errors) (own := [("_law_one", 2)]) (by decide +kernel)) (fun _ _ _ _ _ => qg_name 2 sc_law_last_errors.nd) (fun _ _ _ _ _ => qts_nil) (fun _ _ _ _ _ => qe_call c_law_stores (hr.mono (by decide)) hgu takes_no rfl T.g_law_stores T.F_law_stores.kp T.b_law_stores (qa_cons (qe_v 2) (qa_cons (qe_int) (qa_cons (qe_atX (num_c T) (xf_at T) (no_at T) (qe_v 2)) (qa_cons (qe_v 0) (qa_nil))))))) (qa_nil))))) (qss_one (qs_ret (qe_bl))) (qss_nil)) (qss_cons (qs_if (qt_not (qt_val (qe_callB (cr_all rfl) (.of1 ok_all) rfl T.m_all (by decide +kernel) (qa_cons (qe_lc rfl sc_law_last_errors.nd (qi_seq (qe_lst (qa_cons (qe_newX T.en_Over T.x_Over (mkX_Over T) (hr.mono (by decide)) rfl T.gx_Over (qe_v 0)) (qa_cons (qe_newXK T.en_Over T.x_Over T.kwx_Over (mkX_Over T) (hr.mono (by decide)) rfl T.gx_Over (qe_v 0)) (qa_nil))))) (blkOk_by (N := ["_law_thing", "_law_pair", "_law_one"]) (sc := defScope s_law_last_errors) (own := [("_law_one", 2)]) (by decide +kernel)) (fun _ _ _ _ _ => qg_name 2 sc_law_last_errors.nd) (fun _ _ _ _ _ => qts_nil) (fun _ _ _ _ _ => qe_call c_law_stores (hr.mono (by decide)) hgu takes_no rfl T.g_law_stores T.F_law_stores.kp T.b_law_stores (qa_cons (qe_v 2) (qa_cons (qe_int) (qa_cons (qe_atX (num_c T) (xf_at T) (no_at T) (qe_v 2)) (qa_cons (qe_v 0) (qa_nil))))))) (qa_nil))))) (qss_one (qs_ret (qe_bl))) (qss_nil)) (qss_cons (qs_if (qt_not (qt_val (qe_callB (cr_all rfl) (.of1 ok_all) rfl T.m_all (by decide +kernel) (qa_cons (qe_lc rfl sc_law_last_errors.nd (qi_seq (qe_lst (qa_cons (qe_newX T.en_TooMany T.x_TooMany (mkX_TooMany T) (hr.mono (by decide)) rfl T.gx_TooMany (qe_v 0)) (qa_cons (qe_newXK T.en_TooMany T.x_TooMany T.kwx_TooMany (mkX_TooMany T) (hr.mono (by decide)) rfl T.gx_TooMany (qe_v 0)) (qa_nil))))) (blkOk_by (N := ["_law_thing", "_law_pair", "_law_one"]) (sc := defScope s_law_last_errors) (own := [("_law_one", 2)]) (by decide +kernel)) (fun _ _ _ _ _ => qg_name 2 sc_law_last_errors.nd) (fun _ _ _ _ _ => qts_nil) (fun _ _ _ _ _ => qe_call c_law_stores (hr.mono (by decide)) hgu takes_no rfl T.g_law_stores T.F_law_stores.kp T.b_law_stores (qa_cons (qe_v 2) (qa_cons (qe_int) (qa_cons (qe_atX (num_c T) (xf_at T) (no_at T) (qe_v 2)) (qa_cons (qe_v 0) (qa_nil))))))) (qa_nil))))) (qss_one (qs_ret (qe_bl))) (qss_nil)) (qss_one (qs_ret (qe_callB (cr_all rfl) (.of1 ok_all) rfl T.m_all (by decide +kernel) (qa_cons (qe_lc rfl sc_law_last_errors.nd (qi_seq (qe_lst (qa_cons (qe_newX T.en_TooLarge T.x_TooLarge (mkX_TooLarge T) (hr.mono (by decide)) rfl T.gx_TooLarge (qe_v 0)) (qa_cons (qe_newXK T.en_TooLarge T.x_TooLarge T.kwx_TooLarge (mkX_TooLarge T) (hr.mono (by decide)) rfl T.gx_TooLarge (qe_v 0)) (qa_nil))))) (blkOk_by (N := ["_law_thing", "_law_pair", "_law_one"]) (sc := defScope s_law_last_errors) (own := [("_law_one", 2)]) (by decide +kernel)) (fun _ _ _ _ _ => qg_name 2 sc_law_last_errors.nd) (fun _ _ _ _ _ => qts_nil) (fun _ _ _ _ _ => qe_call c_law_stores (hr.mono (by decide)) hgu takes_no rfl T.g_law_stores T.F_law_stores.kp T.b_law_stores (qa_cons (qe_v 2) (qa_cons (qe_int) (qa_cons (qe_atX (num_c T) (xf_at T) (no_at T) (qe_v 2)) (qa_cons (qe_v 0) (qa_nil))))))) (qa_nil))))))))))
set_option maxHeartbeats 4000000 in
theorem ok_law (T : Tx K mg A) : FnQ P w K mg base (errC A) 5 A.f_law A.fd_law ["_law_script"] F_law := by
  have c_law_first_errors := ok_law_first_errors (P := P) (w := w) (base := base) T
  have c_law_last_errors := ok_law_last_errors (P := P) (w := w) (base := base) T
  have c_law_middle_errors := ok_law_middle_errors (P := P) (w := w) (base := base) T
  have c_law_source := ok_law_source (P := P) (w := w) (base := base) T
  have c_law_take := ok_law_take (P := P) (w := w) (base := base) T
  refine fq_of T.F_law sc_law fun cdv A' outer s H E hr hgu => ?_
  exact qss_cons (qs_forget [1, 2, 3, 4, 5, 6] (qs_pre [1, 2, 3, 4, 5, 6] (qs_for (passes_of rfl) rfl (qi_seq (qe_slice (qe_bin op_addA ok_add (qe_v 0) (qe_lst (qa_cons (qe_int) (qa_nil)))) (qo_none) (qo_some (qe_int)))) (qg_name 1 sc_law.nd) (qss_scope (qss_cons (qs_asg (qe_call c_law_source (hr.mono (by decide)) hgu (takes_of rfl rfl rfl rfl) rfl T.g_law_source T.F_law_source.kp T.b_law_source (qa_cons (qe_v 1) (qa_nil))) (qg_name 2 sc_law.nd)) (qss_cons (qs_asg (qe_bin op_sub ok_sub (qe_bin op_modP ok_mod (qe_v 1) (qe_bin op_addA ok_add (qe_bin op_mulT ok_mulT (qe_int) (qe_bin op_pow ok_pow (qe_int) (qe_int))) (qe_int))) (qe_bin op_pow ok_pow (qe_int) (qe_int))) (qg_name 3 sc_law.nd)) (qss_cons (qs_asg (qe_lst (qa_cons (qe_v 3) (qa_cons (qe_str) (qa_cons (qe_str) (qa_cons (qe_non) (qa_cons (qe_bl) (qa_cons (qe_tup (qa_cons (qe_int) (qa_cons (qe_int) (qa_nil)))) (qa_cons (qe_lst (qa_cons (qe_v 3) (qa_nil))) (qa_cons (qe_dcxS (qe_int)) (qa_cons (qe_tup (qa_cons (qe_tup (qa_cons (qe_int) (qa_cons (qe_int) (qa_nil)))) (qa_cons (qe_int) (qa_nil)))) (qa_cons (qe_un un_neg ok_neg (qe_int)) (qa_cons (qe_bin op_pow ok_pow (qe_int) (qe_int)) (qa_cons (qe_dct0) (qa_nil)))))))))))))) (qg_name 4 sc_law.nd)) (qss_one (qs_forget [1, 2, 3, 4, 5, 6] (qs_forget [5, 6] (qs_pre [5, 6] (qs_for (passes_of rfl) rfl (qi_rng1 rfl T.m_range (qa_cons (qe_int) (qa_nil))) (qg_name 5 sc_law.nd) (qss_cons (qs_asg (qe_ix ix_A ok_ix (qe_v 4) (qe_call c_law_take (hr.mono (by decide)) hgu (takes_of rfl rfl rfl rfl) rfl T.g_law_take T.F_law_take.kp T.b_law_take (qa_cons (qe_v 2) (qa_cons (qe_int) (qa_nil))))) (qg_name 6 sc_law.nd)) (qss_one (qs_forget [5, 6] (qs_if (qt_of (qw_or (qt_not (qt_val (qe_call c_law_first_errors (hr.mono (by decide)) hgu (takes_of rfl rfl rfl rfl) rfl T.g_law_first_errors T.F_law_first_errors.kp T.b_law_first_errors (qa_cons (qe_v 6) (qa_nil))))) (qw_or (qt_not (qt_val (qe_call c_law_middle_errors (hr.mono (by decide)) hgu (takes_of rfl rfl rfl rfl) rfl T.g_law_middle_errors T.F_law_middle_errors.kp T.b_law_middle_errors (qa_cons (qe_v 6) (qa_nil))))) (qw_or1 (qt_not (qt_val (qe_call c_law_last_errors (hr.mono (by decide)) hgu (takes_of rfl rfl rfl rfl) rfl T.g_law_last_errors T.F_law_last_errors.kp T.b_law_last_errors (qa_cons (qe_v 6) (qa_nil))))))))) (qss_one (qs_ret (qe_bl))) (qss_nil))))))))))))))))) (qss_one (qs_ret (qe_bl)))
end
end My

set_option Elab.async false
set_option linter.all false
set_option maxRecDepth 100000
set_option maxHeartbeats 4000000
namespace My
open PySem PySem.Spec PyProof.Rows L2 Bk
/-! ### the law's draws -/
def mixI (b c : Int) : Int :=
  let f := (b % 2147483646 + 1) * (c * 7919 + 104729) % 2147483647
  let f := (f + b / 2147483646 % 1000003 * (c + 31)) * 48271 % 2147483629
  let f := f * (f / 1013 + 69621 + c) % 2147483587
  f * (f / 2003 + 40692) % 2147483563
theorem fd_small {i j : Int} (h0 : 0 < j) (h : j < 2 ^ 62) : fdivOk i j = true := by
  have a : j.natAbs < 2 ^ 62 := by omega
  have b : j.natAbs.log2 < 62 := by
    by_cases z : j.natAbs = 0
    · omega
    · exact (Nat.log2_lt z).mpr a
  simp [fdivOk, h0]
  omega
theorem m_mixed (b c : Int) : F_law_mixed [.int b, .int c] [] = .ok (.int (mixI b c)) [] := by
  have r1 : ∀ x : Int, mulOk x 7919 = true := fun x => mulOk_r x (by decide) (by decide)
  have r2 : ∀ x : Int, mulOk x 48271 = true := fun x => mulOk_r x (by decide) (by decide)
  have r3 : ∀ x y : Int, mulOk (x % 2147483646 + 1) y = true := fun x y => mulOk_m1 x y (by decide) (by decide)
  have r4 : ∀ x y : Int, mulOk (x % 1000003) y = true := fun x y => mulOk_m x y (by decide) (by decide)
  have r5 : ∀ x y : Int, mulOk (x % 2147483629) y = true := fun x y => mulOk_m x y (by decide) (by decide)
  have r6 : ∀ x y : Int, mulOk (x % 2147483587) y = true := fun x y => mulOk_m x y (by decide) (by decide)
  have d1 : ∀ x : Int, fdivOk x 2147483646 = true := fun x => fd_small (by decide) (by decide)
  have d2 : ∀ x : Int, fdivOk x 1013 = true := fun x => fd_small (by decide) (by decide)
  have d3 : ∀ x : Int, fdivOk x 2003 = true := fun x => fd_small (by decide) (by decide)
  simp [F_law_mixed, b_law_mixed, runF, e_mul, r1, r2, r3, r4, r5, r6, d1, d2, d3, fin, cutOk, retR, below]
  rfl
theorem m_source (v : Int) : F_law_source [.int v] [] = .ok (.ref 0) [.lst [.int v, .int v, .int 0]] := by
  simp [F_law_source, b_law_source, runF, fin, cutOk, retR, belows, below]
/-- a source: what is left of the number, the number, how often it was drawn anew -/
abbrev Src3 := Int × Int × Int
def srcO (s : Src3) : MO := .lst [.int s.1, .int s.2.1, .int s.2.2]
@[simp] theorem srcO_bl (m : Nat) (s : Src3) : belowO m (srcO s) = true := rfl
def tk (s : Src3) (n : Int) : Int := if 1000000000000000000 ≤ s.1 then s.1 % n else mixI s.2.1 (s.2.2 + 1) % n
def tn (s : Src3) (n : Int) : Src3 := if 1000000000000000000 ≤ s.1 then (s.1 / n, s.2.1, s.2.2) else (s.1, s.2.1, s.2.2 + 1)
theorem m_take (s : Src3) {n : Int} (h0 : 0 < n) (h : n < 2 ^ 62) : F_law_take [.ref 0, .int n] [srcO s] = .ok (.int (tk s n)) [srcO (tn s n)] := by
  have d := fun i => fd_small (i := i) h0 h
  have p : powOk 10 18 = true := by decide
  have c : callF F_law_mixed [.int s.2.1, .int (s.2.2 + 1)] [.lst [.int s.1, .int s.2.1, .int (s.2.2 + 1)]] = .ok (.int (mixI s.2.1 (s.2.2 + 1))) [.lst [.int s.1, .int s.2.1, .int (s.2.2 + 1)]] := by
    simp [callF, lendK, getAll, flatArgs, below, lentOk, lendA, m_mixed, backD, setAll]
  have e : (10 : Int) ^ (18 : Int).toNat = 10 ^ 18 := rfl
  simp only [tk, tn]
  by_cases q : (1000000000000000000 : Int) ≤ s.1
  · simp [F_law_take, b_law_take, runF, srcO, listD, setR, ixN, p, d, h0, fin, cutOk, retR, below, belowO, belows, q, e]
  · simp [F_law_take, b_law_take, runF, srcO, listD, setR, ixN, p, d, h0, fin, cutOk, retR, below, belowO, belows, q, c, e]
theorem tk_lo (s : Src3) {n : Int} (h : 0 < n) : 0 ≤ tk s n := by
  unfold tk
  split <;> exact Int.emod_nonneg _ (by omega)
theorem tk_hi (s : Src3) {n : Int} (h : 0 < n) : tk s n < n := by
  unfold tk
  split <;> exact Int.emod_lt_of_pos _ h
/-- a draw from a source that is ours -/
theorem c_take {k : Nat} {M : List MO} {s : Src3} {n : Int} (hk : M[k]? = some (srcO s)) (h0 : 0 < n) (h : n < 2 ^ 62) : callF F_law_take [.ref k, .int n] M = .ok (.int (tk s n)) (M.set k (srcO (tn s n))) := by
  have e : lentOk [srcO s] = true := rfl
  have e2 : ∀ t : Src3, belowO 0 (srcO t) = true := fun t => rfl
  simp [callF, lendK, getAll, flatArgs, below, hk, e, e2, lendA, m_take s h0 h, backD, setAll]
theorem c_source (v : Int) (M : List MO) : callF F_law_source [.int v] M = .ok (.ref M.length) (M ++ [srcO (v, v, 0)]) := by
  simp [callF, lendK, getAll, flatArgs, below, lentOk, lendA, m_source, backD, setAll, srcO, belowO, belows]
end My

set_option Elab.async false
set_option linter.all false
set_option maxRecDepth 100000
set_option maxHeartbeats 8000000
namespace My
open PySem PySem.Spec PyProof.Rows L2 Bk
/-! ### each error as a value -/
def bls (j : Nat) : List Bool := [decide (j = 0), decide (j = 3), decide (j = 1), decide (j = 4), decide (j = 5), decide (j = 2), decide (j = 10), decide (j = 6), decide (j = 11), decide (j = 7), decide (j = 8), decide (j = 12), decide (j = 9), decide (j = 13), decide (j = 15), decide (j = 16), decide (j = 17), decide (j = 18), decide (j = 14)]
def trues : Int → List Bool → List Int
  | _, [] => []
  | k, b :: bs => if b = true then k :: trues (k + 1) bs else trues (k + 1) bs
def posX : Nat → Int
  | 0 => 0 | 1 => 2 | 2 => 5 | 3 => 1 | 4 => 3 | 5 => 4 | 6 => 7 | 7 => 9 | 8 => 10 | 9 => 12 | 10 => 6 | 11 => 8 | 12 => 11 | 13 => 13 | 14 => 18 | 15 => 14 | 16 => 15 | 17 => 16 | _ => 17
theorem trues_pos : ∀ j, j < 19 → trues 0 (bls j) = [posX j] := by decide
theorem trues_loop (o1 o2 : Option D) : ∀ (bs : List Bool) (k : Int) (acc : List D), acc.length + bs.length ≤ sizeLine →
    gLcL (gToT (gToCons (gTo 2) (gToCons (gTo 3) gToNil))) (gVal (gV 3)) (gV 2) [o1, o2, none, none] (enumL k (bs.map D.bl)) acc [] = .ok (acc ++ (trues k bs).map D.int) []
  | [], k, acc, _ => by simp [gLcL, enumL, trues]
  | b :: bs, k, acc, h => by
    simp only [List.length_cons] at h
    have ih := trues_loop o1 o2 bs (k + 1)
    have q : acc.length < sizeLine := by omega
    cases b with
    | false =>
      have := ih acc (by omega)
      simp [gLcL, enumL, trues, this]
    | true =>
      have := ih (acc ++ [.int k]) (by simp; omega)
      simp [gLcL, enumL, trues, q, this]
theorem pl_any {nm f : Str} {j : Nat} (hn : numX nm = some j) (hj : j < 19) (d : D) (hb : below 0 d = true) (M : List MO) : callF F_law_places [.exn nm f d] M = .ok (.lst [.int (posX j)]) M := by
  have sz : 100 ≤ sizeLine := by rw [sizeLine_eq]; omega
  have ad : ∀ (xs ys : List D), xs.length + ys.length ≤ 100 → dAdd [] (.lst xs) (.lst ys) = some (.lst (xs ++ ys)) := fun xs ys h => by rw [e_addL, if_pos (by omega)]
  have i0 : ∀ (b : Nat → Bool) (o1 o2 o3 : Option D), gIsX numX b (gV 0) [some (.exn nm f d), o1, o2, o3] [] = .ok (.bl (b j)) [] := fun b o1 o2 o3 => by simp [hn]
  have lp := fun o1 o2 => trues_loop o1 o2 (bls j) 0 [] (by show 0 + 19 ≤ sizeLine; omega)
  rw [trues_pos j hj] at lp
  simp only [bls, List.map_cons, List.map_nil, List.nil_append] at lp
  refine c_flat (F := F_law_places) ?_ M (by simp [belows, below, hb]) (by simp [belows, below])
  simp [-u_gIsX, -e_addL, F_law_places, b_law_places, runF, i0, ad, hb, lp, belows, below]
/-- what can be shown and compared -/
structure Gd (d : D) : Prop where
  bl : below 0 d = true
  rp : ∃ t, ∀ M, dReprQ M d = some (.str t)
  eq : ∀ M, dEqQ M d d = some (.bl true)
theorem st_any {nm f : Str} {j : Nat} (hn : numX nm = some j) (hj : j < 19) {d : D} (g : Gd d) {k : Int} (hk : posX j = k) (M : List MO) : callF F_law_stores [.exn nm f d, .int k, d, d] M = .ok (.bl true) M := by
  have sz : 100 ≤ sizeLine := by rw [sizeLine_eq]; omega
  have hb := g.bl
  obtain ⟨t, rp⟩ := g.rp
  have e1 := pl_any (f := f) hn hj d hb
  have e2 := g.eq
  have e3 : ∀ M, dEqQ M (.str t) (.str t) = some (.bl true) := fun M => by
    unfold dEqQ
    simp
  have ne : ∀ M, dNeA M (.lst [.int k]) (.lst [.int k]) = some (.bl false) := fun M => by
    have h : Dt 1 (.lst ([k].map D.int)) (.list ([k].map PyData.int)) := (Dts.ints 0 [k]).lst
    exact dNeA_p (b := true) (eqP_same h h.deref h.deref (by decide)) (fun _ h => by cases h)
  rw [hk] at e1
  refine c_flat (F := F_law_stores) ?_ M (by simp [belows, below, hb]) (by simp [belows, below])
  simp [F_law_stores, b_law_stores, runF, e1, ne, hn, rp, e2, e3, show 1 ≤ sizeLine by omega]
theorem first_ok {d : D} (g : Gd d) (M : List MO) : callF F_law_first_errors [d] M = .ok (.bl true) M := by
  have sz : 100 ≤ sizeLine := by rw [sizeLine_eq]; omega
  have hb := g.bl
  have s0 := st_any (nm := "InvalidCalendar") (f := "index") (num_InvalidCalendar) (by decide) g (k := 0) rfl
  have s1 := st_any (nm := "InvalidNumber") (f := "name") (num_InvalidNumber) (by decide) g (k := 1) rfl
  have s2 := st_any (nm := "InvalidHolidays") (f := "index") (num_InvalidHolidays) (by decide) g (k := 2) rfl
  have s3 := st_any (nm := "InvalidRow") (f := "index") (num_InvalidRow) (by decide) g (k := 3) rfl
  have s4 := st_any (nm := "InvalidPast") (f := "day") (num_InvalidPast) (by decide) g (k := 4) rfl
  have s5 := st_any (nm := "InvalidPlan") (f := "index") (num_InvalidPlan) (by decide) g (k := 5) rfl
  have al : ∀ M, dAll M (.lst [.bl true, .bl true]) = some (.bl true) := fun M => rfl
  refine c_flat (F := F_law_first_errors) ?_ M (by simp [belows, below, hb]) (by simp [belows, below])
  simp [F_law_first_errors, b_law_first_errors, runF, gLcL, al, le_law_first_errors_1, le_law_first_errors_2, le_law_first_errors_3, le_law_first_errors_4, le_law_first_errors_5, le_law_first_errors_6, s0, s1, s2, s3, s4, s5, hb, belows, below, show 0 < sizeLine by omega, show 1 < sizeLine by omega, show 2 ≤ sizeLine by omega]
theorem middle_ok {d : D} (g : Gd d) (M : List MO) : callF F_law_middle_errors [d] M = .ok (.bl true) M := by
  have sz : 100 ≤ sizeLine := by rw [sizeLine_eq]; omega
  have hb := g.bl
  have s0 := st_any (nm := "InvalidTest") (f := "index") (num_InvalidTest) (by decide) g (k := 6) rfl
  have s1 := st_any (nm := "InvalidStrategy") (f := "strategy") (num_InvalidStrategy) (by decide) g (k := 7) rfl
  have s2 := st_any (nm := "InvalidDays") (f := "index") (num_InvalidDays) (by decide) g (k := 8) rfl
  have s3 := st_any (nm := "InvalidPrices") (f := "index") (num_InvalidPrices) (by decide) g (k := 9) rfl
  have s4 := st_any (nm := "InvalidWeights") (f := "index") (num_InvalidWeights) (by decide) g (k := 10) rfl
  have s5 := st_any (nm := "InvalidTable") (f := "index") (num_InvalidTable) (by decide) g (k := 11) rfl
  have s6 := st_any (nm := "InvalidQueue") (f := "index") (num_InvalidQueue) (by decide) g (k := 12) rfl
  have al : ∀ M, dAll M (.lst [.bl true, .bl true]) = some (.bl true) := fun M => rfl
  refine c_flat (F := F_law_middle_errors) ?_ M (by simp [belows, below, hb]) (by simp [belows, below])
  simp [F_law_middle_errors, b_law_middle_errors, runF, gLcL, al, le_law_middle_errors_1, le_law_middle_errors_2, le_law_middle_errors_3, le_law_middle_errors_4, le_law_middle_errors_5, le_law_middle_errors_6, le_law_middle_errors_7, s0, s1, s2, s3, s4, s5, s6, hb, belows, below, show 0 < sizeLine by omega, show 1 < sizeLine by omega, show 2 ≤ sizeLine by omega]
theorem last_ok {d : D} (g : Gd d) (M : List MO) : callF F_law_last_errors [d] M = .ok (.bl true) M := by
  have sz : 100 ≤ sizeLine := by rw [sizeLine_eq]; omega
  have hb := g.bl
  have s0 := st_any (nm := "InvalidStocks") (f := "index") (num_InvalidStocks) (by decide) g (k := 13) rfl
  have s1 := st_any (nm := "Impossible") (f := "broken") (num_Impossible) (by decide) g (k := 14) rfl
  have s2 := st_any (nm := "Mismatch") (f := "name") (num_Mismatch) (by decide) g (k := 15) rfl
  have s3 := st_any (nm := "Over") (f := "day") (num_Over) (by decide) g (k := 16) rfl
  have s4 := st_any (nm := "TooMany") (f := "count") (num_TooMany) (by decide) g (k := 17) rfl
  have s5 := st_any (nm := "TooLarge") (f := "limit") (num_TooLarge) (by decide) g (k := 18) rfl
  have al : ∀ M, dAll M (.lst [.bl true, .bl true]) = some (.bl true) := fun M => rfl
  refine c_flat (F := F_law_last_errors) ?_ M (by simp [belows, below, hb]) (by simp [belows, below])
  simp [F_law_last_errors, b_law_last_errors, runF, gLcL, al, le_law_last_errors_1, le_law_last_errors_2, le_law_last_errors_3, le_law_last_errors_4, le_law_last_errors_5, le_law_last_errors_6, s0, s1, s2, s3, s4, s5, hb, belows, below, show 0 < sizeLine by omega, show 1 < sizeLine by omega, show 2 ≤ sizeLine by omega]
end My

set_option Elab.async false
set_option linter.all false
set_option maxRecDepth 100000
set_option maxHeartbeats 8000000
namespace My
open PySem PySem.Spec PyProof.Rows L2 Bk
/-! ### the things, the law -/
theorem gd_of {d : D} {p : PyData} (hb : below 0 d = true) (e : toQ d = some p) (h1 : p.showable = true) (h2 : p.depth ≤ 60) (h3 : p.leavesShort 60 = true) (h5 : p.bulk ≤ 10) (h4 : ∀ M, dEqQ M d d = some (.bl true)) : Gd d := by
  refine ⟨hb, ⟨p.shown, fun M => ?_⟩, h4⟩
  have := PyData.shown_le_bulk 60 (by decide) p h3
  have h3 : p.shown.length ≤ sizeLine := by rw [sizeLine_eq]; omega
  unfold dReprQ
  rw [e, Option.bind_some, if_pos (by simp [h1, h2, h3])]
theorem lg_of {i : Int} (h : i.natAbs < 10 ^ 41) : i.natAbs.log2 < 1920 := by
  by_cases z : i.natAbs = 0
  · rw [z]; decide
  · have : i.natAbs.log2 < 140 := (Nat.log2_lt z).mpr (Nat.lt_trans h (by decide))
    omega
theorem ls_of {i : Int} (h : i.natAbs < 10 ^ 41) : (PyData.int i).shown.length ≤ 60 := by
  have q := int_text_length_le10 (a := i) (k := 41) (by decide) h
  rw [show (PyData.int i).shown = Str.ofString (toString i) from rfl, PySem.ofString_length]
  omega
theorem gd_int {i : Int} (h : i.natAbs < 10 ^ 41) : Gd (.int i) := by
  refine gd_of (p := .int i) rfl rfl (by simp [PyData.showable, lg_of h]) (Nat.zero_le _) (by simpa [PyData.leavesShort] using ls_of h) (Nat.zero_le _) (fun M => ?_)
  unfold dEqQ
  simp
theorem gd_str (x : Str) (hx : (PyData.str x).bulk ≤ 10) (hs : (PyData.str x).leavesShort 60 = true) : Gd (.str x) := by
  refine gd_of (p := .str x) rfl rfl rfl (Nat.zero_le _) hs hx (fun M => ?_)
  unfold dEqQ
  simp
theorem gd_dt {n : Nat} {d : D} {p : PyData} (h : Dt n d p) (hn : n ≤ 60) (e : toQ d = some p) (h1 : p.showable = true) (h3 : p.leavesShort 60 = true) (h5 : p.bulk ≤ 10) (h4 : ∀ M, dEqQ M d d = dEqA M d d) (hs : ∀ s, d ≠ .str s) : Gd d :=
  gd_of h.below e h1 (Nat.le_trans h.h hn) h3 h5 fun M => (h4 M).trans (dEqA_p (b := true) (eqP_same h h.deref h.deref (by omega)) hs)
theorem gd_non : Gd .non := gd_dt (Dt.non 0) (by decide) rfl rfl rfl (by decide) (fun M => by unfold dEqQ; rfl) (fun _ h => by cases h)
theorem gd_bl (b : Bool) : Gd (.bl b) := gd_dt (Dt.bl 0 b) (by decide) rfl (by cases b <;> rfl) (by cases b <;> rfl) (by cases b <;> decide) (fun M => by unfold dEqQ; rfl) (fun _ h => by cases h)
theorem gd_tup : Gd (.tup [.int 0, .int 1]) := gd_dt (n := 1) (Dts.ints 0 [0, 1]).tup (by decide) rfl rfl rfl (by decide) (fun M => by unfold dEqQ; rfl) (fun _ h => by cases h)
theorem gd_tup2 : Gd (.tup [.tup [.int 2, .int 1], .int 7]) := gd_dt (n := 2) (((Dts.nil 1).cons (Dt.int 1 7)).cons (Dts.ints 0 [2, 1]).tup).tup (by decide) rfl rfl rfl (by decide) (fun M => by unfold dEqQ; rfl) (fun _ h => by cases h)
theorem gd_lst {i : Int} (h : i.natAbs < 10 ^ 41) : Gd (.lst [.int i]) := gd_dt (n := 1) (Dts.ints 0 [i]).lst (by decide) rfl (by simp [PyData.showable, PyData.showableAll, lg_of h]) (by simpa [PyData.leavesShort, PyData.leavesShortAll] using ls_of h) (by simp [PyData.bulk, PyData.bulkAll]) (fun M => by unfold dEqQ; rfl) (fun _ h => by cases h)
theorem gd_dcx : Gd (.dcx (.inr "b") (.int 1)) := gd_of (p := .dict [(.str "b", .int 1)]) rfl rfl rfl (by decide) rfl (by decide) fun M => by
  unfold dEqQ
  simp
theorem gd_dct : Gd (.dct [] []) := gd_of (p := .dict []) rfl rfl rfl (by decide) rfl (by decide) fun M => by
  unfold dEqQ
  rfl
/-- what is drawn from -/
def thgs (f : Int) : List D := [.int f, .str "A", .str "", .non, .bl true, .tup [.int 0, .int 1], .lst [.int f], .dcx (.inr "b") (.int 1), .tup [.tup [.int 2, .int 1], .int 7], .int (-1), .int 100000000000000000000, .dct [] []]
theorem thgs_gd {f : Int} (h : f.natAbs < 10 ^ 41) : ∀ d ∈ thgs f, Gd d := fun d hd => by
  simp only [thgs, List.mem_cons, List.not_mem_nil, or_false] at hd
  rcases hd with rfl | rfl | rfl | rfl | rfl | rfl | rfl | rfl | rfl | rfl | rfl | rfl
  · exact gd_int h
  · exact gd_str _ (by decide) rfl
  · exact gd_str _ (by decide) rfl
  · exact gd_non
  · exact gd_bl true
  · exact gd_tup
  · exact gd_lst h
  · exact gd_dcx
  · exact gd_tup2
  · exact gd_int (by decide)
  · exact gd_int (by decide)
  · exact gd_dct
theorem t_0Z (s : Src3) (n : Int) (R : List MO) (h0 : 0 < n) (h : n < 1000000000) : callF F_law_take [.ref 0, .int n] (srcO s :: R) = .ok (.int (tk s n)) (srcO (tn s n) :: R) := by
  have := c_take (k := 0) (M := srcO s :: R) (s := s) rfl h0 (by omega)
  rw [List.set_cons_zero] at this
  exact this
theorem e_ix_of (ds : List D) (k : Nat) (hk : k < ds.length) {M : List MO} : dIx M (.lst ds) (.int (k : Int)) = some ds[k] := by
  have : atI ds (k : Int) = some ds[k] := (atI_nat ds k).trans (List.getElem?_eq_getElem hk)
  simp [this]
theorem turn2_04 {f : Int} (h : f.natAbs < 10 ^ 41) (S v w j : D) (s : Src3) : ∃ s', lb_law_2 [some S, some v, some (.ref 0), some w, some (.lst (thgs f)), some j, none] [srcO s] = .nx [some S, some v, some (.ref 0), some w, some (.lst (thgs f)), none, none] [srcO s'] := by
  have t1 := t_0Z s 12 [] (by decide) (by decide)
  have a0 := tk_lo s (n := 12) (by decide)
  have a1 := tk_hi s (n := 12) (by decide)
  generalize tn s 12 = s1 at *
  generalize tk s 12 = x at *
  obtain ⟨k, rfl⟩ := Int.eq_ofNat_of_zero_le a0
  have hk : k < (thgs f).length := by show k < 12; omega
  have g := thgs_gd h _ (List.getElem_mem hk)
  have ix : ∀ M, dIx M (.lst (thgs f)) (.int (k : Int)) = some (thgs f)[k] := fun M => by
    have : (thgs f).length = 12 := rfl
    rw [e_ix_of (thgs f) k hk]
  refine ⟨s1, ?_⟩
  generalize (thgs f)[k] = d at *
  generalize thgs f = TH at *
  generalize ((k : Nat) : Int) = kk at *
  have e1 := first_ok g
  have e2 := middle_ok g
  have e3 := last_ok g
  simp [-e_ix, lb_law_2, t1, ix, e1, e2, e3]
theorem loop2_04 {f : Int} (h : f.natAbs < 10 ^ 41) (S v w : D) : ∀ (m : Nat) (lo : Int) (s : Src3), ∃ s', gForL (gTo 5) lb_law_2 (rngL lo m) [some S, some v, some (.ref 0), some w, some (.lst (thgs f)), none, none] [srcO s] = .nx [some S, some v, some (.ref 0), some w, some (.lst (thgs f)), none, none] [srcO s']
  | 0, lo, s => ⟨s, by simp [rngL]⟩
  | m + 1, lo, s => by
    obtain ⟨s1, e1⟩ := turn2_04 h S v w (.int lo) s
    obtain ⟨s2, e2⟩ := loop2_04 h S v w m (lo + 1) s1
    refine ⟨s2, ?_⟩
    rw [rngL]
    exact (forL_cons (Γ1 := [some S, some v, some (.ref 0), some w, some (.lst (thgs f)), some (.int lo), none]) (by simp) e1).trans e2
theorem turn1_04 (S : D) (hS : below 0 S = true) (v : Int) : lb_law_1 [some S, some (.int v), none, none, none, none, none] [] = .nx [some S, none, none, none, none, none, none] [] := by
  have sz : 1000 ≤ sizeLine := by rw [sizeLine_eq]; omega
  have c0 := c_source v []
  generalize ((v, v, (0 : Int)) : Src3) = s0 at *
  obtain ⟨f, hf, e1⟩ : ∃ f : Int, f.natAbs < 10 ^ 41 ∧ v % 20000000000000000000000000000000000000001 - 10000000000000000000000000000000000000000 = f := ⟨_, by
    have a := Int.emod_nonneg v (show (20000000000000000000000000000000000000001 : Int) ≠ 0 by decide)
    have b := Int.emod_lt_of_pos v (show (0 : Int) < 20000000000000000000000000000000000000001 by decide)
    omega, rfl⟩
  obtain ⟨s', e⟩ := loop2_04 hf S (.int v) (.int f) 4 0 s0
  have r4 : rng1 [.int 4] = some (rngL 0 4) := rfl
  have mu : ∀ M, dMulA M (.int 2) (.int 10000000000000000000000000000000000000000) = some (.int 20000000000000000000000000000000000000000) := fun M => rfl
  have p1 : powOk 10 40 = true := by decide +kernel
  have p2 : powOk 10 20 = true := by decide +kernel
  have hc : cutOk 0 [srcO s'] = true := by simp [cutOk]
  simp only [thgs] at e
  generalize rngL 0 4 = RG at *
  generalize srcO s0 = S0 at *
  generalize srcO s' = S1 at *
  simp [-u_rng1, lb_law_1, mu, p1, p2, e1, c0, r4, e, hc, clean, hS]
  done
end My

set_option Elab.async false
set_option linter.all false
set_option maxRecDepth 100000
set_option maxHeartbeats 8000000
namespace My
open PySem PySem.Spec PyProof.Rows L2 Bk
theorem loop1_04 (S : D) (hS : below 0 S = true) : ∀ is : List Int, gForL (gTo 1) lb_law_1 (is.map D.int) [some S, none, none, none, none, none, none] [] = .nx [some S, none, none, none, none, none, none] []
  | [] => by simp
  | i :: is => by
    rw [List.map_cons]
    exact (forL_cons (Γ1 := [some S, some (.int i), none, none, none, none, none]) (by simp) (turn1_04 S hS i)).trans (loop1_04 S hS is)
theorem law_true (ns : List Int) (h : ns.length ≤ 63) : F_law [.lst (ns.map D.int)] [] = .ok (.bl true) [] := by
  have sz : 1000 ≤ sizeLine := by rw [sizeLine_eq]; omega
  have e4 : below 0 (D.lst (ns.map D.int)) = true := by simp
  have ad : dAdd [] (.lst (ns.map D.int)) (.lst [.int 0]) = some (.lst ((ns ++ [0]).map D.int)) := by
    rw [e_addL, if_pos (by simp; omega)]
    simp
  have cu : dCut [] none (some 3) (.lst ((ns ++ [0]).map D.int)) = some (.lst (((ns ++ [0]).take 3).map D.int)) := by
    have : (3 : Int) = ((3 : Nat) : Int) := rfl
    simp only [dCut, listD, Option.map_some]
    rw [this, cutD_upto, List.map_take]
  have k := loop1_04 (.lst (ns.map D.int)) e4 ((ns ++ [0]).take 3)
  generalize ((ns ++ [0]).take 3).map D.int = L at *
  generalize (ns ++ [0]).map D.int = L1 at *
  generalize D.lst (ns.map D.int) = S at *
  simp [-e_addL, F_law, b_law, runF, ad, cu, k]
end My

set_option Elab.async false
set_option linter.all false
set_option maxRecDepth 100000
set_option maxHeartbeats 8000000
namespace My
open PySem PySem.Spec PyProof.Rows L2 Bk
theorem all_mk {l : PySem.W.OpenLaw} {w : World} {K : PySem.W.Frag} {h : Heap} {mg : Str → Option Value} {fa : Addr} (X : K.In h) (G : h.Ns mainGlobals mg) (hfa : mg "law" = some (.ref fa))
    {X_InvalidCalendar : Addr} (aX_InvalidCalendar : PySem.W.nsIn K mainGlobals "InvalidCalendar" = some (some (.ref X_InvalidCalendar)))
    {X_InvalidHolidays : Addr} (aX_InvalidHolidays : PySem.W.nsIn K mainGlobals "InvalidHolidays" = some (some (.ref X_InvalidHolidays)))
    {X_InvalidPlan : Addr} (aX_InvalidPlan : PySem.W.nsIn K mainGlobals "InvalidPlan" = some (some (.ref X_InvalidPlan)))
    {X_InvalidNumber : Addr} (aX_InvalidNumber : PySem.W.nsIn K mainGlobals "InvalidNumber" = some (some (.ref X_InvalidNumber)))
    {X_InvalidRow : Addr} (aX_InvalidRow : PySem.W.nsIn K mainGlobals "InvalidRow" = some (some (.ref X_InvalidRow)))
    {X_InvalidPast : Addr} (aX_InvalidPast : PySem.W.nsIn K mainGlobals "InvalidPast" = some (some (.ref X_InvalidPast)))
    {X_InvalidStrategy : Addr} (aX_InvalidStrategy : PySem.W.nsIn K mainGlobals "InvalidStrategy" = some (some (.ref X_InvalidStrategy)))
    {X_InvalidPrices : Addr} (aX_InvalidPrices : PySem.W.nsIn K mainGlobals "InvalidPrices" = some (some (.ref X_InvalidPrices)))
    {X_InvalidWeights : Addr} (aX_InvalidWeights : PySem.W.nsIn K mainGlobals "InvalidWeights" = some (some (.ref X_InvalidWeights)))
    {X_InvalidQueue : Addr} (aX_InvalidQueue : PySem.W.nsIn K mainGlobals "InvalidQueue" = some (some (.ref X_InvalidQueue)))
    {X_InvalidTest : Addr} (aX_InvalidTest : PySem.W.nsIn K mainGlobals "InvalidTest" = some (some (.ref X_InvalidTest)))
    {X_InvalidDays : Addr} (aX_InvalidDays : PySem.W.nsIn K mainGlobals "InvalidDays" = some (some (.ref X_InvalidDays)))
    {X_InvalidTable : Addr} (aX_InvalidTable : PySem.W.nsIn K mainGlobals "InvalidTable" = some (some (.ref X_InvalidTable)))
    {X_InvalidStocks : Addr} (aX_InvalidStocks : PySem.W.nsIn K mainGlobals "InvalidStocks" = some (some (.ref X_InvalidStocks)))
    {X_TooLarge : Addr} (aX_TooLarge : PySem.W.nsIn K mainGlobals "TooLarge" = some (some (.ref X_TooLarge)))
    {X_Impossible : Addr} (aX_Impossible : PySem.W.nsIn K mainGlobals "Impossible" = some (some (.ref X_Impossible)))
    {X_Mismatch : Addr} (aX_Mismatch : PySem.W.nsIn K mainGlobals "Mismatch" = some (some (.ref X_Mismatch)))
    {X_Over : Addr} (aX_Over : PySem.W.nsIn K mainGlobals "Over" = some (some (.ref X_Over)))
    {X_TooMany : Addr} (aX_TooMany : PySem.W.nsIn K mainGlobals "TooMany" = some (some (.ref X_TooMany)))
    {X_BreakError : Addr} (aX_BreakError : PySem.W.nsIn K mainGlobals "BreakError" = some (some (.ref X_BreakError)))
    {de_InvalidCalendar : Option Addr} {ke_InvalidCalendar : ClassData} {ae_InvalidCalendar : Array (Option Value)} (lo_InvalidCalendar : K.lookup X_InvalidCalendar = some ⟨.type "type", de_InvalidCalendar, .cls ke_InvalidCalendar, ae_InvalidCalendar⟩) (eo_InvalidCalendar : Bk.errOk X_InvalidCalendar ke_InvalidCalendar ae_InvalidCalendar = true) (hx_InvalidCalendar : PySem.W.hasDictIn K X_InvalidCalendar = true) (ga_InvalidCalendar : PySem.W.findIn K (.ref X_InvalidCalendar) "__getattribute__" = some (some (.builtin "BaseException.__getattribute__"))) (gt_InvalidCalendar : PySem.W.findIn K (.ref X_InvalidCalendar) "__getattr__" = some none) (sx_InvalidCalendar : PySem.W.findIn K (.ref X_InvalidCalendar) "__setattr__" = some (some (.builtin "object.__setattr__"))) (bx_InvalidCalendar : PySem.W.subIn K (.ref X_InvalidCalendar) (.type "BaseException") = some true) (ty_InvalidCalendar : PySem.W.typeIn K (.ref X_InvalidCalendar) = some (.type "type")) (kx_InvalidCalendar : PySem.W.keepIn K (.ref X_InvalidCalendar) = true) (nx_InvalidCalendar : PySem.W.findIn K (.ref X_InvalidCalendar) "index" = some none)
    {xf_InvalidCalendar : Addr} {od_InvalidCalendar an_InvalidCalendar : Option Addr} {sl_InvalidCalendar : Array (Option Value)} {oc_InvalidCalendar kV_InvalidCalendar dc_InvalidCalendar pm_InvalidCalendar cd_InvalidCalendar ct_InvalidCalendar : Value}
    (ix_InvalidCalendar : PySem.W.findIn K (.ref X_InvalidCalendar) "__init__" = some (some (.ref xf_InvalidCalendar))) (tx_InvalidCalendar : PySem.W.typeIn K (.ref xf_InvalidCalendar) = some (.type "function")) (lx_InvalidCalendar : K.lookup xf_InvalidCalendar = some ⟨oc_InvalidCalendar, od_InvalidCalendar, .func (PySem.W.fnOf "__init__" "InvalidCalendar.__init__" (defArgs s_InvalidCalendar_init) (defBody s_InvalidCalendar_init) (defScope s_InvalidCalendar_init) .none kV_InvalidCalendar dc_InvalidCalendar pm_InvalidCalendar an_InvalidCalendar cd_InvalidCalendar ct_InvalidCalendar), sl_InvalidCalendar⟩) (cx_InvalidCalendar : PySem.W.codeIn K cd_InvalidCalendar "InvalidCalendar.__init__" = true) (ox_InvalidCalendar : PySem.W.keepIn K (.ref xf_InvalidCalendar) = true)
    {de_InvalidHolidays : Option Addr} {ke_InvalidHolidays : ClassData} {ae_InvalidHolidays : Array (Option Value)} (lo_InvalidHolidays : K.lookup X_InvalidHolidays = some ⟨.type "type", de_InvalidHolidays, .cls ke_InvalidHolidays, ae_InvalidHolidays⟩) (eo_InvalidHolidays : Bk.errOk X_InvalidHolidays ke_InvalidHolidays ae_InvalidHolidays = true) (hx_InvalidHolidays : PySem.W.hasDictIn K X_InvalidHolidays = true) (ga_InvalidHolidays : PySem.W.findIn K (.ref X_InvalidHolidays) "__getattribute__" = some (some (.builtin "BaseException.__getattribute__"))) (gt_InvalidHolidays : PySem.W.findIn K (.ref X_InvalidHolidays) "__getattr__" = some none) (sx_InvalidHolidays : PySem.W.findIn K (.ref X_InvalidHolidays) "__setattr__" = some (some (.builtin "object.__setattr__"))) (bx_InvalidHolidays : PySem.W.subIn K (.ref X_InvalidHolidays) (.type "BaseException") = some true) (ty_InvalidHolidays : PySem.W.typeIn K (.ref X_InvalidHolidays) = some (.type "type")) (kx_InvalidHolidays : PySem.W.keepIn K (.ref X_InvalidHolidays) = true) (nx_InvalidHolidays : PySem.W.findIn K (.ref X_InvalidHolidays) "index" = some none)
    {xf_InvalidHolidays : Addr} {od_InvalidHolidays an_InvalidHolidays : Option Addr} {sl_InvalidHolidays : Array (Option Value)} {oc_InvalidHolidays kV_InvalidHolidays dc_InvalidHolidays pm_InvalidHolidays cd_InvalidHolidays ct_InvalidHolidays : Value}
    (ix_InvalidHolidays : PySem.W.findIn K (.ref X_InvalidHolidays) "__init__" = some (some (.ref xf_InvalidHolidays))) (tx_InvalidHolidays : PySem.W.typeIn K (.ref xf_InvalidHolidays) = some (.type "function")) (lx_InvalidHolidays : K.lookup xf_InvalidHolidays = some ⟨oc_InvalidHolidays, od_InvalidHolidays, .func (PySem.W.fnOf "__init__" "InvalidHolidays.__init__" (defArgs s_InvalidHolidays_init) (defBody s_InvalidHolidays_init) (defScope s_InvalidHolidays_init) .none kV_InvalidHolidays dc_InvalidHolidays pm_InvalidHolidays an_InvalidHolidays cd_InvalidHolidays ct_InvalidHolidays), sl_InvalidHolidays⟩) (cx_InvalidHolidays : PySem.W.codeIn K cd_InvalidHolidays "InvalidHolidays.__init__" = true) (ox_InvalidHolidays : PySem.W.keepIn K (.ref xf_InvalidHolidays) = true)
    {de_InvalidPlan : Option Addr} {ke_InvalidPlan : ClassData} {ae_InvalidPlan : Array (Option Value)} (lo_InvalidPlan : K.lookup X_InvalidPlan = some ⟨.type "type", de_InvalidPlan, .cls ke_InvalidPlan, ae_InvalidPlan⟩) (eo_InvalidPlan : Bk.errOk X_InvalidPlan ke_InvalidPlan ae_InvalidPlan = true) (hx_InvalidPlan : PySem.W.hasDictIn K X_InvalidPlan = true) (ga_InvalidPlan : PySem.W.findIn K (.ref X_InvalidPlan) "__getattribute__" = some (some (.builtin "BaseException.__getattribute__"))) (gt_InvalidPlan : PySem.W.findIn K (.ref X_InvalidPlan) "__getattr__" = some none) (sx_InvalidPlan : PySem.W.findIn K (.ref X_InvalidPlan) "__setattr__" = some (some (.builtin "object.__setattr__"))) (bx_InvalidPlan : PySem.W.subIn K (.ref X_InvalidPlan) (.type "BaseException") = some true) (ty_InvalidPlan : PySem.W.typeIn K (.ref X_InvalidPlan) = some (.type "type")) (kx_InvalidPlan : PySem.W.keepIn K (.ref X_InvalidPlan) = true) (nx_InvalidPlan : PySem.W.findIn K (.ref X_InvalidPlan) "index" = some none)
    {xf_InvalidPlan : Addr} {od_InvalidPlan an_InvalidPlan : Option Addr} {sl_InvalidPlan : Array (Option Value)} {oc_InvalidPlan kV_InvalidPlan dc_InvalidPlan pm_InvalidPlan cd_InvalidPlan ct_InvalidPlan : Value}
    (ix_InvalidPlan : PySem.W.findIn K (.ref X_InvalidPlan) "__init__" = some (some (.ref xf_InvalidPlan))) (tx_InvalidPlan : PySem.W.typeIn K (.ref xf_InvalidPlan) = some (.type "function")) (lx_InvalidPlan : K.lookup xf_InvalidPlan = some ⟨oc_InvalidPlan, od_InvalidPlan, .func (PySem.W.fnOf "__init__" "InvalidPlan.__init__" (defArgs s_InvalidPlan_init) (defBody s_InvalidPlan_init) (defScope s_InvalidPlan_init) .none kV_InvalidPlan dc_InvalidPlan pm_InvalidPlan an_InvalidPlan cd_InvalidPlan ct_InvalidPlan), sl_InvalidPlan⟩) (cx_InvalidPlan : PySem.W.codeIn K cd_InvalidPlan "InvalidPlan.__init__" = true) (ox_InvalidPlan : PySem.W.keepIn K (.ref xf_InvalidPlan) = true)
    {de_InvalidNumber : Option Addr} {ke_InvalidNumber : ClassData} {ae_InvalidNumber : Array (Option Value)} (lo_InvalidNumber : K.lookup X_InvalidNumber = some ⟨.type "type", de_InvalidNumber, .cls ke_InvalidNumber, ae_InvalidNumber⟩) (eo_InvalidNumber : Bk.errOk X_InvalidNumber ke_InvalidNumber ae_InvalidNumber = true) (hx_InvalidNumber : PySem.W.hasDictIn K X_InvalidNumber = true) (ga_InvalidNumber : PySem.W.findIn K (.ref X_InvalidNumber) "__getattribute__" = some (some (.builtin "BaseException.__getattribute__"))) (gt_InvalidNumber : PySem.W.findIn K (.ref X_InvalidNumber) "__getattr__" = some none) (sx_InvalidNumber : PySem.W.findIn K (.ref X_InvalidNumber) "__setattr__" = some (some (.builtin "object.__setattr__"))) (bx_InvalidNumber : PySem.W.subIn K (.ref X_InvalidNumber) (.type "BaseException") = some true) (ty_InvalidNumber : PySem.W.typeIn K (.ref X_InvalidNumber) = some (.type "type")) (kx_InvalidNumber : PySem.W.keepIn K (.ref X_InvalidNumber) = true) (nx_InvalidNumber : PySem.W.findIn K (.ref X_InvalidNumber) "name" = some none)
    {xf_InvalidNumber : Addr} {od_InvalidNumber an_InvalidNumber : Option Addr} {sl_InvalidNumber : Array (Option Value)} {oc_InvalidNumber kV_InvalidNumber dc_InvalidNumber pm_InvalidNumber cd_InvalidNumber ct_InvalidNumber : Value}
    (ix_InvalidNumber : PySem.W.findIn K (.ref X_InvalidNumber) "__init__" = some (some (.ref xf_InvalidNumber))) (tx_InvalidNumber : PySem.W.typeIn K (.ref xf_InvalidNumber) = some (.type "function")) (lx_InvalidNumber : K.lookup xf_InvalidNumber = some ⟨oc_InvalidNumber, od_InvalidNumber, .func (PySem.W.fnOf "__init__" "InvalidNumber.__init__" (defArgs s_InvalidNumber_init) (defBody s_InvalidNumber_init) (defScope s_InvalidNumber_init) .none kV_InvalidNumber dc_InvalidNumber pm_InvalidNumber an_InvalidNumber cd_InvalidNumber ct_InvalidNumber), sl_InvalidNumber⟩) (cx_InvalidNumber : PySem.W.codeIn K cd_InvalidNumber "InvalidNumber.__init__" = true) (ox_InvalidNumber : PySem.W.keepIn K (.ref xf_InvalidNumber) = true)
    {de_InvalidRow : Option Addr} {ke_InvalidRow : ClassData} {ae_InvalidRow : Array (Option Value)} (lo_InvalidRow : K.lookup X_InvalidRow = some ⟨.type "type", de_InvalidRow, .cls ke_InvalidRow, ae_InvalidRow⟩) (eo_InvalidRow : Bk.errOk X_InvalidRow ke_InvalidRow ae_InvalidRow = true) (hx_InvalidRow : PySem.W.hasDictIn K X_InvalidRow = true) (ga_InvalidRow : PySem.W.findIn K (.ref X_InvalidRow) "__getattribute__" = some (some (.builtin "BaseException.__getattribute__"))) (gt_InvalidRow : PySem.W.findIn K (.ref X_InvalidRow) "__getattr__" = some none) (sx_InvalidRow : PySem.W.findIn K (.ref X_InvalidRow) "__setattr__" = some (some (.builtin "object.__setattr__"))) (bx_InvalidRow : PySem.W.subIn K (.ref X_InvalidRow) (.type "BaseException") = some true) (ty_InvalidRow : PySem.W.typeIn K (.ref X_InvalidRow) = some (.type "type")) (kx_InvalidRow : PySem.W.keepIn K (.ref X_InvalidRow) = true) (nx_InvalidRow : PySem.W.findIn K (.ref X_InvalidRow) "index" = some none)
    {xf_InvalidRow : Addr} {od_InvalidRow an_InvalidRow : Option Addr} {sl_InvalidRow : Array (Option Value)} {oc_InvalidRow kV_InvalidRow dc_InvalidRow pm_InvalidRow cd_InvalidRow ct_InvalidRow : Value}
    (ix_InvalidRow : PySem.W.findIn K (.ref X_InvalidRow) "__init__" = some (some (.ref xf_InvalidRow))) (tx_InvalidRow : PySem.W.typeIn K (.ref xf_InvalidRow) = some (.type "function")) (lx_InvalidRow : K.lookup xf_InvalidRow = some ⟨oc_InvalidRow, od_InvalidRow, .func (PySem.W.fnOf "__init__" "InvalidRow.__init__" (defArgs s_InvalidRow_init) (defBody s_InvalidRow_init) (defScope s_InvalidRow_init) .none kV_InvalidRow dc_InvalidRow pm_InvalidRow an_InvalidRow cd_InvalidRow ct_InvalidRow), sl_InvalidRow⟩) (cx_InvalidRow : PySem.W.codeIn K cd_InvalidRow "InvalidRow.__init__" = true) (ox_InvalidRow : PySem.W.keepIn K (.ref xf_InvalidRow) = true)
    {de_InvalidPast : Option Addr} {ke_InvalidPast : ClassData} {ae_InvalidPast : Array (Option Value)} (lo_InvalidPast : K.lookup X_InvalidPast = some ⟨.type "type", de_InvalidPast, .cls ke_InvalidPast, ae_InvalidPast⟩) (eo_InvalidPast : Bk.errOk X_InvalidPast ke_InvalidPast ae_InvalidPast = true) (hx_InvalidPast : PySem.W.hasDictIn K X_InvalidPast = true) (ga_InvalidPast : PySem.W.findIn K (.ref X_InvalidPast) "__getattribute__" = some (some (.builtin "BaseException.__getattribute__"))) (gt_InvalidPast : PySem.W.findIn K (.ref X_InvalidPast) "__getattr__" = some none) (sx_InvalidPast : PySem.W.findIn K (.ref X_InvalidPast) "__setattr__" = some (some (.builtin "object.__setattr__"))) (bx_InvalidPast : PySem.W.subIn K (.ref X_InvalidPast) (.type "BaseException") = some true) (ty_InvalidPast : PySem.W.typeIn K (.ref X_InvalidPast) = some (.type "type")) (kx_InvalidPast : PySem.W.keepIn K (.ref X_InvalidPast) = true) (nx_InvalidPast : PySem.W.findIn K (.ref X_InvalidPast) "day" = some none)
    {xf_InvalidPast : Addr} {od_InvalidPast an_InvalidPast : Option Addr} {sl_InvalidPast : Array (Option Value)} {oc_InvalidPast kV_InvalidPast dc_InvalidPast pm_InvalidPast cd_InvalidPast ct_InvalidPast : Value}
    (ix_InvalidPast : PySem.W.findIn K (.ref X_InvalidPast) "__init__" = some (some (.ref xf_InvalidPast))) (tx_InvalidPast : PySem.W.typeIn K (.ref xf_InvalidPast) = some (.type "function")) (lx_InvalidPast : K.lookup xf_InvalidPast = some ⟨oc_InvalidPast, od_InvalidPast, .func (PySem.W.fnOf "__init__" "InvalidPast.__init__" (defArgs s_InvalidPast_init) (defBody s_InvalidPast_init) (defScope s_InvalidPast_init) .none kV_InvalidPast dc_InvalidPast pm_InvalidPast an_InvalidPast cd_InvalidPast ct_InvalidPast), sl_InvalidPast⟩) (cx_InvalidPast : PySem.W.codeIn K cd_InvalidPast "InvalidPast.__init__" = true) (ox_InvalidPast : PySem.W.keepIn K (.ref xf_InvalidPast) = true)
    {de_InvalidStrategy : Option Addr} {ke_InvalidStrategy : ClassData} {ae_InvalidStrategy : Array (Option Value)} (lo_InvalidStrategy : K.lookup X_InvalidStrategy = some ⟨.type "type", de_InvalidStrategy, .cls ke_InvalidStrategy, ae_InvalidStrategy⟩) (eo_InvalidStrategy : Bk.errOk X_InvalidStrategy ke_InvalidStrategy ae_InvalidStrategy = true) (hx_InvalidStrategy : PySem.W.hasDictIn K X_InvalidStrategy = true) (ga_InvalidStrategy : PySem.W.findIn K (.ref X_InvalidStrategy) "__getattribute__" = some (some (.builtin "BaseException.__getattribute__"))) (gt_InvalidStrategy : PySem.W.findIn K (.ref X_InvalidStrategy) "__getattr__" = some none) (sx_InvalidStrategy : PySem.W.findIn K (.ref X_InvalidStrategy) "__setattr__" = some (some (.builtin "object.__setattr__"))) (bx_InvalidStrategy : PySem.W.subIn K (.ref X_InvalidStrategy) (.type "BaseException") = some true) (ty_InvalidStrategy : PySem.W.typeIn K (.ref X_InvalidStrategy) = some (.type "type")) (kx_InvalidStrategy : PySem.W.keepIn K (.ref X_InvalidStrategy) = true) (nx_InvalidStrategy : PySem.W.findIn K (.ref X_InvalidStrategy) "strategy" = some none)
    {xf_InvalidStrategy : Addr} {od_InvalidStrategy an_InvalidStrategy : Option Addr} {sl_InvalidStrategy : Array (Option Value)} {oc_InvalidStrategy kV_InvalidStrategy dc_InvalidStrategy pm_InvalidStrategy cd_InvalidStrategy ct_InvalidStrategy : Value}
    (ix_InvalidStrategy : PySem.W.findIn K (.ref X_InvalidStrategy) "__init__" = some (some (.ref xf_InvalidStrategy))) (tx_InvalidStrategy : PySem.W.typeIn K (.ref xf_InvalidStrategy) = some (.type "function")) (lx_InvalidStrategy : K.lookup xf_InvalidStrategy = some ⟨oc_InvalidStrategy, od_InvalidStrategy, .func (PySem.W.fnOf "__init__" "InvalidStrategy.__init__" (defArgs s_InvalidStrategy_init) (defBody s_InvalidStrategy_init) (defScope s_InvalidStrategy_init) .none kV_InvalidStrategy dc_InvalidStrategy pm_InvalidStrategy an_InvalidStrategy cd_InvalidStrategy ct_InvalidStrategy), sl_InvalidStrategy⟩) (cx_InvalidStrategy : PySem.W.codeIn K cd_InvalidStrategy "InvalidStrategy.__init__" = true) (ox_InvalidStrategy : PySem.W.keepIn K (.ref xf_InvalidStrategy) = true)
    {de_InvalidPrices : Option Addr} {ke_InvalidPrices : ClassData} {ae_InvalidPrices : Array (Option Value)} (lo_InvalidPrices : K.lookup X_InvalidPrices = some ⟨.type "type", de_InvalidPrices, .cls ke_InvalidPrices, ae_InvalidPrices⟩) (eo_InvalidPrices : Bk.errOk X_InvalidPrices ke_InvalidPrices ae_InvalidPrices = true) (hx_InvalidPrices : PySem.W.hasDictIn K X_InvalidPrices = true) (ga_InvalidPrices : PySem.W.findIn K (.ref X_InvalidPrices) "__getattribute__" = some (some (.builtin "BaseException.__getattribute__"))) (gt_InvalidPrices : PySem.W.findIn K (.ref X_InvalidPrices) "__getattr__" = some none) (sx_InvalidPrices : PySem.W.findIn K (.ref X_InvalidPrices) "__setattr__" = some (some (.builtin "object.__setattr__"))) (bx_InvalidPrices : PySem.W.subIn K (.ref X_InvalidPrices) (.type "BaseException") = some true) (ty_InvalidPrices : PySem.W.typeIn K (.ref X_InvalidPrices) = some (.type "type")) (kx_InvalidPrices : PySem.W.keepIn K (.ref X_InvalidPrices) = true) (nx_InvalidPrices : PySem.W.findIn K (.ref X_InvalidPrices) "index" = some none)
    {xf_InvalidPrices : Addr} {od_InvalidPrices an_InvalidPrices : Option Addr} {sl_InvalidPrices : Array (Option Value)} {oc_InvalidPrices kV_InvalidPrices dc_InvalidPrices pm_InvalidPrices cd_InvalidPrices ct_InvalidPrices : Value}
    (ix_InvalidPrices : PySem.W.findIn K (.ref X_InvalidPrices) "__init__" = some (some (.ref xf_InvalidPrices))) (tx_InvalidPrices : PySem.W.typeIn K (.ref xf_InvalidPrices) = some (.type "function")) (lx_InvalidPrices : K.lookup xf_InvalidPrices = some ⟨oc_InvalidPrices, od_InvalidPrices, .func (PySem.W.fnOf "__init__" "InvalidPrices.__init__" (defArgs s_InvalidPrices_init) (defBody s_InvalidPrices_init) (defScope s_InvalidPrices_init) .none kV_InvalidPrices dc_InvalidPrices pm_InvalidPrices an_InvalidPrices cd_InvalidPrices ct_InvalidPrices), sl_InvalidPrices⟩) (cx_InvalidPrices : PySem.W.codeIn K cd_InvalidPrices "InvalidPrices.__init__" = true) (ox_InvalidPrices : PySem.W.keepIn K (.ref xf_InvalidPrices) = true)
    {de_InvalidWeights : Option Addr} {ke_InvalidWeights : ClassData} {ae_InvalidWeights : Array (Option Value)} (lo_InvalidWeights : K.lookup X_InvalidWeights = some ⟨.type "type", de_InvalidWeights, .cls ke_InvalidWeights, ae_InvalidWeights⟩) (eo_InvalidWeights : Bk.errOk X_InvalidWeights ke_InvalidWeights ae_InvalidWeights = true) (hx_InvalidWeights : PySem.W.hasDictIn K X_InvalidWeights = true) (ga_InvalidWeights : PySem.W.findIn K (.ref X_InvalidWeights) "__getattribute__" = some (some (.builtin "BaseException.__getattribute__"))) (gt_InvalidWeights : PySem.W.findIn K (.ref X_InvalidWeights) "__getattr__" = some none) (sx_InvalidWeights : PySem.W.findIn K (.ref X_InvalidWeights) "__setattr__" = some (some (.builtin "object.__setattr__"))) (bx_InvalidWeights : PySem.W.subIn K (.ref X_InvalidWeights) (.type "BaseException") = some true) (ty_InvalidWeights : PySem.W.typeIn K (.ref X_InvalidWeights) = some (.type "type")) (kx_InvalidWeights : PySem.W.keepIn K (.ref X_InvalidWeights) = true) (nx_InvalidWeights : PySem.W.findIn K (.ref X_InvalidWeights) "index" = some none)
    {xf_InvalidWeights : Addr} {od_InvalidWeights an_InvalidWeights : Option Addr} {sl_InvalidWeights : Array (Option Value)} {oc_InvalidWeights kV_InvalidWeights dc_InvalidWeights pm_InvalidWeights cd_InvalidWeights ct_InvalidWeights : Value}
    (ix_InvalidWeights : PySem.W.findIn K (.ref X_InvalidWeights) "__init__" = some (some (.ref xf_InvalidWeights))) (tx_InvalidWeights : PySem.W.typeIn K (.ref xf_InvalidWeights) = some (.type "function")) (lx_InvalidWeights : K.lookup xf_InvalidWeights = some ⟨oc_InvalidWeights, od_InvalidWeights, .func (PySem.W.fnOf "__init__" "InvalidWeights.__init__" (defArgs s_InvalidWeights_init) (defBody s_InvalidWeights_init) (defScope s_InvalidWeights_init) .none kV_InvalidWeights dc_InvalidWeights pm_InvalidWeights an_InvalidWeights cd_InvalidWeights ct_InvalidWeights), sl_InvalidWeights⟩) (cx_InvalidWeights : PySem.W.codeIn K cd_InvalidWeights "InvalidWeights.__init__" = true) (ox_InvalidWeights : PySem.W.keepIn K (.ref xf_InvalidWeights) = true)
    {de_InvalidQueue : Option Addr} {ke_InvalidQueue : ClassData} {ae_InvalidQueue : Array (Option Value)} (lo_InvalidQueue : K.lookup X_InvalidQueue = some ⟨.type "type", de_InvalidQueue, .cls ke_InvalidQueue, ae_InvalidQueue⟩) (eo_InvalidQueue : Bk.errOk X_InvalidQueue ke_InvalidQueue ae_InvalidQueue = true) (hx_InvalidQueue : PySem.W.hasDictIn K X_InvalidQueue = true) (ga_InvalidQueue : PySem.W.findIn K (.ref X_InvalidQueue) "__getattribute__" = some (some (.builtin "BaseException.__getattribute__"))) (gt_InvalidQueue : PySem.W.findIn K (.ref X_InvalidQueue) "__getattr__" = some none) (sx_InvalidQueue : PySem.W.findIn K (.ref X_InvalidQueue) "__setattr__" = some (some (.builtin "object.__setattr__"))) (bx_InvalidQueue : PySem.W.subIn K (.ref X_InvalidQueue) (.type "BaseException") = some true) (ty_InvalidQueue : PySem.W.typeIn K (.ref X_InvalidQueue) = some (.type "type")) (kx_InvalidQueue : PySem.W.keepIn K (.ref X_InvalidQueue) = true) (nx_InvalidQueue : PySem.W.findIn K (.ref X_InvalidQueue) "index" = some none)
    {xf_InvalidQueue : Addr} {od_InvalidQueue an_InvalidQueue : Option Addr} {sl_InvalidQueue : Array (Option Value)} {oc_InvalidQueue kV_InvalidQueue dc_InvalidQueue pm_InvalidQueue cd_InvalidQueue ct_InvalidQueue : Value}
    (ix_InvalidQueue : PySem.W.findIn K (.ref X_InvalidQueue) "__init__" = some (some (.ref xf_InvalidQueue))) (tx_InvalidQueue : PySem.W.typeIn K (.ref xf_InvalidQueue) = some (.type "function")) (lx_InvalidQueue : K.lookup xf_InvalidQueue = some ⟨oc_InvalidQueue, od_InvalidQueue, .func (PySem.W.fnOf "__init__" "InvalidQueue.__init__" (defArgs s_InvalidQueue_init) (defBody s_InvalidQueue_init) (defScope s_InvalidQueue_init) .none kV_InvalidQueue dc_InvalidQueue pm_InvalidQueue an_InvalidQueue cd_InvalidQueue ct_InvalidQueue), sl_InvalidQueue⟩) (cx_InvalidQueue : PySem.W.codeIn K cd_InvalidQueue "InvalidQueue.__init__" = true) (ox_InvalidQueue : PySem.W.keepIn K (.ref xf_InvalidQueue) = true)
    {de_InvalidTest : Option Addr} {ke_InvalidTest : ClassData} {ae_InvalidTest : Array (Option Value)} (lo_InvalidTest : K.lookup X_InvalidTest = some ⟨.type "type", de_InvalidTest, .cls ke_InvalidTest, ae_InvalidTest⟩) (eo_InvalidTest : Bk.errOk X_InvalidTest ke_InvalidTest ae_InvalidTest = true) (hx_InvalidTest : PySem.W.hasDictIn K X_InvalidTest = true) (ga_InvalidTest : PySem.W.findIn K (.ref X_InvalidTest) "__getattribute__" = some (some (.builtin "BaseException.__getattribute__"))) (gt_InvalidTest : PySem.W.findIn K (.ref X_InvalidTest) "__getattr__" = some none) (sx_InvalidTest : PySem.W.findIn K (.ref X_InvalidTest) "__setattr__" = some (some (.builtin "object.__setattr__"))) (bx_InvalidTest : PySem.W.subIn K (.ref X_InvalidTest) (.type "BaseException") = some true) (ty_InvalidTest : PySem.W.typeIn K (.ref X_InvalidTest) = some (.type "type")) (kx_InvalidTest : PySem.W.keepIn K (.ref X_InvalidTest) = true) (nx_InvalidTest : PySem.W.findIn K (.ref X_InvalidTest) "index" = some none)
    {xf_InvalidTest : Addr} {od_InvalidTest an_InvalidTest : Option Addr} {sl_InvalidTest : Array (Option Value)} {oc_InvalidTest kV_InvalidTest dc_InvalidTest pm_InvalidTest cd_InvalidTest ct_InvalidTest : Value}
    (ix_InvalidTest : PySem.W.findIn K (.ref X_InvalidTest) "__init__" = some (some (.ref xf_InvalidTest))) (tx_InvalidTest : PySem.W.typeIn K (.ref xf_InvalidTest) = some (.type "function")) (lx_InvalidTest : K.lookup xf_InvalidTest = some ⟨oc_InvalidTest, od_InvalidTest, .func (PySem.W.fnOf "__init__" "InvalidTest.__init__" (defArgs s_InvalidTest_init) (defBody s_InvalidTest_init) (defScope s_InvalidTest_init) .none kV_InvalidTest dc_InvalidTest pm_InvalidTest an_InvalidTest cd_InvalidTest ct_InvalidTest), sl_InvalidTest⟩) (cx_InvalidTest : PySem.W.codeIn K cd_InvalidTest "InvalidTest.__init__" = true) (ox_InvalidTest : PySem.W.keepIn K (.ref xf_InvalidTest) = true)
    {de_InvalidDays : Option Addr} {ke_InvalidDays : ClassData} {ae_InvalidDays : Array (Option Value)} (lo_InvalidDays : K.lookup X_InvalidDays = some ⟨.type "type", de_InvalidDays, .cls ke_InvalidDays, ae_InvalidDays⟩) (eo_InvalidDays : Bk.errOk X_InvalidDays ke_InvalidDays ae_InvalidDays = true) (hx_InvalidDays : PySem.W.hasDictIn K X_InvalidDays = true) (ga_InvalidDays : PySem.W.findIn K (.ref X_InvalidDays) "__getattribute__" = some (some (.builtin "BaseException.__getattribute__"))) (gt_InvalidDays : PySem.W.findIn K (.ref X_InvalidDays) "__getattr__" = some none) (sx_InvalidDays : PySem.W.findIn K (.ref X_InvalidDays) "__setattr__" = some (some (.builtin "object.__setattr__"))) (bx_InvalidDays : PySem.W.subIn K (.ref X_InvalidDays) (.type "BaseException") = some true) (ty_InvalidDays : PySem.W.typeIn K (.ref X_InvalidDays) = some (.type "type")) (kx_InvalidDays : PySem.W.keepIn K (.ref X_InvalidDays) = true) (nx_InvalidDays : PySem.W.findIn K (.ref X_InvalidDays) "index" = some none)
    {xf_InvalidDays : Addr} {od_InvalidDays an_InvalidDays : Option Addr} {sl_InvalidDays : Array (Option Value)} {oc_InvalidDays kV_InvalidDays dc_InvalidDays pm_InvalidDays cd_InvalidDays ct_InvalidDays : Value}
    (ix_InvalidDays : PySem.W.findIn K (.ref X_InvalidDays) "__init__" = some (some (.ref xf_InvalidDays))) (tx_InvalidDays : PySem.W.typeIn K (.ref xf_InvalidDays) = some (.type "function")) (lx_InvalidDays : K.lookup xf_InvalidDays = some ⟨oc_InvalidDays, od_InvalidDays, .func (PySem.W.fnOf "__init__" "InvalidDays.__init__" (defArgs s_InvalidDays_init) (defBody s_InvalidDays_init) (defScope s_InvalidDays_init) .none kV_InvalidDays dc_InvalidDays pm_InvalidDays an_InvalidDays cd_InvalidDays ct_InvalidDays), sl_InvalidDays⟩) (cx_InvalidDays : PySem.W.codeIn K cd_InvalidDays "InvalidDays.__init__" = true) (ox_InvalidDays : PySem.W.keepIn K (.ref xf_InvalidDays) = true)
    {de_InvalidTable : Option Addr} {ke_InvalidTable : ClassData} {ae_InvalidTable : Array (Option Value)} (lo_InvalidTable : K.lookup X_InvalidTable = some ⟨.type "type", de_InvalidTable, .cls ke_InvalidTable, ae_InvalidTable⟩) (eo_InvalidTable : Bk.errOk X_InvalidTable ke_InvalidTable ae_InvalidTable = true) (hx_InvalidTable : PySem.W.hasDictIn K X_InvalidTable = true) (ga_InvalidTable : PySem.W.findIn K (.ref X_InvalidTable) "__getattribute__" = some (some (.builtin "BaseException.__getattribute__"))) (gt_InvalidTable : PySem.W.findIn K (.ref X_InvalidTable) "__getattr__" = some none) (sx_InvalidTable : PySem.W.findIn K (.ref X_InvalidTable) "__setattr__" = some (some (.builtin "object.__setattr__"))) (bx_InvalidTable : PySem.W.subIn K (.ref X_InvalidTable) (.type "BaseException") = some true) (ty_InvalidTable : PySem.W.typeIn K (.ref X_InvalidTable) = some (.type "type")) (kx_InvalidTable : PySem.W.keepIn K (.ref X_InvalidTable) = true) (nx_InvalidTable : PySem.W.findIn K (.ref X_InvalidTable) "index" = some none)
    {xf_InvalidTable : Addr} {od_InvalidTable an_InvalidTable : Option Addr} {sl_InvalidTable : Array (Option Value)} {oc_InvalidTable kV_InvalidTable dc_InvalidTable pm_InvalidTable cd_InvalidTable ct_InvalidTable : Value}
    (ix_InvalidTable : PySem.W.findIn K (.ref X_InvalidTable) "__init__" = some (some (.ref xf_InvalidTable))) (tx_InvalidTable : PySem.W.typeIn K (.ref xf_InvalidTable) = some (.type "function")) (lx_InvalidTable : K.lookup xf_InvalidTable = some ⟨oc_InvalidTable, od_InvalidTable, .func (PySem.W.fnOf "__init__" "InvalidTable.__init__" (defArgs s_InvalidTable_init) (defBody s_InvalidTable_init) (defScope s_InvalidTable_init) .none kV_InvalidTable dc_InvalidTable pm_InvalidTable an_InvalidTable cd_InvalidTable ct_InvalidTable), sl_InvalidTable⟩) (cx_InvalidTable : PySem.W.codeIn K cd_InvalidTable "InvalidTable.__init__" = true) (ox_InvalidTable : PySem.W.keepIn K (.ref xf_InvalidTable) = true)
    {de_InvalidStocks : Option Addr} {ke_InvalidStocks : ClassData} {ae_InvalidStocks : Array (Option Value)} (lo_InvalidStocks : K.lookup X_InvalidStocks = some ⟨.type "type", de_InvalidStocks, .cls ke_InvalidStocks, ae_InvalidStocks⟩) (eo_InvalidStocks : Bk.errOk X_InvalidStocks ke_InvalidStocks ae_InvalidStocks = true) (hx_InvalidStocks : PySem.W.hasDictIn K X_InvalidStocks = true) (ga_InvalidStocks : PySem.W.findIn K (.ref X_InvalidStocks) "__getattribute__" = some (some (.builtin "BaseException.__getattribute__"))) (gt_InvalidStocks : PySem.W.findIn K (.ref X_InvalidStocks) "__getattr__" = some none) (sx_InvalidStocks : PySem.W.findIn K (.ref X_InvalidStocks) "__setattr__" = some (some (.builtin "object.__setattr__"))) (bx_InvalidStocks : PySem.W.subIn K (.ref X_InvalidStocks) (.type "BaseException") = some true) (ty_InvalidStocks : PySem.W.typeIn K (.ref X_InvalidStocks) = some (.type "type")) (kx_InvalidStocks : PySem.W.keepIn K (.ref X_InvalidStocks) = true) (nx_InvalidStocks : PySem.W.findIn K (.ref X_InvalidStocks) "index" = some none)
    {xf_InvalidStocks : Addr} {od_InvalidStocks an_InvalidStocks : Option Addr} {sl_InvalidStocks : Array (Option Value)} {oc_InvalidStocks kV_InvalidStocks dc_InvalidStocks pm_InvalidStocks cd_InvalidStocks ct_InvalidStocks : Value}
    (ix_InvalidStocks : PySem.W.findIn K (.ref X_InvalidStocks) "__init__" = some (some (.ref xf_InvalidStocks))) (tx_InvalidStocks : PySem.W.typeIn K (.ref xf_InvalidStocks) = some (.type "function")) (lx_InvalidStocks : K.lookup xf_InvalidStocks = some ⟨oc_InvalidStocks, od_InvalidStocks, .func (PySem.W.fnOf "__init__" "InvalidStocks.__init__" (defArgs s_InvalidStocks_init) (defBody s_InvalidStocks_init) (defScope s_InvalidStocks_init) .none kV_InvalidStocks dc_InvalidStocks pm_InvalidStocks an_InvalidStocks cd_InvalidStocks ct_InvalidStocks), sl_InvalidStocks⟩) (cx_InvalidStocks : PySem.W.codeIn K cd_InvalidStocks "InvalidStocks.__init__" = true) (ox_InvalidStocks : PySem.W.keepIn K (.ref xf_InvalidStocks) = true)
    {de_TooLarge : Option Addr} {ke_TooLarge : ClassData} {ae_TooLarge : Array (Option Value)} (lo_TooLarge : K.lookup X_TooLarge = some ⟨.type "type", de_TooLarge, .cls ke_TooLarge, ae_TooLarge⟩) (eo_TooLarge : Bk.errOk X_TooLarge ke_TooLarge ae_TooLarge = true) (hx_TooLarge : PySem.W.hasDictIn K X_TooLarge = true) (ga_TooLarge : PySem.W.findIn K (.ref X_TooLarge) "__getattribute__" = some (some (.builtin "BaseException.__getattribute__"))) (gt_TooLarge : PySem.W.findIn K (.ref X_TooLarge) "__getattr__" = some none) (sx_TooLarge : PySem.W.findIn K (.ref X_TooLarge) "__setattr__" = some (some (.builtin "object.__setattr__"))) (bx_TooLarge : PySem.W.subIn K (.ref X_TooLarge) (.type "BaseException") = some true) (ty_TooLarge : PySem.W.typeIn K (.ref X_TooLarge) = some (.type "type")) (kx_TooLarge : PySem.W.keepIn K (.ref X_TooLarge) = true) (nx_TooLarge : PySem.W.findIn K (.ref X_TooLarge) "limit" = some none)
    {xf_TooLarge : Addr} {od_TooLarge an_TooLarge : Option Addr} {sl_TooLarge : Array (Option Value)} {oc_TooLarge kV_TooLarge dc_TooLarge pm_TooLarge cd_TooLarge ct_TooLarge : Value}
    (ix_TooLarge : PySem.W.findIn K (.ref X_TooLarge) "__init__" = some (some (.ref xf_TooLarge))) (tx_TooLarge : PySem.W.typeIn K (.ref xf_TooLarge) = some (.type "function")) (lx_TooLarge : K.lookup xf_TooLarge = some ⟨oc_TooLarge, od_TooLarge, .func (PySem.W.fnOf "__init__" "TooLarge.__init__" (defArgs s_TooLarge_init) (defBody s_TooLarge_init) (defScope s_TooLarge_init) .none kV_TooLarge dc_TooLarge pm_TooLarge an_TooLarge cd_TooLarge ct_TooLarge), sl_TooLarge⟩) (cx_TooLarge : PySem.W.codeIn K cd_TooLarge "TooLarge.__init__" = true) (ox_TooLarge : PySem.W.keepIn K (.ref xf_TooLarge) = true)
    {de_Impossible : Option Addr} {ke_Impossible : ClassData} {ae_Impossible : Array (Option Value)} (lo_Impossible : K.lookup X_Impossible = some ⟨.type "type", de_Impossible, .cls ke_Impossible, ae_Impossible⟩) (eo_Impossible : Bk.errOk X_Impossible ke_Impossible ae_Impossible = true) (hx_Impossible : PySem.W.hasDictIn K X_Impossible = true) (ga_Impossible : PySem.W.findIn K (.ref X_Impossible) "__getattribute__" = some (some (.builtin "BaseException.__getattribute__"))) (gt_Impossible : PySem.W.findIn K (.ref X_Impossible) "__getattr__" = some none) (sx_Impossible : PySem.W.findIn K (.ref X_Impossible) "__setattr__" = some (some (.builtin "object.__setattr__"))) (bx_Impossible : PySem.W.subIn K (.ref X_Impossible) (.type "BaseException") = some true) (ty_Impossible : PySem.W.typeIn K (.ref X_Impossible) = some (.type "type")) (kx_Impossible : PySem.W.keepIn K (.ref X_Impossible) = true) (nx_Impossible : PySem.W.findIn K (.ref X_Impossible) "broken" = some none)
    {xf_Impossible : Addr} {od_Impossible an_Impossible : Option Addr} {sl_Impossible : Array (Option Value)} {oc_Impossible kV_Impossible dc_Impossible pm_Impossible cd_Impossible ct_Impossible : Value}
    (ix_Impossible : PySem.W.findIn K (.ref X_Impossible) "__init__" = some (some (.ref xf_Impossible))) (tx_Impossible : PySem.W.typeIn K (.ref xf_Impossible) = some (.type "function")) (lx_Impossible : K.lookup xf_Impossible = some ⟨oc_Impossible, od_Impossible, .func (PySem.W.fnOf "__init__" "Impossible.__init__" (defArgs s_Impossible_init) (defBody s_Impossible_init) (defScope s_Impossible_init) .none kV_Impossible dc_Impossible pm_Impossible an_Impossible cd_Impossible ct_Impossible), sl_Impossible⟩) (cx_Impossible : PySem.W.codeIn K cd_Impossible "Impossible.__init__" = true) (ox_Impossible : PySem.W.keepIn K (.ref xf_Impossible) = true)
    {de_Mismatch : Option Addr} {ke_Mismatch : ClassData} {ae_Mismatch : Array (Option Value)} (lo_Mismatch : K.lookup X_Mismatch = some ⟨.type "type", de_Mismatch, .cls ke_Mismatch, ae_Mismatch⟩) (eo_Mismatch : Bk.errOk X_Mismatch ke_Mismatch ae_Mismatch = true) (hx_Mismatch : PySem.W.hasDictIn K X_Mismatch = true) (ga_Mismatch : PySem.W.findIn K (.ref X_Mismatch) "__getattribute__" = some (some (.builtin "BaseException.__getattribute__"))) (gt_Mismatch : PySem.W.findIn K (.ref X_Mismatch) "__getattr__" = some none) (sx_Mismatch : PySem.W.findIn K (.ref X_Mismatch) "__setattr__" = some (some (.builtin "object.__setattr__"))) (bx_Mismatch : PySem.W.subIn K (.ref X_Mismatch) (.type "BaseException") = some true) (ty_Mismatch : PySem.W.typeIn K (.ref X_Mismatch) = some (.type "type")) (kx_Mismatch : PySem.W.keepIn K (.ref X_Mismatch) = true) (nx_Mismatch : PySem.W.findIn K (.ref X_Mismatch) "name" = some none)
    {xf_Mismatch : Addr} {od_Mismatch an_Mismatch : Option Addr} {sl_Mismatch : Array (Option Value)} {oc_Mismatch kV_Mismatch dc_Mismatch pm_Mismatch cd_Mismatch ct_Mismatch : Value}
    (ix_Mismatch : PySem.W.findIn K (.ref X_Mismatch) "__init__" = some (some (.ref xf_Mismatch))) (tx_Mismatch : PySem.W.typeIn K (.ref xf_Mismatch) = some (.type "function")) (lx_Mismatch : K.lookup xf_Mismatch = some ⟨oc_Mismatch, od_Mismatch, .func (PySem.W.fnOf "__init__" "Mismatch.__init__" (defArgs s_Mismatch_init) (defBody s_Mismatch_init) (defScope s_Mismatch_init) .none kV_Mismatch dc_Mismatch pm_Mismatch an_Mismatch cd_Mismatch ct_Mismatch), sl_Mismatch⟩) (cx_Mismatch : PySem.W.codeIn K cd_Mismatch "Mismatch.__init__" = true) (ox_Mismatch : PySem.W.keepIn K (.ref xf_Mismatch) = true)
    {de_Over : Option Addr} {ke_Over : ClassData} {ae_Over : Array (Option Value)} (lo_Over : K.lookup X_Over = some ⟨.type "type", de_Over, .cls ke_Over, ae_Over⟩) (eo_Over : Bk.errOk X_Over ke_Over ae_Over = true) (hx_Over : PySem.W.hasDictIn K X_Over = true) (ga_Over : PySem.W.findIn K (.ref X_Over) "__getattribute__" = some (some (.builtin "BaseException.__getattribute__"))) (gt_Over : PySem.W.findIn K (.ref X_Over) "__getattr__" = some none) (sx_Over : PySem.W.findIn K (.ref X_Over) "__setattr__" = some (some (.builtin "object.__setattr__"))) (bx_Over : PySem.W.subIn K (.ref X_Over) (.type "BaseException") = some true) (ty_Over : PySem.W.typeIn K (.ref X_Over) = some (.type "type")) (kx_Over : PySem.W.keepIn K (.ref X_Over) = true) (nx_Over : PySem.W.findIn K (.ref X_Over) "day" = some none)
    {xf_Over : Addr} {od_Over an_Over : Option Addr} {sl_Over : Array (Option Value)} {oc_Over kV_Over dc_Over pm_Over cd_Over ct_Over : Value}
    (ix_Over : PySem.W.findIn K (.ref X_Over) "__init__" = some (some (.ref xf_Over))) (tx_Over : PySem.W.typeIn K (.ref xf_Over) = some (.type "function")) (lx_Over : K.lookup xf_Over = some ⟨oc_Over, od_Over, .func (PySem.W.fnOf "__init__" "Over.__init__" (defArgs s_Over_init) (defBody s_Over_init) (defScope s_Over_init) .none kV_Over dc_Over pm_Over an_Over cd_Over ct_Over), sl_Over⟩) (cx_Over : PySem.W.codeIn K cd_Over "Over.__init__" = true) (ox_Over : PySem.W.keepIn K (.ref xf_Over) = true)
    {de_TooMany : Option Addr} {ke_TooMany : ClassData} {ae_TooMany : Array (Option Value)} (lo_TooMany : K.lookup X_TooMany = some ⟨.type "type", de_TooMany, .cls ke_TooMany, ae_TooMany⟩) (eo_TooMany : Bk.errOk X_TooMany ke_TooMany ae_TooMany = true) (hx_TooMany : PySem.W.hasDictIn K X_TooMany = true) (ga_TooMany : PySem.W.findIn K (.ref X_TooMany) "__getattribute__" = some (some (.builtin "BaseException.__getattribute__"))) (gt_TooMany : PySem.W.findIn K (.ref X_TooMany) "__getattr__" = some none) (sx_TooMany : PySem.W.findIn K (.ref X_TooMany) "__setattr__" = some (some (.builtin "object.__setattr__"))) (bx_TooMany : PySem.W.subIn K (.ref X_TooMany) (.type "BaseException") = some true) (ty_TooMany : PySem.W.typeIn K (.ref X_TooMany) = some (.type "type")) (kx_TooMany : PySem.W.keepIn K (.ref X_TooMany) = true) (nx_TooMany : PySem.W.findIn K (.ref X_TooMany) "count" = some none)
    {xf_TooMany : Addr} {od_TooMany an_TooMany : Option Addr} {sl_TooMany : Array (Option Value)} {oc_TooMany kV_TooMany dc_TooMany pm_TooMany cd_TooMany ct_TooMany : Value}
    (ix_TooMany : PySem.W.findIn K (.ref X_TooMany) "__init__" = some (some (.ref xf_TooMany))) (tx_TooMany : PySem.W.typeIn K (.ref xf_TooMany) = some (.type "function")) (lx_TooMany : K.lookup xf_TooMany = some ⟨oc_TooMany, od_TooMany, .func (PySem.W.fnOf "__init__" "TooMany.__init__" (defArgs s_TooMany_init) (defBody s_TooMany_init) (defScope s_TooMany_init) .none kV_TooMany dc_TooMany pm_TooMany an_TooMany cd_TooMany ct_TooMany), sl_TooMany⟩) (cx_TooMany : PySem.W.codeIn K cd_TooMany "TooMany.__init__" = true) (ox_TooMany : PySem.W.keepIn K (.ref xf_TooMany) = true)
    (sub_InvalidCalendar_InvalidCalendar : PySem.W.subIn K (.ref X_InvalidCalendar) (.ref X_InvalidCalendar) = some true) (sub_InvalidHolidays_InvalidCalendar : PySem.W.subIn K (.ref X_InvalidHolidays) (.ref X_InvalidCalendar) = some false) (sub_InvalidPlan_InvalidCalendar : PySem.W.subIn K (.ref X_InvalidPlan) (.ref X_InvalidCalendar) = some false) (sub_InvalidNumber_InvalidCalendar : PySem.W.subIn K (.ref X_InvalidNumber) (.ref X_InvalidCalendar) = some false) (sub_InvalidRow_InvalidCalendar : PySem.W.subIn K (.ref X_InvalidRow) (.ref X_InvalidCalendar) = some false) (sub_InvalidPast_InvalidCalendar : PySem.W.subIn K (.ref X_InvalidPast) (.ref X_InvalidCalendar) = some false) (sub_InvalidStrategy_InvalidCalendar : PySem.W.subIn K (.ref X_InvalidStrategy) (.ref X_InvalidCalendar) = some false) (sub_InvalidPrices_InvalidCalendar : PySem.W.subIn K (.ref X_InvalidPrices) (.ref X_InvalidCalendar) = some false) (sub_InvalidWeights_InvalidCalendar : PySem.W.subIn K (.ref X_InvalidWeights) (.ref X_InvalidCalendar) = some false) (sub_InvalidQueue_InvalidCalendar : PySem.W.subIn K (.ref X_InvalidQueue) (.ref X_InvalidCalendar) = some false) (sub_InvalidTest_InvalidCalendar : PySem.W.subIn K (.ref X_InvalidTest) (.ref X_InvalidCalendar) = some false) (sub_InvalidDays_InvalidCalendar : PySem.W.subIn K (.ref X_InvalidDays) (.ref X_InvalidCalendar) = some false) (sub_InvalidTable_InvalidCalendar : PySem.W.subIn K (.ref X_InvalidTable) (.ref X_InvalidCalendar) = some false) (sub_InvalidStocks_InvalidCalendar : PySem.W.subIn K (.ref X_InvalidStocks) (.ref X_InvalidCalendar) = some false) (sub_TooLarge_InvalidCalendar : PySem.W.subIn K (.ref X_TooLarge) (.ref X_InvalidCalendar) = some false) (sub_Impossible_InvalidCalendar : PySem.W.subIn K (.ref X_Impossible) (.ref X_InvalidCalendar) = some false) (sub_Mismatch_InvalidCalendar : PySem.W.subIn K (.ref X_Mismatch) (.ref X_InvalidCalendar) = some false) (sub_Over_InvalidCalendar : PySem.W.subIn K (.ref X_Over) (.ref X_InvalidCalendar) = some false) (sub_TooMany_InvalidCalendar : PySem.W.subIn K (.ref X_TooMany) (.ref X_InvalidCalendar) = some false)
    (sub_InvalidCalendar_InvalidNumber : PySem.W.subIn K (.ref X_InvalidCalendar) (.ref X_InvalidNumber) = some false) (sub_InvalidHolidays_InvalidNumber : PySem.W.subIn K (.ref X_InvalidHolidays) (.ref X_InvalidNumber) = some false) (sub_InvalidPlan_InvalidNumber : PySem.W.subIn K (.ref X_InvalidPlan) (.ref X_InvalidNumber) = some false) (sub_InvalidNumber_InvalidNumber : PySem.W.subIn K (.ref X_InvalidNumber) (.ref X_InvalidNumber) = some true) (sub_InvalidRow_InvalidNumber : PySem.W.subIn K (.ref X_InvalidRow) (.ref X_InvalidNumber) = some false) (sub_InvalidPast_InvalidNumber : PySem.W.subIn K (.ref X_InvalidPast) (.ref X_InvalidNumber) = some false) (sub_InvalidStrategy_InvalidNumber : PySem.W.subIn K (.ref X_InvalidStrategy) (.ref X_InvalidNumber) = some false) (sub_InvalidPrices_InvalidNumber : PySem.W.subIn K (.ref X_InvalidPrices) (.ref X_InvalidNumber) = some false) (sub_InvalidWeights_InvalidNumber : PySem.W.subIn K (.ref X_InvalidWeights) (.ref X_InvalidNumber) = some false) (sub_InvalidQueue_InvalidNumber : PySem.W.subIn K (.ref X_InvalidQueue) (.ref X_InvalidNumber) = some false) (sub_InvalidTest_InvalidNumber : PySem.W.subIn K (.ref X_InvalidTest) (.ref X_InvalidNumber) = some false) (sub_InvalidDays_InvalidNumber : PySem.W.subIn K (.ref X_InvalidDays) (.ref X_InvalidNumber) = some false) (sub_InvalidTable_InvalidNumber : PySem.W.subIn K (.ref X_InvalidTable) (.ref X_InvalidNumber) = some false) (sub_InvalidStocks_InvalidNumber : PySem.W.subIn K (.ref X_InvalidStocks) (.ref X_InvalidNumber) = some false) (sub_TooLarge_InvalidNumber : PySem.W.subIn K (.ref X_TooLarge) (.ref X_InvalidNumber) = some false) (sub_Impossible_InvalidNumber : PySem.W.subIn K (.ref X_Impossible) (.ref X_InvalidNumber) = some false) (sub_Mismatch_InvalidNumber : PySem.W.subIn K (.ref X_Mismatch) (.ref X_InvalidNumber) = some false) (sub_Over_InvalidNumber : PySem.W.subIn K (.ref X_Over) (.ref X_InvalidNumber) = some false) (sub_TooMany_InvalidNumber : PySem.W.subIn K (.ref X_TooMany) (.ref X_InvalidNumber) = some false)
    (sub_InvalidCalendar_InvalidHolidays : PySem.W.subIn K (.ref X_InvalidCalendar) (.ref X_InvalidHolidays) = some false) (sub_InvalidHolidays_InvalidHolidays : PySem.W.subIn K (.ref X_InvalidHolidays) (.ref X_InvalidHolidays) = some true) (sub_InvalidPlan_InvalidHolidays : PySem.W.subIn K (.ref X_InvalidPlan) (.ref X_InvalidHolidays) = some false) (sub_InvalidNumber_InvalidHolidays : PySem.W.subIn K (.ref X_InvalidNumber) (.ref X_InvalidHolidays) = some false) (sub_InvalidRow_InvalidHolidays : PySem.W.subIn K (.ref X_InvalidRow) (.ref X_InvalidHolidays) = some false) (sub_InvalidPast_InvalidHolidays : PySem.W.subIn K (.ref X_InvalidPast) (.ref X_InvalidHolidays) = some false) (sub_InvalidStrategy_InvalidHolidays : PySem.W.subIn K (.ref X_InvalidStrategy) (.ref X_InvalidHolidays) = some false) (sub_InvalidPrices_InvalidHolidays : PySem.W.subIn K (.ref X_InvalidPrices) (.ref X_InvalidHolidays) = some false) (sub_InvalidWeights_InvalidHolidays : PySem.W.subIn K (.ref X_InvalidWeights) (.ref X_InvalidHolidays) = some false) (sub_InvalidQueue_InvalidHolidays : PySem.W.subIn K (.ref X_InvalidQueue) (.ref X_InvalidHolidays) = some false) (sub_InvalidTest_InvalidHolidays : PySem.W.subIn K (.ref X_InvalidTest) (.ref X_InvalidHolidays) = some false) (sub_InvalidDays_InvalidHolidays : PySem.W.subIn K (.ref X_InvalidDays) (.ref X_InvalidHolidays) = some false) (sub_InvalidTable_InvalidHolidays : PySem.W.subIn K (.ref X_InvalidTable) (.ref X_InvalidHolidays) = some false) (sub_InvalidStocks_InvalidHolidays : PySem.W.subIn K (.ref X_InvalidStocks) (.ref X_InvalidHolidays) = some false) (sub_TooLarge_InvalidHolidays : PySem.W.subIn K (.ref X_TooLarge) (.ref X_InvalidHolidays) = some false) (sub_Impossible_InvalidHolidays : PySem.W.subIn K (.ref X_Impossible) (.ref X_InvalidHolidays) = some false) (sub_Mismatch_InvalidHolidays : PySem.W.subIn K (.ref X_Mismatch) (.ref X_InvalidHolidays) = some false) (sub_Over_InvalidHolidays : PySem.W.subIn K (.ref X_Over) (.ref X_InvalidHolidays) = some false) (sub_TooMany_InvalidHolidays : PySem.W.subIn K (.ref X_TooMany) (.ref X_InvalidHolidays) = some false)
    (sub_InvalidCalendar_InvalidRow : PySem.W.subIn K (.ref X_InvalidCalendar) (.ref X_InvalidRow) = some false) (sub_InvalidHolidays_InvalidRow : PySem.W.subIn K (.ref X_InvalidHolidays) (.ref X_InvalidRow) = some false) (sub_InvalidPlan_InvalidRow : PySem.W.subIn K (.ref X_InvalidPlan) (.ref X_InvalidRow) = some false) (sub_InvalidNumber_InvalidRow : PySem.W.subIn K (.ref X_InvalidNumber) (.ref X_InvalidRow) = some false) (sub_InvalidRow_InvalidRow : PySem.W.subIn K (.ref X_InvalidRow) (.ref X_InvalidRow) = some true) (sub_InvalidPast_InvalidRow : PySem.W.subIn K (.ref X_InvalidPast) (.ref X_InvalidRow) = some false) (sub_InvalidStrategy_InvalidRow : PySem.W.subIn K (.ref X_InvalidStrategy) (.ref X_InvalidRow) = some false) (sub_InvalidPrices_InvalidRow : PySem.W.subIn K (.ref X_InvalidPrices) (.ref X_InvalidRow) = some false) (sub_InvalidWeights_InvalidRow : PySem.W.subIn K (.ref X_InvalidWeights) (.ref X_InvalidRow) = some false) (sub_InvalidQueue_InvalidRow : PySem.W.subIn K (.ref X_InvalidQueue) (.ref X_InvalidRow) = some false) (sub_InvalidTest_InvalidRow : PySem.W.subIn K (.ref X_InvalidTest) (.ref X_InvalidRow) = some false) (sub_InvalidDays_InvalidRow : PySem.W.subIn K (.ref X_InvalidDays) (.ref X_InvalidRow) = some false) (sub_InvalidTable_InvalidRow : PySem.W.subIn K (.ref X_InvalidTable) (.ref X_InvalidRow) = some false) (sub_InvalidStocks_InvalidRow : PySem.W.subIn K (.ref X_InvalidStocks) (.ref X_InvalidRow) = some false) (sub_TooLarge_InvalidRow : PySem.W.subIn K (.ref X_TooLarge) (.ref X_InvalidRow) = some false) (sub_Impossible_InvalidRow : PySem.W.subIn K (.ref X_Impossible) (.ref X_InvalidRow) = some false) (sub_Mismatch_InvalidRow : PySem.W.subIn K (.ref X_Mismatch) (.ref X_InvalidRow) = some false) (sub_Over_InvalidRow : PySem.W.subIn K (.ref X_Over) (.ref X_InvalidRow) = some false) (sub_TooMany_InvalidRow : PySem.W.subIn K (.ref X_TooMany) (.ref X_InvalidRow) = some false)
    (sub_InvalidCalendar_InvalidPast : PySem.W.subIn K (.ref X_InvalidCalendar) (.ref X_InvalidPast) = some false) (sub_InvalidHolidays_InvalidPast : PySem.W.subIn K (.ref X_InvalidHolidays) (.ref X_InvalidPast) = some false) (sub_InvalidPlan_InvalidPast : PySem.W.subIn K (.ref X_InvalidPlan) (.ref X_InvalidPast) = some false) (sub_InvalidNumber_InvalidPast : PySem.W.subIn K (.ref X_InvalidNumber) (.ref X_InvalidPast) = some false) (sub_InvalidRow_InvalidPast : PySem.W.subIn K (.ref X_InvalidRow) (.ref X_InvalidPast) = some false) (sub_InvalidPast_InvalidPast : PySem.W.subIn K (.ref X_InvalidPast) (.ref X_InvalidPast) = some true) (sub_InvalidStrategy_InvalidPast : PySem.W.subIn K (.ref X_InvalidStrategy) (.ref X_InvalidPast) = some false) (sub_InvalidPrices_InvalidPast : PySem.W.subIn K (.ref X_InvalidPrices) (.ref X_InvalidPast) = some false) (sub_InvalidWeights_InvalidPast : PySem.W.subIn K (.ref X_InvalidWeights) (.ref X_InvalidPast) = some false) (sub_InvalidQueue_InvalidPast : PySem.W.subIn K (.ref X_InvalidQueue) (.ref X_InvalidPast) = some false) (sub_InvalidTest_InvalidPast : PySem.W.subIn K (.ref X_InvalidTest) (.ref X_InvalidPast) = some false) (sub_InvalidDays_InvalidPast : PySem.W.subIn K (.ref X_InvalidDays) (.ref X_InvalidPast) = some false) (sub_InvalidTable_InvalidPast : PySem.W.subIn K (.ref X_InvalidTable) (.ref X_InvalidPast) = some false) (sub_InvalidStocks_InvalidPast : PySem.W.subIn K (.ref X_InvalidStocks) (.ref X_InvalidPast) = some false) (sub_TooLarge_InvalidPast : PySem.W.subIn K (.ref X_TooLarge) (.ref X_InvalidPast) = some false) (sub_Impossible_InvalidPast : PySem.W.subIn K (.ref X_Impossible) (.ref X_InvalidPast) = some false) (sub_Mismatch_InvalidPast : PySem.W.subIn K (.ref X_Mismatch) (.ref X_InvalidPast) = some false) (sub_Over_InvalidPast : PySem.W.subIn K (.ref X_Over) (.ref X_InvalidPast) = some false) (sub_TooMany_InvalidPast : PySem.W.subIn K (.ref X_TooMany) (.ref X_InvalidPast) = some false)
    (sub_InvalidCalendar_InvalidPlan : PySem.W.subIn K (.ref X_InvalidCalendar) (.ref X_InvalidPlan) = some false) (sub_InvalidHolidays_InvalidPlan : PySem.W.subIn K (.ref X_InvalidHolidays) (.ref X_InvalidPlan) = some false) (sub_InvalidPlan_InvalidPlan : PySem.W.subIn K (.ref X_InvalidPlan) (.ref X_InvalidPlan) = some true) (sub_InvalidNumber_InvalidPlan : PySem.W.subIn K (.ref X_InvalidNumber) (.ref X_InvalidPlan) = some false) (sub_InvalidRow_InvalidPlan : PySem.W.subIn K (.ref X_InvalidRow) (.ref X_InvalidPlan) = some false) (sub_InvalidPast_InvalidPlan : PySem.W.subIn K (.ref X_InvalidPast) (.ref X_InvalidPlan) = some false) (sub_InvalidStrategy_InvalidPlan : PySem.W.subIn K (.ref X_InvalidStrategy) (.ref X_InvalidPlan) = some false) (sub_InvalidPrices_InvalidPlan : PySem.W.subIn K (.ref X_InvalidPrices) (.ref X_InvalidPlan) = some false) (sub_InvalidWeights_InvalidPlan : PySem.W.subIn K (.ref X_InvalidWeights) (.ref X_InvalidPlan) = some false) (sub_InvalidQueue_InvalidPlan : PySem.W.subIn K (.ref X_InvalidQueue) (.ref X_InvalidPlan) = some false) (sub_InvalidTest_InvalidPlan : PySem.W.subIn K (.ref X_InvalidTest) (.ref X_InvalidPlan) = some false) (sub_InvalidDays_InvalidPlan : PySem.W.subIn K (.ref X_InvalidDays) (.ref X_InvalidPlan) = some false) (sub_InvalidTable_InvalidPlan : PySem.W.subIn K (.ref X_InvalidTable) (.ref X_InvalidPlan) = some false) (sub_InvalidStocks_InvalidPlan : PySem.W.subIn K (.ref X_InvalidStocks) (.ref X_InvalidPlan) = some false) (sub_TooLarge_InvalidPlan : PySem.W.subIn K (.ref X_TooLarge) (.ref X_InvalidPlan) = some false) (sub_Impossible_InvalidPlan : PySem.W.subIn K (.ref X_Impossible) (.ref X_InvalidPlan) = some false) (sub_Mismatch_InvalidPlan : PySem.W.subIn K (.ref X_Mismatch) (.ref X_InvalidPlan) = some false) (sub_Over_InvalidPlan : PySem.W.subIn K (.ref X_Over) (.ref X_InvalidPlan) = some false) (sub_TooMany_InvalidPlan : PySem.W.subIn K (.ref X_TooMany) (.ref X_InvalidPlan) = some false)
    (sub_InvalidCalendar_InvalidTest : PySem.W.subIn K (.ref X_InvalidCalendar) (.ref X_InvalidTest) = some false) (sub_InvalidHolidays_InvalidTest : PySem.W.subIn K (.ref X_InvalidHolidays) (.ref X_InvalidTest) = some false) (sub_InvalidPlan_InvalidTest : PySem.W.subIn K (.ref X_InvalidPlan) (.ref X_InvalidTest) = some false) (sub_InvalidNumber_InvalidTest : PySem.W.subIn K (.ref X_InvalidNumber) (.ref X_InvalidTest) = some false) (sub_InvalidRow_InvalidTest : PySem.W.subIn K (.ref X_InvalidRow) (.ref X_InvalidTest) = some false) (sub_InvalidPast_InvalidTest : PySem.W.subIn K (.ref X_InvalidPast) (.ref X_InvalidTest) = some false) (sub_InvalidStrategy_InvalidTest : PySem.W.subIn K (.ref X_InvalidStrategy) (.ref X_InvalidTest) = some false) (sub_InvalidPrices_InvalidTest : PySem.W.subIn K (.ref X_InvalidPrices) (.ref X_InvalidTest) = some false) (sub_InvalidWeights_InvalidTest : PySem.W.subIn K (.ref X_InvalidWeights) (.ref X_InvalidTest) = some false) (sub_InvalidQueue_InvalidTest : PySem.W.subIn K (.ref X_InvalidQueue) (.ref X_InvalidTest) = some false) (sub_InvalidTest_InvalidTest : PySem.W.subIn K (.ref X_InvalidTest) (.ref X_InvalidTest) = some true) (sub_InvalidDays_InvalidTest : PySem.W.subIn K (.ref X_InvalidDays) (.ref X_InvalidTest) = some false) (sub_InvalidTable_InvalidTest : PySem.W.subIn K (.ref X_InvalidTable) (.ref X_InvalidTest) = some false) (sub_InvalidStocks_InvalidTest : PySem.W.subIn K (.ref X_InvalidStocks) (.ref X_InvalidTest) = some false) (sub_TooLarge_InvalidTest : PySem.W.subIn K (.ref X_TooLarge) (.ref X_InvalidTest) = some false) (sub_Impossible_InvalidTest : PySem.W.subIn K (.ref X_Impossible) (.ref X_InvalidTest) = some false) (sub_Mismatch_InvalidTest : PySem.W.subIn K (.ref X_Mismatch) (.ref X_InvalidTest) = some false) (sub_Over_InvalidTest : PySem.W.subIn K (.ref X_Over) (.ref X_InvalidTest) = some false) (sub_TooMany_InvalidTest : PySem.W.subIn K (.ref X_TooMany) (.ref X_InvalidTest) = some false)
    (sub_InvalidCalendar_InvalidStrategy : PySem.W.subIn K (.ref X_InvalidCalendar) (.ref X_InvalidStrategy) = some false) (sub_InvalidHolidays_InvalidStrategy : PySem.W.subIn K (.ref X_InvalidHolidays) (.ref X_InvalidStrategy) = some false) (sub_InvalidPlan_InvalidStrategy : PySem.W.subIn K (.ref X_InvalidPlan) (.ref X_InvalidStrategy) = some false) (sub_InvalidNumber_InvalidStrategy : PySem.W.subIn K (.ref X_InvalidNumber) (.ref X_InvalidStrategy) = some false) (sub_InvalidRow_InvalidStrategy : PySem.W.subIn K (.ref X_InvalidRow) (.ref X_InvalidStrategy) = some false) (sub_InvalidPast_InvalidStrategy : PySem.W.subIn K (.ref X_InvalidPast) (.ref X_InvalidStrategy) = some false) (sub_InvalidStrategy_InvalidStrategy : PySem.W.subIn K (.ref X_InvalidStrategy) (.ref X_InvalidStrategy) = some true) (sub_InvalidPrices_InvalidStrategy : PySem.W.subIn K (.ref X_InvalidPrices) (.ref X_InvalidStrategy) = some false) (sub_InvalidWeights_InvalidStrategy : PySem.W.subIn K (.ref X_InvalidWeights) (.ref X_InvalidStrategy) = some false) (sub_InvalidQueue_InvalidStrategy : PySem.W.subIn K (.ref X_InvalidQueue) (.ref X_InvalidStrategy) = some false) (sub_InvalidTest_InvalidStrategy : PySem.W.subIn K (.ref X_InvalidTest) (.ref X_InvalidStrategy) = some false) (sub_InvalidDays_InvalidStrategy : PySem.W.subIn K (.ref X_InvalidDays) (.ref X_InvalidStrategy) = some false) (sub_InvalidTable_InvalidStrategy : PySem.W.subIn K (.ref X_InvalidTable) (.ref X_InvalidStrategy) = some false) (sub_InvalidStocks_InvalidStrategy : PySem.W.subIn K (.ref X_InvalidStocks) (.ref X_InvalidStrategy) = some false) (sub_TooLarge_InvalidStrategy : PySem.W.subIn K (.ref X_TooLarge) (.ref X_InvalidStrategy) = some false) (sub_Impossible_InvalidStrategy : PySem.W.subIn K (.ref X_Impossible) (.ref X_InvalidStrategy) = some false) (sub_Mismatch_InvalidStrategy : PySem.W.subIn K (.ref X_Mismatch) (.ref X_InvalidStrategy) = some false) (sub_Over_InvalidStrategy : PySem.W.subIn K (.ref X_Over) (.ref X_InvalidStrategy) = some false) (sub_TooMany_InvalidStrategy : PySem.W.subIn K (.ref X_TooMany) (.ref X_InvalidStrategy) = some false)
    (sub_InvalidCalendar_InvalidDays : PySem.W.subIn K (.ref X_InvalidCalendar) (.ref X_InvalidDays) = some false) (sub_InvalidHolidays_InvalidDays : PySem.W.subIn K (.ref X_InvalidHolidays) (.ref X_InvalidDays) = some false) (sub_InvalidPlan_InvalidDays : PySem.W.subIn K (.ref X_InvalidPlan) (.ref X_InvalidDays) = some false) (sub_InvalidNumber_InvalidDays : PySem.W.subIn K (.ref X_InvalidNumber) (.ref X_InvalidDays) = some false) (sub_InvalidRow_InvalidDays : PySem.W.subIn K (.ref X_InvalidRow) (.ref X_InvalidDays) = some false) (sub_InvalidPast_InvalidDays : PySem.W.subIn K (.ref X_InvalidPast) (.ref X_InvalidDays) = some false) (sub_InvalidStrategy_InvalidDays : PySem.W.subIn K (.ref X_InvalidStrategy) (.ref X_InvalidDays) = some false) (sub_InvalidPrices_InvalidDays : PySem.W.subIn K (.ref X_InvalidPrices) (.ref X_InvalidDays) = some false) (sub_InvalidWeights_InvalidDays : PySem.W.subIn K (.ref X_InvalidWeights) (.ref X_InvalidDays) = some false) (sub_InvalidQueue_InvalidDays : PySem.W.subIn K (.ref X_InvalidQueue) (.ref X_InvalidDays) = some false) (sub_InvalidTest_InvalidDays : PySem.W.subIn K (.ref X_InvalidTest) (.ref X_InvalidDays) = some false) (sub_InvalidDays_InvalidDays : PySem.W.subIn K (.ref X_InvalidDays) (.ref X_InvalidDays) = some true) (sub_InvalidTable_InvalidDays : PySem.W.subIn K (.ref X_InvalidTable) (.ref X_InvalidDays) = some false) (sub_InvalidStocks_InvalidDays : PySem.W.subIn K (.ref X_InvalidStocks) (.ref X_InvalidDays) = some false) (sub_TooLarge_InvalidDays : PySem.W.subIn K (.ref X_TooLarge) (.ref X_InvalidDays) = some false) (sub_Impossible_InvalidDays : PySem.W.subIn K (.ref X_Impossible) (.ref X_InvalidDays) = some false) (sub_Mismatch_InvalidDays : PySem.W.subIn K (.ref X_Mismatch) (.ref X_InvalidDays) = some false) (sub_Over_InvalidDays : PySem.W.subIn K (.ref X_Over) (.ref X_InvalidDays) = some false) (sub_TooMany_InvalidDays : PySem.W.subIn K (.ref X_TooMany) (.ref X_InvalidDays) = some false)
    (sub_InvalidCalendar_InvalidPrices : PySem.W.subIn K (.ref X_InvalidCalendar) (.ref X_InvalidPrices) = some false) (sub_InvalidHolidays_InvalidPrices : PySem.W.subIn K (.ref X_InvalidHolidays) (.ref X_InvalidPrices) = some false) (sub_InvalidPlan_InvalidPrices : PySem.W.subIn K (.ref X_InvalidPlan) (.ref X_InvalidPrices) = some false) (sub_InvalidNumber_InvalidPrices : PySem.W.subIn K (.ref X_InvalidNumber) (.ref X_InvalidPrices) = some false) (sub_InvalidRow_InvalidPrices : PySem.W.subIn K (.ref X_InvalidRow) (.ref X_InvalidPrices) = some false) (sub_InvalidPast_InvalidPrices : PySem.W.subIn K (.ref X_InvalidPast) (.ref X_InvalidPrices) = some false) (sub_InvalidStrategy_InvalidPrices : PySem.W.subIn K (.ref X_InvalidStrategy) (.ref X_InvalidPrices) = some false) (sub_InvalidPrices_InvalidPrices : PySem.W.subIn K (.ref X_InvalidPrices) (.ref X_InvalidPrices) = some true) (sub_InvalidWeights_InvalidPrices : PySem.W.subIn K (.ref X_InvalidWeights) (.ref X_InvalidPrices) = some false) (sub_InvalidQueue_InvalidPrices : PySem.W.subIn K (.ref X_InvalidQueue) (.ref X_InvalidPrices) = some false) (sub_InvalidTest_InvalidPrices : PySem.W.subIn K (.ref X_InvalidTest) (.ref X_InvalidPrices) = some false) (sub_InvalidDays_InvalidPrices : PySem.W.subIn K (.ref X_InvalidDays) (.ref X_InvalidPrices) = some false) (sub_InvalidTable_InvalidPrices : PySem.W.subIn K (.ref X_InvalidTable) (.ref X_InvalidPrices) = some false) (sub_InvalidStocks_InvalidPrices : PySem.W.subIn K (.ref X_InvalidStocks) (.ref X_InvalidPrices) = some false) (sub_TooLarge_InvalidPrices : PySem.W.subIn K (.ref X_TooLarge) (.ref X_InvalidPrices) = some false) (sub_Impossible_InvalidPrices : PySem.W.subIn K (.ref X_Impossible) (.ref X_InvalidPrices) = some false) (sub_Mismatch_InvalidPrices : PySem.W.subIn K (.ref X_Mismatch) (.ref X_InvalidPrices) = some false) (sub_Over_InvalidPrices : PySem.W.subIn K (.ref X_Over) (.ref X_InvalidPrices) = some false) (sub_TooMany_InvalidPrices : PySem.W.subIn K (.ref X_TooMany) (.ref X_InvalidPrices) = some false)
    (sub_InvalidCalendar_InvalidWeights : PySem.W.subIn K (.ref X_InvalidCalendar) (.ref X_InvalidWeights) = some false) (sub_InvalidHolidays_InvalidWeights : PySem.W.subIn K (.ref X_InvalidHolidays) (.ref X_InvalidWeights) = some false) (sub_InvalidPlan_InvalidWeights : PySem.W.subIn K (.ref X_InvalidPlan) (.ref X_InvalidWeights) = some false) (sub_InvalidNumber_InvalidWeights : PySem.W.subIn K (.ref X_InvalidNumber) (.ref X_InvalidWeights) = some false) (sub_InvalidRow_InvalidWeights : PySem.W.subIn K (.ref X_InvalidRow) (.ref X_InvalidWeights) = some false) (sub_InvalidPast_InvalidWeights : PySem.W.subIn K (.ref X_InvalidPast) (.ref X_InvalidWeights) = some false) (sub_InvalidStrategy_InvalidWeights : PySem.W.subIn K (.ref X_InvalidStrategy) (.ref X_InvalidWeights) = some false) (sub_InvalidPrices_InvalidWeights : PySem.W.subIn K (.ref X_InvalidPrices) (.ref X_InvalidWeights) = some false) (sub_InvalidWeights_InvalidWeights : PySem.W.subIn K (.ref X_InvalidWeights) (.ref X_InvalidWeights) = some true) (sub_InvalidQueue_InvalidWeights : PySem.W.subIn K (.ref X_InvalidQueue) (.ref X_InvalidWeights) = some false) (sub_InvalidTest_InvalidWeights : PySem.W.subIn K (.ref X_InvalidTest) (.ref X_InvalidWeights) = some false) (sub_InvalidDays_InvalidWeights : PySem.W.subIn K (.ref X_InvalidDays) (.ref X_InvalidWeights) = some false) (sub_InvalidTable_InvalidWeights : PySem.W.subIn K (.ref X_InvalidTable) (.ref X_InvalidWeights) = some false) (sub_InvalidStocks_InvalidWeights : PySem.W.subIn K (.ref X_InvalidStocks) (.ref X_InvalidWeights) = some false) (sub_TooLarge_InvalidWeights : PySem.W.subIn K (.ref X_TooLarge) (.ref X_InvalidWeights) = some false) (sub_Impossible_InvalidWeights : PySem.W.subIn K (.ref X_Impossible) (.ref X_InvalidWeights) = some false) (sub_Mismatch_InvalidWeights : PySem.W.subIn K (.ref X_Mismatch) (.ref X_InvalidWeights) = some false) (sub_Over_InvalidWeights : PySem.W.subIn K (.ref X_Over) (.ref X_InvalidWeights) = some false) (sub_TooMany_InvalidWeights : PySem.W.subIn K (.ref X_TooMany) (.ref X_InvalidWeights) = some false)
    (sub_InvalidCalendar_InvalidTable : PySem.W.subIn K (.ref X_InvalidCalendar) (.ref X_InvalidTable) = some false) (sub_InvalidHolidays_InvalidTable : PySem.W.subIn K (.ref X_InvalidHolidays) (.ref X_InvalidTable) = some false) (sub_InvalidPlan_InvalidTable : PySem.W.subIn K (.ref X_InvalidPlan) (.ref X_InvalidTable) = some false) (sub_InvalidNumber_InvalidTable : PySem.W.subIn K (.ref X_InvalidNumber) (.ref X_InvalidTable) = some false) (sub_InvalidRow_InvalidTable : PySem.W.subIn K (.ref X_InvalidRow) (.ref X_InvalidTable) = some false) (sub_InvalidPast_InvalidTable : PySem.W.subIn K (.ref X_InvalidPast) (.ref X_InvalidTable) = some false) (sub_InvalidStrategy_InvalidTable : PySem.W.subIn K (.ref X_InvalidStrategy) (.ref X_InvalidTable) = some false) (sub_InvalidPrices_InvalidTable : PySem.W.subIn K (.ref X_InvalidPrices) (.ref X_InvalidTable) = some false) (sub_InvalidWeights_InvalidTable : PySem.W.subIn K (.ref X_InvalidWeights) (.ref X_InvalidTable) = some false) (sub_InvalidQueue_InvalidTable : PySem.W.subIn K (.ref X_InvalidQueue) (.ref X_InvalidTable) = some false) (sub_InvalidTest_InvalidTable : PySem.W.subIn K (.ref X_InvalidTest) (.ref X_InvalidTable) = some false) (sub_InvalidDays_InvalidTable : PySem.W.subIn K (.ref X_InvalidDays) (.ref X_InvalidTable) = some false) (sub_InvalidTable_InvalidTable : PySem.W.subIn K (.ref X_InvalidTable) (.ref X_InvalidTable) = some true) (sub_InvalidStocks_InvalidTable : PySem.W.subIn K (.ref X_InvalidStocks) (.ref X_InvalidTable) = some false) (sub_TooLarge_InvalidTable : PySem.W.subIn K (.ref X_TooLarge) (.ref X_InvalidTable) = some false) (sub_Impossible_InvalidTable : PySem.W.subIn K (.ref X_Impossible) (.ref X_InvalidTable) = some false) (sub_Mismatch_InvalidTable : PySem.W.subIn K (.ref X_Mismatch) (.ref X_InvalidTable) = some false) (sub_Over_InvalidTable : PySem.W.subIn K (.ref X_Over) (.ref X_InvalidTable) = some false) (sub_TooMany_InvalidTable : PySem.W.subIn K (.ref X_TooMany) (.ref X_InvalidTable) = some false)
    (sub_InvalidCalendar_InvalidQueue : PySem.W.subIn K (.ref X_InvalidCalendar) (.ref X_InvalidQueue) = some false) (sub_InvalidHolidays_InvalidQueue : PySem.W.subIn K (.ref X_InvalidHolidays) (.ref X_InvalidQueue) = some false) (sub_InvalidPlan_InvalidQueue : PySem.W.subIn K (.ref X_InvalidPlan) (.ref X_InvalidQueue) = some false) (sub_InvalidNumber_InvalidQueue : PySem.W.subIn K (.ref X_InvalidNumber) (.ref X_InvalidQueue) = some false) (sub_InvalidRow_InvalidQueue : PySem.W.subIn K (.ref X_InvalidRow) (.ref X_InvalidQueue) = some false) (sub_InvalidPast_InvalidQueue : PySem.W.subIn K (.ref X_InvalidPast) (.ref X_InvalidQueue) = some false) (sub_InvalidStrategy_InvalidQueue : PySem.W.subIn K (.ref X_InvalidStrategy) (.ref X_InvalidQueue) = some false) (sub_InvalidPrices_InvalidQueue : PySem.W.subIn K (.ref X_InvalidPrices) (.ref X_InvalidQueue) = some false) (sub_InvalidWeights_InvalidQueue : PySem.W.subIn K (.ref X_InvalidWeights) (.ref X_InvalidQueue) = some false) (sub_InvalidQueue_InvalidQueue : PySem.W.subIn K (.ref X_InvalidQueue) (.ref X_InvalidQueue) = some true) (sub_InvalidTest_InvalidQueue : PySem.W.subIn K (.ref X_InvalidTest) (.ref X_InvalidQueue) = some false) (sub_InvalidDays_InvalidQueue : PySem.W.subIn K (.ref X_InvalidDays) (.ref X_InvalidQueue) = some false) (sub_InvalidTable_InvalidQueue : PySem.W.subIn K (.ref X_InvalidTable) (.ref X_InvalidQueue) = some false) (sub_InvalidStocks_InvalidQueue : PySem.W.subIn K (.ref X_InvalidStocks) (.ref X_InvalidQueue) = some false) (sub_TooLarge_InvalidQueue : PySem.W.subIn K (.ref X_TooLarge) (.ref X_InvalidQueue) = some false) (sub_Impossible_InvalidQueue : PySem.W.subIn K (.ref X_Impossible) (.ref X_InvalidQueue) = some false) (sub_Mismatch_InvalidQueue : PySem.W.subIn K (.ref X_Mismatch) (.ref X_InvalidQueue) = some false) (sub_Over_InvalidQueue : PySem.W.subIn K (.ref X_Over) (.ref X_InvalidQueue) = some false) (sub_TooMany_InvalidQueue : PySem.W.subIn K (.ref X_TooMany) (.ref X_InvalidQueue) = some false)
    (sub_InvalidCalendar_InvalidStocks : PySem.W.subIn K (.ref X_InvalidCalendar) (.ref X_InvalidStocks) = some false) (sub_InvalidHolidays_InvalidStocks : PySem.W.subIn K (.ref X_InvalidHolidays) (.ref X_InvalidStocks) = some false) (sub_InvalidPlan_InvalidStocks : PySem.W.subIn K (.ref X_InvalidPlan) (.ref X_InvalidStocks) = some false) (sub_InvalidNumber_InvalidStocks : PySem.W.subIn K (.ref X_InvalidNumber) (.ref X_InvalidStocks) = some false) (sub_InvalidRow_InvalidStocks : PySem.W.subIn K (.ref X_InvalidRow) (.ref X_InvalidStocks) = some false) (sub_InvalidPast_InvalidStocks : PySem.W.subIn K (.ref X_InvalidPast) (.ref X_InvalidStocks) = some false) (sub_InvalidStrategy_InvalidStocks : PySem.W.subIn K (.ref X_InvalidStrategy) (.ref X_InvalidStocks) = some false) (sub_InvalidPrices_InvalidStocks : PySem.W.subIn K (.ref X_InvalidPrices) (.ref X_InvalidStocks) = some false) (sub_InvalidWeights_InvalidStocks : PySem.W.subIn K (.ref X_InvalidWeights) (.ref X_InvalidStocks) = some false) (sub_InvalidQueue_InvalidStocks : PySem.W.subIn K (.ref X_InvalidQueue) (.ref X_InvalidStocks) = some false) (sub_InvalidTest_InvalidStocks : PySem.W.subIn K (.ref X_InvalidTest) (.ref X_InvalidStocks) = some false) (sub_InvalidDays_InvalidStocks : PySem.W.subIn K (.ref X_InvalidDays) (.ref X_InvalidStocks) = some false) (sub_InvalidTable_InvalidStocks : PySem.W.subIn K (.ref X_InvalidTable) (.ref X_InvalidStocks) = some false) (sub_InvalidStocks_InvalidStocks : PySem.W.subIn K (.ref X_InvalidStocks) (.ref X_InvalidStocks) = some true) (sub_TooLarge_InvalidStocks : PySem.W.subIn K (.ref X_TooLarge) (.ref X_InvalidStocks) = some false) (sub_Impossible_InvalidStocks : PySem.W.subIn K (.ref X_Impossible) (.ref X_InvalidStocks) = some false) (sub_Mismatch_InvalidStocks : PySem.W.subIn K (.ref X_Mismatch) (.ref X_InvalidStocks) = some false) (sub_Over_InvalidStocks : PySem.W.subIn K (.ref X_Over) (.ref X_InvalidStocks) = some false) (sub_TooMany_InvalidStocks : PySem.W.subIn K (.ref X_TooMany) (.ref X_InvalidStocks) = some false)
    (sub_InvalidCalendar_Impossible : PySem.W.subIn K (.ref X_InvalidCalendar) (.ref X_Impossible) = some false) (sub_InvalidHolidays_Impossible : PySem.W.subIn K (.ref X_InvalidHolidays) (.ref X_Impossible) = some false) (sub_InvalidPlan_Impossible : PySem.W.subIn K (.ref X_InvalidPlan) (.ref X_Impossible) = some false) (sub_InvalidNumber_Impossible : PySem.W.subIn K (.ref X_InvalidNumber) (.ref X_Impossible) = some false) (sub_InvalidRow_Impossible : PySem.W.subIn K (.ref X_InvalidRow) (.ref X_Impossible) = some false) (sub_InvalidPast_Impossible : PySem.W.subIn K (.ref X_InvalidPast) (.ref X_Impossible) = some false) (sub_InvalidStrategy_Impossible : PySem.W.subIn K (.ref X_InvalidStrategy) (.ref X_Impossible) = some false) (sub_InvalidPrices_Impossible : PySem.W.subIn K (.ref X_InvalidPrices) (.ref X_Impossible) = some false) (sub_InvalidWeights_Impossible : PySem.W.subIn K (.ref X_InvalidWeights) (.ref X_Impossible) = some false) (sub_InvalidQueue_Impossible : PySem.W.subIn K (.ref X_InvalidQueue) (.ref X_Impossible) = some false) (sub_InvalidTest_Impossible : PySem.W.subIn K (.ref X_InvalidTest) (.ref X_Impossible) = some false) (sub_InvalidDays_Impossible : PySem.W.subIn K (.ref X_InvalidDays) (.ref X_Impossible) = some false) (sub_InvalidTable_Impossible : PySem.W.subIn K (.ref X_InvalidTable) (.ref X_Impossible) = some false) (sub_InvalidStocks_Impossible : PySem.W.subIn K (.ref X_InvalidStocks) (.ref X_Impossible) = some false) (sub_TooLarge_Impossible : PySem.W.subIn K (.ref X_TooLarge) (.ref X_Impossible) = some false) (sub_Impossible_Impossible : PySem.W.subIn K (.ref X_Impossible) (.ref X_Impossible) = some true) (sub_Mismatch_Impossible : PySem.W.subIn K (.ref X_Mismatch) (.ref X_Impossible) = some false) (sub_Over_Impossible : PySem.W.subIn K (.ref X_Over) (.ref X_Impossible) = some false) (sub_TooMany_Impossible : PySem.W.subIn K (.ref X_TooMany) (.ref X_Impossible) = some false)
    (sub_InvalidCalendar_Mismatch : PySem.W.subIn K (.ref X_InvalidCalendar) (.ref X_Mismatch) = some false) (sub_InvalidHolidays_Mismatch : PySem.W.subIn K (.ref X_InvalidHolidays) (.ref X_Mismatch) = some false) (sub_InvalidPlan_Mismatch : PySem.W.subIn K (.ref X_InvalidPlan) (.ref X_Mismatch) = some false) (sub_InvalidNumber_Mismatch : PySem.W.subIn K (.ref X_InvalidNumber) (.ref X_Mismatch) = some false) (sub_InvalidRow_Mismatch : PySem.W.subIn K (.ref X_InvalidRow) (.ref X_Mismatch) = some false) (sub_InvalidPast_Mismatch : PySem.W.subIn K (.ref X_InvalidPast) (.ref X_Mismatch) = some false) (sub_InvalidStrategy_Mismatch : PySem.W.subIn K (.ref X_InvalidStrategy) (.ref X_Mismatch) = some false) (sub_InvalidPrices_Mismatch : PySem.W.subIn K (.ref X_InvalidPrices) (.ref X_Mismatch) = some false) (sub_InvalidWeights_Mismatch : PySem.W.subIn K (.ref X_InvalidWeights) (.ref X_Mismatch) = some false) (sub_InvalidQueue_Mismatch : PySem.W.subIn K (.ref X_InvalidQueue) (.ref X_Mismatch) = some false) (sub_InvalidTest_Mismatch : PySem.W.subIn K (.ref X_InvalidTest) (.ref X_Mismatch) = some false) (sub_InvalidDays_Mismatch : PySem.W.subIn K (.ref X_InvalidDays) (.ref X_Mismatch) = some false) (sub_InvalidTable_Mismatch : PySem.W.subIn K (.ref X_InvalidTable) (.ref X_Mismatch) = some false) (sub_InvalidStocks_Mismatch : PySem.W.subIn K (.ref X_InvalidStocks) (.ref X_Mismatch) = some false) (sub_TooLarge_Mismatch : PySem.W.subIn K (.ref X_TooLarge) (.ref X_Mismatch) = some false) (sub_Impossible_Mismatch : PySem.W.subIn K (.ref X_Impossible) (.ref X_Mismatch) = some false) (sub_Mismatch_Mismatch : PySem.W.subIn K (.ref X_Mismatch) (.ref X_Mismatch) = some true) (sub_Over_Mismatch : PySem.W.subIn K (.ref X_Over) (.ref X_Mismatch) = some false) (sub_TooMany_Mismatch : PySem.W.subIn K (.ref X_TooMany) (.ref X_Mismatch) = some false)
    (sub_InvalidCalendar_Over : PySem.W.subIn K (.ref X_InvalidCalendar) (.ref X_Over) = some false) (sub_InvalidHolidays_Over : PySem.W.subIn K (.ref X_InvalidHolidays) (.ref X_Over) = some false) (sub_InvalidPlan_Over : PySem.W.subIn K (.ref X_InvalidPlan) (.ref X_Over) = some false) (sub_InvalidNumber_Over : PySem.W.subIn K (.ref X_InvalidNumber) (.ref X_Over) = some false) (sub_InvalidRow_Over : PySem.W.subIn K (.ref X_InvalidRow) (.ref X_Over) = some false) (sub_InvalidPast_Over : PySem.W.subIn K (.ref X_InvalidPast) (.ref X_Over) = some false) (sub_InvalidStrategy_Over : PySem.W.subIn K (.ref X_InvalidStrategy) (.ref X_Over) = some false) (sub_InvalidPrices_Over : PySem.W.subIn K (.ref X_InvalidPrices) (.ref X_Over) = some false) (sub_InvalidWeights_Over : PySem.W.subIn K (.ref X_InvalidWeights) (.ref X_Over) = some false) (sub_InvalidQueue_Over : PySem.W.subIn K (.ref X_InvalidQueue) (.ref X_Over) = some false) (sub_InvalidTest_Over : PySem.W.subIn K (.ref X_InvalidTest) (.ref X_Over) = some false) (sub_InvalidDays_Over : PySem.W.subIn K (.ref X_InvalidDays) (.ref X_Over) = some false) (sub_InvalidTable_Over : PySem.W.subIn K (.ref X_InvalidTable) (.ref X_Over) = some false) (sub_InvalidStocks_Over : PySem.W.subIn K (.ref X_InvalidStocks) (.ref X_Over) = some false) (sub_TooLarge_Over : PySem.W.subIn K (.ref X_TooLarge) (.ref X_Over) = some false) (sub_Impossible_Over : PySem.W.subIn K (.ref X_Impossible) (.ref X_Over) = some false) (sub_Mismatch_Over : PySem.W.subIn K (.ref X_Mismatch) (.ref X_Over) = some false) (sub_Over_Over : PySem.W.subIn K (.ref X_Over) (.ref X_Over) = some true) (sub_TooMany_Over : PySem.W.subIn K (.ref X_TooMany) (.ref X_Over) = some false)
    (sub_InvalidCalendar_TooMany : PySem.W.subIn K (.ref X_InvalidCalendar) (.ref X_TooMany) = some false) (sub_InvalidHolidays_TooMany : PySem.W.subIn K (.ref X_InvalidHolidays) (.ref X_TooMany) = some false) (sub_InvalidPlan_TooMany : PySem.W.subIn K (.ref X_InvalidPlan) (.ref X_TooMany) = some false) (sub_InvalidNumber_TooMany : PySem.W.subIn K (.ref X_InvalidNumber) (.ref X_TooMany) = some false) (sub_InvalidRow_TooMany : PySem.W.subIn K (.ref X_InvalidRow) (.ref X_TooMany) = some false) (sub_InvalidPast_TooMany : PySem.W.subIn K (.ref X_InvalidPast) (.ref X_TooMany) = some false) (sub_InvalidStrategy_TooMany : PySem.W.subIn K (.ref X_InvalidStrategy) (.ref X_TooMany) = some false) (sub_InvalidPrices_TooMany : PySem.W.subIn K (.ref X_InvalidPrices) (.ref X_TooMany) = some false) (sub_InvalidWeights_TooMany : PySem.W.subIn K (.ref X_InvalidWeights) (.ref X_TooMany) = some false) (sub_InvalidQueue_TooMany : PySem.W.subIn K (.ref X_InvalidQueue) (.ref X_TooMany) = some false) (sub_InvalidTest_TooMany : PySem.W.subIn K (.ref X_InvalidTest) (.ref X_TooMany) = some false) (sub_InvalidDays_TooMany : PySem.W.subIn K (.ref X_InvalidDays) (.ref X_TooMany) = some false) (sub_InvalidTable_TooMany : PySem.W.subIn K (.ref X_InvalidTable) (.ref X_TooMany) = some false) (sub_InvalidStocks_TooMany : PySem.W.subIn K (.ref X_InvalidStocks) (.ref X_TooMany) = some false) (sub_TooLarge_TooMany : PySem.W.subIn K (.ref X_TooLarge) (.ref X_TooMany) = some false) (sub_Impossible_TooMany : PySem.W.subIn K (.ref X_Impossible) (.ref X_TooMany) = some false) (sub_Mismatch_TooMany : PySem.W.subIn K (.ref X_Mismatch) (.ref X_TooMany) = some false) (sub_Over_TooMany : PySem.W.subIn K (.ref X_Over) (.ref X_TooMany) = some false) (sub_TooMany_TooMany : PySem.W.subIn K (.ref X_TooMany) (.ref X_TooMany) = some true)
    (sub_InvalidCalendar_TooLarge : PySem.W.subIn K (.ref X_InvalidCalendar) (.ref X_TooLarge) = some false) (sub_InvalidHolidays_TooLarge : PySem.W.subIn K (.ref X_InvalidHolidays) (.ref X_TooLarge) = some false) (sub_InvalidPlan_TooLarge : PySem.W.subIn K (.ref X_InvalidPlan) (.ref X_TooLarge) = some false) (sub_InvalidNumber_TooLarge : PySem.W.subIn K (.ref X_InvalidNumber) (.ref X_TooLarge) = some false) (sub_InvalidRow_TooLarge : PySem.W.subIn K (.ref X_InvalidRow) (.ref X_TooLarge) = some false) (sub_InvalidPast_TooLarge : PySem.W.subIn K (.ref X_InvalidPast) (.ref X_TooLarge) = some false) (sub_InvalidStrategy_TooLarge : PySem.W.subIn K (.ref X_InvalidStrategy) (.ref X_TooLarge) = some false) (sub_InvalidPrices_TooLarge : PySem.W.subIn K (.ref X_InvalidPrices) (.ref X_TooLarge) = some false) (sub_InvalidWeights_TooLarge : PySem.W.subIn K (.ref X_InvalidWeights) (.ref X_TooLarge) = some false) (sub_InvalidQueue_TooLarge : PySem.W.subIn K (.ref X_InvalidQueue) (.ref X_TooLarge) = some false) (sub_InvalidTest_TooLarge : PySem.W.subIn K (.ref X_InvalidTest) (.ref X_TooLarge) = some false) (sub_InvalidDays_TooLarge : PySem.W.subIn K (.ref X_InvalidDays) (.ref X_TooLarge) = some false) (sub_InvalidTable_TooLarge : PySem.W.subIn K (.ref X_InvalidTable) (.ref X_TooLarge) = some false) (sub_InvalidStocks_TooLarge : PySem.W.subIn K (.ref X_InvalidStocks) (.ref X_TooLarge) = some false) (sub_TooLarge_TooLarge : PySem.W.subIn K (.ref X_TooLarge) (.ref X_TooLarge) = some true) (sub_Impossible_TooLarge : PySem.W.subIn K (.ref X_Impossible) (.ref X_TooLarge) = some false) (sub_Mismatch_TooLarge : PySem.W.subIn K (.ref X_Mismatch) (.ref X_TooLarge) = some false) (sub_Over_TooLarge : PySem.W.subIn K (.ref X_Over) (.ref X_TooLarge) = some false) (sub_TooMany_TooLarge : PySem.W.subIn K (.ref X_TooMany) (.ref X_TooLarge) = some false)
    (bx_BreakError : PySem.W.subIn K (.ref X_BreakError) (.type "BaseException") = some true) (ty_BreakError : PySem.W.typeIn K (.ref X_BreakError) = some (.type "type"))
    (hx_BreakError : PySem.W.hasDictIn K X_BreakError = true) (sub_InvalidCalendar_BreakError : PySem.W.subIn K (.ref X_InvalidCalendar) (.ref X_BreakError) = some true) (sub_InvalidHolidays_BreakError : PySem.W.subIn K (.ref X_InvalidHolidays) (.ref X_BreakError) = some true) (sub_InvalidPlan_BreakError : PySem.W.subIn K (.ref X_InvalidPlan) (.ref X_BreakError) = some true) (sub_InvalidNumber_BreakError : PySem.W.subIn K (.ref X_InvalidNumber) (.ref X_BreakError) = some true) (sub_InvalidRow_BreakError : PySem.W.subIn K (.ref X_InvalidRow) (.ref X_BreakError) = some true) (sub_InvalidPast_BreakError : PySem.W.subIn K (.ref X_InvalidPast) (.ref X_BreakError) = some true) (sub_InvalidStrategy_BreakError : PySem.W.subIn K (.ref X_InvalidStrategy) (.ref X_BreakError) = some true) (sub_InvalidPrices_BreakError : PySem.W.subIn K (.ref X_InvalidPrices) (.ref X_BreakError) = some true) (sub_InvalidWeights_BreakError : PySem.W.subIn K (.ref X_InvalidWeights) (.ref X_BreakError) = some true) (sub_InvalidQueue_BreakError : PySem.W.subIn K (.ref X_InvalidQueue) (.ref X_BreakError) = some true) (sub_InvalidTest_BreakError : PySem.W.subIn K (.ref X_InvalidTest) (.ref X_BreakError) = some true) (sub_InvalidDays_BreakError : PySem.W.subIn K (.ref X_InvalidDays) (.ref X_BreakError) = some true) (sub_InvalidTable_BreakError : PySem.W.subIn K (.ref X_InvalidTable) (.ref X_BreakError) = some true) (sub_InvalidStocks_BreakError : PySem.W.subIn K (.ref X_InvalidStocks) (.ref X_BreakError) = some true) (sub_TooLarge_BreakError : PySem.W.subIn K (.ref X_TooLarge) (.ref X_BreakError) = some true) (sub_Impossible_BreakError : PySem.W.subIn K (.ref X_Impossible) (.ref X_BreakError) = some true) (sub_Mismatch_BreakError : PySem.W.subIn K (.ref X_Mismatch) (.ref X_BreakError) = some true) (sub_Over_BreakError : PySem.W.subIn K (.ref X_Over) (.ref X_BreakError) = some true) (sub_TooMany_BreakError : PySem.W.subIn K (.ref X_TooMany) (.ref X_BreakError) = some true)
    {f_law_mixed : Addr} {od_law_mixed an_law_mixed : Option Addr} {sl_law_mixed : Array (Option Value)} {oc_law_mixed kV_law_mixed dc_law_mixed pm_law_mixed cd_law_mixed ct_law_mixed : Value}
    (a_law_mixed : PySem.W.nsIn K mainGlobals "_law_mixed" = some (some (.ref f_law_mixed))) (l_law_mixed : K.lookup f_law_mixed = some ⟨oc_law_mixed, od_law_mixed, .func (PySem.W.fnOf "_law_mixed" "_law_mixed" (defArgs s_law_mixed) (defBody s_law_mixed) (defScope s_law_mixed) .none kV_law_mixed dc_law_mixed pm_law_mixed an_law_mixed cd_law_mixed ct_law_mixed), sl_law_mixed⟩) (c_law_mixed : PySem.W.codeIn K cd_law_mixed "_law_mixed" = true) (k_law_mixed : PySem.W.keepIn K (.ref f_law_mixed) = true)
    {f_law_source : Addr} {od_law_source an_law_source : Option Addr} {sl_law_source : Array (Option Value)} {oc_law_source kV_law_source dc_law_source pm_law_source cd_law_source ct_law_source : Value}
    (a_law_source : PySem.W.nsIn K mainGlobals "_law_source" = some (some (.ref f_law_source))) (l_law_source : K.lookup f_law_source = some ⟨oc_law_source, od_law_source, .func (PySem.W.fnOf "_law_source" "_law_source" (defArgs s_law_source) (defBody s_law_source) (defScope s_law_source) .none kV_law_source dc_law_source pm_law_source an_law_source cd_law_source ct_law_source), sl_law_source⟩) (c_law_source : PySem.W.codeIn K cd_law_source "_law_source" = true) (k_law_source : PySem.W.keepIn K (.ref f_law_source) = true)
    {f_law_take : Addr} {od_law_take an_law_take : Option Addr} {sl_law_take : Array (Option Value)} {oc_law_take kV_law_take dc_law_take pm_law_take cd_law_take ct_law_take : Value}
    (a_law_take : PySem.W.nsIn K mainGlobals "_law_take" = some (some (.ref f_law_take))) (l_law_take : K.lookup f_law_take = some ⟨oc_law_take, od_law_take, .func (PySem.W.fnOf "_law_take" "_law_take" (defArgs s_law_take) (defBody s_law_take) (defScope s_law_take) .none kV_law_take dc_law_take pm_law_take an_law_take cd_law_take ct_law_take), sl_law_take⟩) (c_law_take : PySem.W.codeIn K cd_law_take "_law_take" = true) (k_law_take : PySem.W.keepIn K (.ref f_law_take) = true)
    {f_law_places : Addr} {od_law_places an_law_places : Option Addr} {sl_law_places : Array (Option Value)} {oc_law_places kV_law_places dc_law_places pm_law_places cd_law_places ct_law_places : Value}
    (a_law_places : PySem.W.nsIn K mainGlobals "_law_places" = some (some (.ref f_law_places))) (l_law_places : K.lookup f_law_places = some ⟨oc_law_places, od_law_places, .func (PySem.W.fnOf "_law_places" "_law_places" (defArgs s_law_places) (defBody s_law_places) (defScope s_law_places) .none kV_law_places dc_law_places pm_law_places an_law_places cd_law_places ct_law_places), sl_law_places⟩) (c_law_places : PySem.W.codeIn K cd_law_places "_law_places" = true) (k_law_places : PySem.W.keepIn K (.ref f_law_places) = true)
    {f_law_stores : Addr} {od_law_stores an_law_stores : Option Addr} {sl_law_stores : Array (Option Value)} {oc_law_stores kV_law_stores dc_law_stores pm_law_stores cd_law_stores ct_law_stores : Value}
    (a_law_stores : PySem.W.nsIn K mainGlobals "_law_stores" = some (some (.ref f_law_stores))) (l_law_stores : K.lookup f_law_stores = some ⟨oc_law_stores, od_law_stores, .func (PySem.W.fnOf "_law_stores" "_law_stores" (defArgs s_law_stores) (defBody s_law_stores) (defScope s_law_stores) .none kV_law_stores dc_law_stores pm_law_stores an_law_stores cd_law_stores ct_law_stores), sl_law_stores⟩) (c_law_stores : PySem.W.codeIn K cd_law_stores "_law_stores" = true) (k_law_stores : PySem.W.keepIn K (.ref f_law_stores) = true)
    {f_law_first_errors : Addr} {od_law_first_errors an_law_first_errors : Option Addr} {sl_law_first_errors : Array (Option Value)} {oc_law_first_errors kV_law_first_errors dc_law_first_errors pm_law_first_errors cd_law_first_errors ct_law_first_errors : Value}
    (a_law_first_errors : PySem.W.nsIn K mainGlobals "_law_first_errors" = some (some (.ref f_law_first_errors))) (l_law_first_errors : K.lookup f_law_first_errors = some ⟨oc_law_first_errors, od_law_first_errors, .func (PySem.W.fnOf "_law_first_errors" "_law_first_errors" (defArgs s_law_first_errors) (defBody s_law_first_errors) (defScope s_law_first_errors) .none kV_law_first_errors dc_law_first_errors pm_law_first_errors an_law_first_errors cd_law_first_errors ct_law_first_errors), sl_law_first_errors⟩) (c_law_first_errors : PySem.W.codeIn K cd_law_first_errors "_law_first_errors" = true) (k_law_first_errors : PySem.W.keepIn K (.ref f_law_first_errors) = true)
    {f_law_middle_errors : Addr} {od_law_middle_errors an_law_middle_errors : Option Addr} {sl_law_middle_errors : Array (Option Value)} {oc_law_middle_errors kV_law_middle_errors dc_law_middle_errors pm_law_middle_errors cd_law_middle_errors ct_law_middle_errors : Value}
    (a_law_middle_errors : PySem.W.nsIn K mainGlobals "_law_middle_errors" = some (some (.ref f_law_middle_errors))) (l_law_middle_errors : K.lookup f_law_middle_errors = some ⟨oc_law_middle_errors, od_law_middle_errors, .func (PySem.W.fnOf "_law_middle_errors" "_law_middle_errors" (defArgs s_law_middle_errors) (defBody s_law_middle_errors) (defScope s_law_middle_errors) .none kV_law_middle_errors dc_law_middle_errors pm_law_middle_errors an_law_middle_errors cd_law_middle_errors ct_law_middle_errors), sl_law_middle_errors⟩) (c_law_middle_errors : PySem.W.codeIn K cd_law_middle_errors "_law_middle_errors" = true) (k_law_middle_errors : PySem.W.keepIn K (.ref f_law_middle_errors) = true)
    {f_law_last_errors : Addr} {od_law_last_errors an_law_last_errors : Option Addr} {sl_law_last_errors : Array (Option Value)} {oc_law_last_errors kV_law_last_errors dc_law_last_errors pm_law_last_errors cd_law_last_errors ct_law_last_errors : Value}
    (a_law_last_errors : PySem.W.nsIn K mainGlobals "_law_last_errors" = some (some (.ref f_law_last_errors))) (l_law_last_errors : K.lookup f_law_last_errors = some ⟨oc_law_last_errors, od_law_last_errors, .func (PySem.W.fnOf "_law_last_errors" "_law_last_errors" (defArgs s_law_last_errors) (defBody s_law_last_errors) (defScope s_law_last_errors) .none kV_law_last_errors dc_law_last_errors pm_law_last_errors an_law_last_errors cd_law_last_errors ct_law_last_errors), sl_law_last_errors⟩) (c_law_last_errors : PySem.W.codeIn K cd_law_last_errors "_law_last_errors" = true) (k_law_last_errors : PySem.W.keepIn K (.ref f_law_last_errors) = true)
    {f_law : Addr} {od_law an_law : Option Addr} {sl_law : Array (Option Value)} {oc_law kV_law dc_law pm_law cd_law ct_law : Value}
    (a_law : PySem.W.nsIn K mainGlobals "law" = some (some (.ref f_law))) (l_law : K.lookup f_law = some ⟨oc_law, od_law, .func (PySem.W.fnOf "law" "law" (defArgs s_law) (defBody s_law) (defScope s_law) .none kV_law dc_law pm_law an_law cd_law ct_law), sl_law⟩) (c_law : PySem.W.codeIn K cd_law "law" = true) (k_law : PySem.W.keepIn K (.ref f_law) = true)
    (z_ValueError : PySem.W.nsIn K mainGlobals "ValueError" = some none)
    (z_all : PySem.W.nsIn K mainGlobals "all" = some none)
    (z_enumerate : PySem.W.nsIn K mainGlobals "enumerate" = some none)
    (z_isinstance : PySem.W.nsIn K mainGlobals "isinstance" = some none)
    (z_range : PySem.W.nsIn K mainGlobals "range" = some none)
    (z_repr : PySem.W.nsIn K mainGlobals "repr" = some none)
    (sp_class : PySem.W.specialIn K (.builtin "object.__class__") "__get__" = some (some (.builtin "getset_descriptor.__get__"))) (tk_class : PySem.W.takesIn K (.builtin "object.__class__") = some true)
    (ca_InvalidCalendar : PySem.W.findIn K (.ref X_InvalidCalendar) "__class__" = some (some (.builtin "object.__class__"))) (mo_InvalidCalendar : PySem.W.mroIn K X_InvalidCalendar (.type "object") = some true) (kv_InvalidCalendar : PySem.W.subIn K (.ref X_InvalidCalendar) (.type "ValueError") = some true)
    (ca_InvalidHolidays : PySem.W.findIn K (.ref X_InvalidHolidays) "__class__" = some (some (.builtin "object.__class__"))) (mo_InvalidHolidays : PySem.W.mroIn K X_InvalidHolidays (.type "object") = some true) (kv_InvalidHolidays : PySem.W.subIn K (.ref X_InvalidHolidays) (.type "ValueError") = some true)
    (ca_InvalidPlan : PySem.W.findIn K (.ref X_InvalidPlan) "__class__" = some (some (.builtin "object.__class__"))) (mo_InvalidPlan : PySem.W.mroIn K X_InvalidPlan (.type "object") = some true) (kv_InvalidPlan : PySem.W.subIn K (.ref X_InvalidPlan) (.type "ValueError") = some true)
    (ca_InvalidNumber : PySem.W.findIn K (.ref X_InvalidNumber) "__class__" = some (some (.builtin "object.__class__"))) (mo_InvalidNumber : PySem.W.mroIn K X_InvalidNumber (.type "object") = some true) (kv_InvalidNumber : PySem.W.subIn K (.ref X_InvalidNumber) (.type "ValueError") = some true)
    (ca_InvalidRow : PySem.W.findIn K (.ref X_InvalidRow) "__class__" = some (some (.builtin "object.__class__"))) (mo_InvalidRow : PySem.W.mroIn K X_InvalidRow (.type "object") = some true) (kv_InvalidRow : PySem.W.subIn K (.ref X_InvalidRow) (.type "ValueError") = some true)
    (ca_InvalidPast : PySem.W.findIn K (.ref X_InvalidPast) "__class__" = some (some (.builtin "object.__class__"))) (mo_InvalidPast : PySem.W.mroIn K X_InvalidPast (.type "object") = some true) (kv_InvalidPast : PySem.W.subIn K (.ref X_InvalidPast) (.type "ValueError") = some true)
    (ca_InvalidStrategy : PySem.W.findIn K (.ref X_InvalidStrategy) "__class__" = some (some (.builtin "object.__class__"))) (mo_InvalidStrategy : PySem.W.mroIn K X_InvalidStrategy (.type "object") = some true) (kv_InvalidStrategy : PySem.W.subIn K (.ref X_InvalidStrategy) (.type "ValueError") = some true)
    (ca_InvalidPrices : PySem.W.findIn K (.ref X_InvalidPrices) "__class__" = some (some (.builtin "object.__class__"))) (mo_InvalidPrices : PySem.W.mroIn K X_InvalidPrices (.type "object") = some true) (kv_InvalidPrices : PySem.W.subIn K (.ref X_InvalidPrices) (.type "ValueError") = some true)
    (ca_InvalidWeights : PySem.W.findIn K (.ref X_InvalidWeights) "__class__" = some (some (.builtin "object.__class__"))) (mo_InvalidWeights : PySem.W.mroIn K X_InvalidWeights (.type "object") = some true) (kv_InvalidWeights : PySem.W.subIn K (.ref X_InvalidWeights) (.type "ValueError") = some true)
    (ca_InvalidQueue : PySem.W.findIn K (.ref X_InvalidQueue) "__class__" = some (some (.builtin "object.__class__"))) (mo_InvalidQueue : PySem.W.mroIn K X_InvalidQueue (.type "object") = some true) (kv_InvalidQueue : PySem.W.subIn K (.ref X_InvalidQueue) (.type "ValueError") = some true)
    (ca_InvalidTest : PySem.W.findIn K (.ref X_InvalidTest) "__class__" = some (some (.builtin "object.__class__"))) (mo_InvalidTest : PySem.W.mroIn K X_InvalidTest (.type "object") = some true) (kv_InvalidTest : PySem.W.subIn K (.ref X_InvalidTest) (.type "ValueError") = some true)
    (ca_InvalidDays : PySem.W.findIn K (.ref X_InvalidDays) "__class__" = some (some (.builtin "object.__class__"))) (mo_InvalidDays : PySem.W.mroIn K X_InvalidDays (.type "object") = some true) (kv_InvalidDays : PySem.W.subIn K (.ref X_InvalidDays) (.type "ValueError") = some true)
    (ca_InvalidTable : PySem.W.findIn K (.ref X_InvalidTable) "__class__" = some (some (.builtin "object.__class__"))) (mo_InvalidTable : PySem.W.mroIn K X_InvalidTable (.type "object") = some true) (kv_InvalidTable : PySem.W.subIn K (.ref X_InvalidTable) (.type "ValueError") = some true)
    (ca_InvalidStocks : PySem.W.findIn K (.ref X_InvalidStocks) "__class__" = some (some (.builtin "object.__class__"))) (mo_InvalidStocks : PySem.W.mroIn K X_InvalidStocks (.type "object") = some true) (kv_InvalidStocks : PySem.W.subIn K (.ref X_InvalidStocks) (.type "ValueError") = some true)
    (ca_TooLarge : PySem.W.findIn K (.ref X_TooLarge) "__class__" = some (some (.builtin "object.__class__"))) (mo_TooLarge : PySem.W.mroIn K X_TooLarge (.type "object") = some true) (kv_TooLarge : PySem.W.subIn K (.ref X_TooLarge) (.type "ValueError") = some true)
    (ca_Impossible : PySem.W.findIn K (.ref X_Impossible) "__class__" = some (some (.builtin "object.__class__"))) (mo_Impossible : PySem.W.mroIn K X_Impossible (.type "object") = some true) (kv_Impossible : PySem.W.subIn K (.ref X_Impossible) (.type "ValueError") = some true)
    (ca_Mismatch : PySem.W.findIn K (.ref X_Mismatch) "__class__" = some (some (.builtin "object.__class__"))) (mo_Mismatch : PySem.W.mroIn K X_Mismatch (.type "object") = some true) (kv_Mismatch : PySem.W.subIn K (.ref X_Mismatch) (.type "ValueError") = some true)
    (ca_Over : PySem.W.findIn K (.ref X_Over) "__class__" = some (some (.builtin "object.__class__"))) (mo_Over : PySem.W.mroIn K X_Over (.type "object") = some true) (kv_Over : PySem.W.subIn K (.ref X_Over) (.type "ValueError") = some true)
    (ca_TooMany : PySem.W.findIn K (.ref X_TooMany) "__class__" = some (some (.builtin "object.__class__"))) (mo_TooMany : PySem.W.mroIn K X_TooMany (.type "object") = some true) (kv_TooMany : PySem.W.subIn K (.ref X_TooMany) (.type "ValueError") = some true)
    : ∃ (fd : FuncData) (C : CT), (∀ (s : Shared) (v : Value), BindsTo s fd ⟨[v], []⟩ [("_law_script", v)]) ∧ ∀ base : Heap, K.In base → base.Ns mainGlobals mg → FnQ l.prog w K mg base C 5 fa fd ["_law_script"] F_law := by
  have e2 : fa = f_law := by
    have e := hfa.symm.trans (PySem.W.mg_of X G a_law)
    cases e
    rfl
  rw [e2]
  have F_law_mixed := fun_mk (st := s_law_mixed) l_law_mixed c_law_mixed k_law_mixed
  have F_law_source := fun_mk (st := s_law_source) l_law_source c_law_source k_law_source
  have F_law_take := fun_mk (st := s_law_take) l_law_take c_law_take k_law_take
  have F_law_places := fun_mk (st := s_law_places) l_law_places c_law_places k_law_places
  have F_law_stores := fun_mk (st := s_law_stores) l_law_stores c_law_stores k_law_stores
  have F_law_first_errors := fun_mk (st := s_law_first_errors) l_law_first_errors c_law_first_errors k_law_first_errors
  have F_law_middle_errors := fun_mk (st := s_law_middle_errors) l_law_middle_errors c_law_middle_errors k_law_middle_errors
  have F_law_last_errors := fun_mk (st := s_law_last_errors) l_law_last_errors c_law_last_errors k_law_last_errors
  have F_law := fun_mk (st := s_law) l_law c_law k_law
  have FX_InvalidCalendar := fun_mk (st := s_InvalidCalendar_init) lx_InvalidCalendar cx_InvalidCalendar ox_InvalidCalendar
  have FX_InvalidHolidays := fun_mk (st := s_InvalidHolidays_init) lx_InvalidHolidays cx_InvalidHolidays ox_InvalidHolidays
  have FX_InvalidPlan := fun_mk (st := s_InvalidPlan_init) lx_InvalidPlan cx_InvalidPlan ox_InvalidPlan
  have FX_InvalidNumber := fun_mk (st := s_InvalidNumber_init) lx_InvalidNumber cx_InvalidNumber ox_InvalidNumber
  have FX_InvalidRow := fun_mk (st := s_InvalidRow_init) lx_InvalidRow cx_InvalidRow ox_InvalidRow
  have FX_InvalidPast := fun_mk (st := s_InvalidPast_init) lx_InvalidPast cx_InvalidPast ox_InvalidPast
  have FX_InvalidStrategy := fun_mk (st := s_InvalidStrategy_init) lx_InvalidStrategy cx_InvalidStrategy ox_InvalidStrategy
  have FX_InvalidPrices := fun_mk (st := s_InvalidPrices_init) lx_InvalidPrices cx_InvalidPrices ox_InvalidPrices
  have FX_InvalidWeights := fun_mk (st := s_InvalidWeights_init) lx_InvalidWeights cx_InvalidWeights ox_InvalidWeights
  have FX_InvalidQueue := fun_mk (st := s_InvalidQueue_init) lx_InvalidQueue cx_InvalidQueue ox_InvalidQueue
  have FX_InvalidTest := fun_mk (st := s_InvalidTest_init) lx_InvalidTest cx_InvalidTest ox_InvalidTest
  have FX_InvalidDays := fun_mk (st := s_InvalidDays_init) lx_InvalidDays cx_InvalidDays ox_InvalidDays
  have FX_InvalidTable := fun_mk (st := s_InvalidTable_init) lx_InvalidTable cx_InvalidTable ox_InvalidTable
  have FX_InvalidStocks := fun_mk (st := s_InvalidStocks_init) lx_InvalidStocks cx_InvalidStocks ox_InvalidStocks
  have FX_TooLarge := fun_mk (st := s_TooLarge_init) lx_TooLarge cx_TooLarge ox_TooLarge
  have FX_Impossible := fun_mk (st := s_Impossible_init) lx_Impossible cx_Impossible ox_Impossible
  have FX_Mismatch := fun_mk (st := s_Mismatch_init) lx_Mismatch cx_Mismatch ox_Mismatch
  have FX_Over := fun_mk (st := s_Over_init) lx_Over cx_Over ox_Over
  have FX_TooMany := fun_mk (st := s_TooMany_init) lx_TooMany cx_TooMany ox_TooMany
  have T : Tx K mg ⟨f_law_mixed, _, f_law_source, _, f_law_take, _, f_law_places, _, f_law_stores, _, f_law_first_errors, _, f_law_middle_errors, _, f_law_last_errors, _, f_law, _, xf_InvalidCalendar, _, xf_InvalidHolidays, _, xf_InvalidPlan, _, xf_InvalidNumber, _, xf_InvalidRow, _, xf_InvalidPast, _, xf_InvalidStrategy, _, xf_InvalidPrices, _, xf_InvalidWeights, _, xf_InvalidQueue, _, xf_InvalidTest, _, xf_InvalidDays, _, xf_InvalidTable, _, xf_InvalidStocks, _, xf_TooLarge, _, xf_Impossible, _, xf_Mismatch, _, xf_Over, _, xf_TooMany, _, X_InvalidCalendar, X_InvalidHolidays, X_InvalidPlan, X_InvalidNumber, X_InvalidRow, X_InvalidPast, X_InvalidStrategy, X_InvalidPrices, X_InvalidWeights, X_InvalidQueue, X_InvalidTest, X_InvalidDays, X_InvalidTable, X_InvalidStocks, X_TooLarge, X_Impossible, X_Mismatch, X_Over, X_TooMany, X_BreakError⟩ :=
    { g_law_mixed := PySem.W.mg_of X G a_law_mixed,
      F_law_mixed := F_law_mixed, b_law_mixed := F_law_mixed.binds fun _ _ _ _ _ _ us hl => match us, hl with | [_, _], _ => rfl,
      g_law_source := PySem.W.mg_of X G a_law_source,
      F_law_source := F_law_source, b_law_source := F_law_source.binds fun _ _ _ _ _ _ us hl => match us, hl with | [_], _ => rfl,
      g_law_take := PySem.W.mg_of X G a_law_take,
      F_law_take := F_law_take, b_law_take := F_law_take.binds fun _ _ _ _ _ _ us hl => match us, hl with | [_, _], _ => rfl,
      g_law_places := PySem.W.mg_of X G a_law_places,
      F_law_places := F_law_places, b_law_places := F_law_places.binds fun _ _ _ _ _ _ us hl => match us, hl with | [_], _ => rfl,
      g_law_stores := PySem.W.mg_of X G a_law_stores,
      F_law_stores := F_law_stores, b_law_stores := F_law_stores.binds fun _ _ _ _ _ _ us hl => match us, hl with | [_, _, _, _], _ => rfl,
      g_law_first_errors := PySem.W.mg_of X G a_law_first_errors,
      F_law_first_errors := F_law_first_errors, b_law_first_errors := F_law_first_errors.binds fun _ _ _ _ _ _ us hl => match us, hl with | [_], _ => rfl,
      g_law_middle_errors := PySem.W.mg_of X G a_law_middle_errors,
      F_law_middle_errors := F_law_middle_errors, b_law_middle_errors := F_law_middle_errors.binds fun _ _ _ _ _ _ us hl => match us, hl with | [_], _ => rfl,
      g_law_last_errors := PySem.W.mg_of X G a_law_last_errors,
      F_law_last_errors := F_law_last_errors, b_law_last_errors := F_law_last_errors.binds fun _ _ _ _ _ _ us hl => match us, hl with | [_], _ => rfl,
      g_law := PySem.W.mg_of X G a_law,
      F_law := F_law, b_law := F_law.binds fun _ _ _ _ _ _ us hl => match us, hl with | [_], _ => rfl,
      x_InvalidCalendar := ⟨⟨Bk.errOk_cls lo_InvalidCalendar eo_InvalidCalendar, sx_InvalidCalendar, bx_InvalidCalendar, ty_InvalidCalendar, kx_InvalidCalendar⟩, ⟨ga_InvalidCalendar, gt_InvalidCalendar, bx_InvalidCalendar, hx_InvalidCalendar⟩, nx_InvalidCalendar, ix_InvalidCalendar, tx_InvalidCalendar, FX_InvalidCalendar, FX_InvalidCalendar.binds fun _ _ _ _ _ _ us hl => match us, hl with | [_, _], _ => rfl⟩,
      x_InvalidHolidays := ⟨⟨Bk.errOk_cls lo_InvalidHolidays eo_InvalidHolidays, sx_InvalidHolidays, bx_InvalidHolidays, ty_InvalidHolidays, kx_InvalidHolidays⟩, ⟨ga_InvalidHolidays, gt_InvalidHolidays, bx_InvalidHolidays, hx_InvalidHolidays⟩, nx_InvalidHolidays, ix_InvalidHolidays, tx_InvalidHolidays, FX_InvalidHolidays, FX_InvalidHolidays.binds fun _ _ _ _ _ _ us hl => match us, hl with | [_, _], _ => rfl⟩,
      x_InvalidPlan := ⟨⟨Bk.errOk_cls lo_InvalidPlan eo_InvalidPlan, sx_InvalidPlan, bx_InvalidPlan, ty_InvalidPlan, kx_InvalidPlan⟩, ⟨ga_InvalidPlan, gt_InvalidPlan, bx_InvalidPlan, hx_InvalidPlan⟩, nx_InvalidPlan, ix_InvalidPlan, tx_InvalidPlan, FX_InvalidPlan, FX_InvalidPlan.binds fun _ _ _ _ _ _ us hl => match us, hl with | [_, _], _ => rfl⟩,
      x_InvalidNumber := ⟨⟨Bk.errOk_cls lo_InvalidNumber eo_InvalidNumber, sx_InvalidNumber, bx_InvalidNumber, ty_InvalidNumber, kx_InvalidNumber⟩, ⟨ga_InvalidNumber, gt_InvalidNumber, bx_InvalidNumber, hx_InvalidNumber⟩, nx_InvalidNumber, ix_InvalidNumber, tx_InvalidNumber, FX_InvalidNumber, FX_InvalidNumber.binds fun _ _ _ _ _ _ us hl => match us, hl with | [_, _], _ => rfl⟩,
      x_InvalidRow := ⟨⟨Bk.errOk_cls lo_InvalidRow eo_InvalidRow, sx_InvalidRow, bx_InvalidRow, ty_InvalidRow, kx_InvalidRow⟩, ⟨ga_InvalidRow, gt_InvalidRow, bx_InvalidRow, hx_InvalidRow⟩, nx_InvalidRow, ix_InvalidRow, tx_InvalidRow, FX_InvalidRow, FX_InvalidRow.binds fun _ _ _ _ _ _ us hl => match us, hl with | [_, _], _ => rfl⟩,
      x_InvalidPast := ⟨⟨Bk.errOk_cls lo_InvalidPast eo_InvalidPast, sx_InvalidPast, bx_InvalidPast, ty_InvalidPast, kx_InvalidPast⟩, ⟨ga_InvalidPast, gt_InvalidPast, bx_InvalidPast, hx_InvalidPast⟩, nx_InvalidPast, ix_InvalidPast, tx_InvalidPast, FX_InvalidPast, FX_InvalidPast.binds fun _ _ _ _ _ _ us hl => match us, hl with | [_, _], _ => rfl⟩,
      x_InvalidStrategy := ⟨⟨Bk.errOk_cls lo_InvalidStrategy eo_InvalidStrategy, sx_InvalidStrategy, bx_InvalidStrategy, ty_InvalidStrategy, kx_InvalidStrategy⟩, ⟨ga_InvalidStrategy, gt_InvalidStrategy, bx_InvalidStrategy, hx_InvalidStrategy⟩, nx_InvalidStrategy, ix_InvalidStrategy, tx_InvalidStrategy, FX_InvalidStrategy, FX_InvalidStrategy.binds fun _ _ _ _ _ _ us hl => match us, hl with | [_, _], _ => rfl⟩,
      x_InvalidPrices := ⟨⟨Bk.errOk_cls lo_InvalidPrices eo_InvalidPrices, sx_InvalidPrices, bx_InvalidPrices, ty_InvalidPrices, kx_InvalidPrices⟩, ⟨ga_InvalidPrices, gt_InvalidPrices, bx_InvalidPrices, hx_InvalidPrices⟩, nx_InvalidPrices, ix_InvalidPrices, tx_InvalidPrices, FX_InvalidPrices, FX_InvalidPrices.binds fun _ _ _ _ _ _ us hl => match us, hl with | [_, _], _ => rfl⟩,
      x_InvalidWeights := ⟨⟨Bk.errOk_cls lo_InvalidWeights eo_InvalidWeights, sx_InvalidWeights, bx_InvalidWeights, ty_InvalidWeights, kx_InvalidWeights⟩, ⟨ga_InvalidWeights, gt_InvalidWeights, bx_InvalidWeights, hx_InvalidWeights⟩, nx_InvalidWeights, ix_InvalidWeights, tx_InvalidWeights, FX_InvalidWeights, FX_InvalidWeights.binds fun _ _ _ _ _ _ us hl => match us, hl with | [_, _], _ => rfl⟩,
      x_InvalidQueue := ⟨⟨Bk.errOk_cls lo_InvalidQueue eo_InvalidQueue, sx_InvalidQueue, bx_InvalidQueue, ty_InvalidQueue, kx_InvalidQueue⟩, ⟨ga_InvalidQueue, gt_InvalidQueue, bx_InvalidQueue, hx_InvalidQueue⟩, nx_InvalidQueue, ix_InvalidQueue, tx_InvalidQueue, FX_InvalidQueue, FX_InvalidQueue.binds fun _ _ _ _ _ _ us hl => match us, hl with | [_, _], _ => rfl⟩,
      x_InvalidTest := ⟨⟨Bk.errOk_cls lo_InvalidTest eo_InvalidTest, sx_InvalidTest, bx_InvalidTest, ty_InvalidTest, kx_InvalidTest⟩, ⟨ga_InvalidTest, gt_InvalidTest, bx_InvalidTest, hx_InvalidTest⟩, nx_InvalidTest, ix_InvalidTest, tx_InvalidTest, FX_InvalidTest, FX_InvalidTest.binds fun _ _ _ _ _ _ us hl => match us, hl with | [_, _], _ => rfl⟩,
      x_InvalidDays := ⟨⟨Bk.errOk_cls lo_InvalidDays eo_InvalidDays, sx_InvalidDays, bx_InvalidDays, ty_InvalidDays, kx_InvalidDays⟩, ⟨ga_InvalidDays, gt_InvalidDays, bx_InvalidDays, hx_InvalidDays⟩, nx_InvalidDays, ix_InvalidDays, tx_InvalidDays, FX_InvalidDays, FX_InvalidDays.binds fun _ _ _ _ _ _ us hl => match us, hl with | [_, _], _ => rfl⟩,
      x_InvalidTable := ⟨⟨Bk.errOk_cls lo_InvalidTable eo_InvalidTable, sx_InvalidTable, bx_InvalidTable, ty_InvalidTable, kx_InvalidTable⟩, ⟨ga_InvalidTable, gt_InvalidTable, bx_InvalidTable, hx_InvalidTable⟩, nx_InvalidTable, ix_InvalidTable, tx_InvalidTable, FX_InvalidTable, FX_InvalidTable.binds fun _ _ _ _ _ _ us hl => match us, hl with | [_, _], _ => rfl⟩,
      x_InvalidStocks := ⟨⟨Bk.errOk_cls lo_InvalidStocks eo_InvalidStocks, sx_InvalidStocks, bx_InvalidStocks, ty_InvalidStocks, kx_InvalidStocks⟩, ⟨ga_InvalidStocks, gt_InvalidStocks, bx_InvalidStocks, hx_InvalidStocks⟩, nx_InvalidStocks, ix_InvalidStocks, tx_InvalidStocks, FX_InvalidStocks, FX_InvalidStocks.binds fun _ _ _ _ _ _ us hl => match us, hl with | [_, _], _ => rfl⟩,
      x_TooLarge := ⟨⟨Bk.errOk_cls lo_TooLarge eo_TooLarge, sx_TooLarge, bx_TooLarge, ty_TooLarge, kx_TooLarge⟩, ⟨ga_TooLarge, gt_TooLarge, bx_TooLarge, hx_TooLarge⟩, nx_TooLarge, ix_TooLarge, tx_TooLarge, FX_TooLarge, FX_TooLarge.binds fun _ _ _ _ _ _ us hl => match us, hl with | [_, _], _ => rfl⟩,
      x_Impossible := ⟨⟨Bk.errOk_cls lo_Impossible eo_Impossible, sx_Impossible, bx_Impossible, ty_Impossible, kx_Impossible⟩, ⟨ga_Impossible, gt_Impossible, bx_Impossible, hx_Impossible⟩, nx_Impossible, ix_Impossible, tx_Impossible, FX_Impossible, FX_Impossible.binds fun _ _ _ _ _ _ us hl => match us, hl with | [_, _], _ => rfl⟩,
      x_Mismatch := ⟨⟨Bk.errOk_cls lo_Mismatch eo_Mismatch, sx_Mismatch, bx_Mismatch, ty_Mismatch, kx_Mismatch⟩, ⟨ga_Mismatch, gt_Mismatch, bx_Mismatch, hx_Mismatch⟩, nx_Mismatch, ix_Mismatch, tx_Mismatch, FX_Mismatch, FX_Mismatch.binds fun _ _ _ _ _ _ us hl => match us, hl with | [_, _], _ => rfl⟩,
      x_Over := ⟨⟨Bk.errOk_cls lo_Over eo_Over, sx_Over, bx_Over, ty_Over, kx_Over⟩, ⟨ga_Over, gt_Over, bx_Over, hx_Over⟩, nx_Over, ix_Over, tx_Over, FX_Over, FX_Over.binds fun _ _ _ _ _ _ us hl => match us, hl with | [_, _], _ => rfl⟩,
      x_TooMany := ⟨⟨Bk.errOk_cls lo_TooMany eo_TooMany, sx_TooMany, bx_TooMany, ty_TooMany, kx_TooMany⟩, ⟨ga_TooMany, gt_TooMany, bx_TooMany, hx_TooMany⟩, nx_TooMany, ix_TooMany, tx_TooMany, FX_TooMany, FX_TooMany.binds fun _ _ _ _ _ _ us hl => match us, hl with | [_, _], _ => rfl⟩,
      gx_InvalidCalendar := PySem.W.mg_of X G aX_InvalidCalendar,
      gx_InvalidHolidays := PySem.W.mg_of X G aX_InvalidHolidays,
      gx_InvalidPlan := PySem.W.mg_of X G aX_InvalidPlan,
      gx_InvalidNumber := PySem.W.mg_of X G aX_InvalidNumber,
      gx_InvalidRow := PySem.W.mg_of X G aX_InvalidRow,
      gx_InvalidPast := PySem.W.mg_of X G aX_InvalidPast,
      gx_InvalidStrategy := PySem.W.mg_of X G aX_InvalidStrategy,
      gx_InvalidPrices := PySem.W.mg_of X G aX_InvalidPrices,
      gx_InvalidWeights := PySem.W.mg_of X G aX_InvalidWeights,
      gx_InvalidQueue := PySem.W.mg_of X G aX_InvalidQueue,
      gx_InvalidTest := PySem.W.mg_of X G aX_InvalidTest,
      gx_InvalidDays := PySem.W.mg_of X G aX_InvalidDays,
      gx_InvalidTable := PySem.W.mg_of X G aX_InvalidTable,
      gx_InvalidStocks := PySem.W.mg_of X G aX_InvalidStocks,
      gx_TooLarge := PySem.W.mg_of X G aX_TooLarge,
      gx_Impossible := PySem.W.mg_of X G aX_Impossible,
      gx_Mismatch := PySem.W.mg_of X G aX_Mismatch,
      gx_Over := PySem.W.mg_of X G aX_Over,
      gx_TooMany := PySem.W.mg_of X G aX_TooMany,
      gx_BreakError := PySem.W.mg_of X G aX_BreakError,
      e_InvalidCalendar := fun j hj => match j, hj with | 0, _ => PySem.W.exm_ref bx_InvalidCalendar hx_InvalidCalendar ty_InvalidCalendar sub_InvalidCalendar_InvalidCalendar | 1, _ => PySem.W.exm_ref bx_InvalidCalendar hx_InvalidCalendar ty_InvalidCalendar sub_InvalidHolidays_InvalidCalendar | 2, _ => PySem.W.exm_ref bx_InvalidCalendar hx_InvalidCalendar ty_InvalidCalendar sub_InvalidPlan_InvalidCalendar | 3, _ => PySem.W.exm_ref bx_InvalidCalendar hx_InvalidCalendar ty_InvalidCalendar sub_InvalidNumber_InvalidCalendar | 4, _ => PySem.W.exm_ref bx_InvalidCalendar hx_InvalidCalendar ty_InvalidCalendar sub_InvalidRow_InvalidCalendar | 5, _ => PySem.W.exm_ref bx_InvalidCalendar hx_InvalidCalendar ty_InvalidCalendar sub_InvalidPast_InvalidCalendar | 6, _ => PySem.W.exm_ref bx_InvalidCalendar hx_InvalidCalendar ty_InvalidCalendar sub_InvalidStrategy_InvalidCalendar | 7, _ => PySem.W.exm_ref bx_InvalidCalendar hx_InvalidCalendar ty_InvalidCalendar sub_InvalidPrices_InvalidCalendar | 8, _ => PySem.W.exm_ref bx_InvalidCalendar hx_InvalidCalendar ty_InvalidCalendar sub_InvalidWeights_InvalidCalendar | 9, _ => PySem.W.exm_ref bx_InvalidCalendar hx_InvalidCalendar ty_InvalidCalendar sub_InvalidQueue_InvalidCalendar | 10, _ => PySem.W.exm_ref bx_InvalidCalendar hx_InvalidCalendar ty_InvalidCalendar sub_InvalidTest_InvalidCalendar | 11, _ => PySem.W.exm_ref bx_InvalidCalendar hx_InvalidCalendar ty_InvalidCalendar sub_InvalidDays_InvalidCalendar | 12, _ => PySem.W.exm_ref bx_InvalidCalendar hx_InvalidCalendar ty_InvalidCalendar sub_InvalidTable_InvalidCalendar | 13, _ => PySem.W.exm_ref bx_InvalidCalendar hx_InvalidCalendar ty_InvalidCalendar sub_InvalidStocks_InvalidCalendar | 14, _ => PySem.W.exm_ref bx_InvalidCalendar hx_InvalidCalendar ty_InvalidCalendar sub_TooLarge_InvalidCalendar | 15, _ => PySem.W.exm_ref bx_InvalidCalendar hx_InvalidCalendar ty_InvalidCalendar sub_Impossible_InvalidCalendar | 16, _ => PySem.W.exm_ref bx_InvalidCalendar hx_InvalidCalendar ty_InvalidCalendar sub_Mismatch_InvalidCalendar | 17, _ => PySem.W.exm_ref bx_InvalidCalendar hx_InvalidCalendar ty_InvalidCalendar sub_Over_InvalidCalendar | 18, _ => PySem.W.exm_ref bx_InvalidCalendar hx_InvalidCalendar ty_InvalidCalendar sub_TooMany_InvalidCalendar | n + 19, h => absurd h (by omega),
      e_InvalidNumber := fun j hj => match j, hj with | 0, _ => PySem.W.exm_ref bx_InvalidNumber hx_InvalidNumber ty_InvalidNumber sub_InvalidCalendar_InvalidNumber | 1, _ => PySem.W.exm_ref bx_InvalidNumber hx_InvalidNumber ty_InvalidNumber sub_InvalidHolidays_InvalidNumber | 2, _ => PySem.W.exm_ref bx_InvalidNumber hx_InvalidNumber ty_InvalidNumber sub_InvalidPlan_InvalidNumber | 3, _ => PySem.W.exm_ref bx_InvalidNumber hx_InvalidNumber ty_InvalidNumber sub_InvalidNumber_InvalidNumber | 4, _ => PySem.W.exm_ref bx_InvalidNumber hx_InvalidNumber ty_InvalidNumber sub_InvalidRow_InvalidNumber | 5, _ => PySem.W.exm_ref bx_InvalidNumber hx_InvalidNumber ty_InvalidNumber sub_InvalidPast_InvalidNumber | 6, _ => PySem.W.exm_ref bx_InvalidNumber hx_InvalidNumber ty_InvalidNumber sub_InvalidStrategy_InvalidNumber | 7, _ => PySem.W.exm_ref bx_InvalidNumber hx_InvalidNumber ty_InvalidNumber sub_InvalidPrices_InvalidNumber | 8, _ => PySem.W.exm_ref bx_InvalidNumber hx_InvalidNumber ty_InvalidNumber sub_InvalidWeights_InvalidNumber | 9, _ => PySem.W.exm_ref bx_InvalidNumber hx_InvalidNumber ty_InvalidNumber sub_InvalidQueue_InvalidNumber | 10, _ => PySem.W.exm_ref bx_InvalidNumber hx_InvalidNumber ty_InvalidNumber sub_InvalidTest_InvalidNumber | 11, _ => PySem.W.exm_ref bx_InvalidNumber hx_InvalidNumber ty_InvalidNumber sub_InvalidDays_InvalidNumber | 12, _ => PySem.W.exm_ref bx_InvalidNumber hx_InvalidNumber ty_InvalidNumber sub_InvalidTable_InvalidNumber | 13, _ => PySem.W.exm_ref bx_InvalidNumber hx_InvalidNumber ty_InvalidNumber sub_InvalidStocks_InvalidNumber | 14, _ => PySem.W.exm_ref bx_InvalidNumber hx_InvalidNumber ty_InvalidNumber sub_TooLarge_InvalidNumber | 15, _ => PySem.W.exm_ref bx_InvalidNumber hx_InvalidNumber ty_InvalidNumber sub_Impossible_InvalidNumber | 16, _ => PySem.W.exm_ref bx_InvalidNumber hx_InvalidNumber ty_InvalidNumber sub_Mismatch_InvalidNumber | 17, _ => PySem.W.exm_ref bx_InvalidNumber hx_InvalidNumber ty_InvalidNumber sub_Over_InvalidNumber | 18, _ => PySem.W.exm_ref bx_InvalidNumber hx_InvalidNumber ty_InvalidNumber sub_TooMany_InvalidNumber | n + 19, h => absurd h (by omega),
      e_InvalidHolidays := fun j hj => match j, hj with | 0, _ => PySem.W.exm_ref bx_InvalidHolidays hx_InvalidHolidays ty_InvalidHolidays sub_InvalidCalendar_InvalidHolidays | 1, _ => PySem.W.exm_ref bx_InvalidHolidays hx_InvalidHolidays ty_InvalidHolidays sub_InvalidHolidays_InvalidHolidays | 2, _ => PySem.W.exm_ref bx_InvalidHolidays hx_InvalidHolidays ty_InvalidHolidays sub_InvalidPlan_InvalidHolidays | 3, _ => PySem.W.exm_ref bx_InvalidHolidays hx_InvalidHolidays ty_InvalidHolidays sub_InvalidNumber_InvalidHolidays | 4, _ => PySem.W.exm_ref bx_InvalidHolidays hx_InvalidHolidays ty_InvalidHolidays sub_InvalidRow_InvalidHolidays | 5, _ => PySem.W.exm_ref bx_InvalidHolidays hx_InvalidHolidays ty_InvalidHolidays sub_InvalidPast_InvalidHolidays | 6, _ => PySem.W.exm_ref bx_InvalidHolidays hx_InvalidHolidays ty_InvalidHolidays sub_InvalidStrategy_InvalidHolidays | 7, _ => PySem.W.exm_ref bx_InvalidHolidays hx_InvalidHolidays ty_InvalidHolidays sub_InvalidPrices_InvalidHolidays | 8, _ => PySem.W.exm_ref bx_InvalidHolidays hx_InvalidHolidays ty_InvalidHolidays sub_InvalidWeights_InvalidHolidays | 9, _ => PySem.W.exm_ref bx_InvalidHolidays hx_InvalidHolidays ty_InvalidHolidays sub_InvalidQueue_InvalidHolidays | 10, _ => PySem.W.exm_ref bx_InvalidHolidays hx_InvalidHolidays ty_InvalidHolidays sub_InvalidTest_InvalidHolidays | 11, _ => PySem.W.exm_ref bx_InvalidHolidays hx_InvalidHolidays ty_InvalidHolidays sub_InvalidDays_InvalidHolidays | 12, _ => PySem.W.exm_ref bx_InvalidHolidays hx_InvalidHolidays ty_InvalidHolidays sub_InvalidTable_InvalidHolidays | 13, _ => PySem.W.exm_ref bx_InvalidHolidays hx_InvalidHolidays ty_InvalidHolidays sub_InvalidStocks_InvalidHolidays | 14, _ => PySem.W.exm_ref bx_InvalidHolidays hx_InvalidHolidays ty_InvalidHolidays sub_TooLarge_InvalidHolidays | 15, _ => PySem.W.exm_ref bx_InvalidHolidays hx_InvalidHolidays ty_InvalidHolidays sub_Impossible_InvalidHolidays | 16, _ => PySem.W.exm_ref bx_InvalidHolidays hx_InvalidHolidays ty_InvalidHolidays sub_Mismatch_InvalidHolidays | 17, _ => PySem.W.exm_ref bx_InvalidHolidays hx_InvalidHolidays ty_InvalidHolidays sub_Over_InvalidHolidays | 18, _ => PySem.W.exm_ref bx_InvalidHolidays hx_InvalidHolidays ty_InvalidHolidays sub_TooMany_InvalidHolidays | n + 19, h => absurd h (by omega),
      e_InvalidRow := fun j hj => match j, hj with | 0, _ => PySem.W.exm_ref bx_InvalidRow hx_InvalidRow ty_InvalidRow sub_InvalidCalendar_InvalidRow | 1, _ => PySem.W.exm_ref bx_InvalidRow hx_InvalidRow ty_InvalidRow sub_InvalidHolidays_InvalidRow | 2, _ => PySem.W.exm_ref bx_InvalidRow hx_InvalidRow ty_InvalidRow sub_InvalidPlan_InvalidRow | 3, _ => PySem.W.exm_ref bx_InvalidRow hx_InvalidRow ty_InvalidRow sub_InvalidNumber_InvalidRow | 4, _ => PySem.W.exm_ref bx_InvalidRow hx_InvalidRow ty_InvalidRow sub_InvalidRow_InvalidRow | 5, _ => PySem.W.exm_ref bx_InvalidRow hx_InvalidRow ty_InvalidRow sub_InvalidPast_InvalidRow | 6, _ => PySem.W.exm_ref bx_InvalidRow hx_InvalidRow ty_InvalidRow sub_InvalidStrategy_InvalidRow | 7, _ => PySem.W.exm_ref bx_InvalidRow hx_InvalidRow ty_InvalidRow sub_InvalidPrices_InvalidRow | 8, _ => PySem.W.exm_ref bx_InvalidRow hx_InvalidRow ty_InvalidRow sub_InvalidWeights_InvalidRow | 9, _ => PySem.W.exm_ref bx_InvalidRow hx_InvalidRow ty_InvalidRow sub_InvalidQueue_InvalidRow | 10, _ => PySem.W.exm_ref bx_InvalidRow hx_InvalidRow ty_InvalidRow sub_InvalidTest_InvalidRow | 11, _ => PySem.W.exm_ref bx_InvalidRow hx_InvalidRow ty_InvalidRow sub_InvalidDays_InvalidRow | 12, _ => PySem.W.exm_ref bx_InvalidRow hx_InvalidRow ty_InvalidRow sub_InvalidTable_InvalidRow | 13, _ => PySem.W.exm_ref bx_InvalidRow hx_InvalidRow ty_InvalidRow sub_InvalidStocks_InvalidRow | 14, _ => PySem.W.exm_ref bx_InvalidRow hx_InvalidRow ty_InvalidRow sub_TooLarge_InvalidRow | 15, _ => PySem.W.exm_ref bx_InvalidRow hx_InvalidRow ty_InvalidRow sub_Impossible_InvalidRow | 16, _ => PySem.W.exm_ref bx_InvalidRow hx_InvalidRow ty_InvalidRow sub_Mismatch_InvalidRow | 17, _ => PySem.W.exm_ref bx_InvalidRow hx_InvalidRow ty_InvalidRow sub_Over_InvalidRow | 18, _ => PySem.W.exm_ref bx_InvalidRow hx_InvalidRow ty_InvalidRow sub_TooMany_InvalidRow | n + 19, h => absurd h (by omega),
      e_InvalidPast := fun j hj => match j, hj with | 0, _ => PySem.W.exm_ref bx_InvalidPast hx_InvalidPast ty_InvalidPast sub_InvalidCalendar_InvalidPast | 1, _ => PySem.W.exm_ref bx_InvalidPast hx_InvalidPast ty_InvalidPast sub_InvalidHolidays_InvalidPast | 2, _ => PySem.W.exm_ref bx_InvalidPast hx_InvalidPast ty_InvalidPast sub_InvalidPlan_InvalidPast | 3, _ => PySem.W.exm_ref bx_InvalidPast hx_InvalidPast ty_InvalidPast sub_InvalidNumber_InvalidPast | 4, _ => PySem.W.exm_ref bx_InvalidPast hx_InvalidPast ty_InvalidPast sub_InvalidRow_InvalidPast | 5, _ => PySem.W.exm_ref bx_InvalidPast hx_InvalidPast ty_InvalidPast sub_InvalidPast_InvalidPast | 6, _ => PySem.W.exm_ref bx_InvalidPast hx_InvalidPast ty_InvalidPast sub_InvalidStrategy_InvalidPast | 7, _ => PySem.W.exm_ref bx_InvalidPast hx_InvalidPast ty_InvalidPast sub_InvalidPrices_InvalidPast | 8, _ => PySem.W.exm_ref bx_InvalidPast hx_InvalidPast ty_InvalidPast sub_InvalidWeights_InvalidPast | 9, _ => PySem.W.exm_ref bx_InvalidPast hx_InvalidPast ty_InvalidPast sub_InvalidQueue_InvalidPast | 10, _ => PySem.W.exm_ref bx_InvalidPast hx_InvalidPast ty_InvalidPast sub_InvalidTest_InvalidPast | 11, _ => PySem.W.exm_ref bx_InvalidPast hx_InvalidPast ty_InvalidPast sub_InvalidDays_InvalidPast | 12, _ => PySem.W.exm_ref bx_InvalidPast hx_InvalidPast ty_InvalidPast sub_InvalidTable_InvalidPast | 13, _ => PySem.W.exm_ref bx_InvalidPast hx_InvalidPast ty_InvalidPast sub_InvalidStocks_InvalidPast | 14, _ => PySem.W.exm_ref bx_InvalidPast hx_InvalidPast ty_InvalidPast sub_TooLarge_InvalidPast | 15, _ => PySem.W.exm_ref bx_InvalidPast hx_InvalidPast ty_InvalidPast sub_Impossible_InvalidPast | 16, _ => PySem.W.exm_ref bx_InvalidPast hx_InvalidPast ty_InvalidPast sub_Mismatch_InvalidPast | 17, _ => PySem.W.exm_ref bx_InvalidPast hx_InvalidPast ty_InvalidPast sub_Over_InvalidPast | 18, _ => PySem.W.exm_ref bx_InvalidPast hx_InvalidPast ty_InvalidPast sub_TooMany_InvalidPast | n + 19, h => absurd h (by omega),
      e_InvalidPlan := fun j hj => match j, hj with | 0, _ => PySem.W.exm_ref bx_InvalidPlan hx_InvalidPlan ty_InvalidPlan sub_InvalidCalendar_InvalidPlan | 1, _ => PySem.W.exm_ref bx_InvalidPlan hx_InvalidPlan ty_InvalidPlan sub_InvalidHolidays_InvalidPlan | 2, _ => PySem.W.exm_ref bx_InvalidPlan hx_InvalidPlan ty_InvalidPlan sub_InvalidPlan_InvalidPlan | 3, _ => PySem.W.exm_ref bx_InvalidPlan hx_InvalidPlan ty_InvalidPlan sub_InvalidNumber_InvalidPlan | 4, _ => PySem.W.exm_ref bx_InvalidPlan hx_InvalidPlan ty_InvalidPlan sub_InvalidRow_InvalidPlan | 5, _ => PySem.W.exm_ref bx_InvalidPlan hx_InvalidPlan ty_InvalidPlan sub_InvalidPast_InvalidPlan | 6, _ => PySem.W.exm_ref bx_InvalidPlan hx_InvalidPlan ty_InvalidPlan sub_InvalidStrategy_InvalidPlan | 7, _ => PySem.W.exm_ref bx_InvalidPlan hx_InvalidPlan ty_InvalidPlan sub_InvalidPrices_InvalidPlan | 8, _ => PySem.W.exm_ref bx_InvalidPlan hx_InvalidPlan ty_InvalidPlan sub_InvalidWeights_InvalidPlan | 9, _ => PySem.W.exm_ref bx_InvalidPlan hx_InvalidPlan ty_InvalidPlan sub_InvalidQueue_InvalidPlan | 10, _ => PySem.W.exm_ref bx_InvalidPlan hx_InvalidPlan ty_InvalidPlan sub_InvalidTest_InvalidPlan | 11, _ => PySem.W.exm_ref bx_InvalidPlan hx_InvalidPlan ty_InvalidPlan sub_InvalidDays_InvalidPlan | 12, _ => PySem.W.exm_ref bx_InvalidPlan hx_InvalidPlan ty_InvalidPlan sub_InvalidTable_InvalidPlan | 13, _ => PySem.W.exm_ref bx_InvalidPlan hx_InvalidPlan ty_InvalidPlan sub_InvalidStocks_InvalidPlan | 14, _ => PySem.W.exm_ref bx_InvalidPlan hx_InvalidPlan ty_InvalidPlan sub_TooLarge_InvalidPlan | 15, _ => PySem.W.exm_ref bx_InvalidPlan hx_InvalidPlan ty_InvalidPlan sub_Impossible_InvalidPlan | 16, _ => PySem.W.exm_ref bx_InvalidPlan hx_InvalidPlan ty_InvalidPlan sub_Mismatch_InvalidPlan | 17, _ => PySem.W.exm_ref bx_InvalidPlan hx_InvalidPlan ty_InvalidPlan sub_Over_InvalidPlan | 18, _ => PySem.W.exm_ref bx_InvalidPlan hx_InvalidPlan ty_InvalidPlan sub_TooMany_InvalidPlan | n + 19, h => absurd h (by omega),
      e_InvalidTest := fun j hj => match j, hj with | 0, _ => PySem.W.exm_ref bx_InvalidTest hx_InvalidTest ty_InvalidTest sub_InvalidCalendar_InvalidTest | 1, _ => PySem.W.exm_ref bx_InvalidTest hx_InvalidTest ty_InvalidTest sub_InvalidHolidays_InvalidTest | 2, _ => PySem.W.exm_ref bx_InvalidTest hx_InvalidTest ty_InvalidTest sub_InvalidPlan_InvalidTest | 3, _ => PySem.W.exm_ref bx_InvalidTest hx_InvalidTest ty_InvalidTest sub_InvalidNumber_InvalidTest | 4, _ => PySem.W.exm_ref bx_InvalidTest hx_InvalidTest ty_InvalidTest sub_InvalidRow_InvalidTest | 5, _ => PySem.W.exm_ref bx_InvalidTest hx_InvalidTest ty_InvalidTest sub_InvalidPast_InvalidTest | 6, _ => PySem.W.exm_ref bx_InvalidTest hx_InvalidTest ty_InvalidTest sub_InvalidStrategy_InvalidTest | 7, _ => PySem.W.exm_ref bx_InvalidTest hx_InvalidTest ty_InvalidTest sub_InvalidPrices_InvalidTest | 8, _ => PySem.W.exm_ref bx_InvalidTest hx_InvalidTest ty_InvalidTest sub_InvalidWeights_InvalidTest | 9, _ => PySem.W.exm_ref bx_InvalidTest hx_InvalidTest ty_InvalidTest sub_InvalidQueue_InvalidTest | 10, _ => PySem.W.exm_ref bx_InvalidTest hx_InvalidTest ty_InvalidTest sub_InvalidTest_InvalidTest | 11, _ => PySem.W.exm_ref bx_InvalidTest hx_InvalidTest ty_InvalidTest sub_InvalidDays_InvalidTest | 12, _ => PySem.W.exm_ref bx_InvalidTest hx_InvalidTest ty_InvalidTest sub_InvalidTable_InvalidTest | 13, _ => PySem.W.exm_ref bx_InvalidTest hx_InvalidTest ty_InvalidTest sub_InvalidStocks_InvalidTest | 14, _ => PySem.W.exm_ref bx_InvalidTest hx_InvalidTest ty_InvalidTest sub_TooLarge_InvalidTest | 15, _ => PySem.W.exm_ref bx_InvalidTest hx_InvalidTest ty_InvalidTest sub_Impossible_InvalidTest | 16, _ => PySem.W.exm_ref bx_InvalidTest hx_InvalidTest ty_InvalidTest sub_Mismatch_InvalidTest | 17, _ => PySem.W.exm_ref bx_InvalidTest hx_InvalidTest ty_InvalidTest sub_Over_InvalidTest | 18, _ => PySem.W.exm_ref bx_InvalidTest hx_InvalidTest ty_InvalidTest sub_TooMany_InvalidTest | n + 19, h => absurd h (by omega),
      e_InvalidStrategy := fun j hj => match j, hj with | 0, _ => PySem.W.exm_ref bx_InvalidStrategy hx_InvalidStrategy ty_InvalidStrategy sub_InvalidCalendar_InvalidStrategy | 1, _ => PySem.W.exm_ref bx_InvalidStrategy hx_InvalidStrategy ty_InvalidStrategy sub_InvalidHolidays_InvalidStrategy | 2, _ => PySem.W.exm_ref bx_InvalidStrategy hx_InvalidStrategy ty_InvalidStrategy sub_InvalidPlan_InvalidStrategy | 3, _ => PySem.W.exm_ref bx_InvalidStrategy hx_InvalidStrategy ty_InvalidStrategy sub_InvalidNumber_InvalidStrategy | 4, _ => PySem.W.exm_ref bx_InvalidStrategy hx_InvalidStrategy ty_InvalidStrategy sub_InvalidRow_InvalidStrategy | 5, _ => PySem.W.exm_ref bx_InvalidStrategy hx_InvalidStrategy ty_InvalidStrategy sub_InvalidPast_InvalidStrategy | 6, _ => PySem.W.exm_ref bx_InvalidStrategy hx_InvalidStrategy ty_InvalidStrategy sub_InvalidStrategy_InvalidStrategy | 7, _ => PySem.W.exm_ref bx_InvalidStrategy hx_InvalidStrategy ty_InvalidStrategy sub_InvalidPrices_InvalidStrategy | 8, _ => PySem.W.exm_ref bx_InvalidStrategy hx_InvalidStrategy ty_InvalidStrategy sub_InvalidWeights_InvalidStrategy | 9, _ => PySem.W.exm_ref bx_InvalidStrategy hx_InvalidStrategy ty_InvalidStrategy sub_InvalidQueue_InvalidStrategy | 10, _ => PySem.W.exm_ref bx_InvalidStrategy hx_InvalidStrategy ty_InvalidStrategy sub_InvalidTest_InvalidStrategy | 11, _ => PySem.W.exm_ref bx_InvalidStrategy hx_InvalidStrategy ty_InvalidStrategy sub_InvalidDays_InvalidStrategy | 12, _ => PySem.W.exm_ref bx_InvalidStrategy hx_InvalidStrategy ty_InvalidStrategy sub_InvalidTable_InvalidStrategy | 13, _ => PySem.W.exm_ref bx_InvalidStrategy hx_InvalidStrategy ty_InvalidStrategy sub_InvalidStocks_InvalidStrategy | 14, _ => PySem.W.exm_ref bx_InvalidStrategy hx_InvalidStrategy ty_InvalidStrategy sub_TooLarge_InvalidStrategy | 15, _ => PySem.W.exm_ref bx_InvalidStrategy hx_InvalidStrategy ty_InvalidStrategy sub_Impossible_InvalidStrategy | 16, _ => PySem.W.exm_ref bx_InvalidStrategy hx_InvalidStrategy ty_InvalidStrategy sub_Mismatch_InvalidStrategy | 17, _ => PySem.W.exm_ref bx_InvalidStrategy hx_InvalidStrategy ty_InvalidStrategy sub_Over_InvalidStrategy | 18, _ => PySem.W.exm_ref bx_InvalidStrategy hx_InvalidStrategy ty_InvalidStrategy sub_TooMany_InvalidStrategy | n + 19, h => absurd h (by omega),
      e_InvalidDays := fun j hj => match j, hj with | 0, _ => PySem.W.exm_ref bx_InvalidDays hx_InvalidDays ty_InvalidDays sub_InvalidCalendar_InvalidDays | 1, _ => PySem.W.exm_ref bx_InvalidDays hx_InvalidDays ty_InvalidDays sub_InvalidHolidays_InvalidDays | 2, _ => PySem.W.exm_ref bx_InvalidDays hx_InvalidDays ty_InvalidDays sub_InvalidPlan_InvalidDays | 3, _ => PySem.W.exm_ref bx_InvalidDays hx_InvalidDays ty_InvalidDays sub_InvalidNumber_InvalidDays | 4, _ => PySem.W.exm_ref bx_InvalidDays hx_InvalidDays ty_InvalidDays sub_InvalidRow_InvalidDays | 5, _ => PySem.W.exm_ref bx_InvalidDays hx_InvalidDays ty_InvalidDays sub_InvalidPast_InvalidDays | 6, _ => PySem.W.exm_ref bx_InvalidDays hx_InvalidDays ty_InvalidDays sub_InvalidStrategy_InvalidDays | 7, _ => PySem.W.exm_ref bx_InvalidDays hx_InvalidDays ty_InvalidDays sub_InvalidPrices_InvalidDays | 8, _ => PySem.W.exm_ref bx_InvalidDays hx_InvalidDays ty_InvalidDays sub_InvalidWeights_InvalidDays | 9, _ => PySem.W.exm_ref bx_InvalidDays hx_InvalidDays ty_InvalidDays sub_InvalidQueue_InvalidDays | 10, _ => PySem.W.exm_ref bx_InvalidDays hx_InvalidDays ty_InvalidDays sub_InvalidTest_InvalidDays | 11, _ => PySem.W.exm_ref bx_InvalidDays hx_InvalidDays ty_InvalidDays sub_InvalidDays_InvalidDays | 12, _ => PySem.W.exm_ref bx_InvalidDays hx_InvalidDays ty_InvalidDays sub_InvalidTable_InvalidDays | 13, _ => PySem.W.exm_ref bx_InvalidDays hx_InvalidDays ty_InvalidDays sub_InvalidStocks_InvalidDays | 14, _ => PySem.W.exm_ref bx_InvalidDays hx_InvalidDays ty_InvalidDays sub_TooLarge_InvalidDays | 15, _ => PySem.W.exm_ref bx_InvalidDays hx_InvalidDays ty_InvalidDays sub_Impossible_InvalidDays | 16, _ => PySem.W.exm_ref bx_InvalidDays hx_InvalidDays ty_InvalidDays sub_Mismatch_InvalidDays | 17, _ => PySem.W.exm_ref bx_InvalidDays hx_InvalidDays ty_InvalidDays sub_Over_InvalidDays | 18, _ => PySem.W.exm_ref bx_InvalidDays hx_InvalidDays ty_InvalidDays sub_TooMany_InvalidDays | n + 19, h => absurd h (by omega),
      e_InvalidPrices := fun j hj => match j, hj with | 0, _ => PySem.W.exm_ref bx_InvalidPrices hx_InvalidPrices ty_InvalidPrices sub_InvalidCalendar_InvalidPrices | 1, _ => PySem.W.exm_ref bx_InvalidPrices hx_InvalidPrices ty_InvalidPrices sub_InvalidHolidays_InvalidPrices | 2, _ => PySem.W.exm_ref bx_InvalidPrices hx_InvalidPrices ty_InvalidPrices sub_InvalidPlan_InvalidPrices | 3, _ => PySem.W.exm_ref bx_InvalidPrices hx_InvalidPrices ty_InvalidPrices sub_InvalidNumber_InvalidPrices | 4, _ => PySem.W.exm_ref bx_InvalidPrices hx_InvalidPrices ty_InvalidPrices sub_InvalidRow_InvalidPrices | 5, _ => PySem.W.exm_ref bx_InvalidPrices hx_InvalidPrices ty_InvalidPrices sub_InvalidPast_InvalidPrices | 6, _ => PySem.W.exm_ref bx_InvalidPrices hx_InvalidPrices ty_InvalidPrices sub_InvalidStrategy_InvalidPrices | 7, _ => PySem.W.exm_ref bx_InvalidPrices hx_InvalidPrices ty_InvalidPrices sub_InvalidPrices_InvalidPrices | 8, _ => PySem.W.exm_ref bx_InvalidPrices hx_InvalidPrices ty_InvalidPrices sub_InvalidWeights_InvalidPrices | 9, _ => PySem.W.exm_ref bx_InvalidPrices hx_InvalidPrices ty_InvalidPrices sub_InvalidQueue_InvalidPrices | 10, _ => PySem.W.exm_ref bx_InvalidPrices hx_InvalidPrices ty_InvalidPrices sub_InvalidTest_InvalidPrices | 11, _ => PySem.W.exm_ref bx_InvalidPrices hx_InvalidPrices ty_InvalidPrices sub_InvalidDays_InvalidPrices | 12, _ => PySem.W.exm_ref bx_InvalidPrices hx_InvalidPrices ty_InvalidPrices sub_InvalidTable_InvalidPrices | 13, _ => PySem.W.exm_ref bx_InvalidPrices hx_InvalidPrices ty_InvalidPrices sub_InvalidStocks_InvalidPrices | 14, _ => PySem.W.exm_ref bx_InvalidPrices hx_InvalidPrices ty_InvalidPrices sub_TooLarge_InvalidPrices | 15, _ => PySem.W.exm_ref bx_InvalidPrices hx_InvalidPrices ty_InvalidPrices sub_Impossible_InvalidPrices | 16, _ => PySem.W.exm_ref bx_InvalidPrices hx_InvalidPrices ty_InvalidPrices sub_Mismatch_InvalidPrices | 17, _ => PySem.W.exm_ref bx_InvalidPrices hx_InvalidPrices ty_InvalidPrices sub_Over_InvalidPrices | 18, _ => PySem.W.exm_ref bx_InvalidPrices hx_InvalidPrices ty_InvalidPrices sub_TooMany_InvalidPrices | n + 19, h => absurd h (by omega),
      e_InvalidWeights := fun j hj => match j, hj with | 0, _ => PySem.W.exm_ref bx_InvalidWeights hx_InvalidWeights ty_InvalidWeights sub_InvalidCalendar_InvalidWeights | 1, _ => PySem.W.exm_ref bx_InvalidWeights hx_InvalidWeights ty_InvalidWeights sub_InvalidHolidays_InvalidWeights | 2, _ => PySem.W.exm_ref bx_InvalidWeights hx_InvalidWeights ty_InvalidWeights sub_InvalidPlan_InvalidWeights | 3, _ => PySem.W.exm_ref bx_InvalidWeights hx_InvalidWeights ty_InvalidWeights sub_InvalidNumber_InvalidWeights | 4, _ => PySem.W.exm_ref bx_InvalidWeights hx_InvalidWeights ty_InvalidWeights sub_InvalidRow_InvalidWeights | 5, _ => PySem.W.exm_ref bx_InvalidWeights hx_InvalidWeights ty_InvalidWeights sub_InvalidPast_InvalidWeights | 6, _ => PySem.W.exm_ref bx_InvalidWeights hx_InvalidWeights ty_InvalidWeights sub_InvalidStrategy_InvalidWeights | 7, _ => PySem.W.exm_ref bx_InvalidWeights hx_InvalidWeights ty_InvalidWeights sub_InvalidPrices_InvalidWeights | 8, _ => PySem.W.exm_ref bx_InvalidWeights hx_InvalidWeights ty_InvalidWeights sub_InvalidWeights_InvalidWeights | 9, _ => PySem.W.exm_ref bx_InvalidWeights hx_InvalidWeights ty_InvalidWeights sub_InvalidQueue_InvalidWeights | 10, _ => PySem.W.exm_ref bx_InvalidWeights hx_InvalidWeights ty_InvalidWeights sub_InvalidTest_InvalidWeights | 11, _ => PySem.W.exm_ref bx_InvalidWeights hx_InvalidWeights ty_InvalidWeights sub_InvalidDays_InvalidWeights | 12, _ => PySem.W.exm_ref bx_InvalidWeights hx_InvalidWeights ty_InvalidWeights sub_InvalidTable_InvalidWeights | 13, _ => PySem.W.exm_ref bx_InvalidWeights hx_InvalidWeights ty_InvalidWeights sub_InvalidStocks_InvalidWeights | 14, _ => PySem.W.exm_ref bx_InvalidWeights hx_InvalidWeights ty_InvalidWeights sub_TooLarge_InvalidWeights | 15, _ => PySem.W.exm_ref bx_InvalidWeights hx_InvalidWeights ty_InvalidWeights sub_Impossible_InvalidWeights | 16, _ => PySem.W.exm_ref bx_InvalidWeights hx_InvalidWeights ty_InvalidWeights sub_Mismatch_InvalidWeights | 17, _ => PySem.W.exm_ref bx_InvalidWeights hx_InvalidWeights ty_InvalidWeights sub_Over_InvalidWeights | 18, _ => PySem.W.exm_ref bx_InvalidWeights hx_InvalidWeights ty_InvalidWeights sub_TooMany_InvalidWeights | n + 19, h => absurd h (by omega),
      e_InvalidTable := fun j hj => match j, hj with | 0, _ => PySem.W.exm_ref bx_InvalidTable hx_InvalidTable ty_InvalidTable sub_InvalidCalendar_InvalidTable | 1, _ => PySem.W.exm_ref bx_InvalidTable hx_InvalidTable ty_InvalidTable sub_InvalidHolidays_InvalidTable | 2, _ => PySem.W.exm_ref bx_InvalidTable hx_InvalidTable ty_InvalidTable sub_InvalidPlan_InvalidTable | 3, _ => PySem.W.exm_ref bx_InvalidTable hx_InvalidTable ty_InvalidTable sub_InvalidNumber_InvalidTable | 4, _ => PySem.W.exm_ref bx_InvalidTable hx_InvalidTable ty_InvalidTable sub_InvalidRow_InvalidTable | 5, _ => PySem.W.exm_ref bx_InvalidTable hx_InvalidTable ty_InvalidTable sub_InvalidPast_InvalidTable | 6, _ => PySem.W.exm_ref bx_InvalidTable hx_InvalidTable ty_InvalidTable sub_InvalidStrategy_InvalidTable | 7, _ => PySem.W.exm_ref bx_InvalidTable hx_InvalidTable ty_InvalidTable sub_InvalidPrices_InvalidTable | 8, _ => PySem.W.exm_ref bx_InvalidTable hx_InvalidTable ty_InvalidTable sub_InvalidWeights_InvalidTable | 9, _ => PySem.W.exm_ref bx_InvalidTable hx_InvalidTable ty_InvalidTable sub_InvalidQueue_InvalidTable | 10, _ => PySem.W.exm_ref bx_InvalidTable hx_InvalidTable ty_InvalidTable sub_InvalidTest_InvalidTable | 11, _ => PySem.W.exm_ref bx_InvalidTable hx_InvalidTable ty_InvalidTable sub_InvalidDays_InvalidTable | 12, _ => PySem.W.exm_ref bx_InvalidTable hx_InvalidTable ty_InvalidTable sub_InvalidTable_InvalidTable | 13, _ => PySem.W.exm_ref bx_InvalidTable hx_InvalidTable ty_InvalidTable sub_InvalidStocks_InvalidTable | 14, _ => PySem.W.exm_ref bx_InvalidTable hx_InvalidTable ty_InvalidTable sub_TooLarge_InvalidTable | 15, _ => PySem.W.exm_ref bx_InvalidTable hx_InvalidTable ty_InvalidTable sub_Impossible_InvalidTable | 16, _ => PySem.W.exm_ref bx_InvalidTable hx_InvalidTable ty_InvalidTable sub_Mismatch_InvalidTable | 17, _ => PySem.W.exm_ref bx_InvalidTable hx_InvalidTable ty_InvalidTable sub_Over_InvalidTable | 18, _ => PySem.W.exm_ref bx_InvalidTable hx_InvalidTable ty_InvalidTable sub_TooMany_InvalidTable | n + 19, h => absurd h (by omega),
      e_InvalidQueue := fun j hj => match j, hj with | 0, _ => PySem.W.exm_ref bx_InvalidQueue hx_InvalidQueue ty_InvalidQueue sub_InvalidCalendar_InvalidQueue | 1, _ => PySem.W.exm_ref bx_InvalidQueue hx_InvalidQueue ty_InvalidQueue sub_InvalidHolidays_InvalidQueue | 2, _ => PySem.W.exm_ref bx_InvalidQueue hx_InvalidQueue ty_InvalidQueue sub_InvalidPlan_InvalidQueue | 3, _ => PySem.W.exm_ref bx_InvalidQueue hx_InvalidQueue ty_InvalidQueue sub_InvalidNumber_InvalidQueue | 4, _ => PySem.W.exm_ref bx_InvalidQueue hx_InvalidQueue ty_InvalidQueue sub_InvalidRow_InvalidQueue | 5, _ => PySem.W.exm_ref bx_InvalidQueue hx_InvalidQueue ty_InvalidQueue sub_InvalidPast_InvalidQueue | 6, _ => PySem.W.exm_ref bx_InvalidQueue hx_InvalidQueue ty_InvalidQueue sub_InvalidStrategy_InvalidQueue | 7, _ => PySem.W.exm_ref bx_InvalidQueue hx_InvalidQueue ty_InvalidQueue sub_InvalidPrices_InvalidQueue | 8, _ => PySem.W.exm_ref bx_InvalidQueue hx_InvalidQueue ty_InvalidQueue sub_InvalidWeights_InvalidQueue | 9, _ => PySem.W.exm_ref bx_InvalidQueue hx_InvalidQueue ty_InvalidQueue sub_InvalidQueue_InvalidQueue | 10, _ => PySem.W.exm_ref bx_InvalidQueue hx_InvalidQueue ty_InvalidQueue sub_InvalidTest_InvalidQueue | 11, _ => PySem.W.exm_ref bx_InvalidQueue hx_InvalidQueue ty_InvalidQueue sub_InvalidDays_InvalidQueue | 12, _ => PySem.W.exm_ref bx_InvalidQueue hx_InvalidQueue ty_InvalidQueue sub_InvalidTable_InvalidQueue | 13, _ => PySem.W.exm_ref bx_InvalidQueue hx_InvalidQueue ty_InvalidQueue sub_InvalidStocks_InvalidQueue | 14, _ => PySem.W.exm_ref bx_InvalidQueue hx_InvalidQueue ty_InvalidQueue sub_TooLarge_InvalidQueue | 15, _ => PySem.W.exm_ref bx_InvalidQueue hx_InvalidQueue ty_InvalidQueue sub_Impossible_InvalidQueue | 16, _ => PySem.W.exm_ref bx_InvalidQueue hx_InvalidQueue ty_InvalidQueue sub_Mismatch_InvalidQueue | 17, _ => PySem.W.exm_ref bx_InvalidQueue hx_InvalidQueue ty_InvalidQueue sub_Over_InvalidQueue | 18, _ => PySem.W.exm_ref bx_InvalidQueue hx_InvalidQueue ty_InvalidQueue sub_TooMany_InvalidQueue | n + 19, h => absurd h (by omega),
      e_InvalidStocks := fun j hj => match j, hj with | 0, _ => PySem.W.exm_ref bx_InvalidStocks hx_InvalidStocks ty_InvalidStocks sub_InvalidCalendar_InvalidStocks | 1, _ => PySem.W.exm_ref bx_InvalidStocks hx_InvalidStocks ty_InvalidStocks sub_InvalidHolidays_InvalidStocks | 2, _ => PySem.W.exm_ref bx_InvalidStocks hx_InvalidStocks ty_InvalidStocks sub_InvalidPlan_InvalidStocks | 3, _ => PySem.W.exm_ref bx_InvalidStocks hx_InvalidStocks ty_InvalidStocks sub_InvalidNumber_InvalidStocks | 4, _ => PySem.W.exm_ref bx_InvalidStocks hx_InvalidStocks ty_InvalidStocks sub_InvalidRow_InvalidStocks | 5, _ => PySem.W.exm_ref bx_InvalidStocks hx_InvalidStocks ty_InvalidStocks sub_InvalidPast_InvalidStocks | 6, _ => PySem.W.exm_ref bx_InvalidStocks hx_InvalidStocks ty_InvalidStocks sub_InvalidStrategy_InvalidStocks | 7, _ => PySem.W.exm_ref bx_InvalidStocks hx_InvalidStocks ty_InvalidStocks sub_InvalidPrices_InvalidStocks | 8, _ => PySem.W.exm_ref bx_InvalidStocks hx_InvalidStocks ty_InvalidStocks sub_InvalidWeights_InvalidStocks | 9, _ => PySem.W.exm_ref bx_InvalidStocks hx_InvalidStocks ty_InvalidStocks sub_InvalidQueue_InvalidStocks | 10, _ => PySem.W.exm_ref bx_InvalidStocks hx_InvalidStocks ty_InvalidStocks sub_InvalidTest_InvalidStocks | 11, _ => PySem.W.exm_ref bx_InvalidStocks hx_InvalidStocks ty_InvalidStocks sub_InvalidDays_InvalidStocks | 12, _ => PySem.W.exm_ref bx_InvalidStocks hx_InvalidStocks ty_InvalidStocks sub_InvalidTable_InvalidStocks | 13, _ => PySem.W.exm_ref bx_InvalidStocks hx_InvalidStocks ty_InvalidStocks sub_InvalidStocks_InvalidStocks | 14, _ => PySem.W.exm_ref bx_InvalidStocks hx_InvalidStocks ty_InvalidStocks sub_TooLarge_InvalidStocks | 15, _ => PySem.W.exm_ref bx_InvalidStocks hx_InvalidStocks ty_InvalidStocks sub_Impossible_InvalidStocks | 16, _ => PySem.W.exm_ref bx_InvalidStocks hx_InvalidStocks ty_InvalidStocks sub_Mismatch_InvalidStocks | 17, _ => PySem.W.exm_ref bx_InvalidStocks hx_InvalidStocks ty_InvalidStocks sub_Over_InvalidStocks | 18, _ => PySem.W.exm_ref bx_InvalidStocks hx_InvalidStocks ty_InvalidStocks sub_TooMany_InvalidStocks | n + 19, h => absurd h (by omega),
      e_Impossible := fun j hj => match j, hj with | 0, _ => PySem.W.exm_ref bx_Impossible hx_Impossible ty_Impossible sub_InvalidCalendar_Impossible | 1, _ => PySem.W.exm_ref bx_Impossible hx_Impossible ty_Impossible sub_InvalidHolidays_Impossible | 2, _ => PySem.W.exm_ref bx_Impossible hx_Impossible ty_Impossible sub_InvalidPlan_Impossible | 3, _ => PySem.W.exm_ref bx_Impossible hx_Impossible ty_Impossible sub_InvalidNumber_Impossible | 4, _ => PySem.W.exm_ref bx_Impossible hx_Impossible ty_Impossible sub_InvalidRow_Impossible | 5, _ => PySem.W.exm_ref bx_Impossible hx_Impossible ty_Impossible sub_InvalidPast_Impossible | 6, _ => PySem.W.exm_ref bx_Impossible hx_Impossible ty_Impossible sub_InvalidStrategy_Impossible | 7, _ => PySem.W.exm_ref bx_Impossible hx_Impossible ty_Impossible sub_InvalidPrices_Impossible | 8, _ => PySem.W.exm_ref bx_Impossible hx_Impossible ty_Impossible sub_InvalidWeights_Impossible | 9, _ => PySem.W.exm_ref bx_Impossible hx_Impossible ty_Impossible sub_InvalidQueue_Impossible | 10, _ => PySem.W.exm_ref bx_Impossible hx_Impossible ty_Impossible sub_InvalidTest_Impossible | 11, _ => PySem.W.exm_ref bx_Impossible hx_Impossible ty_Impossible sub_InvalidDays_Impossible | 12, _ => PySem.W.exm_ref bx_Impossible hx_Impossible ty_Impossible sub_InvalidTable_Impossible | 13, _ => PySem.W.exm_ref bx_Impossible hx_Impossible ty_Impossible sub_InvalidStocks_Impossible | 14, _ => PySem.W.exm_ref bx_Impossible hx_Impossible ty_Impossible sub_TooLarge_Impossible | 15, _ => PySem.W.exm_ref bx_Impossible hx_Impossible ty_Impossible sub_Impossible_Impossible | 16, _ => PySem.W.exm_ref bx_Impossible hx_Impossible ty_Impossible sub_Mismatch_Impossible | 17, _ => PySem.W.exm_ref bx_Impossible hx_Impossible ty_Impossible sub_Over_Impossible | 18, _ => PySem.W.exm_ref bx_Impossible hx_Impossible ty_Impossible sub_TooMany_Impossible | n + 19, h => absurd h (by omega),
      e_Mismatch := fun j hj => match j, hj with | 0, _ => PySem.W.exm_ref bx_Mismatch hx_Mismatch ty_Mismatch sub_InvalidCalendar_Mismatch | 1, _ => PySem.W.exm_ref bx_Mismatch hx_Mismatch ty_Mismatch sub_InvalidHolidays_Mismatch | 2, _ => PySem.W.exm_ref bx_Mismatch hx_Mismatch ty_Mismatch sub_InvalidPlan_Mismatch | 3, _ => PySem.W.exm_ref bx_Mismatch hx_Mismatch ty_Mismatch sub_InvalidNumber_Mismatch | 4, _ => PySem.W.exm_ref bx_Mismatch hx_Mismatch ty_Mismatch sub_InvalidRow_Mismatch | 5, _ => PySem.W.exm_ref bx_Mismatch hx_Mismatch ty_Mismatch sub_InvalidPast_Mismatch | 6, _ => PySem.W.exm_ref bx_Mismatch hx_Mismatch ty_Mismatch sub_InvalidStrategy_Mismatch | 7, _ => PySem.W.exm_ref bx_Mismatch hx_Mismatch ty_Mismatch sub_InvalidPrices_Mismatch | 8, _ => PySem.W.exm_ref bx_Mismatch hx_Mismatch ty_Mismatch sub_InvalidWeights_Mismatch | 9, _ => PySem.W.exm_ref bx_Mismatch hx_Mismatch ty_Mismatch sub_InvalidQueue_Mismatch | 10, _ => PySem.W.exm_ref bx_Mismatch hx_Mismatch ty_Mismatch sub_InvalidTest_Mismatch | 11, _ => PySem.W.exm_ref bx_Mismatch hx_Mismatch ty_Mismatch sub_InvalidDays_Mismatch | 12, _ => PySem.W.exm_ref bx_Mismatch hx_Mismatch ty_Mismatch sub_InvalidTable_Mismatch | 13, _ => PySem.W.exm_ref bx_Mismatch hx_Mismatch ty_Mismatch sub_InvalidStocks_Mismatch | 14, _ => PySem.W.exm_ref bx_Mismatch hx_Mismatch ty_Mismatch sub_TooLarge_Mismatch | 15, _ => PySem.W.exm_ref bx_Mismatch hx_Mismatch ty_Mismatch sub_Impossible_Mismatch | 16, _ => PySem.W.exm_ref bx_Mismatch hx_Mismatch ty_Mismatch sub_Mismatch_Mismatch | 17, _ => PySem.W.exm_ref bx_Mismatch hx_Mismatch ty_Mismatch sub_Over_Mismatch | 18, _ => PySem.W.exm_ref bx_Mismatch hx_Mismatch ty_Mismatch sub_TooMany_Mismatch | n + 19, h => absurd h (by omega),
      e_Over := fun j hj => match j, hj with | 0, _ => PySem.W.exm_ref bx_Over hx_Over ty_Over sub_InvalidCalendar_Over | 1, _ => PySem.W.exm_ref bx_Over hx_Over ty_Over sub_InvalidHolidays_Over | 2, _ => PySem.W.exm_ref bx_Over hx_Over ty_Over sub_InvalidPlan_Over | 3, _ => PySem.W.exm_ref bx_Over hx_Over ty_Over sub_InvalidNumber_Over | 4, _ => PySem.W.exm_ref bx_Over hx_Over ty_Over sub_InvalidRow_Over | 5, _ => PySem.W.exm_ref bx_Over hx_Over ty_Over sub_InvalidPast_Over | 6, _ => PySem.W.exm_ref bx_Over hx_Over ty_Over sub_InvalidStrategy_Over | 7, _ => PySem.W.exm_ref bx_Over hx_Over ty_Over sub_InvalidPrices_Over | 8, _ => PySem.W.exm_ref bx_Over hx_Over ty_Over sub_InvalidWeights_Over | 9, _ => PySem.W.exm_ref bx_Over hx_Over ty_Over sub_InvalidQueue_Over | 10, _ => PySem.W.exm_ref bx_Over hx_Over ty_Over sub_InvalidTest_Over | 11, _ => PySem.W.exm_ref bx_Over hx_Over ty_Over sub_InvalidDays_Over | 12, _ => PySem.W.exm_ref bx_Over hx_Over ty_Over sub_InvalidTable_Over | 13, _ => PySem.W.exm_ref bx_Over hx_Over ty_Over sub_InvalidStocks_Over | 14, _ => PySem.W.exm_ref bx_Over hx_Over ty_Over sub_TooLarge_Over | 15, _ => PySem.W.exm_ref bx_Over hx_Over ty_Over sub_Impossible_Over | 16, _ => PySem.W.exm_ref bx_Over hx_Over ty_Over sub_Mismatch_Over | 17, _ => PySem.W.exm_ref bx_Over hx_Over ty_Over sub_Over_Over | 18, _ => PySem.W.exm_ref bx_Over hx_Over ty_Over sub_TooMany_Over | n + 19, h => absurd h (by omega),
      e_TooMany := fun j hj => match j, hj with | 0, _ => PySem.W.exm_ref bx_TooMany hx_TooMany ty_TooMany sub_InvalidCalendar_TooMany | 1, _ => PySem.W.exm_ref bx_TooMany hx_TooMany ty_TooMany sub_InvalidHolidays_TooMany | 2, _ => PySem.W.exm_ref bx_TooMany hx_TooMany ty_TooMany sub_InvalidPlan_TooMany | 3, _ => PySem.W.exm_ref bx_TooMany hx_TooMany ty_TooMany sub_InvalidNumber_TooMany | 4, _ => PySem.W.exm_ref bx_TooMany hx_TooMany ty_TooMany sub_InvalidRow_TooMany | 5, _ => PySem.W.exm_ref bx_TooMany hx_TooMany ty_TooMany sub_InvalidPast_TooMany | 6, _ => PySem.W.exm_ref bx_TooMany hx_TooMany ty_TooMany sub_InvalidStrategy_TooMany | 7, _ => PySem.W.exm_ref bx_TooMany hx_TooMany ty_TooMany sub_InvalidPrices_TooMany | 8, _ => PySem.W.exm_ref bx_TooMany hx_TooMany ty_TooMany sub_InvalidWeights_TooMany | 9, _ => PySem.W.exm_ref bx_TooMany hx_TooMany ty_TooMany sub_InvalidQueue_TooMany | 10, _ => PySem.W.exm_ref bx_TooMany hx_TooMany ty_TooMany sub_InvalidTest_TooMany | 11, _ => PySem.W.exm_ref bx_TooMany hx_TooMany ty_TooMany sub_InvalidDays_TooMany | 12, _ => PySem.W.exm_ref bx_TooMany hx_TooMany ty_TooMany sub_InvalidTable_TooMany | 13, _ => PySem.W.exm_ref bx_TooMany hx_TooMany ty_TooMany sub_InvalidStocks_TooMany | 14, _ => PySem.W.exm_ref bx_TooMany hx_TooMany ty_TooMany sub_TooLarge_TooMany | 15, _ => PySem.W.exm_ref bx_TooMany hx_TooMany ty_TooMany sub_Impossible_TooMany | 16, _ => PySem.W.exm_ref bx_TooMany hx_TooMany ty_TooMany sub_Mismatch_TooMany | 17, _ => PySem.W.exm_ref bx_TooMany hx_TooMany ty_TooMany sub_Over_TooMany | 18, _ => PySem.W.exm_ref bx_TooMany hx_TooMany ty_TooMany sub_TooMany_TooMany | n + 19, h => absurd h (by omega),
      e_TooLarge := fun j hj => match j, hj with | 0, _ => PySem.W.exm_ref bx_TooLarge hx_TooLarge ty_TooLarge sub_InvalidCalendar_TooLarge | 1, _ => PySem.W.exm_ref bx_TooLarge hx_TooLarge ty_TooLarge sub_InvalidHolidays_TooLarge | 2, _ => PySem.W.exm_ref bx_TooLarge hx_TooLarge ty_TooLarge sub_InvalidPlan_TooLarge | 3, _ => PySem.W.exm_ref bx_TooLarge hx_TooLarge ty_TooLarge sub_InvalidNumber_TooLarge | 4, _ => PySem.W.exm_ref bx_TooLarge hx_TooLarge ty_TooLarge sub_InvalidRow_TooLarge | 5, _ => PySem.W.exm_ref bx_TooLarge hx_TooLarge ty_TooLarge sub_InvalidPast_TooLarge | 6, _ => PySem.W.exm_ref bx_TooLarge hx_TooLarge ty_TooLarge sub_InvalidStrategy_TooLarge | 7, _ => PySem.W.exm_ref bx_TooLarge hx_TooLarge ty_TooLarge sub_InvalidPrices_TooLarge | 8, _ => PySem.W.exm_ref bx_TooLarge hx_TooLarge ty_TooLarge sub_InvalidWeights_TooLarge | 9, _ => PySem.W.exm_ref bx_TooLarge hx_TooLarge ty_TooLarge sub_InvalidQueue_TooLarge | 10, _ => PySem.W.exm_ref bx_TooLarge hx_TooLarge ty_TooLarge sub_InvalidTest_TooLarge | 11, _ => PySem.W.exm_ref bx_TooLarge hx_TooLarge ty_TooLarge sub_InvalidDays_TooLarge | 12, _ => PySem.W.exm_ref bx_TooLarge hx_TooLarge ty_TooLarge sub_InvalidTable_TooLarge | 13, _ => PySem.W.exm_ref bx_TooLarge hx_TooLarge ty_TooLarge sub_InvalidStocks_TooLarge | 14, _ => PySem.W.exm_ref bx_TooLarge hx_TooLarge ty_TooLarge sub_TooLarge_TooLarge | 15, _ => PySem.W.exm_ref bx_TooLarge hx_TooLarge ty_TooLarge sub_Impossible_TooLarge | 16, _ => PySem.W.exm_ref bx_TooLarge hx_TooLarge ty_TooLarge sub_Mismatch_TooLarge | 17, _ => PySem.W.exm_ref bx_TooLarge hx_TooLarge ty_TooLarge sub_Over_TooLarge | 18, _ => PySem.W.exm_ref bx_TooLarge hx_TooLarge ty_TooLarge sub_TooMany_TooLarge | n + 19, h => absurd h (by omega),
      e_BreakError := fun j hj => match j, hj with | 0, _ => PySem.W.exm_ref bx_BreakError hx_BreakError ty_BreakError sub_InvalidCalendar_BreakError | 1, _ => PySem.W.exm_ref bx_BreakError hx_BreakError ty_BreakError sub_InvalidHolidays_BreakError | 2, _ => PySem.W.exm_ref bx_BreakError hx_BreakError ty_BreakError sub_InvalidPlan_BreakError | 3, _ => PySem.W.exm_ref bx_BreakError hx_BreakError ty_BreakError sub_InvalidNumber_BreakError | 4, _ => PySem.W.exm_ref bx_BreakError hx_BreakError ty_BreakError sub_InvalidRow_BreakError | 5, _ => PySem.W.exm_ref bx_BreakError hx_BreakError ty_BreakError sub_InvalidPast_BreakError | 6, _ => PySem.W.exm_ref bx_BreakError hx_BreakError ty_BreakError sub_InvalidStrategy_BreakError | 7, _ => PySem.W.exm_ref bx_BreakError hx_BreakError ty_BreakError sub_InvalidPrices_BreakError | 8, _ => PySem.W.exm_ref bx_BreakError hx_BreakError ty_BreakError sub_InvalidWeights_BreakError | 9, _ => PySem.W.exm_ref bx_BreakError hx_BreakError ty_BreakError sub_InvalidQueue_BreakError | 10, _ => PySem.W.exm_ref bx_BreakError hx_BreakError ty_BreakError sub_InvalidTest_BreakError | 11, _ => PySem.W.exm_ref bx_BreakError hx_BreakError ty_BreakError sub_InvalidDays_BreakError | 12, _ => PySem.W.exm_ref bx_BreakError hx_BreakError ty_BreakError sub_InvalidTable_BreakError | 13, _ => PySem.W.exm_ref bx_BreakError hx_BreakError ty_BreakError sub_InvalidStocks_BreakError | 14, _ => PySem.W.exm_ref bx_BreakError hx_BreakError ty_BreakError sub_TooLarge_BreakError | 15, _ => PySem.W.exm_ref bx_BreakError hx_BreakError ty_BreakError sub_Impossible_BreakError | 16, _ => PySem.W.exm_ref bx_BreakError hx_BreakError ty_BreakError sub_Mismatch_BreakError | 17, _ => PySem.W.exm_ref bx_BreakError hx_BreakError ty_BreakError sub_Over_BreakError | 18, _ => PySem.W.exm_ref bx_BreakError hx_BreakError ty_BreakError sub_TooMany_BreakError | n + 19, h => absurd h (by omega),
      en_InvalidCalendar := aX_InvalidCalendar, kwx_InvalidCalendar := fun s us ws _ h1 h2 => match us, ws, h1, h2 with | [_], [_], _, _ => .of_eq rfl,
      en_InvalidHolidays := aX_InvalidHolidays, kwx_InvalidHolidays := fun s us ws _ h1 h2 => match us, ws, h1, h2 with | [_], [_], _, _ => .of_eq rfl,
      en_InvalidPlan := aX_InvalidPlan, kwx_InvalidPlan := fun s us ws _ h1 h2 => match us, ws, h1, h2 with | [_], [_], _, _ => .of_eq rfl,
      en_InvalidNumber := aX_InvalidNumber, kwx_InvalidNumber := fun s us ws _ h1 h2 => match us, ws, h1, h2 with | [_], [_], _, _ => .of_eq rfl,
      en_InvalidRow := aX_InvalidRow, kwx_InvalidRow := fun s us ws _ h1 h2 => match us, ws, h1, h2 with | [_], [_], _, _ => .of_eq rfl,
      en_InvalidPast := aX_InvalidPast, kwx_InvalidPast := fun s us ws _ h1 h2 => match us, ws, h1, h2 with | [_], [_], _, _ => .of_eq rfl,
      en_InvalidStrategy := aX_InvalidStrategy, kwx_InvalidStrategy := fun s us ws _ h1 h2 => match us, ws, h1, h2 with | [_], [_], _, _ => .of_eq rfl,
      en_InvalidPrices := aX_InvalidPrices, kwx_InvalidPrices := fun s us ws _ h1 h2 => match us, ws, h1, h2 with | [_], [_], _, _ => .of_eq rfl,
      en_InvalidWeights := aX_InvalidWeights, kwx_InvalidWeights := fun s us ws _ h1 h2 => match us, ws, h1, h2 with | [_], [_], _, _ => .of_eq rfl,
      en_InvalidQueue := aX_InvalidQueue, kwx_InvalidQueue := fun s us ws _ h1 h2 => match us, ws, h1, h2 with | [_], [_], _, _ => .of_eq rfl,
      en_InvalidTest := aX_InvalidTest, kwx_InvalidTest := fun s us ws _ h1 h2 => match us, ws, h1, h2 with | [_], [_], _, _ => .of_eq rfl,
      en_InvalidDays := aX_InvalidDays, kwx_InvalidDays := fun s us ws _ h1 h2 => match us, ws, h1, h2 with | [_], [_], _, _ => .of_eq rfl,
      en_InvalidTable := aX_InvalidTable, kwx_InvalidTable := fun s us ws _ h1 h2 => match us, ws, h1, h2 with | [_], [_], _, _ => .of_eq rfl,
      en_InvalidStocks := aX_InvalidStocks, kwx_InvalidStocks := fun s us ws _ h1 h2 => match us, ws, h1, h2 with | [_], [_], _, _ => .of_eq rfl,
      en_TooLarge := aX_TooLarge, kwx_TooLarge := fun s us ws _ h1 h2 => match us, ws, h1, h2 with | [_], [_], _, _ => .of_eq rfl,
      en_Impossible := aX_Impossible, kwx_Impossible := fun s us ws _ h1 h2 => match us, ws, h1, h2 with | [_], [_], _, _ => .of_eq rfl,
      en_Mismatch := aX_Mismatch, kwx_Mismatch := fun s us ws _ h1 h2 => match us, ws, h1, h2 with | [_], [_], _, _ => .of_eq rfl,
      en_Over := aX_Over, kwx_Over := fun s us ws _ h1 h2 => match us, ws, h1, h2 with | [_], [_], _, _ => .of_eq rfl,
      en_TooMany := aX_TooMany, kwx_TooMany := fun s us ws _ h1 h2 => match us, ws, h1, h2 with | [_], [_], _, _ => .of_eq rfl,
      xc_InvalidCalendar := ⟨ga_InvalidCalendar, gt_InvalidCalendar, bx_InvalidCalendar, hx_InvalidCalendar, ca_InvalidCalendar, sp_class, tk_class, mo_InvalidCalendar⟩, kv_InvalidCalendar := kv_InvalidCalendar,
      xc_InvalidHolidays := ⟨ga_InvalidHolidays, gt_InvalidHolidays, bx_InvalidHolidays, hx_InvalidHolidays, ca_InvalidHolidays, sp_class, tk_class, mo_InvalidHolidays⟩, kv_InvalidHolidays := kv_InvalidHolidays,
      xc_InvalidPlan := ⟨ga_InvalidPlan, gt_InvalidPlan, bx_InvalidPlan, hx_InvalidPlan, ca_InvalidPlan, sp_class, tk_class, mo_InvalidPlan⟩, kv_InvalidPlan := kv_InvalidPlan,
      xc_InvalidNumber := ⟨ga_InvalidNumber, gt_InvalidNumber, bx_InvalidNumber, hx_InvalidNumber, ca_InvalidNumber, sp_class, tk_class, mo_InvalidNumber⟩, kv_InvalidNumber := kv_InvalidNumber,
      xc_InvalidRow := ⟨ga_InvalidRow, gt_InvalidRow, bx_InvalidRow, hx_InvalidRow, ca_InvalidRow, sp_class, tk_class, mo_InvalidRow⟩, kv_InvalidRow := kv_InvalidRow,
      xc_InvalidPast := ⟨ga_InvalidPast, gt_InvalidPast, bx_InvalidPast, hx_InvalidPast, ca_InvalidPast, sp_class, tk_class, mo_InvalidPast⟩, kv_InvalidPast := kv_InvalidPast,
      xc_InvalidStrategy := ⟨ga_InvalidStrategy, gt_InvalidStrategy, bx_InvalidStrategy, hx_InvalidStrategy, ca_InvalidStrategy, sp_class, tk_class, mo_InvalidStrategy⟩, kv_InvalidStrategy := kv_InvalidStrategy,
      xc_InvalidPrices := ⟨ga_InvalidPrices, gt_InvalidPrices, bx_InvalidPrices, hx_InvalidPrices, ca_InvalidPrices, sp_class, tk_class, mo_InvalidPrices⟩, kv_InvalidPrices := kv_InvalidPrices,
      xc_InvalidWeights := ⟨ga_InvalidWeights, gt_InvalidWeights, bx_InvalidWeights, hx_InvalidWeights, ca_InvalidWeights, sp_class, tk_class, mo_InvalidWeights⟩, kv_InvalidWeights := kv_InvalidWeights,
      xc_InvalidQueue := ⟨ga_InvalidQueue, gt_InvalidQueue, bx_InvalidQueue, hx_InvalidQueue, ca_InvalidQueue, sp_class, tk_class, mo_InvalidQueue⟩, kv_InvalidQueue := kv_InvalidQueue,
      xc_InvalidTest := ⟨ga_InvalidTest, gt_InvalidTest, bx_InvalidTest, hx_InvalidTest, ca_InvalidTest, sp_class, tk_class, mo_InvalidTest⟩, kv_InvalidTest := kv_InvalidTest,
      xc_InvalidDays := ⟨ga_InvalidDays, gt_InvalidDays, bx_InvalidDays, hx_InvalidDays, ca_InvalidDays, sp_class, tk_class, mo_InvalidDays⟩, kv_InvalidDays := kv_InvalidDays,
      xc_InvalidTable := ⟨ga_InvalidTable, gt_InvalidTable, bx_InvalidTable, hx_InvalidTable, ca_InvalidTable, sp_class, tk_class, mo_InvalidTable⟩, kv_InvalidTable := kv_InvalidTable,
      xc_InvalidStocks := ⟨ga_InvalidStocks, gt_InvalidStocks, bx_InvalidStocks, hx_InvalidStocks, ca_InvalidStocks, sp_class, tk_class, mo_InvalidStocks⟩, kv_InvalidStocks := kv_InvalidStocks,
      xc_TooLarge := ⟨ga_TooLarge, gt_TooLarge, bx_TooLarge, hx_TooLarge, ca_TooLarge, sp_class, tk_class, mo_TooLarge⟩, kv_TooLarge := kv_TooLarge,
      xc_Impossible := ⟨ga_Impossible, gt_Impossible, bx_Impossible, hx_Impossible, ca_Impossible, sp_class, tk_class, mo_Impossible⟩, kv_Impossible := kv_Impossible,
      xc_Mismatch := ⟨ga_Mismatch, gt_Mismatch, bx_Mismatch, hx_Mismatch, ca_Mismatch, sp_class, tk_class, mo_Mismatch⟩, kv_Mismatch := kv_Mismatch,
      xc_Over := ⟨ga_Over, gt_Over, bx_Over, hx_Over, ca_Over, sp_class, tk_class, mo_Over⟩, kv_Over := kv_Over,
      xc_TooMany := ⟨ga_TooMany, gt_TooMany, bx_TooMany, hx_TooMany, ca_TooMany, sp_class, tk_class, mo_TooMany⟩, kv_TooMany := kv_TooMany,
      m_ValueError := PySem.W.mg_none_of X G z_ValueError,
      m_all := PySem.W.mg_none_of X G z_all,
      m_enumerate := PySem.W.mg_none_of X G z_enumerate,
      m_isinstance := PySem.W.mg_none_of X G z_isinstance,
      m_range := PySem.W.mg_none_of X G z_range,
      m_repr := PySem.W.mg_none_of X G z_repr }
  exact ⟨_, errC _, fun s v => .of_eq rfl, fun base _ _ => ok_law T⟩
end My
open PySem PySem.W PyProof.Rows
set_option maxRecDepth 100000 in
set_option maxHeartbeats 0 in
theorem PySem.Challenge.cw_breakrows_k04_error_types_holds : PySem.Challenge.rw_breakrows_k04_error_types.Holds := by
  w_on; o_law; k_head; (case hw => w_witness2)
  k_fill
  refine Bk.walk_q (l := PySem.Challenge.rw_breakrows_k04_error_types) (n := 63) (k := 5) (x := "_law_script") (F := My.F_law) rfl (by decide) rfl ⟨rfl, by decide, by decide⟩ (fun w h Y => PySem.W.kIn_of Y) ?F My.law_true
  case F =>
    intro w mg fa h KX G hmg
    refine' My.all_mk KX G hmg ?aX_InvalidCalendar ?aX_InvalidHolidays ?aX_InvalidPlan ?aX_InvalidNumber ?aX_InvalidRow ?aX_InvalidPast ?aX_InvalidStrategy ?aX_InvalidPrices ?aX_InvalidWeights ?aX_InvalidQueue ?aX_InvalidTest ?aX_InvalidDays ?aX_InvalidTable ?aX_InvalidStocks ?aX_TooLarge ?aX_Impossible ?aX_Mismatch ?aX_Over ?aX_TooMany ?aX_BreakError ?lo_InvalidCalendar ?eo_InvalidCalendar ?hx_InvalidCalendar ?ga_InvalidCalendar ?gt_InvalidCalendar ?sx_InvalidCalendar ?bx_InvalidCalendar ?ty_InvalidCalendar ?kx_InvalidCalendar ?nx_InvalidCalendar ?ix_InvalidCalendar ?tx_InvalidCalendar ?lx_InvalidCalendar ?cx_InvalidCalendar ?ox_InvalidCalendar ?lo_InvalidHolidays ?eo_InvalidHolidays ?hx_InvalidHolidays ?ga_InvalidHolidays ?gt_InvalidHolidays ?sx_InvalidHolidays ?bx_InvalidHolidays ?ty_InvalidHolidays ?kx_InvalidHolidays ?nx_InvalidHolidays ?ix_InvalidHolidays ?tx_InvalidHolidays ?lx_InvalidHolidays ?cx_InvalidHolidays ?ox_InvalidHolidays ?lo_InvalidPlan ?eo_InvalidPlan ?hx_InvalidPlan ?ga_InvalidPlan ?gt_InvalidPlan ?sx_InvalidPlan ?bx_InvalidPlan ?ty_InvalidPlan ?kx_InvalidPlan ?nx_InvalidPlan ?ix_InvalidPlan ?tx_InvalidPlan ?lx_InvalidPlan ?cx_InvalidPlan ?ox_InvalidPlan ?lo_InvalidNumber ?eo_InvalidNumber ?hx_InvalidNumber ?ga_InvalidNumber ?gt_InvalidNumber ?sx_InvalidNumber ?bx_InvalidNumber ?ty_InvalidNumber ?kx_InvalidNumber ?nx_InvalidNumber ?ix_InvalidNumber ?tx_InvalidNumber ?lx_InvalidNumber ?cx_InvalidNumber ?ox_InvalidNumber ?lo_InvalidRow ?eo_InvalidRow ?hx_InvalidRow ?ga_InvalidRow ?gt_InvalidRow ?sx_InvalidRow ?bx_InvalidRow ?ty_InvalidRow ?kx_InvalidRow ?nx_InvalidRow ?ix_InvalidRow ?tx_InvalidRow ?lx_InvalidRow ?cx_InvalidRow ?ox_InvalidRow ?lo_InvalidPast ?eo_InvalidPast ?hx_InvalidPast ?ga_InvalidPast ?gt_InvalidPast ?sx_InvalidPast ?bx_InvalidPast ?ty_InvalidPast ?kx_InvalidPast ?nx_InvalidPast ?ix_InvalidPast ?tx_InvalidPast ?lx_InvalidPast ?cx_InvalidPast ?ox_InvalidPast ?lo_InvalidStrategy ?eo_InvalidStrategy ?hx_InvalidStrategy ?ga_InvalidStrategy ?gt_InvalidStrategy ?sx_InvalidStrategy ?bx_InvalidStrategy ?ty_InvalidStrategy ?kx_InvalidStrategy ?nx_InvalidStrategy ?ix_InvalidStrategy ?tx_InvalidStrategy ?lx_InvalidStrategy ?cx_InvalidStrategy ?ox_InvalidStrategy ?lo_InvalidPrices ?eo_InvalidPrices ?hx_InvalidPrices ?ga_InvalidPrices ?gt_InvalidPrices ?sx_InvalidPrices ?bx_InvalidPrices ?ty_InvalidPrices ?kx_InvalidPrices ?nx_InvalidPrices ?ix_InvalidPrices ?tx_InvalidPrices ?lx_InvalidPrices ?cx_InvalidPrices ?ox_InvalidPrices ?lo_InvalidWeights ?eo_InvalidWeights ?hx_InvalidWeights ?ga_InvalidWeights ?gt_InvalidWeights ?sx_InvalidWeights ?bx_InvalidWeights ?ty_InvalidWeights ?kx_InvalidWeights ?nx_InvalidWeights ?ix_InvalidWeights ?tx_InvalidWeights ?lx_InvalidWeights ?cx_InvalidWeights ?ox_InvalidWeights ?lo_InvalidQueue ?eo_InvalidQueue ?hx_InvalidQueue ?ga_InvalidQueue ?gt_InvalidQueue ?sx_InvalidQueue ?bx_InvalidQueue ?ty_InvalidQueue ?kx_InvalidQueue ?nx_InvalidQueue ?ix_InvalidQueue ?tx_InvalidQueue ?lx_InvalidQueue ?cx_InvalidQueue ?ox_InvalidQueue ?lo_InvalidTest ?eo_InvalidTest ?hx_InvalidTest ?ga_InvalidTest ?gt_InvalidTest ?sx_InvalidTest ?bx_InvalidTest ?ty_InvalidTest ?kx_InvalidTest ?nx_InvalidTest ?ix_InvalidTest ?tx_InvalidTest ?lx_InvalidTest ?cx_InvalidTest ?ox_InvalidTest ?lo_InvalidDays ?eo_InvalidDays ?hx_InvalidDays ?ga_InvalidDays ?gt_InvalidDays ?sx_InvalidDays ?bx_InvalidDays ?ty_InvalidDays ?kx_InvalidDays ?nx_InvalidDays ?ix_InvalidDays ?tx_InvalidDays ?lx_InvalidDays ?cx_InvalidDays ?ox_InvalidDays ?lo_InvalidTable ?eo_InvalidTable ?hx_InvalidTable ?ga_InvalidTable ?gt_InvalidTable ?sx_InvalidTable ?bx_InvalidTable ?ty_InvalidTable ?kx_InvalidTable ?nx_InvalidTable ?ix_InvalidTable ?tx_InvalidTable ?lx_InvalidTable ?cx_InvalidTable ?ox_InvalidTable ?lo_InvalidStocks ?eo_InvalidStocks ?hx_InvalidStocks ?ga_InvalidStocks ?gt_InvalidStocks ?sx_InvalidStocks ?bx_InvalidStocks ?ty_InvalidStocks ?kx_InvalidStocks ?nx_InvalidStocks ?ix_InvalidStocks ?tx_InvalidStocks ?lx_InvalidStocks ?cx_InvalidStocks ?ox_InvalidStocks ?lo_TooLarge ?eo_TooLarge ?hx_TooLarge ?ga_TooLarge ?gt_TooLarge ?sx_TooLarge ?bx_TooLarge ?ty_TooLarge ?kx_TooLarge ?nx_TooLarge ?ix_TooLarge ?tx_TooLarge ?lx_TooLarge ?cx_TooLarge ?ox_TooLarge ?lo_Impossible ?eo_Impossible ?hx_Impossible ?ga_Impossible ?gt_Impossible ?sx_Impossible ?bx_Impossible ?ty_Impossible ?kx_Impossible ?nx_Impossible ?ix_Impossible ?tx_Impossible ?lx_Impossible ?cx_Impossible ?ox_Impossible ?lo_Mismatch ?eo_Mismatch ?hx_Mismatch ?ga_Mismatch ?gt_Mismatch ?sx_Mismatch ?bx_Mismatch ?ty_Mismatch ?kx_Mismatch ?nx_Mismatch ?ix_Mismatch ?tx_Mismatch ?lx_Mismatch ?cx_Mismatch ?ox_Mismatch ?lo_Over ?eo_Over ?hx_Over ?ga_Over ?gt_Over ?sx_Over ?bx_Over ?ty_Over ?kx_Over ?nx_Over ?ix_Over ?tx_Over ?lx_Over ?cx_Over ?ox_Over ?lo_TooMany ?eo_TooMany ?hx_TooMany ?ga_TooMany ?gt_TooMany ?sx_TooMany ?bx_TooMany ?ty_TooMany ?kx_TooMany ?nx_TooMany ?ix_TooMany ?tx_TooMany ?lx_TooMany ?cx_TooMany ?ox_TooMany ?sub_InvalidCalendar_InvalidCalendar ?sub_InvalidHolidays_InvalidCalendar ?sub_InvalidPlan_InvalidCalendar ?sub_InvalidNumber_InvalidCalendar ?sub_InvalidRow_InvalidCalendar ?sub_InvalidPast_InvalidCalendar ?sub_InvalidStrategy_InvalidCalendar ?sub_InvalidPrices_InvalidCalendar ?sub_InvalidWeights_InvalidCalendar ?sub_InvalidQueue_InvalidCalendar ?sub_InvalidTest_InvalidCalendar ?sub_InvalidDays_InvalidCalendar ?sub_InvalidTable_InvalidCalendar ?sub_InvalidStocks_InvalidCalendar ?sub_TooLarge_InvalidCalendar ?sub_Impossible_InvalidCalendar ?sub_Mismatch_InvalidCalendar ?sub_Over_InvalidCalendar ?sub_TooMany_InvalidCalendar ?sub_InvalidCalendar_InvalidNumber ?sub_InvalidHolidays_InvalidNumber ?sub_InvalidPlan_InvalidNumber ?sub_InvalidNumber_InvalidNumber ?sub_InvalidRow_InvalidNumber ?sub_InvalidPast_InvalidNumber ?sub_InvalidStrategy_InvalidNumber ?sub_InvalidPrices_InvalidNumber ?sub_InvalidWeights_InvalidNumber ?sub_InvalidQueue_InvalidNumber ?sub_InvalidTest_InvalidNumber ?sub_InvalidDays_InvalidNumber ?sub_InvalidTable_InvalidNumber ?sub_InvalidStocks_InvalidNumber ?sub_TooLarge_InvalidNumber ?sub_Impossible_InvalidNumber ?sub_Mismatch_InvalidNumber ?sub_Over_InvalidNumber ?sub_TooMany_InvalidNumber ?sub_InvalidCalendar_InvalidHolidays ?sub_InvalidHolidays_InvalidHolidays ?sub_InvalidPlan_InvalidHolidays ?sub_InvalidNumber_InvalidHolidays ?sub_InvalidRow_InvalidHolidays ?sub_InvalidPast_InvalidHolidays ?sub_InvalidStrategy_InvalidHolidays ?sub_InvalidPrices_InvalidHolidays ?sub_InvalidWeights_InvalidHolidays ?sub_InvalidQueue_InvalidHolidays ?sub_InvalidTest_InvalidHolidays ?sub_InvalidDays_InvalidHolidays ?sub_InvalidTable_InvalidHolidays ?sub_InvalidStocks_InvalidHolidays ?sub_TooLarge_InvalidHolidays ?sub_Impossible_InvalidHolidays ?sub_Mismatch_InvalidHolidays ?sub_Over_InvalidHolidays ?sub_TooMany_InvalidHolidays ?sub_InvalidCalendar_InvalidRow ?sub_InvalidHolidays_InvalidRow ?sub_InvalidPlan_InvalidRow ?sub_InvalidNumber_InvalidRow ?sub_InvalidRow_InvalidRow ?sub_InvalidPast_InvalidRow ?sub_InvalidStrategy_InvalidRow ?sub_InvalidPrices_InvalidRow ?sub_InvalidWeights_InvalidRow ?sub_InvalidQueue_InvalidRow ?sub_InvalidTest_InvalidRow ?sub_InvalidDays_InvalidRow ?sub_InvalidTable_InvalidRow ?sub_InvalidStocks_InvalidRow ?sub_TooLarge_InvalidRow ?sub_Impossible_InvalidRow ?sub_Mismatch_InvalidRow ?sub_Over_InvalidRow ?sub_TooMany_InvalidRow ?sub_InvalidCalendar_InvalidPast ?sub_InvalidHolidays_InvalidPast ?sub_InvalidPlan_InvalidPast ?sub_InvalidNumber_InvalidPast ?sub_InvalidRow_InvalidPast ?sub_InvalidPast_InvalidPast ?sub_InvalidStrategy_InvalidPast ?sub_InvalidPrices_InvalidPast ?sub_InvalidWeights_InvalidPast ?sub_InvalidQueue_InvalidPast ?sub_InvalidTest_InvalidPast ?sub_InvalidDays_InvalidPast ?sub_InvalidTable_InvalidPast ?sub_InvalidStocks_InvalidPast ?sub_TooLarge_InvalidPast ?sub_Impossible_InvalidPast ?sub_Mismatch_InvalidPast ?sub_Over_InvalidPast ?sub_TooMany_InvalidPast ?sub_InvalidCalendar_InvalidPlan ?sub_InvalidHolidays_InvalidPlan ?sub_InvalidPlan_InvalidPlan ?sub_InvalidNumber_InvalidPlan ?sub_InvalidRow_InvalidPlan ?sub_InvalidPast_InvalidPlan ?sub_InvalidStrategy_InvalidPlan ?sub_InvalidPrices_InvalidPlan ?sub_InvalidWeights_InvalidPlan ?sub_InvalidQueue_InvalidPlan ?sub_InvalidTest_InvalidPlan ?sub_InvalidDays_InvalidPlan ?sub_InvalidTable_InvalidPlan ?sub_InvalidStocks_InvalidPlan ?sub_TooLarge_InvalidPlan ?sub_Impossible_InvalidPlan ?sub_Mismatch_InvalidPlan ?sub_Over_InvalidPlan ?sub_TooMany_InvalidPlan ?sub_InvalidCalendar_InvalidTest ?sub_InvalidHolidays_InvalidTest ?sub_InvalidPlan_InvalidTest ?sub_InvalidNumber_InvalidTest ?sub_InvalidRow_InvalidTest ?sub_InvalidPast_InvalidTest ?sub_InvalidStrategy_InvalidTest ?sub_InvalidPrices_InvalidTest ?sub_InvalidWeights_InvalidTest ?sub_InvalidQueue_InvalidTest ?sub_InvalidTest_InvalidTest ?sub_InvalidDays_InvalidTest ?sub_InvalidTable_InvalidTest ?sub_InvalidStocks_InvalidTest ?sub_TooLarge_InvalidTest ?sub_Impossible_InvalidTest ?sub_Mismatch_InvalidTest ?sub_Over_InvalidTest ?sub_TooMany_InvalidTest ?sub_InvalidCalendar_InvalidStrategy ?sub_InvalidHolidays_InvalidStrategy ?sub_InvalidPlan_InvalidStrategy ?sub_InvalidNumber_InvalidStrategy ?sub_InvalidRow_InvalidStrategy ?sub_InvalidPast_InvalidStrategy ?sub_InvalidStrategy_InvalidStrategy ?sub_InvalidPrices_InvalidStrategy ?sub_InvalidWeights_InvalidStrategy ?sub_InvalidQueue_InvalidStrategy ?sub_InvalidTest_InvalidStrategy ?sub_InvalidDays_InvalidStrategy ?sub_InvalidTable_InvalidStrategy ?sub_InvalidStocks_InvalidStrategy ?sub_TooLarge_InvalidStrategy ?sub_Impossible_InvalidStrategy ?sub_Mismatch_InvalidStrategy ?sub_Over_InvalidStrategy ?sub_TooMany_InvalidStrategy ?sub_InvalidCalendar_InvalidDays ?sub_InvalidHolidays_InvalidDays ?sub_InvalidPlan_InvalidDays ?sub_InvalidNumber_InvalidDays ?sub_InvalidRow_InvalidDays ?sub_InvalidPast_InvalidDays ?sub_InvalidStrategy_InvalidDays ?sub_InvalidPrices_InvalidDays ?sub_InvalidWeights_InvalidDays ?sub_InvalidQueue_InvalidDays ?sub_InvalidTest_InvalidDays ?sub_InvalidDays_InvalidDays ?sub_InvalidTable_InvalidDays ?sub_InvalidStocks_InvalidDays ?sub_TooLarge_InvalidDays ?sub_Impossible_InvalidDays ?sub_Mismatch_InvalidDays ?sub_Over_InvalidDays ?sub_TooMany_InvalidDays ?sub_InvalidCalendar_InvalidPrices ?sub_InvalidHolidays_InvalidPrices ?sub_InvalidPlan_InvalidPrices ?sub_InvalidNumber_InvalidPrices ?sub_InvalidRow_InvalidPrices ?sub_InvalidPast_InvalidPrices ?sub_InvalidStrategy_InvalidPrices ?sub_InvalidPrices_InvalidPrices ?sub_InvalidWeights_InvalidPrices ?sub_InvalidQueue_InvalidPrices ?sub_InvalidTest_InvalidPrices ?sub_InvalidDays_InvalidPrices ?sub_InvalidTable_InvalidPrices ?sub_InvalidStocks_InvalidPrices ?sub_TooLarge_InvalidPrices ?sub_Impossible_InvalidPrices ?sub_Mismatch_InvalidPrices ?sub_Over_InvalidPrices ?sub_TooMany_InvalidPrices ?sub_InvalidCalendar_InvalidWeights ?sub_InvalidHolidays_InvalidWeights ?sub_InvalidPlan_InvalidWeights ?sub_InvalidNumber_InvalidWeights ?sub_InvalidRow_InvalidWeights ?sub_InvalidPast_InvalidWeights ?sub_InvalidStrategy_InvalidWeights ?sub_InvalidPrices_InvalidWeights ?sub_InvalidWeights_InvalidWeights ?sub_InvalidQueue_InvalidWeights ?sub_InvalidTest_InvalidWeights ?sub_InvalidDays_InvalidWeights ?sub_InvalidTable_InvalidWeights ?sub_InvalidStocks_InvalidWeights ?sub_TooLarge_InvalidWeights ?sub_Impossible_InvalidWeights ?sub_Mismatch_InvalidWeights ?sub_Over_InvalidWeights ?sub_TooMany_InvalidWeights ?sub_InvalidCalendar_InvalidTable ?sub_InvalidHolidays_InvalidTable ?sub_InvalidPlan_InvalidTable ?sub_InvalidNumber_InvalidTable ?sub_InvalidRow_InvalidTable ?sub_InvalidPast_InvalidTable ?sub_InvalidStrategy_InvalidTable ?sub_InvalidPrices_InvalidTable ?sub_InvalidWeights_InvalidTable ?sub_InvalidQueue_InvalidTable ?sub_InvalidTest_InvalidTable ?sub_InvalidDays_InvalidTable ?sub_InvalidTable_InvalidTable ?sub_InvalidStocks_InvalidTable ?sub_TooLarge_InvalidTable ?sub_Impossible_InvalidTable ?sub_Mismatch_InvalidTable ?sub_Over_InvalidTable ?sub_TooMany_InvalidTable ?sub_InvalidCalendar_InvalidQueue ?sub_InvalidHolidays_InvalidQueue ?sub_InvalidPlan_InvalidQueue ?sub_InvalidNumber_InvalidQueue ?sub_InvalidRow_InvalidQueue ?sub_InvalidPast_InvalidQueue ?sub_InvalidStrategy_InvalidQueue ?sub_InvalidPrices_InvalidQueue ?sub_InvalidWeights_InvalidQueue ?sub_InvalidQueue_InvalidQueue ?sub_InvalidTest_InvalidQueue ?sub_InvalidDays_InvalidQueue ?sub_InvalidTable_InvalidQueue ?sub_InvalidStocks_InvalidQueue ?sub_TooLarge_InvalidQueue ?sub_Impossible_InvalidQueue ?sub_Mismatch_InvalidQueue ?sub_Over_InvalidQueue ?sub_TooMany_InvalidQueue ?sub_InvalidCalendar_InvalidStocks ?sub_InvalidHolidays_InvalidStocks ?sub_InvalidPlan_InvalidStocks ?sub_InvalidNumber_InvalidStocks ?sub_InvalidRow_InvalidStocks ?sub_InvalidPast_InvalidStocks ?sub_InvalidStrategy_InvalidStocks ?sub_InvalidPrices_InvalidStocks ?sub_InvalidWeights_InvalidStocks ?sub_InvalidQueue_InvalidStocks ?sub_InvalidTest_InvalidStocks ?sub_InvalidDays_InvalidStocks ?sub_InvalidTable_InvalidStocks ?sub_InvalidStocks_InvalidStocks ?sub_TooLarge_InvalidStocks ?sub_Impossible_InvalidStocks ?sub_Mismatch_InvalidStocks ?sub_Over_InvalidStocks ?sub_TooMany_InvalidStocks ?sub_InvalidCalendar_Impossible ?sub_InvalidHolidays_Impossible ?sub_InvalidPlan_Impossible ?sub_InvalidNumber_Impossible ?sub_InvalidRow_Impossible ?sub_InvalidPast_Impossible ?sub_InvalidStrategy_Impossible ?sub_InvalidPrices_Impossible ?sub_InvalidWeights_Impossible ?sub_InvalidQueue_Impossible ?sub_InvalidTest_Impossible ?sub_InvalidDays_Impossible ?sub_InvalidTable_Impossible ?sub_InvalidStocks_Impossible ?sub_TooLarge_Impossible ?sub_Impossible_Impossible ?sub_Mismatch_Impossible ?sub_Over_Impossible ?sub_TooMany_Impossible ?sub_InvalidCalendar_Mismatch ?sub_InvalidHolidays_Mismatch ?sub_InvalidPlan_Mismatch ?sub_InvalidNumber_Mismatch ?sub_InvalidRow_Mismatch ?sub_InvalidPast_Mismatch ?sub_InvalidStrategy_Mismatch ?sub_InvalidPrices_Mismatch ?sub_InvalidWeights_Mismatch ?sub_InvalidQueue_Mismatch ?sub_InvalidTest_Mismatch ?sub_InvalidDays_Mismatch ?sub_InvalidTable_Mismatch ?sub_InvalidStocks_Mismatch ?sub_TooLarge_Mismatch ?sub_Impossible_Mismatch ?sub_Mismatch_Mismatch ?sub_Over_Mismatch ?sub_TooMany_Mismatch ?sub_InvalidCalendar_Over ?sub_InvalidHolidays_Over ?sub_InvalidPlan_Over ?sub_InvalidNumber_Over ?sub_InvalidRow_Over ?sub_InvalidPast_Over ?sub_InvalidStrategy_Over ?sub_InvalidPrices_Over ?sub_InvalidWeights_Over ?sub_InvalidQueue_Over ?sub_InvalidTest_Over ?sub_InvalidDays_Over ?sub_InvalidTable_Over ?sub_InvalidStocks_Over ?sub_TooLarge_Over ?sub_Impossible_Over ?sub_Mismatch_Over ?sub_Over_Over ?sub_TooMany_Over ?sub_InvalidCalendar_TooMany ?sub_InvalidHolidays_TooMany ?sub_InvalidPlan_TooMany ?sub_InvalidNumber_TooMany ?sub_InvalidRow_TooMany ?sub_InvalidPast_TooMany ?sub_InvalidStrategy_TooMany ?sub_InvalidPrices_TooMany ?sub_InvalidWeights_TooMany ?sub_InvalidQueue_TooMany ?sub_InvalidTest_TooMany ?sub_InvalidDays_TooMany ?sub_InvalidTable_TooMany ?sub_InvalidStocks_TooMany ?sub_TooLarge_TooMany ?sub_Impossible_TooMany ?sub_Mismatch_TooMany ?sub_Over_TooMany ?sub_TooMany_TooMany ?sub_InvalidCalendar_TooLarge ?sub_InvalidHolidays_TooLarge ?sub_InvalidPlan_TooLarge ?sub_InvalidNumber_TooLarge ?sub_InvalidRow_TooLarge ?sub_InvalidPast_TooLarge ?sub_InvalidStrategy_TooLarge ?sub_InvalidPrices_TooLarge ?sub_InvalidWeights_TooLarge ?sub_InvalidQueue_TooLarge ?sub_InvalidTest_TooLarge ?sub_InvalidDays_TooLarge ?sub_InvalidTable_TooLarge ?sub_InvalidStocks_TooLarge ?sub_TooLarge_TooLarge ?sub_Impossible_TooLarge ?sub_Mismatch_TooLarge ?sub_Over_TooLarge ?sub_TooMany_TooLarge ?bx_BreakError ?ty_BreakError ?hx_BreakError ?sub_InvalidCalendar_BreakError ?sub_InvalidHolidays_BreakError ?sub_InvalidPlan_BreakError ?sub_InvalidNumber_BreakError ?sub_InvalidRow_BreakError ?sub_InvalidPast_BreakError ?sub_InvalidStrategy_BreakError ?sub_InvalidPrices_BreakError ?sub_InvalidWeights_BreakError ?sub_InvalidQueue_BreakError ?sub_InvalidTest_BreakError ?sub_InvalidDays_BreakError ?sub_InvalidTable_BreakError ?sub_InvalidStocks_BreakError ?sub_TooLarge_BreakError ?sub_Impossible_BreakError ?sub_Mismatch_BreakError ?sub_Over_BreakError ?sub_TooMany_BreakError ?a_law_mixed ?l_law_mixed ?c_law_mixed ?k_law_mixed ?a_law_source ?l_law_source ?c_law_source ?k_law_source ?a_law_take ?l_law_take ?c_law_take ?k_law_take ?a_law_places ?l_law_places ?c_law_places ?k_law_places ?a_law_stores ?l_law_stores ?c_law_stores ?k_law_stores ?a_law_first_errors ?l_law_first_errors ?c_law_first_errors ?k_law_first_errors ?a_law_middle_errors ?l_law_middle_errors ?c_law_middle_errors ?k_law_middle_errors ?a_law_last_errors ?l_law_last_errors ?c_law_last_errors ?k_law_last_errors ?a_law ?l_law ?c_law ?k_law ?z_ValueError ?z_all ?z_enumerate ?z_isinstance ?z_range ?z_repr ?sp_class ?tk_class ?ca_InvalidCalendar ?mo_InvalidCalendar ?kv_InvalidCalendar ?ca_InvalidHolidays ?mo_InvalidHolidays ?kv_InvalidHolidays ?ca_InvalidPlan ?mo_InvalidPlan ?kv_InvalidPlan ?ca_InvalidNumber ?mo_InvalidNumber ?kv_InvalidNumber ?ca_InvalidRow ?mo_InvalidRow ?kv_InvalidRow ?ca_InvalidPast ?mo_InvalidPast ?kv_InvalidPast ?ca_InvalidStrategy ?mo_InvalidStrategy ?kv_InvalidStrategy ?ca_InvalidPrices ?mo_InvalidPrices ?kv_InvalidPrices ?ca_InvalidWeights ?mo_InvalidWeights ?kv_InvalidWeights ?ca_InvalidQueue ?mo_InvalidQueue ?kv_InvalidQueue ?ca_InvalidTest ?mo_InvalidTest ?kv_InvalidTest ?ca_InvalidDays ?mo_InvalidDays ?kv_InvalidDays ?ca_InvalidTable ?mo_InvalidTable ?kv_InvalidTable ?ca_InvalidStocks ?mo_InvalidStocks ?kv_InvalidStocks ?ca_TooLarge ?mo_TooLarge ?kv_TooLarge ?ca_Impossible ?mo_Impossible ?kv_Impossible ?ca_Mismatch ?mo_Mismatch ?kv_Mismatch ?ca_Over ?mo_Over ?kv_Over ?ca_TooMany ?mo_TooMany ?kv_TooMany
    (case aX_InvalidCalendar => k_is); (case aX_InvalidHolidays => k_is); (case aX_InvalidPlan => k_is); (case aX_InvalidNumber => k_is); (case aX_InvalidRow => k_is); (case aX_InvalidPast => k_is); (case aX_InvalidStrategy => k_is); (case aX_InvalidPrices => k_is); (case aX_InvalidWeights => k_is); (case aX_InvalidQueue => k_is); (case aX_InvalidTest => k_is); (case aX_InvalidDays => k_is); (case aX_InvalidTable => k_is); (case aX_InvalidStocks => k_is); (case aX_TooLarge => k_is); (case aX_Impossible => k_is); (case aX_Mismatch => k_is); (case aX_Over => k_is); (case aX_TooMany => k_is); (case aX_BreakError => k_is); (case lo_InvalidCalendar => k_is); (case eo_InvalidCalendar => decide +kernel); (case hx_InvalidCalendar => k_is); (case ga_InvalidCalendar => k_is); (case gt_InvalidCalendar => k_is); (case sx_InvalidCalendar => k_is); (case bx_InvalidCalendar => k_is); (case ty_InvalidCalendar => k_is); (case kx_InvalidCalendar => k_is); (case nx_InvalidCalendar => k_is); (case ix_InvalidCalendar => k_is); (case tx_InvalidCalendar => k_is); (case lx_InvalidCalendar => k_is); (case cx_InvalidCalendar => k_is); (case ox_InvalidCalendar => k_is); (case lo_InvalidHolidays => k_is); (case eo_InvalidHolidays => decide +kernel); (case hx_InvalidHolidays => k_is); (case ga_InvalidHolidays => k_is); (case gt_InvalidHolidays => k_is); (case sx_InvalidHolidays => k_is); (case bx_InvalidHolidays => k_is); (case ty_InvalidHolidays => k_is); (case kx_InvalidHolidays => k_is); (case nx_InvalidHolidays => k_is); (case ix_InvalidHolidays => k_is); (case tx_InvalidHolidays => k_is); (case lx_InvalidHolidays => k_is); (case cx_InvalidHolidays => k_is); (case ox_InvalidHolidays => k_is); (case lo_InvalidPlan => k_is); (case eo_InvalidPlan => decide +kernel); (case hx_InvalidPlan => k_is); (case ga_InvalidPlan => k_is); (case gt_InvalidPlan => k_is); (case sx_InvalidPlan => k_is); (case bx_InvalidPlan => k_is); (case ty_InvalidPlan => k_is); (case kx_InvalidPlan => k_is); (case nx_InvalidPlan => k_is); (case ix_InvalidPlan => k_is); (case tx_InvalidPlan => k_is); (case lx_InvalidPlan => k_is); (case cx_InvalidPlan => k_is); (case ox_InvalidPlan => k_is); (case lo_InvalidNumber => k_is); (case eo_InvalidNumber => decide +kernel); (case hx_InvalidNumber => k_is); (case ga_InvalidNumber => k_is); (case gt_InvalidNumber => k_is); (case sx_InvalidNumber => k_is); (case bx_InvalidNumber => k_is); (case ty_InvalidNumber => k_is); (case kx_InvalidNumber => k_is); (case nx_InvalidNumber => k_is); (case ix_InvalidNumber => k_is); (case tx_InvalidNumber => k_is); (case lx_InvalidNumber => k_is); (case cx_InvalidNumber => k_is); (case ox_InvalidNumber => k_is); (case lo_InvalidRow => k_is); (case eo_InvalidRow => decide +kernel); (case hx_InvalidRow => k_is); (case ga_InvalidRow => k_is); (case gt_InvalidRow => k_is); (case sx_InvalidRow => k_is); (case bx_InvalidRow => k_is); (case ty_InvalidRow => k_is); (case kx_InvalidRow => k_is); (case nx_InvalidRow => k_is); (case ix_InvalidRow => k_is); (case tx_InvalidRow => k_is); (case lx_InvalidRow => k_is); (case cx_InvalidRow => k_is); (case ox_InvalidRow => k_is); (case lo_InvalidPast => k_is); (case eo_InvalidPast => decide +kernel); (case hx_InvalidPast => k_is); (case ga_InvalidPast => k_is); (case gt_InvalidPast => k_is); (case sx_InvalidPast => k_is); (case bx_InvalidPast => k_is); (case ty_InvalidPast => k_is); (case kx_InvalidPast => k_is); (case nx_InvalidPast => k_is); (case ix_InvalidPast => k_is); (case tx_InvalidPast => k_is); (case lx_InvalidPast => k_is); (case cx_InvalidPast => k_is); (case ox_InvalidPast => k_is); (case lo_InvalidStrategy => k_is); (case eo_InvalidStrategy => decide +kernel); (case hx_InvalidStrategy => k_is); (case ga_InvalidStrategy => k_is); (case gt_InvalidStrategy => k_is); (case sx_InvalidStrategy => k_is); (case bx_InvalidStrategy => k_is); (case ty_InvalidStrategy => k_is); (case kx_InvalidStrategy => k_is); (case nx_InvalidStrategy => k_is); (case ix_InvalidStrategy => k_is); (case tx_InvalidStrategy => k_is); (case lx_InvalidStrategy => k_is); (case cx_InvalidStrategy => k_is); (case ox_InvalidStrategy => k_is); (case lo_InvalidPrices => k_is); (case eo_InvalidPrices => decide +kernel); (case hx_InvalidPrices => k_is); (case ga_InvalidPrices => k_is); (case gt_InvalidPrices => k_is); (case sx_InvalidPrices => k_is); (case bx_InvalidPrices => k_is); (case ty_InvalidPrices => k_is); (case kx_InvalidPrices => k_is); (case nx_InvalidPrices => k_is); (case ix_InvalidPrices => k_is); (case tx_InvalidPrices => k_is); (case lx_InvalidPrices => k_is); (case cx_InvalidPrices => k_is); (case ox_InvalidPrices => k_is); (case lo_InvalidWeights => k_is); (case eo_InvalidWeights => decide +kernel); (case hx_InvalidWeights => k_is); (case ga_InvalidWeights => k_is); (case gt_InvalidWeights => k_is); (case sx_InvalidWeights => k_is); (case bx_InvalidWeights => k_is); (case ty_InvalidWeights => k_is); (case kx_InvalidWeights => k_is); (case nx_InvalidWeights => k_is); (case ix_InvalidWeights => k_is); (case tx_InvalidWeights => k_is); (case lx_InvalidWeights => k_is); (case cx_InvalidWeights => k_is); (case ox_InvalidWeights => k_is); (case lo_InvalidQueue => k_is); (case eo_InvalidQueue => decide +kernel); (case hx_InvalidQueue => k_is); (case ga_InvalidQueue => k_is); (case gt_InvalidQueue => k_is); (case sx_InvalidQueue => k_is); (case bx_InvalidQueue => k_is); (case ty_InvalidQueue => k_is); (case kx_InvalidQueue => k_is); (case nx_InvalidQueue => k_is); (case ix_InvalidQueue => k_is); (case tx_InvalidQueue => k_is); (case lx_InvalidQueue => k_is); (case cx_InvalidQueue => k_is); (case ox_InvalidQueue => k_is); (case lo_InvalidTest => k_is); (case eo_InvalidTest => decide +kernel); (case hx_InvalidTest => k_is); (case ga_InvalidTest => k_is); (case gt_InvalidTest => k_is); (case sx_InvalidTest => k_is); (case bx_InvalidTest => k_is); (case ty_InvalidTest => k_is); (case kx_InvalidTest => k_is); (case nx_InvalidTest => k_is); (case ix_InvalidTest => k_is); (case tx_InvalidTest => k_is); (case lx_InvalidTest => k_is); (case cx_InvalidTest => k_is); (case ox_InvalidTest => k_is); (case lo_InvalidDays => k_is); (case eo_InvalidDays => decide +kernel); (case hx_InvalidDays => k_is); (case ga_InvalidDays => k_is); (case gt_InvalidDays => k_is); (case sx_InvalidDays => k_is); (case bx_InvalidDays => k_is); (case ty_InvalidDays => k_is); (case kx_InvalidDays => k_is); (case nx_InvalidDays => k_is); (case ix_InvalidDays => k_is); (case tx_InvalidDays => k_is); (case lx_InvalidDays => k_is); (case cx_InvalidDays => k_is); (case ox_InvalidDays => k_is); (case lo_InvalidTable => k_is); (case eo_InvalidTable => decide +kernel); (case hx_InvalidTable => k_is); (case ga_InvalidTable => k_is); (case gt_InvalidTable => k_is); (case sx_InvalidTable => k_is); (case bx_InvalidTable => k_is); (case ty_InvalidTable => k_is); (case kx_InvalidTable => k_is); (case nx_InvalidTable => k_is); (case ix_InvalidTable => k_is); (case tx_InvalidTable => k_is); (case lx_InvalidTable => k_is); (case cx_InvalidTable => k_is); (case ox_InvalidTable => k_is); (case lo_InvalidStocks => k_is); (case eo_InvalidStocks => decide +kernel); (case hx_InvalidStocks => k_is); (case ga_InvalidStocks => k_is); (case gt_InvalidStocks => k_is); (case sx_InvalidStocks => k_is); (case bx_InvalidStocks => k_is); (case ty_InvalidStocks => k_is); (case kx_InvalidStocks => k_is); (case nx_InvalidStocks => k_is); (case ix_InvalidStocks => k_is); (case tx_InvalidStocks => k_is); (case lx_InvalidStocks => k_is); (case cx_InvalidStocks => k_is); (case ox_InvalidStocks => k_is); (case lo_TooLarge => k_is); (case eo_TooLarge => decide +kernel); (case hx_TooLarge => k_is); (case ga_TooLarge => k_is); (case gt_TooLarge => k_is); (case sx_TooLarge => k_is); (case bx_TooLarge => k_is); (case ty_TooLarge => k_is); (case kx_TooLarge => k_is); (case nx_TooLarge => k_is); (case ix_TooLarge => k_is); (case tx_TooLarge => k_is); (case lx_TooLarge => k_is); (case cx_TooLarge => k_is); (case ox_TooLarge => k_is); (case lo_Impossible => k_is); (case eo_Impossible => decide +kernel); (case hx_Impossible => k_is); (case ga_Impossible => k_is); (case gt_Impossible => k_is); (case sx_Impossible => k_is); (case bx_Impossible => k_is); (case ty_Impossible => k_is); (case kx_Impossible => k_is); (case nx_Impossible => k_is); (case ix_Impossible => k_is); (case tx_Impossible => k_is); (case lx_Impossible => k_is); (case cx_Impossible => k_is); (case ox_Impossible => k_is); (case lo_Mismatch => k_is); (case eo_Mismatch => decide +kernel); (case hx_Mismatch => k_is); (case ga_Mismatch => k_is); (case gt_Mismatch => k_is); (case sx_Mismatch => k_is); (case bx_Mismatch => k_is); (case ty_Mismatch => k_is); (case kx_Mismatch => k_is); (case nx_Mismatch => k_is); (case ix_Mismatch => k_is); (case tx_Mismatch => k_is); (case lx_Mismatch => k_is); (case cx_Mismatch => k_is); (case ox_Mismatch => k_is); (case lo_Over => k_is); (case eo_Over => decide +kernel); (case hx_Over => k_is); (case ga_Over => k_is); (case gt_Over => k_is); (case sx_Over => k_is); (case bx_Over => k_is); (case ty_Over => k_is); (case kx_Over => k_is); (case nx_Over => k_is); (case ix_Over => k_is); (case tx_Over => k_is); (case lx_Over => k_is); (case cx_Over => k_is); (case ox_Over => k_is); (case lo_TooMany => k_is); (case eo_TooMany => decide +kernel); (case hx_TooMany => k_is); (case ga_TooMany => k_is); (case gt_TooMany => k_is); (case sx_TooMany => k_is); (case bx_TooMany => k_is); (case ty_TooMany => k_is); (case kx_TooMany => k_is); (case nx_TooMany => k_is); (case ix_TooMany => k_is); (case tx_TooMany => k_is); (case lx_TooMany => k_is); (case cx_TooMany => k_is); (case ox_TooMany => k_is); (case sub_InvalidCalendar_InvalidCalendar => k_is); (case sub_InvalidHolidays_InvalidCalendar => k_is); (case sub_InvalidPlan_InvalidCalendar => k_is); (case sub_InvalidNumber_InvalidCalendar => k_is); (case sub_InvalidRow_InvalidCalendar => k_is); (case sub_InvalidPast_InvalidCalendar => k_is); (case sub_InvalidStrategy_InvalidCalendar => k_is); (case sub_InvalidPrices_InvalidCalendar => k_is); (case sub_InvalidWeights_InvalidCalendar => k_is); (case sub_InvalidQueue_InvalidCalendar => k_is); (case sub_InvalidTest_InvalidCalendar => k_is); (case sub_InvalidDays_InvalidCalendar => k_is); (case sub_InvalidTable_InvalidCalendar => k_is); (case sub_InvalidStocks_InvalidCalendar => k_is); (case sub_TooLarge_InvalidCalendar => k_is); (case sub_Impossible_InvalidCalendar => k_is); (case sub_Mismatch_InvalidCalendar => k_is); (case sub_Over_InvalidCalendar => k_is); (case sub_TooMany_InvalidCalendar => k_is); (case sub_InvalidCalendar_InvalidNumber => k_is); (case sub_InvalidHolidays_InvalidNumber => k_is); (case sub_InvalidPlan_InvalidNumber => k_is); (case sub_InvalidNumber_InvalidNumber => k_is); (case sub_InvalidRow_InvalidNumber => k_is); (case sub_InvalidPast_InvalidNumber => k_is); (case sub_InvalidStrategy_InvalidNumber => k_is); (case sub_InvalidPrices_InvalidNumber => k_is); (case sub_InvalidWeights_InvalidNumber => k_is); (case sub_InvalidQueue_InvalidNumber => k_is); (case sub_InvalidTest_InvalidNumber => k_is); (case sub_InvalidDays_InvalidNumber => k_is); (case sub_InvalidTable_InvalidNumber => k_is); (case sub_InvalidStocks_InvalidNumber => k_is); (case sub_TooLarge_InvalidNumber => k_is); (case sub_Impossible_InvalidNumber => k_is); (case sub_Mismatch_InvalidNumber => k_is); (case sub_Over_InvalidNumber => k_is); (case sub_TooMany_InvalidNumber => k_is); (case sub_InvalidCalendar_InvalidHolidays => k_is); (case sub_InvalidHolidays_InvalidHolidays => k_is); (case sub_InvalidPlan_InvalidHolidays => k_is); (case sub_InvalidNumber_InvalidHolidays => k_is); (case sub_InvalidRow_InvalidHolidays => k_is); (case sub_InvalidPast_InvalidHolidays => k_is); (case sub_InvalidStrategy_InvalidHolidays => k_is); (case sub_InvalidPrices_InvalidHolidays => k_is); (case sub_InvalidWeights_InvalidHolidays => k_is); (case sub_InvalidQueue_InvalidHolidays => k_is); (case sub_InvalidTest_InvalidHolidays => k_is); (case sub_InvalidDays_InvalidHolidays => k_is); (case sub_InvalidTable_InvalidHolidays => k_is); (case sub_InvalidStocks_InvalidHolidays => k_is); (case sub_TooLarge_InvalidHolidays => k_is); (case sub_Impossible_InvalidHolidays => k_is); (case sub_Mismatch_InvalidHolidays => k_is); (case sub_Over_InvalidHolidays => k_is); (case sub_TooMany_InvalidHolidays => k_is); (case sub_InvalidCalendar_InvalidRow => k_is); (case sub_InvalidHolidays_InvalidRow => k_is); (case sub_InvalidPlan_InvalidRow => k_is); (case sub_InvalidNumber_InvalidRow => k_is); (case sub_InvalidRow_InvalidRow => k_is); (case sub_InvalidPast_InvalidRow => k_is); (case sub_InvalidStrategy_InvalidRow => k_is); (case sub_InvalidPrices_InvalidRow => k_is); (case sub_InvalidWeights_InvalidRow => k_is); (case sub_InvalidQueue_InvalidRow => k_is); (case sub_InvalidTest_InvalidRow => k_is); (case sub_InvalidDays_InvalidRow => k_is); (case sub_InvalidTable_InvalidRow => k_is); (case sub_InvalidStocks_InvalidRow => k_is); (case sub_TooLarge_InvalidRow => k_is); (case sub_Impossible_InvalidRow => k_is); (case sub_Mismatch_InvalidRow => k_is); (case sub_Over_InvalidRow => k_is); (case sub_TooMany_InvalidRow => k_is); (case sub_InvalidCalendar_InvalidPast => k_is); (case sub_InvalidHolidays_InvalidPast => k_is); (case sub_InvalidPlan_InvalidPast => k_is); (case sub_InvalidNumber_InvalidPast => k_is); (case sub_InvalidRow_InvalidPast => k_is); (case sub_InvalidPast_InvalidPast => k_is); (case sub_InvalidStrategy_InvalidPast => k_is); (case sub_InvalidPrices_InvalidPast => k_is); (case sub_InvalidWeights_InvalidPast => k_is); (case sub_InvalidQueue_InvalidPast => k_is); (case sub_InvalidTest_InvalidPast => k_is); (case sub_InvalidDays_InvalidPast => k_is); (case sub_InvalidTable_InvalidPast => k_is); (case sub_InvalidStocks_InvalidPast => k_is); (case sub_TooLarge_InvalidPast => k_is); (case sub_Impossible_InvalidPast => k_is); (case sub_Mismatch_InvalidPast => k_is); (case sub_Over_InvalidPast => k_is); (case sub_TooMany_InvalidPast => k_is); (case sub_InvalidCalendar_InvalidPlan => k_is); (case sub_InvalidHolidays_InvalidPlan => k_is); (case sub_InvalidPlan_InvalidPlan => k_is); (case sub_InvalidNumber_InvalidPlan => k_is); (case sub_InvalidRow_InvalidPlan => k_is); (case sub_InvalidPast_InvalidPlan => k_is); (case sub_InvalidStrategy_InvalidPlan => k_is); (case sub_InvalidPrices_InvalidPlan => k_is); (case sub_InvalidWeights_InvalidPlan => k_is); (case sub_InvalidQueue_InvalidPlan => k_is); (case sub_InvalidTest_InvalidPlan => k_is); (case sub_InvalidDays_InvalidPlan => k_is); (case sub_InvalidTable_InvalidPlan => k_is); (case sub_InvalidStocks_InvalidPlan => k_is); (case sub_TooLarge_InvalidPlan => k_is); (case sub_Impossible_InvalidPlan => k_is); (case sub_Mismatch_InvalidPlan => k_is); (case sub_Over_InvalidPlan => k_is); (case sub_TooMany_InvalidPlan => k_is); (case sub_InvalidCalendar_InvalidTest => k_is); (case sub_InvalidHolidays_InvalidTest => k_is); (case sub_InvalidPlan_InvalidTest => k_is); (case sub_InvalidNumber_InvalidTest => k_is); (case sub_InvalidRow_InvalidTest => k_is); (case sub_InvalidPast_InvalidTest => k_is); (case sub_InvalidStrategy_InvalidTest => k_is); (case sub_InvalidPrices_InvalidTest => k_is); (case sub_InvalidWeights_InvalidTest => k_is); (case sub_InvalidQueue_InvalidTest => k_is); (case sub_InvalidTest_InvalidTest => k_is); (case sub_InvalidDays_InvalidTest => k_is); (case sub_InvalidTable_InvalidTest => k_is); (case sub_InvalidStocks_InvalidTest => k_is); (case sub_TooLarge_InvalidTest => k_is); (case sub_Impossible_InvalidTest => k_is); (case sub_Mismatch_InvalidTest => k_is); (case sub_Over_InvalidTest => k_is); (case sub_TooMany_InvalidTest => k_is); (case sub_InvalidCalendar_InvalidStrategy => k_is); (case sub_InvalidHolidays_InvalidStrategy => k_is); (case sub_InvalidPlan_InvalidStrategy => k_is); (case sub_InvalidNumber_InvalidStrategy => k_is); (case sub_InvalidRow_InvalidStrategy => k_is); (case sub_InvalidPast_InvalidStrategy => k_is); (case sub_InvalidStrategy_InvalidStrategy => k_is); (case sub_InvalidPrices_InvalidStrategy => k_is); (case sub_InvalidWeights_InvalidStrategy => k_is); (case sub_InvalidQueue_InvalidStrategy => k_is); (case sub_InvalidTest_InvalidStrategy => k_is); (case sub_InvalidDays_InvalidStrategy => k_is); (case sub_InvalidTable_InvalidStrategy => k_is); (case sub_InvalidStocks_InvalidStrategy => k_is); (case sub_TooLarge_InvalidStrategy => k_is); (case sub_Impossible_InvalidStrategy => k_is); (case sub_Mismatch_InvalidStrategy => k_is); (case sub_Over_InvalidStrategy => k_is); (case sub_TooMany_InvalidStrategy => k_is); (case sub_InvalidCalendar_InvalidDays => k_is); (case sub_InvalidHolidays_InvalidDays => k_is); (case sub_InvalidPlan_InvalidDays => k_is); (case sub_InvalidNumber_InvalidDays => k_is); (case sub_InvalidRow_InvalidDays => k_is); (case sub_InvalidPast_InvalidDays => k_is); (case sub_InvalidStrategy_InvalidDays => k_is); (case sub_InvalidPrices_InvalidDays => k_is); (case sub_InvalidWeights_InvalidDays => k_is); (case sub_InvalidQueue_InvalidDays => k_is); (case sub_InvalidTest_InvalidDays => k_is); (case sub_InvalidDays_InvalidDays => k_is); (case sub_InvalidTable_InvalidDays => k_is); (case sub_InvalidStocks_InvalidDays => k_is); (case sub_TooLarge_InvalidDays => k_is); (case sub_Impossible_InvalidDays => k_is); (case sub_Mismatch_InvalidDays => k_is); (case sub_Over_InvalidDays => k_is); (case sub_TooMany_InvalidDays => k_is); (case sub_InvalidCalendar_InvalidPrices => k_is); (case sub_InvalidHolidays_InvalidPrices => k_is); (case sub_InvalidPlan_InvalidPrices => k_is); (case sub_InvalidNumber_InvalidPrices => k_is); (case sub_InvalidRow_InvalidPrices => k_is); (case sub_InvalidPast_InvalidPrices => k_is); (case sub_InvalidStrategy_InvalidPrices => k_is); (case sub_InvalidPrices_InvalidPrices => k_is); (case sub_InvalidWeights_InvalidPrices => k_is); (case sub_InvalidQueue_InvalidPrices => k_is); (case sub_InvalidTest_InvalidPrices => k_is); (case sub_InvalidDays_InvalidPrices => k_is); (case sub_InvalidTable_InvalidPrices => k_is); (case sub_InvalidStocks_InvalidPrices => k_is); (case sub_TooLarge_InvalidPrices => k_is); (case sub_Impossible_InvalidPrices => k_is); (case sub_Mismatch_InvalidPrices => k_is); (case sub_Over_InvalidPrices => k_is); (case sub_TooMany_InvalidPrices => k_is); (case sub_InvalidCalendar_InvalidWeights => k_is); (case sub_InvalidHolidays_InvalidWeights => k_is); (case sub_InvalidPlan_InvalidWeights => k_is); (case sub_InvalidNumber_InvalidWeights => k_is); (case sub_InvalidRow_InvalidWeights => k_is); (case sub_InvalidPast_InvalidWeights => k_is); (case sub_InvalidStrategy_InvalidWeights => k_is); (case sub_InvalidPrices_InvalidWeights => k_is); (case sub_InvalidWeights_InvalidWeights => k_is); (case sub_InvalidQueue_InvalidWeights => k_is); (case sub_InvalidTest_InvalidWeights => k_is); (case sub_InvalidDays_InvalidWeights => k_is); (case sub_InvalidTable_InvalidWeights => k_is); (case sub_InvalidStocks_InvalidWeights => k_is); (case sub_TooLarge_InvalidWeights => k_is); (case sub_Impossible_InvalidWeights => k_is); (case sub_Mismatch_InvalidWeights => k_is); (case sub_Over_InvalidWeights => k_is); (case sub_TooMany_InvalidWeights => k_is); (case sub_InvalidCalendar_InvalidTable => k_is); (case sub_InvalidHolidays_InvalidTable => k_is); (case sub_InvalidPlan_InvalidTable => k_is); (case sub_InvalidNumber_InvalidTable => k_is); (case sub_InvalidRow_InvalidTable => k_is); (case sub_InvalidPast_InvalidTable => k_is); (case sub_InvalidStrategy_InvalidTable => k_is); (case sub_InvalidPrices_InvalidTable => k_is); (case sub_InvalidWeights_InvalidTable => k_is); (case sub_InvalidQueue_InvalidTable => k_is); (case sub_InvalidTest_InvalidTable => k_is); (case sub_InvalidDays_InvalidTable => k_is); (case sub_InvalidTable_InvalidTable => k_is); (case sub_InvalidStocks_InvalidTable => k_is); (case sub_TooLarge_InvalidTable => k_is); (case sub_Impossible_InvalidTable => k_is); (case sub_Mismatch_InvalidTable => k_is); (case sub_Over_InvalidTable => k_is); (case sub_TooMany_InvalidTable => k_is); (case sub_InvalidCalendar_InvalidQueue => k_is); (case sub_InvalidHolidays_InvalidQueue => k_is); (case sub_InvalidPlan_InvalidQueue => k_is); (case sub_InvalidNumber_InvalidQueue => k_is); (case sub_InvalidRow_InvalidQueue => k_is); (case sub_InvalidPast_InvalidQueue => k_is); (case sub_InvalidStrategy_InvalidQueue => k_is); (case sub_InvalidPrices_InvalidQueue => k_is); (case sub_InvalidWeights_InvalidQueue => k_is); (case sub_InvalidQueue_InvalidQueue => k_is); (case sub_InvalidTest_InvalidQueue => k_is); (case sub_InvalidDays_InvalidQueue => k_is); (case sub_InvalidTable_InvalidQueue => k_is); (case sub_InvalidStocks_InvalidQueue => k_is); (case sub_TooLarge_InvalidQueue => k_is); (case sub_Impossible_InvalidQueue => k_is); (case sub_Mismatch_InvalidQueue => k_is); (case sub_Over_InvalidQueue => k_is); (case sub_TooMany_InvalidQueue => k_is); (case sub_InvalidCalendar_InvalidStocks => k_is); (case sub_InvalidHolidays_InvalidStocks => k_is); (case sub_InvalidPlan_InvalidStocks => k_is); (case sub_InvalidNumber_InvalidStocks => k_is); (case sub_InvalidRow_InvalidStocks => k_is); (case sub_InvalidPast_InvalidStocks => k_is); (case sub_InvalidStrategy_InvalidStocks => k_is); (case sub_InvalidPrices_InvalidStocks => k_is); (case sub_InvalidWeights_InvalidStocks => k_is); (case sub_InvalidQueue_InvalidStocks => k_is); (case sub_InvalidTest_InvalidStocks => k_is); (case sub_InvalidDays_InvalidStocks => k_is); (case sub_InvalidTable_InvalidStocks => k_is); (case sub_InvalidStocks_InvalidStocks => k_is); (case sub_TooLarge_InvalidStocks => k_is); (case sub_Impossible_InvalidStocks => k_is); (case sub_Mismatch_InvalidStocks => k_is); (case sub_Over_InvalidStocks => k_is); (case sub_TooMany_InvalidStocks => k_is); (case sub_InvalidCalendar_Impossible => k_is); (case sub_InvalidHolidays_Impossible => k_is); (case sub_InvalidPlan_Impossible => k_is); (case sub_InvalidNumber_Impossible => k_is); (case sub_InvalidRow_Impossible => k_is); (case sub_InvalidPast_Impossible => k_is); (case sub_InvalidStrategy_Impossible => k_is); (case sub_InvalidPrices_Impossible => k_is); (case sub_InvalidWeights_Impossible => k_is); (case sub_InvalidQueue_Impossible => k_is); (case sub_InvalidTest_Impossible => k_is); (case sub_InvalidDays_Impossible => k_is); (case sub_InvalidTable_Impossible => k_is); (case sub_InvalidStocks_Impossible => k_is); (case sub_TooLarge_Impossible => k_is); (case sub_Impossible_Impossible => k_is); (case sub_Mismatch_Impossible => k_is); (case sub_Over_Impossible => k_is); (case sub_TooMany_Impossible => k_is); (case sub_InvalidCalendar_Mismatch => k_is); (case sub_InvalidHolidays_Mismatch => k_is); (case sub_InvalidPlan_Mismatch => k_is); (case sub_InvalidNumber_Mismatch => k_is); (case sub_InvalidRow_Mismatch => k_is); (case sub_InvalidPast_Mismatch => k_is); (case sub_InvalidStrategy_Mismatch => k_is); (case sub_InvalidPrices_Mismatch => k_is); (case sub_InvalidWeights_Mismatch => k_is); (case sub_InvalidQueue_Mismatch => k_is); (case sub_InvalidTest_Mismatch => k_is); (case sub_InvalidDays_Mismatch => k_is); (case sub_InvalidTable_Mismatch => k_is); (case sub_InvalidStocks_Mismatch => k_is); (case sub_TooLarge_Mismatch => k_is); (case sub_Impossible_Mismatch => k_is); (case sub_Mismatch_Mismatch => k_is); (case sub_Over_Mismatch => k_is); (case sub_TooMany_Mismatch => k_is); (case sub_InvalidCalendar_Over => k_is); (case sub_InvalidHolidays_Over => k_is); (case sub_InvalidPlan_Over => k_is); (case sub_InvalidNumber_Over => k_is); (case sub_InvalidRow_Over => k_is); (case sub_InvalidPast_Over => k_is); (case sub_InvalidStrategy_Over => k_is); (case sub_InvalidPrices_Over => k_is); (case sub_InvalidWeights_Over => k_is); (case sub_InvalidQueue_Over => k_is); (case sub_InvalidTest_Over => k_is); (case sub_InvalidDays_Over => k_is); (case sub_InvalidTable_Over => k_is); (case sub_InvalidStocks_Over => k_is); (case sub_TooLarge_Over => k_is); (case sub_Impossible_Over => k_is); (case sub_Mismatch_Over => k_is); (case sub_Over_Over => k_is); (case sub_TooMany_Over => k_is); (case sub_InvalidCalendar_TooMany => k_is); (case sub_InvalidHolidays_TooMany => k_is); (case sub_InvalidPlan_TooMany => k_is); (case sub_InvalidNumber_TooMany => k_is); (case sub_InvalidRow_TooMany => k_is); (case sub_InvalidPast_TooMany => k_is); (case sub_InvalidStrategy_TooMany => k_is); (case sub_InvalidPrices_TooMany => k_is); (case sub_InvalidWeights_TooMany => k_is); (case sub_InvalidQueue_TooMany => k_is); (case sub_InvalidTest_TooMany => k_is); (case sub_InvalidDays_TooMany => k_is); (case sub_InvalidTable_TooMany => k_is); (case sub_InvalidStocks_TooMany => k_is); (case sub_TooLarge_TooMany => k_is); (case sub_Impossible_TooMany => k_is); (case sub_Mismatch_TooMany => k_is); (case sub_Over_TooMany => k_is); (case sub_TooMany_TooMany => k_is); (case sub_InvalidCalendar_TooLarge => k_is); (case sub_InvalidHolidays_TooLarge => k_is); (case sub_InvalidPlan_TooLarge => k_is); (case sub_InvalidNumber_TooLarge => k_is); (case sub_InvalidRow_TooLarge => k_is); (case sub_InvalidPast_TooLarge => k_is); (case sub_InvalidStrategy_TooLarge => k_is); (case sub_InvalidPrices_TooLarge => k_is); (case sub_InvalidWeights_TooLarge => k_is); (case sub_InvalidQueue_TooLarge => k_is); (case sub_InvalidTest_TooLarge => k_is); (case sub_InvalidDays_TooLarge => k_is); (case sub_InvalidTable_TooLarge => k_is); (case sub_InvalidStocks_TooLarge => k_is); (case sub_TooLarge_TooLarge => k_is); (case sub_Impossible_TooLarge => k_is); (case sub_Mismatch_TooLarge => k_is); (case sub_Over_TooLarge => k_is); (case sub_TooMany_TooLarge => k_is); (case bx_BreakError => k_is); (case ty_BreakError => k_is); (case hx_BreakError => k_is); (case sub_InvalidCalendar_BreakError => k_is); (case sub_InvalidHolidays_BreakError => k_is); (case sub_InvalidPlan_BreakError => k_is); (case sub_InvalidNumber_BreakError => k_is); (case sub_InvalidRow_BreakError => k_is); (case sub_InvalidPast_BreakError => k_is); (case sub_InvalidStrategy_BreakError => k_is); (case sub_InvalidPrices_BreakError => k_is); (case sub_InvalidWeights_BreakError => k_is); (case sub_InvalidQueue_BreakError => k_is); (case sub_InvalidTest_BreakError => k_is); (case sub_InvalidDays_BreakError => k_is); (case sub_InvalidTable_BreakError => k_is); (case sub_InvalidStocks_BreakError => k_is); (case sub_TooLarge_BreakError => k_is); (case sub_Impossible_BreakError => k_is); (case sub_Mismatch_BreakError => k_is); (case sub_Over_BreakError => k_is); (case sub_TooMany_BreakError => k_is); (case a_law_mixed => k_is); (case l_law_mixed => k_is); (case c_law_mixed => k_is); (case k_law_mixed => k_is); (case a_law_source => k_is); (case l_law_source => k_is); (case c_law_source => k_is); (case k_law_source => k_is); (case a_law_take => k_is); (case l_law_take => k_is); (case c_law_take => k_is); (case k_law_take => k_is); (case a_law_places => k_is); (case l_law_places => k_is); (case c_law_places => k_is); (case k_law_places => k_is); (case a_law_stores => k_is); (case l_law_stores => k_is); (case c_law_stores => k_is); (case k_law_stores => k_is); (case a_law_first_errors => k_is); (case l_law_first_errors => k_is); (case c_law_first_errors => k_is); (case k_law_first_errors => k_is); (case a_law_middle_errors => k_is); (case l_law_middle_errors => k_is); (case c_law_middle_errors => k_is); (case k_law_middle_errors => k_is); (case a_law_last_errors => k_is); (case l_law_last_errors => k_is); (case c_law_last_errors => k_is); (case k_law_last_errors => k_is); (case a_law => k_is); (case l_law => k_is); (case c_law => k_is); (case k_law => k_is); (case z_ValueError => k_is); (case z_all => k_is); (case z_enumerate => k_is); (case z_isinstance => k_is); (case z_range => k_is); (case z_repr => k_is); (case sp_class => k_is); (case tk_class => k_is); (case ca_InvalidCalendar => k_is); (case mo_InvalidCalendar => k_is); (case kv_InvalidCalendar => k_is); (case ca_InvalidHolidays => k_is); (case mo_InvalidHolidays => k_is); (case kv_InvalidHolidays => k_is); (case ca_InvalidPlan => k_is); (case mo_InvalidPlan => k_is); (case kv_InvalidPlan => k_is); (case ca_InvalidNumber => k_is); (case mo_InvalidNumber => k_is); (case kv_InvalidNumber => k_is); (case ca_InvalidRow => k_is); (case mo_InvalidRow => k_is); (case kv_InvalidRow => k_is); (case ca_InvalidPast => k_is); (case mo_InvalidPast => k_is); (case kv_InvalidPast => k_is); (case ca_InvalidStrategy => k_is); (case mo_InvalidStrategy => k_is); (case kv_InvalidStrategy => k_is); (case ca_InvalidPrices => k_is); (case mo_InvalidPrices => k_is); (case kv_InvalidPrices => k_is); (case ca_InvalidWeights => k_is); (case mo_InvalidWeights => k_is); (case kv_InvalidWeights => k_is); (case ca_InvalidQueue => k_is); (case mo_InvalidQueue => k_is); (case kv_InvalidQueue => k_is); (case ca_InvalidTest => k_is); (case mo_InvalidTest => k_is); (case kv_InvalidTest => k_is); (case ca_InvalidDays => k_is); (case mo_InvalidDays => k_is); (case kv_InvalidDays => k_is); (case ca_InvalidTable => k_is); (case mo_InvalidTable => k_is); (case kv_InvalidTable => k_is); (case ca_InvalidStocks => k_is); (case mo_InvalidStocks => k_is); (case kv_InvalidStocks => k_is); (case ca_TooLarge => k_is); (case mo_TooLarge => k_is); (case kv_TooLarge => k_is); (case ca_Impossible => k_is); (case mo_Impossible => k_is); (case kv_Impossible => k_is); (case ca_Mismatch => k_is); (case mo_Mismatch => k_is); (case kv_Mismatch => k_is); (case ca_Over => k_is); (case mo_Over => k_is); (case kv_Over => k_is); (case ca_TooMany => k_is); (case mo_TooMany => k_is); (case kv_TooMany => k_is)

