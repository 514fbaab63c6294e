import PyProof.Rows.All
import HandS.Codes
import HandS.Conv
import HandS.Deep
import HandS.DictComp
import HandS.EndTab
import HandS.ExcField
import HandS.ExcInit
import HandS.ExcIs
import HandS.ExcOwn
import HandS.ExcValue
import HandS.ForExc
import HandS.ForMost
import HandS.IsInst
import HandS.Iter
import HandS.Lambda
import HandS.RaiseMore
import HandS.Rev
import HandS.SetBool
import HandS.SetFor
import HandS.SortInts
import HandS.SortKw
import HandS.SortRule
import HandS.Strs
import HandS.Style
import HandS.TupAny
import HandS.TupLe
import HandS.TupLen
import HandS.TupMul
import HandS.TupSets
import HandS.Wide
import KE.DataCmp
import KE.DataMinMax
import KE.GoesEnum
import KE.GoesEnumKw
import KE.GoesMore
import KE.GoesZip
import KE.KDictCopyH
import KE.KDictDisplayH
import KE.KDictKeyed
import KE.KDictList
import KE.KDictPairs
import KE.KDictSum
import KE.KDictWalk
import KE.KDictZip
import KE.KNestM
import KE.KTryMore
import KE.KTupSum
import KE.KeyNested
import KE.SortCalls
import KE.SortData
import OpenK.AllK
import OpenK.KMore
import PyProof.DictRoadsH
import PyProof.Rows.SetFrom
import PyProof.SetRoads
import PySem.Challenge.RW_breakrows_k25_whole_plans_thinned_and_me
import Wide.All
import Wide.FinOn
set_option Elab.async false
set_option linter.all false
set_option maxRecDepth 100000
set_option maxHeartbeats 1000000
/-! A layer of trees over the hand layer: values are trees D, what may be changed lies in a small store M of our own; each construct has a function that computes its result, and a theorem that the hand layer's reading follows from it. -/
namespace Bk
open PySem PySem.Spec PyProof.Rows L2

/-! ### data, the store, results -/
/-- the words of a lambda: its maker's name, parameters, body, names -/
structure LSy where
  ix : Nat
  qual : Str
  params : Arguments
  body : Expr
  scope : Scope
inductive D where
  | non | bl (b : Bool) | int (i : Int) | str (x : Str)
  | tup (xs : List D) | lst (xs : List D) | ref (k : Nat) | dct (ks vs : List D) | ptu (xs : List D)
  | lam (l : LSy) (cl : List (Str × Addr)) | exn (nm f : Str) (d : D) | exv (a dx : Addr) (f : Str) (d : D) | dcx (k : Key) (d : D)
inductive MO where
  | dead | lst (xs : List D) | obj (nm : Str) (fs : List (Str × D)) | dct (ks vs : List D) | dki (kvs : List (Int × D)) | tab (nm : Str)
inductive R (α : Type) where
  | ok (a : α) (M : List MO) | exc (c : Nat) (d : D) (M : List MO) | bad
def R.bind {α β : Type} (r : R α) (f : α → List MO → R β) : R β := match r with
  | .ok a M => f a M
  | .exc c d M => .exc c d M
  | .bad => .bad
abbrev Env := List (Option D)
abbrev GE := Env → List MO → R D
abbrev GT := Env → List MO → R Bool
abbrev GA := Env → List MO → R (List D)
inductive RS where
  | nx (Γ : Env) (M : List MO) | rt (d : D) (M : List MO) | bk (Γ : Env) (M : List MO) | ct (Γ : Env) (M : List MO)
  | exc (c : Nat) (d : D) (Γ : Env) (M : List MO) | bad
abbrev GS := Env → List MO → RS

/-- a list, tracked or written, and no more than that -/
def ExL (K : PySem.W.Frag) (H : Hp) (a : Addr) (xs : List V) : Prop :=
  Rd H a (.lst xs) ∨ ∃ (its : Array Value) (m : Nat), K.lookup a = some { cls := .type "list", data := .seq its m } ∧ its.size ≤ sizeLine ∧ Vals xs its.toList
theorem ExL.sq {K : PySem.W.Frag} {H : Hp} {a : Addr} {xs : List V} : ExL K H a xs → SqL K H a xs
  | .inl h => .inl h
  | .inr ⟨its, m, h1, h2, h3⟩ => .inr ⟨_, its, m, h1, rfl, rfl, rfl, h2, h3⟩
theorem ExL.at_ {X : Cx} {pins : List (Addr × Obj)} {σ : L2.St} {H : Hp} {s : Shared} {a : Addr} {xs : List V} (I : Inv X pins σ H s) (h : ExL X.K H a xs) : ∃ (its : List Value) (m : Nat), Vals xs its ∧ s.heap.get? a = some { cls := .type "list", data := .seq its.toArray m } ∧ xs.length ≤ sizeLine := by
  rcases h with h | ⟨its, m, h1, h2, h3⟩
  · obtain ⟨z, its, m, r, e⟩ := h.ok I.hok
    exact ⟨its, m, r, e, z⟩
  · refine ⟨its.toList, m, h3, by simpa using I.kIn a _ h1, ?_⟩
    have e := h3.length
    rw [Array.length_toList] at e
    exact Nat.le_trans (Nat.le_of_eq e) h2
/-! dicts: their keys nested tuples of whole numbers and None -/
section
variable (K : PySem.W.Frag) (Z : Hp)
mutual
inductive KeyV : NestedKey → V → Prop
  | non : KeyV .none .non
  | int (i : Int) : KeyV (.num i) (.int i)
  | tup {ks : List NestedKey} {a : Addr} {xs : List V} : SqT K Z a xs → KeyVs ks xs → KeyV (.tup ks) (.ref a)
inductive KeyVs : List NestedKey → List V → Prop
  | nil : KeyVs [] []
  | cons {k : NestedKey} {v : V} {ks : List NestedKey} {vs : List V} : KeyV k v → KeyVs ks vs → KeyVs (k :: ks) (v :: vs)
end
/-- the entries of a dict: keys, where they stand, values -/
inductive Ents : List NestedKey → List V → List V → List DictEntry → Prop
  | nil : Ents [] [] [] []
  | cons {k : NestedKey} {y : V} {ku : Value} {v : V} {u : Value} {hs : Int} {ks : List NestedKey} {kv vs : List V} {es : List DictEntry} : KeyV K Z k y → RelV y ku → k.depth ≤ 8 → (∀ w : World, hs = k.hash w) → RelV v u → Ents ks kv vs es → Ents (k :: ks) (y :: kv) (v :: vs) (⟨hs, ku, u⟩ :: es)
end
/-- a tuple that is known to have no dict of its own -/
def PlT (Z : Hp) (a : Addr) (xs : List V) : Prop := ∃ o : Obj, Z a = some (.frz o (.tup xs)) ∧ o.dict = none
theorem PlT.sq {K : PySem.W.Frag} {Z : Hp} {a : Addr} {xs : List V} : PlT Z a xs → SqT K Z a xs
  | ⟨o, h, _⟩ => .inl (.inr ⟨o, h⟩)
def dnO (a : Addr) (es : Array DictEntry) (ep : Nat) : HO := .ext fun h => ∃ o, h.get? a = some o ∧ o.ExactDict ∧ o.data = .dict es ep
/-- all keys are objects -/
def AllRef (ks : List V) : Prop := ∀ x ∈ ks, ∃ b, x = V.ref b
/-- a dict that stands at a and may change: its keys lean on what is frozen -/
def DR (K : PySem.W.Frag) (H Z : Hp) (a : Addr) (nks : List NestedKey) (ks vs : List V) : Prop := ∃ (es : Array DictEntry) (ep : Nat), H a = some (dnO a es ep) ∧ (a == sysModules) = false ∧ ks.length ≤ sizeLine ∧ nks.Nodup ∧ Ents K Z nks ks vs es.toList
/-- a dict that stands at a -/
def ExD (K : PySem.W.Frag) (Z : Hp) (a : Addr) (nks : List NestedKey) (ks vs : List V) : Prop := ∃ (es : Array DictEntry) (ep : Nat), Z a = some (dnO a es ep) ∧ (a == sysModules) = false ∧ ks.length ≤ sizeLine ∧ nks.Nodup ∧ Ents K Z nks ks vs es.toList
/-- the object at a is a function made of the lambda l, its captured names in cl, its code object at c -/
def LamO (a : Addr) (l : LSy) (cl : List (Str × Addr)) (c : Addr) : HO := .ext fun h => ∃ pm ct : Value, h.get? a = some (PySem.W.kla_obj "<lambda>" (l.qual ++ "<lambda>") l.params l.body l.scope (cloFrom cl l.scope.names []) pm c ct)
section
variable (K : PySem.W.Frag) (Z : Hp) (ι : Nat → Addr) (n : Nat)
mutual
inductive Rp : D → V → Prop
  | non : Rp .non .non
  | bl (b : Bool) : Rp (.bl b) (.bl b)
  | int (i : Int) : Rp (.int i) (.int i)
  | str (x : Str) : Rp (.str x) (.str x)
  | tup {ds : List D} {a : Addr} {xs : List V} : SqT K Z a xs → Rps ds xs → Rp (.tup ds) (.ref a)
  | lst {ds : List D} {a : Addr} {xs : List V} : ExL K Z a xs → Rps ds xs → Rp (.lst ds) (.ref a)
  | ref {k : Nat} : k < n → Rp (.ref k) (.ref (ι k))
  | dct {ks vs : List D} {a : Addr} {nks : List NestedKey} {kx xs : List V} : ExD K Z a nks kx xs → Rps ks kx → Rps vs xs → Rp (.dct ks vs) (.ref a)
  | ptu {ds : List D} {a : Addr} {xs : List V} : PlT Z a xs → Rps ds xs → Rp (.ptu ds) (.ref a)
  | lam {l : LSy} {cl : List (Str × Addr)} {a c : Addr} : Z a = some (LamO a l cl c) → Z c = some (LamX.CodeO c (l.qual ++ "<lambda>")) → Rp (.lam l cl) (.ref a)
  | exn {nm f : Str} {d : D} {a dx B : Addr} {v : V} : PySem.W.nsIn K mainGlobals nm = some (some (.ref B)) → Z a = some (exo a B (some dx)) → Z dx = some (.xd [(f, v)]) → Rp d v → Rp (.exn nm f d) (.ref a)
  | exv {a dx : Addr} {f : Str} {d : D} {v : V} : Z dx = some (.xd [(f, v)]) → Rp d v → Rp (.exv a dx f d) (.ref a)
  | dcx {k : Key} {d : D} {a : Addr} {v : V} : Z a = some (.dK [(k, v)]) → Rp d v → Rp (.dcx k d) (.ref a)
inductive Rps : List D → List V → Prop
  | nil : Rps [] []
  | cons {d : D} {v : V} {ds : List D} {vs : List V} : Rp d v → Rps ds vs → Rps (d :: ds) (v :: vs)
end
end

abbrev Sub (Z Z' : Hp) : Prop := ∀ a o, Z a = some o → Z' a = some o
theorem subL {K : PySem.W.Frag} {Z Z' : Hp} (h : Sub Z Z') {a : Addr} {xs : List V} : ExL K Z a xs → ExL K Z' a xs
  | .inl (.inl e) => .inl (.inl (h _ _ e))
  | .inl (.inr ⟨o, e⟩) => .inl (.inr ⟨o, h _ _ e⟩)
  | .inr q => .inr q
theorem subT {K : PySem.W.Frag} {Z Z' : Hp} (h : Sub Z Z') {a : Addr} {xs : List V} : SqT K Z a xs → SqT K Z' a xs
  | .inl (.inl e) => .inl (.inl (h _ _ e))
  | .inl (.inr ⟨o, e⟩) => .inl (.inr ⟨o, h _ _ e⟩)
  | .inr q => .inr q

section
variable {K : PySem.W.Frag} {Z Z' : Hp}
mutual
theorem KeyV.sub (hz : Sub Z Z') : ∀ (k : NestedKey) (v : V), KeyV K Z k v → KeyV K Z' k v
  | .none, _, h => by cases h; exact .non
  | .num i, _, h => by cases h; exact .int i
  | .text x, _, h => by cases h
  | .tup ks, _, h => by
    cases h with
    | tup s r => exact .tup (subT hz s) (KeyVs.sub hz ks _ r)
theorem KeyVs.sub (hz : Sub Z Z') : ∀ (ks : List NestedKey) (vs : List V), KeyVs K Z ks vs → KeyVs K Z' ks vs
  | [], _, h => by cases h; exact .nil
  | k :: ks, _, h => by
    cases h with
    | cons r s => exact .cons (KeyV.sub hz k _ r) (KeyVs.sub hz ks _ s)
end
theorem Ents.sub (hz : Sub Z Z') : ∀ {ks : List NestedKey} {kv vs : List V} {es : List DictEntry}, Ents K Z ks kv vs es → Ents K Z' ks kv vs es
  | _, _, _, _, .nil => .nil
  | _, _, _, _, .cons a y b c d e => .cons (KeyV.sub hz _ _ a) y b c d (Ents.sub hz e)
theorem subD (hz : Sub Z Z') {a : Addr} {nks : List NestedKey} {ks vs : List V} : ExD K Z a nks ks vs → ExD K Z' a nks ks vs
  | ⟨es, ep, h1, h2, h3, h4, h5⟩ => ⟨es, ep, hz _ _ h1, h2, h3, h4, h5.sub hz⟩
end

section
variable {K : PySem.W.Frag} {Z Z' : Hp} {ι ι' : Nat → Addr} {n n' : Nat}
mutual
theorem Rp.mono (hz : Sub Z Z') (hi : ∀ k, k < n → ι' k = ι k) (hn : n ≤ n') : ∀ (d : D) (v : V), Rp K Z ι n d v → Rp K Z' ι' n' d v
  | .non, _, h => by cases h; exact .non
  | .bl b, _, h => by cases h; exact .bl b
  | .int i, _, h => by cases h; exact .int i
  | .str x, _, h => by cases h; exact .str x
  | .tup ds, _, h => by
    cases h with
    | tup s r => exact .tup (subT hz s) (Rps.mono hz hi hn ds _ r)
  | .lst ds, _, h => by
    cases h with
    | lst s r => exact .lst (subL hz s) (Rps.mono hz hi hn ds _ r)
  | .ref k, _, h => by
    cases h with
    | ref q => rw [← hi k q]; exact .ref (Nat.lt_of_lt_of_le q hn)
  | .dct ks vs, _, h => by
    cases h with
    | dct s r t => exact .dct (subD hz s) (Rps.mono hz hi hn ks _ r) (Rps.mono hz hi hn vs _ t)
  | .ptu ds, _, h => by
    cases h with
    | ptu s r => exact .ptu (let ⟨o, a, b⟩ := s; ⟨o, hz _ _ a, b⟩) (Rps.mono hz hi hn ds _ r)
  | .lam _ _, _, h => by
    cases h with
    | lam s r => exact .lam (hz _ _ s) (hz _ _ r)
  | .exn _ _ d, _, h => by
    cases h with
    | exn s r q w => exact .exn s (hz _ _ r) (hz _ _ q) (Rp.mono hz hi hn d _ w)
  | .exv _ _ _ d, _, h => by
    cases h with
    | exv q w => exact .exv (hz _ _ q) (Rp.mono hz hi hn d _ w)
  | .dcx _ d, _, h => by
    cases h with
    | dcx q w => exact .dcx (hz _ _ q) (Rp.mono hz hi hn d _ w)
theorem Rps.mono (hz : Sub Z Z') (hi : ∀ k, k < n → ι' k = ι k) (hn : n ≤ n') : ∀ (ds : List D) (vs : List V), Rps K Z ι n ds vs → Rps K Z' ι' n' ds vs
  | [], _, h => by cases h; exact .nil
  | d :: ds, _, h => by
    cases h with
    | cons r s => exact .cons (Rp.mono hz hi hn d _ r) (Rps.mono hz hi hn ds _ s)
end
theorem Rps.length : ∀ {ds : List D} {vs : List V}, Rps K Z ι n ds vs → ds.length = vs.length
  | [], _, h => by cases h; rfl
  | _ :: _, _, h => by
    cases h with
    | cons _ s => rw [List.length_cons, List.length_cons, Rps.length s]
theorem Rps.get : ∀ {ds : List D} {vs : List V} {i : Nat} {d : D}, Rps K Z ι n ds vs → ds[i]? = some d → ∃ v, vs[i]? = some v ∧ Rp K Z ι n d v
  | [], _, _, _, _, e => by simp at e
  | _ :: _, _, 0, _, h, e => by
    cases h with
    | cons r _ =>
      simp at e
      subst e
      exact ⟨_, rfl, r⟩
  | _ :: _, _, i + 1, _, h, e => by
    cases h with
    | cons _ s =>
      obtain ⟨v, h1, h2⟩ := Rps.get s (i := i) (by simpa using e)
      exact ⟨v, by simpa using h1, h2⟩
theorem Rps.append : ∀ {ds es : List D} {vs us : List V}, Rps K Z ι n ds vs → Rps K Z ι n es us → Rps K Z ι n (ds ++ es) (vs ++ us)
  | [], _, _, _, h, q => by cases h; exact q
  | _ :: _, _, _, _, h, q => by
    cases h with
    | cons r s => exact .cons r (Rps.append s q)
theorem Rps.set : ∀ {ds : List D} {vs : List V} {d : D} {v : V} (i : Nat), Rps K Z ι n ds vs → Rp K Z ι n d v → Rps K Z ι n (ds.set i d) (vs.set i v)
  | [], _, _, _, _, h, _ => by cases h; exact .nil
  | _ :: _, _, _, _, 0, h, q => by
    cases h with
    | cons _ s => exact .cons q s
  | _ :: _, _, _, _, i + 1, h, q => by
    cases h with
    | cons r s => exact .cons r (Rps.set i s q)
theorem Rps.take : ∀ {ds : List D} {vs : List V} (i : Nat), Rps K Z ι n ds vs → Rps K Z ι n (ds.take i) (vs.take i)
  | _, _, 0, _ => by rw [List.take_zero, List.take_zero]; exact .nil
  | [], _, _ + 1, h => by cases h; exact .nil
  | _ :: _, _, i + 1, h => by
    cases h with
    | cons r s => exact .cons r (Rps.take i s)
theorem Rps.drop : ∀ {ds : List D} {vs : List V} (i : Nat), Rps K Z ι n ds vs → Rps K Z ι n (ds.drop i) (vs.drop i)
  | _, _, 0, h => h
  | [], _, _ + 1, h => by cases h; exact .nil
  | _ :: _, _, i + 1, h => by
    cases h with
    | cons r s => exact Rps.drop i s
theorem Rps.rep {ds : List D} {vs : List V} (h : Rps K Z ι n ds vs) : ∀ k : Nat, Rps K Z ι n (List.replicate k ds).flatten (List.replicate k vs).flatten
  | 0 => .nil
  | k + 1 => by
    rw [List.replicate_succ, List.replicate_succ, List.flatten_cons, List.flatten_cons]
    exact h.append (Rps.rep h k)
theorem Rps.rev : ∀ {ds : List D} {vs : List V}, Rps K Z ι n ds vs → Rps K Z ι n ds.reverse vs.reverse
  | [], _, h => by cases h; exact .nil
  | _ :: _, _, h => by
    cases h with
    | cons r s =>
      rw [List.reverse_cons, List.reverse_cons]
      exact (Rps.rev s).append (.cons r .nil)
theorem Rps.ints : ∀ {is : List Int} {vs : List V}, Rps K Z ι n (is.map D.int) vs → vs = is.map V.int
  | [], _, h => by cases h; rfl
  | _ :: _, _, h => by
    cases h with
    | cons r s =>
      cases r
      rw [List.map_cons, Rps.ints s]
theorem Rps.of_ints : ∀ (is : List Int), Rps K Z ι n (is.map D.int) (is.map V.int)
  | [] => .nil
  | i :: is => .cons (.int i) (Rps.of_ints is)
end

/-! refs below a bound -/
mutual
def below (m : Nat) : D → Bool
  | .tup ds => belows m ds
  | .lst ds => belows m ds
  | .ref k => decide (k < m)
  | .dct ks vs => belows m ks && belows m vs
  | .ptu ds => belows m ds
  | .exn _ _ d => below m d
  | .exv _ _ _ d => below m d
  | .dcx _ d => below m d
  | _ => true
def belows (m : Nat) : List D → Bool
  | [] => true
  | d :: ds => below m d && belows m ds
end
section
variable {K : PySem.W.Frag} {Z : Hp} {ι : Nat → Addr} {n m : Nat}
mutual
theorem Rp.shrink : ∀ (d : D) (v : V), Rp K Z ι n d v → below m d = true → Rp K Z ι m d v
  | .non, _, h, _ => by cases h; exact .non
  | .bl b, _, h, _ => by cases h; exact .bl b
  | .int i, _, h, _ => by cases h; exact .int i
  | .str x, _, h, _ => by cases h; exact .str x
  | .tup ds, _, h, b => by
    cases h with
    | tup s r => exact .tup s (Rps.shrink ds _ r (by simpa [below] using b))
  | .lst ds, _, h, b => by
    cases h with
    | lst s r => exact .lst s (Rps.shrink ds _ r (by simpa [below] using b))
  | .ref k, _, h, b => by
    cases h with
    | ref q => exact .ref (by simpa [below] using b)
  | .dct ks vs, _, h, b => by
    cases h with
    | dct s r t =>
      have b' : (belows m ks && belows m vs) = true := b
      rw [Bool.and_eq_true] at b'
      exact .dct s (Rps.shrink ks _ r b'.1) (Rps.shrink vs _ t b'.2)
  | .ptu ds, _, h, b => by
    cases h with
    | ptu s r => exact .ptu s (Rps.shrink ds _ r (by simpa [below] using b))
  | .lam _ _, _, h, b => by
    cases h with
    | lam s r => exact .lam s r
  | .exn _ _ d, _, h, b => by
    cases h with
    | exn s r q w => exact .exn s r q (Rp.shrink d _ w (by simpa [below] using b))
  | .exv _ _ _ d, _, h, b => by
    cases h with
    | exv q w => exact .exv q (Rp.shrink d _ w (by simpa [below] using b))
  | .dcx _ d, _, h, b => by
    cases h with
    | dcx q w => exact .dcx q (Rp.shrink d _ w (by simpa [below] using b))
theorem Rps.shrink : ∀ (ds : List D) (vs : List V), Rps K Z ι n ds vs → belows m ds = true → Rps K Z ι m ds vs
  | [], _, h, _ => by cases h; exact .nil
  | d :: ds, _, h, b => by
    cases h with
    | cons r s =>
      simp only [belows, Bool.and_eq_true] at b
      exact .cons (Rp.shrink d _ r b.1) (Rps.shrink ds _ s b.2)
end
end

/-! ### the heap holds the store -/
def belowO (m : Nat) : MO → Bool
  | .dead => true
  | .lst ds => belows m ds
  | .obj _ fs => belows m (fs.map (·.2))
  | .dct ks vs => belows m ks && belows m vs
  | .dki kvs => belows m (kvs.map (·.2))
  | .tab _ => true
/-- at a stands the table of the code objects that the def nm makes -/
def TabZ (K : PySem.W.Frag) (H Z : Hp) (nm : Str) (a : Addr) : Prop := (∃ c, PySem.W.tabIn K nm = some (c, a)) ∧ ∃ ps : Array Value, H a = some (.tbl ps) ∧ TriplesOk ps.toList ∧ ∀ (pos : Pos) (cv : Value), codeAmong pos ps.toList = some cv → ∃ c, cv = .ref c ∧ Z c = some (LamX.CodeO c (nm ++ ".<locals>." ++ "<lambda>"))
def OR (K : PySem.W.Frag) (H Z : Hp) (ι : Nat → Addr) (n : Nat) : MO → Addr → Prop
  | .dead, _ => True
  | .lst ds, a => ∃ xs, H a = some (.lst xs) ∧ Rps K Z ι n ds xs
  | .obj nm fs, a => ∃ C dx gs, PySem.W.nsIn K mainGlobals nm = some (some (.ref C)) ∧ H a = some (.ins C dx gs) ∧ gs.map (·.1) = fs.map (·.1) ∧ Rps K Z ι n (fs.map (·.2)) (gs.map (·.2))
  | .dct ks vs, a => ∃ nks kx xs, DR K H Z a nks kx xs ∧ Rps K Z ι n ks kx ∧ Rps K Z ι n vs xs
  | .dki kvs, a => ∃ gs : List (L2.Key × V), H a = some (.dK gs) ∧ gs.map (·.1) = kvs.map (fun p => Sum.inl p.1) ∧ Rps K Z ι n (kvs.map (·.2)) (gs.map (·.2))
  | .tab nm, a => TabZ K H Z nm a
section
variable {K : PySem.W.Frag} {H Z : Hp} {ι : Nat → Addr} {n : Nat}
theorem OR.mono {Z' : Hp} {ι' : Nat → Addr} {n' : Nat} {H' : Hp} {u : MO} {a : Addr} (hz : Sub Z Z') (hi : ∀ k, k < n → ι' k = ι k) (hn : n ≤ n') (hh : ∀ o, H a = some o → H' a = some o) (h : OR K H Z ι n u a) : OR K H' Z' ι' n' u a := by
  cases u with
  | dead => trivial
  | lst ds =>
    obtain ⟨xs, e1, r⟩ := h
    exact ⟨xs, hh _ e1, Rps.mono hz hi hn _ _ r⟩
  | obj nm fs =>
    obtain ⟨C, dx, gs, e0, e1, e2, r⟩ := h
    exact ⟨C, dx, gs, e0, hh _ e1, e2, Rps.mono hz hi hn _ _ r⟩
  | dct ks vs =>
    obtain ⟨nks, kx, xs, ⟨es, ep, h1, h2, h3, h4, h5⟩, r, q⟩ := h
    exact ⟨nks, kx, xs, ⟨es, ep, hh _ h1, h2, h3, h4, h5.sub hz⟩, Rps.mono hz hi hn _ _ r, Rps.mono hz hi hn _ _ q⟩
  | dki kvs =>
    obtain ⟨gs, e1, e2, r⟩ := h
    exact ⟨gs, hh _ e1, e2, Rps.mono hz hi hn _ _ r⟩
  | tab nm =>
    obtain ⟨c, ps, e1, e2, e3⟩ := h
    exact ⟨c, ps, hh _ e1, e2, fun pos cv q => let ⟨b, q1, q2⟩ := e3 pos cv q; ⟨b, q1, hz _ _ q2⟩⟩
theorem OR.shrink {u : MO} {a : Addr} {m : Nat} (h : OR K H Z ι n u a) (b : belowO m u = true) : OR K H Z ι m u a := by
  cases u with
  | dead => trivial
  | lst ds =>
    obtain ⟨xs, e1, r⟩ := h
    exact ⟨xs, e1, Rps.shrink _ _ r b⟩
  | obj nm fs =>
    obtain ⟨C, dx, gs, e0, e1, e2, r⟩ := h
    exact ⟨C, dx, gs, e0, e1, e2, Rps.shrink _ _ r b⟩
  | dct ks vs =>
    obtain ⟨nks, kx, xs, d, r, q⟩ := h
    have b' : (belows m ks && belows m vs) = true := b
    rw [Bool.and_eq_true] at b'
    exact ⟨nks, kx, xs, d, Rps.shrink _ _ r b'.1, Rps.shrink _ _ q b'.2⟩
  | dki kvs =>
    obtain ⟨gs, e1, e2, r⟩ := h
    exact ⟨gs, e1, e2, Rps.shrink _ _ r b⟩
  | tab nm => exact h
/-- what leans on nothing of ours -/
theorem OR.low {ι' : Nat → Addr} {n' : Nat} {u : MO} {a : Addr} (h : OR K H Z ι n u a) (b : belowO 0 u = true) : OR K H Z ι' n' u a :=
  OR.mono (fun _ _ z => z) (fun _ z => absurd z (Nat.not_lt_zero _)) (Nat.zero_le _) (fun _ z => z) (h.shrink b)
end
structure HR (K : PySem.W.Frag) (H Z : Hp) (ι : Nat → Addr) (M : List MO) : Prop where
  sub : Sub Z H
  ali : ∀ k, k < M.length → ∃ o, H (ι k) = some o
  sep : ∀ (k : Nat) (o : MO), M[k]? = some o → o ≠ .dead → Z (ι k) = none
  inj : ∀ (j k : Nat) (o u : MO), M[j]? = some o → M[k]? = some u → o ≠ .dead → u ≠ .dead → ι j = ι k → j = k
  obj : ∀ (k : Nat) (o : MO), M[k]? = some o → OR K H Z ι M.length o (ι k)
  ded : ∀ (k : Nat), M[k]? = some .dead → ∃ o, Z (ι k) = some o
theorem HR.apart {K : PySem.W.Frag} {H Z : Hp} {ι : Nat → Addr} {M : List MO} (h : HR K H Z ι M) {j k : Nat} {o : MO} (hj : j < M.length) (hk : M[k]? = some o) (d : o ≠ .dead) (ne : j ≠ k) : ι j ≠ ι k := fun e => by
  have ej : M[j]? = some M[j] := List.getElem?_eq_getElem hj
  by_cases dj : M[j] = .dead
  · rw [dj] at ej
    obtain ⟨u, hu⟩ := h.ded j ej
    rw [e, h.sep k o hk d] at hu
    cases hu
  · exact ne (h.inj j k _ o ej hk dj d e)
structure Ext (H Z : Hp) (ι : Nat → Addr) (n : Nat) (H' Z' : Hp) (ι' : Nat → Addr) (n' : Nat) : Prop where
  zz : Sub Z Z'
  ii : ∀ k, k < n → ι' k = ι k
  fr : ∀ a o, H a = some o → (∀ k, k < n → a ≠ ι k) → H' a = some o
  nw : ∀ k, n ≤ k → k < n' → H (ι' k) = none
  ln : n ≤ n'
  zn : ∀ a o, Z' a = some o → Z a = some o ∨ H a = none ∨ ∃ k, k < n ∧ a = ι k
theorem Ext.refl {H Z : Hp} {ι : Nat → Addr} {n : Nat} : Ext H Z ι n H Z ι n :=
  ⟨fun _ _ h => h, fun _ _ => rfl, fun _ _ h _ => h, fun k h1 h2 => absurd h2 (Nat.not_lt.mpr h1), Nat.le_refl _, fun _ _ h => .inl h⟩
theorem Ext.trans {H Z H1 Z1 H2 Z2 : Hp} {ι ι1 ι2 : Nat → Addr} {n n1 n2 : Nat} (a : Ext H Z ι n H1 Z1 ι1 n1) (b : Ext H1 Z1 ι1 n1 H2 Z2 ι2 n2) (al : ∀ k, k < n1 → ∃ o, H1 (ι1 k) = some o) : Ext H Z ι n H2 Z2 ι2 n2 where
  zz := fun x o h => b.zz x o (a.zz x o h)
  ii := fun k h => (b.ii k (Nat.lt_of_lt_of_le h a.ln)).trans (a.ii k h)
  fr := fun x o h hk => by
    refine b.fr x o (a.fr x o h hk) fun k hk1 e => ?_
    by_cases hn : k < n
    · exact hk k hn (e.trans (a.ii k hn))
    · have q := a.nw k (Nat.le_of_not_lt hn) hk1
      rw [← e, h] at q
      cases q
  nw := fun k h1 h2 => by
    by_cases hn : k < n1
    · rw [b.ii k hn]
      exact a.nw k h1 hn
    · have q := b.nw k (Nat.le_of_not_lt hn) h2
      cases e : H (ι2 k) with
      | none => rfl
      | some o =>
        by_cases z : ∀ j, j < n → ι2 k ≠ ι j
        · rw [a.fr _ _ e z] at q
          cases q
        · exfalso
          apply z
          intro j hj ej
          obtain ⟨u, hu⟩ := al j (Nat.lt_of_lt_of_le hj a.ln)
          rw [a.ii j hj, ← ej, q] at hu
          cases hu
  ln := Nat.le_trans a.ln b.ln
  zn := fun x o h => by
    have low : ∀ u, H1 x = none → H x = some u → ∃ k, k < n ∧ x = ι k := fun u h1 hu => by
      refine Classical.byContradiction fun z => ?_
      rw [a.fr x u hu fun k hk e => z ⟨k, hk, e⟩] at h1
      cases h1
    have fin : H1 x = none → Z x = some o ∨ H x = none ∨ ∃ k, k < n ∧ x = ι k := fun h1 => by
      cases e : H x with
      | none => exact .inr (.inl rfl)
      | some u => exact .inr (.inr (low u h1 e))
    rcases b.zn x o h with h | h | ⟨k, hk, e⟩
    · exact a.zn x o h
    · exact fin h
    · by_cases hn : k < n
      · exact .inr (.inr ⟨k, hn, e.trans (a.ii k hn)⟩)
      · exact .inr (.inl (by rw [e]; exact a.nw k (Nat.le_of_not_lt hn) hk))
/-- the store is cut -/
theorem Ext.cut {H Z H1 Z1 : Hp} {ι ι1 : Nat → Addr} {n n1 m : Nat} (a : Ext H Z ι n H1 Z1 ι1 n1) (h1 : n ≤ m) (h2 : m ≤ n1) : Ext H Z ι n H1 Z1 ι1 m :=
  ⟨a.zz, a.ii, a.fr, fun k q1 q2 => a.nw k q1 (Nat.lt_of_lt_of_le q2 h2), h1, a.zn⟩
section
variable {K : PySem.W.Frag} {H Z H' Z' : Hp} {ι ι' : Nat → Addr} {M : List MO} {n' : Nat}
theorem Rp.ext {d : D} {v : V} {n : Nat} (r : Rp K Z ι n d v) (e : Ext H Z ι n H' Z' ι' n') : Rp K Z' ι' n' d v := Rp.mono e.zz e.ii e.ln d v r
theorem Rps.ext {ds : List D} {vs : List V} {n : Nat} (r : Rps K Z ι n ds vs) (e : Ext H Z ι n H' Z' ι' n') : Rps K Z' ι' n' ds vs := Rps.mono e.zz e.ii e.ln ds vs r
/-- a new thing that will not be changed -/
theorem HR.frozen (h : HR K H Z ι M) {p : Addr} {o : HO} (hp : H p = none) : HR K (upd H p o) (upd Z p o) ι M ∧ Ext H Z ι M.length (upd H p o) (upd Z p o) ι M.length := by
  have zp : Z p = none := by
    cases e : Z p with
    | none => rfl
    | some u =>
      rw [h.sub _ _ e] at hp
      cases hp
  have ne : ∀ k, k < M.length → ι k ≠ p := fun k hk e => by
    obtain ⟨u, hu⟩ := h.ali k hk
    rw [e, hp] at hu
    cases hu
  have lt : ∀ {k : Nat} {u : MO}, M[k]? = some u → k < M.length := fun e => (List.getElem?_eq_some_iff.mp e).1
  have s1 : Sub Z (upd Z p o) := fun a u e => by rw [upd_ne (ne_of_none e zp)]; exact e
  refine ⟨⟨fun a u e => ?_, fun k hk => ?_, fun k u e d => ?_, h.inj, fun k u e => ?_, fun k e => ?_⟩, s1, fun _ _ => rfl, fun a u e _ => ?_, fun k h1 h2 => absurd h2 (Nat.not_lt.mpr h1), Nat.le_refl _, fun a u e => ?_⟩
  · by_cases ha : a = p
    · subst ha
      rw [upd_same] at e ⊢
      exact e
    · rw [upd_ne ha] at e ⊢
      exact h.sub _ _ e
  · rw [upd_ne (ne k hk)]
    exact h.ali k hk
  · rw [upd_ne (ne k (lt e))]
    exact h.sep k u e d
  · exact OR.mono s1 (fun _ _ => rfl) (Nat.le_refl _) (fun o z => by rw [upd_ne (ne k (lt e))]; exact z) (h.obj k u e)
  · obtain ⟨u, hu⟩ := h.ded k e
    exact ⟨u, s1 _ _ hu⟩
  · rw [upd_ne (ne_of_none e hp)]
    exact e
  · by_cases ha : a = p
    · subst ha
      exact .inr (.inl hp)
    · rw [upd_ne ha] at e
      exact .inl e
def put (ι : Nat → Addr) (m : Nat) (p : Addr) : Nat → Addr := fun k => if k = m then p else ι k
theorem put_at {ι : Nat → Addr} {m : Nat} {p : Addr} : put ι m p m = p := if_pos rfl
theorem put_lt {ι : Nat → Addr} {m k : Nat} {p : Addr} (h : k < m) : put ι m p k = ι k := if_neg (Nat.ne_of_lt h)
/-- a new thing of ours -/
theorem HR.owned (h : HR K H Z ι M) {p : Addr} {ds : List D} {xs : List V} (hp : H p = none) (r : Rps K Z ι M.length ds xs) :
    HR K (upd H p (.lst xs)) Z (put ι M.length p) (M ++ [.lst ds]) ∧ Ext H Z ι M.length (upd H p (.lst xs)) Z (put ι M.length p) (M ++ [MO.lst ds]).length := by
  have zp : Z p = none := by
    cases e : Z p with
    | none => rfl
    | some u =>
      rw [h.sub _ _ e] at hp
      cases hp
  have ne : ∀ k, k < M.length → ι k ≠ p := fun k hk e => by
    obtain ⟨u, hu⟩ := h.ali k hk
    rw [e, hp] at hu
    cases hu
  have ii : ∀ k, k < M.length → (put ι M.length p) k = ι k := fun k hk => put_lt hk
  have il : (put ι M.length p) M.length = p := put_at
  have cs : ∀ {k : Nat} {u : MO}, (M ++ [MO.lst ds])[k]? = some u → (k < M.length ∧ M[k]? = some u) ∨ (k = M.length ∧ u = .lst ds) := fun {k u} e => by
    by_cases hk : k < M.length
    · rw [List.getElem?_append_left hk] at e
      exact .inl ⟨hk, e⟩
    · rw [List.getElem?_append_right (Nat.le_of_not_lt hk)] at e
      by_cases hz : k - M.length = 0
      · rw [hz] at e
        exact .inr ⟨by omega, (Option.some.inj e).symm⟩
      · rw [List.getElem?_eq_none (by simp; omega)] at e
        cases e
  have ln : (M ++ [MO.lst ds]).length = M.length + 1 := by simp
  refine ⟨⟨fun a u e => ?_, fun k hk => ?_, fun k u e d => ?_, fun j k o u e1 e2 d1 d2 e => ?_, fun k u e => ?_, fun k e => ?_⟩, fun _ _ e => e, ii, fun a u e _ => ?_, fun k h1 h2 => ?_, by rw [ln]; omega, fun _ _ e => .inl e⟩
  · rw [upd_ne (ne_of_none e zp)]
    exact h.sub _ _ e
  · rw [ln] at hk
    by_cases hk' : k < M.length
    · rw [ii k hk', upd_ne (ne k hk')]
      exact h.ali k hk'
    · have : k = M.length := by omega
      subst this
      exact ⟨_, by rw [il, upd_same]⟩
  · rcases cs e with ⟨hk, e⟩ | ⟨rfl, rfl⟩
    · rw [ii k hk]
      exact h.sep k u e d
    · rw [il]
      exact zp
  · rcases cs e1 with ⟨hj, e1⟩ | ⟨rfl, rfl⟩ <;> rcases cs e2 with ⟨hk, e2⟩ | ⟨rfl, rfl⟩
    · rw [ii j hj, ii k hk] at e
      exact h.inj j k o u e1 e2 d1 d2 e
    · rw [ii j hj, il] at e
      exact absurd e (ne j hj)
    · rw [ii k hk, il] at e
      exact absurd e.symm (ne k hk)
    · rfl
  · rcases cs e with ⟨hk, e⟩ | ⟨rfl, rfl⟩
    · rw [ii k hk]
      exact OR.mono (fun _ _ z => z) ii (by rw [ln]; omega) (fun o z => by rw [upd_ne (ne k hk)]; exact z) (h.obj k u e)
    · rw [il]
      exact ⟨xs, upd_same, Rps.mono (fun _ _ z => z) ii (by rw [ln]; omega) _ _ r⟩
  · rcases cs e with ⟨hk, e⟩ | ⟨_, e⟩
    · rw [ii k hk]
      exact h.ded k e
    · cases e
  · rw [upd_ne (ne_of_none e hp)]
    exact e
  · rw [ln] at h2
    have : k = M.length := by omega
    subst this
    rw [il]
    exact hp
/-- one of ours is changed -/
theorem HR.change (h : HR K H Z ι M) {j : Nat} {es ds : List D} {xs : List V} (hj : M[j]? = some (.lst es)) (r : Rps K Z ι M.length ds xs) :
    HR K (upd H (ι j) (.lst xs)) Z ι (M.set j (.lst ds)) ∧ Ext H Z ι M.length (upd H (ι j) (.lst xs)) Z ι (M.set j (.lst ds)).length := by
  have lt : j < M.length := (List.getElem?_eq_some_iff.mp hj).1
  have ln : (M.set j (MO.lst ds)).length = M.length := List.length_set
  have zj : Z (ι j) = none := h.sep j _ hj (by simp)
  have cs : ∀ {k : Nat} {u : MO}, (M.set j (.lst ds))[k]? = some u → (k ≠ j ∧ M[k]? = some u) ∨ (k = j ∧ u = .lst ds) := fun {k u} e => by
    by_cases hk : k = j
    · subst hk
      rw [List.getElem?_set_self lt] at e
      exact .inr ⟨rfl, (Option.some.inj e).symm⟩
    · rw [List.getElem?_set_ne (Ne.symm hk)] at e
      exact .inl ⟨hk, e⟩
  have apart : ∀ {k : Nat} {u : MO}, k ≠ j → M[k]? = some u → u ≠ .dead → ι k ≠ ι j := fun {k u} hk e d z => hk (h.inj k j u _ e hj d (by simp) z)
  refine ⟨⟨fun a u e => ?_, fun k hk => ?_, fun k u e d => ?_, fun a b o u e1 e2 d1 d2 e => ?_, fun k u e => ?_, fun k e => ?_⟩, fun _ _ e => e, fun _ _ => rfl, fun a u e z => ?_, fun k h1 h2 => absurd h2 (by rw [ln]; exact Nat.not_lt.mpr h1), by rw [ln]; exact Nat.le_refl _, fun _ _ e => .inl e⟩
  · rw [upd_ne (ne_of_none e zj)]
    exact h.sub _ _ e
  · rw [ln] at hk
    by_cases e : ι k = ι j
    · exact ⟨_, by rw [e, upd_same]⟩
    · rw [upd_ne e]
      exact h.ali k hk
  · rcases cs e with ⟨hk, e⟩ | ⟨rfl, rfl⟩
    · exact h.sep k u e d
    · exact zj
  · have live : ∀ {k : Nat} {u : MO}, (M.set j (.lst ds))[k]? = some u → u ≠ .dead → ∃ u', M[k]? = some u' ∧ u' ≠ .dead := fun {k u} e d => by
      rcases cs e with ⟨_, e⟩ | ⟨rfl, rfl⟩
      · exact ⟨u, e, d⟩
      · exact ⟨_, hj, by simp⟩
    obtain ⟨o', e1', d1'⟩ := live e1 d1
    obtain ⟨u', e2', d2'⟩ := live e2 d2
    exact h.inj a b o' u' e1' e2' d1' d2' e
  · rw [ln]
    rcases cs e with ⟨hk, e⟩ | ⟨rfl, rfl⟩
    · by_cases du : u = .dead
      · subst du
        trivial
      · exact OR.mono (fun _ _ z => z) (fun _ _ => rfl) (Nat.le_refl _) (fun o z => by rw [upd_ne (apart hk e du)]; exact z) (h.obj k u e)
    · exact ⟨xs, upd_same, r⟩
  · rcases cs e with ⟨_, e⟩ | ⟨_, e⟩
    · exact h.ded k e
    · cases e
  · rw [upd_ne (z j lt)]
    exact e
/-- one of ours will not be changed any more -/
theorem HR.freezeG (h : HR K H Z ι M) {j : Nat} {o : MO} {ho : HO} (hj : M[j]? = some o) (hd : o ≠ .dead) (e1 : H (ι j) = some ho) :
    HR K H (upd Z (ι j) ho) ι (M.set j .dead) ∧ Ext H Z ι M.length H (upd Z (ι j) ho) ι (M.set j MO.dead).length ∧ Sub Z (upd Z (ι j) ho) := by
  have lt : j < M.length := (List.getElem?_eq_some_iff.mp hj).1
  have ln : (M.set j MO.dead).length = M.length := List.length_set
  have zj : Z (ι j) = none := h.sep j _ hj hd
  have s1 : Sub Z (upd Z (ι j) ho) := fun a u e => by rw [upd_ne (ne_of_none e zj)]; exact e
  have cs : ∀ {k : Nat} {u : MO}, (M.set j .dead)[k]? = some u → u ≠ .dead → k ≠ j ∧ M[k]? = some u := fun {k u} e d => by
    by_cases hk : k = j
    · subst hk
      rw [List.getElem?_set_self lt] at e
      exact absurd (Option.some.inj e).symm d
    · rw [List.getElem?_set_ne (Ne.symm hk)] at e
      exact ⟨hk, e⟩
  refine ⟨⟨fun a u e => ?_, fun k hk => h.ali k (by rw [ln] at hk; exact hk), fun k u e d => ?_, fun a b o u q1 q2 d1 d2 e => ?_, fun k u e => ?_, fun k e => ?_⟩, ⟨s1, fun _ _ => rfl, fun a u e _ => e, fun k h1 h2 => absurd h2 (by rw [ln]; exact Nat.not_lt.mpr h1), by rw [ln]; exact Nat.le_refl _, fun a u e => ?_⟩, s1⟩
  · by_cases ha : a = ι j
    · subst ha
      rw [upd_same] at e
      cases e
      exact e1
    · rw [upd_ne ha] at e
      exact h.sub _ _ e
  · obtain ⟨hk, e⟩ := cs e d
    rw [upd_ne fun z => hk (h.inj k j u _ e hj d hd z)]
    exact h.sep k u e d
  · exact h.inj a b o u (cs q1 d1).2 (cs q2 d2).2 d1 d2 e
  · rw [ln]
    by_cases du : u = .dead
    · subst du
      trivial
    · exact OR.mono s1 (fun _ _ => rfl) (Nat.le_refl _) (fun _ z => z) (h.obj k u (cs e du).2)
  · by_cases hk : k = j
    · subst hk
      exact ⟨_, upd_same⟩
    · rw [List.getElem?_set_ne (Ne.symm hk)] at e
      obtain ⟨u, hu⟩ := h.ded k e
      exact ⟨u, s1 _ _ hu⟩
  · by_cases ha : a = ι j
    · exact .inr (.inr ⟨j, lt, ha⟩)
    · rw [upd_ne ha] at e
      exact .inl e
/-- a list of ours will not be changed any more -/
theorem HR.freeze (h : HR K H Z ι M) {j : Nat} {ds : List D} (hj : M[j]? = some (.lst ds)) :
    ∃ xs, Rps K Z ι M.length ds xs ∧ HR K H (upd Z (ι j) (.lst xs)) ι (M.set j .dead) ∧ Ext H Z ι M.length H (upd Z (ι j) (.lst xs)) ι (M.set j MO.dead).length ∧ Rp K (upd Z (ι j) (.lst xs)) ι (M.set j MO.dead).length (.lst ds) (.ref (ι j)) := by
  have ln : (M.set j MO.dead).length = M.length := List.length_set
  obtain ⟨xs, e1, r⟩ := h.obj j _ hj
  obtain ⟨a, b, s1⟩ := h.freezeG hj (by simp) e1
  refine ⟨xs, r, a, b, ?_⟩
  rw [ln]
  exact .lst (.inl (.inl upd_same)) (Rps.mono s1 (fun _ _ => rfl) (Nat.le_refl _) _ _ r)
/-- a dict of ours will not be changed any more -/
theorem HR.freezeD (h : HR K H Z ι M) {j : Nat} {ks vs : List D} (hj : M[j]? = some (.dct ks vs)) :
    ∃ ho, H (ι j) = some ho ∧ HR K H (upd Z (ι j) ho) ι (M.set j .dead) ∧ Ext H Z ι M.length H (upd Z (ι j) ho) ι (M.set j MO.dead).length ∧ Rp K (upd Z (ι j) ho) ι (M.set j MO.dead).length (.dct ks vs) (.ref (ι j)) := by
  have ln : (M.set j MO.dead).length = M.length := List.length_set
  obtain ⟨nks, kx, xs, ⟨es, ep, h1, h2, h3, h4, h5⟩, r, q⟩ := h.obj j _ hj
  obtain ⟨a, b, s1⟩ := h.freezeG hj (by simp) h1
  refine ⟨_, h1, a, b, ?_⟩
  rw [ln]
  exact .dct ⟨es, ep, upd_same, h2, h3, h4, h5.sub s1⟩ (Rps.mono s1 (fun _ _ => rfl) (Nat.le_refl _) _ _ r) (Rps.mono s1 (fun _ _ => rfl) (Nat.le_refl _) _ _ q)
end
/-- a cut: what is left leans on nothing that was cut off -/
def cutOk (m : Nat) (M : List MO) : Bool := (M.take m).all (belowO m)
theorem HR.cut {K : PySem.W.Frag} {H Z : Hp} {ι : Nat → Addr} {M : List MO} (h : HR K H Z ι M) {m : Nat} (hm : m ≤ M.length) (c : cutOk m M = true) : HR K H Z ι (M.take m) := by
  have ln : (M.take m).length = m := by rw [List.length_take]; omega
  have cs : ∀ {k : Nat} {u : MO}, (M.take m)[k]? = some u → M[k]? = some u ∧ belowO m u = true := fun {k u} e => by
    have lk : k < m := by
      have := (List.getElem?_eq_some_iff.mp e).1
      rw [ln] at this
      exact this
    have e' := e
    rw [List.getElem?_take_of_lt lk] at e'
    exact ⟨e', List.all_eq_true.mp c u (List.mem_of_getElem? e)⟩
  refine ⟨h.sub, fun k hk => h.ali k (by rw [ln] at hk; omega), fun k u e d => h.sep k u (cs e).1 d, fun a b o u e1 e2 d1 d2 e => h.inj a b o u (cs e1).1 (cs e2).1 d1 d2 e, fun k u e => ?_, fun k e => h.ded k (cs e).1⟩
  rw [ln]
  obtain ⟨e1, b⟩ := cs e
  exact (h.obj k u e1).shrink b
end Bk

set_option Elab.async false
set_option linter.all false
set_option maxRecDepth 100000
set_option maxHeartbeats 1000000
namespace Bk
open PySem PySem.Spec PyProof.Rows L2

/-! ### what is shown of a piece of syntax -/
abbrev St := L2.St
/-- the classes of errors: where each stands, and its one attribute -/
structure CT where
  at_ : Nat → Addr
  nm : Nat → Str
def ExcR (K : PySem.W.Frag) (C : CT) (H Z : Hp) (ι : Nat → Addr) (n c : Nat) (d : D) (cls : Value) (dd : Option Addr) : Prop :=
  cls = .ref (C.at_ c) ∧ ∃ a v, dd = some a ∧ Z a = some (.xd [(C.nm c, v)]) ∧ Rp K Z ι n d v
def Slots (K : PySem.W.Frag) (Z : Hp) (ι : Nat → Addr) (n : Nat) (Γ : Env) (σ : St) : Prop :=
  Γ.length = σ.length ∧ ∀ (i : Nat) (d : D), Γ[i]? = some (some d) → ∃ v, σ[i]? = some (some v) ∧ Rp K Z ι n d v
theorem Slots.ext {K : PySem.W.Frag} {H Z H' Z' : Hp} {ι ι' : Nat → Addr} {n n' : Nat} {Γ : Env} {σ : St} (s : Slots K Z ι n Γ σ) (e : Ext H Z ι n H' Z' ι' n') : Slots K Z' ι' n' Γ σ :=
  ⟨s.1, fun i d h => let ⟨v, h1, h2⟩ := s.2 i d h; ⟨v, h1, h2.ext e⟩⟩
theorem Slots.set {K : PySem.W.Frag} {Z : Hp} {ι : Nat → Addr} {n : Nat} {Γ : Env} {σ : St} (s : Slots K Z ι n Γ σ) (i : Nat) {d : D} {v : V} (r : Rp K Z ι n d v) : Slots K Z ι n (Γ.set i (some d)) (σ.set i (some v)) := by
  refine ⟨by rw [List.length_set, List.length_set]; exact s.1, fun j e h => ?_⟩
  by_cases hj : i = j
  · subst hj
    have lt : i < Γ.length := by
      have := (List.getElem?_eq_some_iff.mp h).1
      rw [List.length_set] at this
      exact this
    rw [List.getElem?_set_self lt] at h
    have q := Option.some.inj (Option.some.inj h)
    subst q
    exact ⟨v, List.getElem?_set_self (by rw [← s.1]; exact lt), r⟩
  · rw [List.getElem?_set_ne hj] at h
    rw [List.getElem?_set_ne hj]
    exact s.2 j e h
/-- slots are forgotten -/
def forget (Γ : Env) : List Nat → Env
  | [] => Γ
  | i :: is => forget (Γ.set i none) is
theorem Slots.forget {K : PySem.W.Frag} {Z : Hp} {ι : Nat → Addr} {n : Nat} {σ : St} : ∀ (is : List Nat) {Γ : Env}, Slots K Z ι n Γ σ → Slots K Z ι n (forget Γ is) σ
  | [], _, s => s
  | i :: is, Γ, s => Slots.forget is ⟨by rw [List.length_set]; exact s.1, fun j e h => by
      by_cases hj : i = j
      · subst hj
        have lt : i < Γ.length := by
          have := (List.getElem?_eq_some_iff.mp h).1
          rw [List.length_set] at this
          exact this
        rw [List.getElem?_set_self lt] at h
        cases h
      · rw [List.getElem?_set_ne hj] at h
        exact s.2 j e h⟩
/-- what leans on nothing that is cut off stays -/
def clean (m : Nat) (Γ : Env) : Env := Γ.map fun o => match o with
  | some d => if below m d = true then some d else none
  | none => none
theorem Slots.cut {K : PySem.W.Frag} {Z : Hp} {ι : Nat → Addr} {n m : Nat} {Γ : Env} {σ : St} (s : Slots K Z ι n Γ σ) : Slots K Z ι m (clean m Γ) σ := by
  refine ⟨by unfold clean; rw [List.length_map]; exact s.1, fun i d h => ?_⟩
  unfold clean at h
  rw [List.getElem?_map] at h
  cases e : Γ[i]? with
  | none => rw [e] at h; cases h
  | some o =>
    cases o with
    | none => rw [e] at h; cases h
    | some d' =>
      rw [e] at h
      have h' : (if below m d' = true then some d' else none) = some d := Option.some.inj h
      by_cases hb : below m d' = true
      · rw [if_pos hb] at h'
        have q := Option.some.inj h'
        subst q
        obtain ⟨v, h1, h2⟩ := s.2 i d' e
        exact ⟨v, h1, h2.shrink _ _ hb⟩
      · rw [if_neg hb] at h'
        cases h'

abbrev RpK (α β : Type) := Hp → (Nat → Addr) → Nat → α → β → Prop
abbrev rpE (K : PySem.W.Frag) : RpK D V := fun Z ι n d v => Rp K Z ι n d v
abbrev rpA (K : PySem.W.Frag) : RpK (List D) (List V) := fun Z ι n d v => Rps K Z ι n d v
abbrev rpT : RpK Bool Bool := fun _ _ _ a b => a = b
def Post {α β : Type} (X : Cx) (C : CT) (W : WX) (rp : RpK α β) (σ : St) (H Z : Hp) (ι : Nat → Addr) (M : List MO) (r : R α) (Q : β → Hp → Prop) : Prop := match r with
  | .ok a M' => ∀ (b : β) (H' Z' : Hp) (ι' : Nat → Addr), Ext H Z ι M.length H' Z' ι' M'.length → HR X.K H' Z' ι' M' → rp Z' ι' M'.length a b → Q b H'
  | .exc c d M' => ∀ (cls : Value) (dd : Option Addr) (H' Z' : Hp) (ι' : Nat → Addr), Ext H Z ι M.length H' Z' ι' M'.length → HR X.K H' Z' ι' M' → ExcR X.K C H' Z' ι' M'.length c d cls dd → W cls dd σ H'
  | .bad => False
section
variable {X : Cx} {C : CT} {W : WX} {σ : St} {H Z H1 Z1 : Hp} {ι ι1 : Nat → Addr} {M M1 : List MO}
theorem Post.shift {α β : Type} {rp : RpK α β} {r : R α} {Q : β → Hp → Prop} (h : Post X C W rp σ H Z ι M r Q) (e : Ext H Z ι M.length H1 Z1 ι1 M1.length) (hr : HR X.K H1 Z1 ι1 M1) : Post X C W rp σ H1 Z1 ι1 M1 r Q := by
  cases r with
  | ok a M' => exact fun b H' Z' ι' e' hr' rb => h b H' Z' ι' (e.trans e' hr.ali) hr' rb
  | exc c d M' => exact fun cls dd H' Z' ι' e' hr' rb => h cls dd H' Z' ι' (e.trans e' hr.ali) hr' rb
  | bad => exact h
theorem Post.bind {α β γ δ : Type} {rp1 : RpK α β} {rp2 : RpK γ δ} {r : R α} {f : α → List MO → R γ} {Q : δ → Hp → Prop} {Q1 : β → Hp → Prop} (h : Post X C W rp2 σ H Z ι M (r.bind f) Q)
    (k : ∀ (a : α) (M1 : List MO) (b : β) (H1 Z1 : Hp) (ι1 : Nat → Addr), Ext H Z ι M.length H1 Z1 ι1 M1.length → HR X.K H1 Z1 ι1 M1 → rp1 Z1 ι1 M1.length a b → Post X C W rp2 σ H1 Z1 ι1 M1 (f a M1) Q → Q1 b H1) :
    Post X C W rp1 σ H Z ι M r Q1 := by
  cases r with
  | ok a M' => exact fun b H' Z' ι' e' hr' rb => k a M' b H' Z' ι' e' hr' rb (Post.shift (r := f a M') h e' hr')
  | exc c d M' => exact h
  | bad => exact h
end

/-- an expression is computed by g -/
def QE (X : Cx) (C : CT) (W : WX) (e : Expr) (g : GE) : Prop := ∃ te, PE X e te ∧ ∀ (σ : St) (H Z : Hp) (ι : Nat → Addr) (Γ : Env) (M : List MO) (Q : VK), Slots X.K Z ι M.length Γ σ → HR X.K H Z ι M → Post X C W (rpE X.K) σ H Z ι M (g Γ M) Q → te σ H Q
def QT (X : Cx) (C : CT) (W : WX) (e : Expr) (g : GT) : Prop := ∃ te, PT X e te ∧ ∀ (σ : St) (H Z : Hp) (ι : Nat → Addr) (Γ : Env) (M : List MO) (Q : Bool → Hp → Prop), Slots X.K Z ι M.length Γ σ → HR X.K H Z ι M → Post X C W rpT σ H Z ι M (g Γ M) Q → te σ H Q
def QW (X : Cx) (C : CT) (W : WX) (e : Expr) (g : GT) : Prop := ∃ te, PW X e te ∧ ∀ (σ : St) (H Z : Hp) (ι : Nat → Addr) (Γ : Env) (M : List MO) (Q : Bool → Hp → Prop), Slots X.K Z ι M.length Γ σ → HR X.K H Z ι M → Post X C W rpT σ H Z ι M (g Γ M) Q → te σ H Q
def QA (X : Cx) (C : CT) (W : WX) (es : List Expr) (g : GA) : Prop := ∃ te, PA X es te ∧ ∀ (σ : St) (H Z : Hp) (ι : Nat → Addr) (Γ : Env) (M : List MO) (Q : List V → Hp → Prop), Slots X.K Z ι M.length Γ σ → HR X.K H Z ι M → Post X C W (rpA X.K) σ H Z ι M (g Γ M) Q → te σ H Q

/-! ### the functions that compute -/
def opR {α : Type} (o : Option α) (M : List MO) : R α := match o with
  | some a => .ok a M
  | none => .bad
def gV (i : Nat) : GE := fun Γ M => match Γ[i]? with
  | some (some d) => .ok d M
  | _ => .bad
def gC (d : D) : GE := fun _ M => .ok d M
def gOp2 (f : List MO → D → D → Option D) (ga gb : GE) : GE := fun Γ M => (ga Γ M).bind fun x M1 => (gb Γ M1).bind fun y M2 => opR (f M2 x y) M2
def gOp1 (f : List MO → D → Option D) (ga : GE) : GE := fun Γ M => (ga Γ M).bind fun x M1 => opR (f M1 x) M1
def gNil : GA := fun _ M => .ok [] M
def gCons (ga : GE) (gr : GA) : GA := fun Γ M => (ga Γ M).bind fun x M1 => (gr Γ M1).bind fun xs M2 => .ok (x :: xs) M2
def gTup (ga : GA) : GE := fun Γ M => (ga Γ M).bind fun xs M1 => if xs.length ≤ sizeLine then .ok (.tup xs) M1 else .bad
def gLst (ga : GA) : GE := fun Γ M => (ga Γ M).bind fun xs M1 => if xs.length ≤ sizeLine then .ok (.lst xs) M1 else .bad
def gLstO (ga : GA) : GE := fun Γ M => (ga Γ M).bind fun xs M1 => if xs.length ≤ sizeLine then .ok (.ref M1.length) (M1 ++ [.lst xs]) else .bad
def gCall (f : List MO → List D → Option D) (ga : GA) : GE := fun Γ M => (ga Γ M).bind fun xs M1 => opR (f M1 xs) M1
def toBl : D → Option Bool
  | .bl b => some b
  | _ => none
def gVal (ga : GE) : GT := fun Γ M => (ga Γ M).bind fun x M1 => opR (toBl x) M1
def gAndT (a b : GT) : GT := fun Γ M => (a Γ M).bind fun c M1 => if c = true then b Γ M1 else .ok false M1
def gOrT (a b : GT) : GT := fun Γ M => (a Γ M).bind fun c M1 => if c = true then .ok true M1 else b Γ M1
def gNotT (a : GT) : GT := fun Γ M => (a Γ M).bind fun c M1 => .ok (!c) M1
def gIfE (c : GT) (a b : GE) : GE := fun Γ M => (c Γ M).bind fun k M1 => if k = true then a Γ M1 else b Γ M1
def gAndV (a b : GE) : GE := fun Γ M => (a Γ M).bind fun x M1 => match x with
  | .bl c => if c = true then b Γ M1 else .ok (.bl false) M1
  | _ => .bad
def gOrV (a b : GE) : GE := fun Γ M => (a Γ M).bind fun x M1 => match x with
  | .bl c => if c = true then .ok (.bl true) M1 else b Γ M1
  | _ => .bad
def gChain (f f' : List MO → D → D → Option D) (ga gb gc : GE) : GE := fun Γ M => (ga Γ M).bind fun x M1 => (gb Γ M1).bind fun y M2 => (opR (f M2 x y) M2).bind fun k M3 => match k with
  | .bl c => if c = true then (gc Γ M3).bind fun z M4 => opR (f' M4 y z) M4 else .ok (.bl false) M3
  | _ => .bad

section
variable {X : Cx} {C : CT} {W : WX}
/-- a result that is new and will not be changed, or an old one -/
def After (X : Cx) (H Z : Hp) (ι : Nat → Addr) (M : List MO) (d : D) (Q : VK) : Prop := ∀ (v : V) (H' Z' : Hp), Ext H Z ι M.length H' Z' ι M.length → HR X.K H' Z' ι M → Rp X.K Z' ι M.length d v → Q v H'
theorem After.now {H Z : Hp} {ι : Nat → Addr} {M : List MO} {d : D} {Q : VK} {v : V} (h : After X H Z ι M d Q) (hr : HR X.K H Z ι M) (r : Rp X.K Z ι M.length d v) : Q v H := h v H Z .refl hr r
theorem After.lst {H Z : Hp} {ι : Nat → Addr} {M : List MO} {ds : List D} {Q : VK} {xs : List V} (h : After X H Z ι M (.lst ds) Q) (hr : HR X.K H Z ι M) (r : Rps X.K Z ι M.length ds xs) : ∀ p, H p = none → Q (.ref p) (upd H p (.lst xs)) := fun p hp => by
  obtain ⟨h1, e1⟩ := hr.frozen (o := .lst xs) hp
  exact h _ _ _ e1 h1 (.lst (.inl (.inl upd_same)) (r.ext e1))
theorem After.tup {H Z : Hp} {ι : Nat → Addr} {M : List MO} {ds : List D} {Q : VK} {xs : List V} (h : After X H Z ι M (.tup ds) Q) (hr : HR X.K H Z ι M) (r : Rps X.K Z ι M.length ds xs) : ∀ p, H p = none → Q (.ref p) (upd H p (.tup xs)) := fun p hp => by
  obtain ⟨h1, e1⟩ := hr.frozen (o := .tup xs) hp
  exact h _ _ _ e1 h1 (.tup (.inl (.inl upd_same)) (r.ext e1))
theorem Post.after {σ : St} {H Z : Hp} {ι : Nat → Addr} {M : List MO} {d : D} {Q : VK} (h : Post X C W (rpE X.K) σ H Z ι M (.ok d M) Q) : After X H Z ι M d Q := fun v H' Z' e hr r => h v H' Z' ι e hr r
/-- an operation on values is computed by f -/
def Ok2 (X : Cx) (r : R2) (f : List MO → D → D → Option D) : Prop := ∀ (x y : V) (H Z : Hp) (ι : Nat → Addr) (M : List MO) (dx dy d : D) (Q : VK), HR X.K H Z ι M → Rp X.K Z ι M.length dx x → Rp X.K Z ι M.length dy y → f M dx dy = some d → After X H Z ι M d Q → r x y H Q
def Ok1 (X : Cx) (r : V → Hp → VK → Prop) (f : List MO → D → Option D) : Prop := ∀ (x : V) (H Z : Hp) (ι : Nat → Addr) (M : List MO) (dx d : D) (Q : VK), HR X.K H Z ι M → Rp X.K Z ι M.length dx x → f M dx = some d → After X H Z ι M d Q → r x H Q
def OkA (X : Cx) (r : List V → Hp → VK → Prop) (f : List MO → List D → Option D) : Prop := ∀ (xs : List V) (H Z : Hp) (ι : Nat → Addr) (M : List MO) (ds : List D) (d : D) (Q : VK), HR X.K H Z ι M → Rps X.K Z ι M.length ds xs → f M ds = some d → After X H Z ι M d Q → r xs H Q
theorem Post.of_opR {α β γ δ : Type} {rp1 : RpK α β} {σ : St} {H Z : Hp} {ι : Nat → Addr} {M : List MO} {o : Option α} {Q : β → Hp → Prop} (h : Post X C W rp1 σ H Z ι M (opR o M) Q) : ∃ a, o = some a ∧ Post X C W rp1 σ H Z ι M (.ok a M) Q := by
  cases o with
  | none => exact h.elim
  | some a => exact ⟨a, rfl, h⟩

/-! ### the rules -/
theorem qe_v (i : Nat) {x : Str} {pos : Pos} (hN : X.N[i]? = some x := by rfl) (hv : Vis X.env.scope x := by first | exact Or.inl rfl | exact Or.inr (Or.inl rfl) | exact Or.inr (Or.inr rfl)) (hd : (x == ("__debug__" : Str)) = false := by decide)
    (hcd : (x == ("__classdict__" : Str)) = false := by decide) : QE X C W (.Name x pos) (gV i) := by
  refine ⟨_, pe_var hN hv hd hcd, fun σ H Z ι Γ M Q sl hr h => ?_⟩
  unfold gV at h
  cases e : Γ[i]? with
  | none => rw [e] at h; exact h.elim
  | some o =>
    cases o with
    | none => rw [e] at h; exact h.elim
    | some d =>
      rw [e] at h
      obtain ⟨v, h1, h2⟩ := sl.2 i d e
      exact ⟨v, h1, h v H Z ι .refl hr h2⟩
theorem qe_int {i : Int} {j pos} : QE X C W (.Constant (.int i) j pos) (gC (.int i)) := ⟨_, pe_int, fun σ H Z ι Γ M Q sl hr h => h _ H Z ι .refl hr (.int i)⟩
theorem qe_bl {b : Bool} {j pos} : QE X C W (.Constant (.bool b) j pos) (gC (.bl b)) := ⟨_, pe_bl, fun σ H Z ι Γ M Q sl hr h => h _ H Z ι .refl hr (.bl b)⟩
theorem qe_non {j pos} : QE X C W (.Constant .none j pos) (gC .non) := ⟨_, pe_non, fun σ H Z ι Γ M Q sl hr h => h _ H Z ι .refl hr .non⟩
theorem qe_str {x : Str} {j pos} : QE X C W (.Constant (.str x) j pos) (gC (.str x)) := ⟨_, pe_str, fun σ H Z ι Γ M Q sl hr h => h _ H Z ι .refl hr (.str x)⟩
/-- a module's number -/
theorem qe_gint {x : Str} {i : Int} {t : Tok} {pos : Pos} (hg : Gl X x) (hm : X.mg x = some (.int i t)) (hd : (x == ("__debug__" : Str)) = false := by decide) : QE X C W (.Name x pos) (gC (.int i)) :=
  ⟨_, pe_glob (v := .int i) hg hm ⟨t, rfl⟩ hd, fun σ H Z ι Γ M Q sl hr h => h _ H Z ι .refl hr (.int i)⟩
variable {e a b c : Expr} {es : List Expr} {ga gb gc g : GE} {gt gu : GT} {gs : GA} {pos : Pos} {f f' : List MO → D → D → Option D}
abbrev Rd1 (X : Cx) (C : CT) (W : WX) (g : GE) (te : TE) : Prop := ∀ (σ : St) (H Z : Hp) (ι : Nat → Addr) (Γ : Env) (M : List MO) (Q : VK), Slots X.K Z ι M.length Γ σ → HR X.K H Z ι M → Post X C W (rpE X.K) σ H Z ι M (g Γ M) Q → te σ H Q
theorem op_read {r : R2} {ta tb : TE} (hf : Ok2 X r f) (qa : Rd1 X C W ga ta) (qb : Rd1 X C W gb tb) : Rd1 X C W (gOp2 f ga gb) (tOp r ta tb) := fun σ H Z ι Γ M Q sl hr h =>
  qa σ H Z ι Γ M _ sl hr (Post.bind h fun x M1 v H1 Z1 ι1 e1 hr1 r1 h1 => qb σ H1 Z1 ι1 Γ M1 _ (sl.ext e1) hr1 (h1.bind fun y M2 u H2 Z2 ι2 e2 hr2 r2 h2 => by
    obtain ⟨d, hd, h3⟩ := Post.of_opR (γ := D) (δ := V) h2
    exact hf v u H2 Z2 ι2 M2 x y d Q hr2 (r1.ext e2) r2 hd h3.after))
theorem qe_bin {op : Operator} {r : R2} (ho : OpR X (binaryOp op) r) (hf : Ok2 X r f) (ha : QE X C W a ga) (hb : QE X C W b gb) : QE X C W (.BinOp a op b pos) (gOp2 f ga gb) := by
  obtain ⟨ta, pa, qa⟩ := ha
  obtain ⟨tb, pb, qb⟩ := hb
  exact ⟨_, pe_op ho pa pb, op_read hf qa qb⟩
theorem qe_cmp {op : CmpOp} {r : R2} (ho : OpR X (compareOp op) r) (hf : Ok2 X r f) (ha : QE X C W a ga) (hb : QE X C W b gb) (hm : behindInMarks op b = false) : QE X C W (.Compare a [op] [b] pos) (gOp2 f ga gb) := by
  obtain ⟨ta, pa, qa⟩ := ha
  obtain ⟨tb, pb, qb⟩ := hb
  exact ⟨_, pe_cmpR ho pa pb hm, op_read hf qa qb⟩
theorem qe_ix {r : R2} (ho : IxR X r) (hf : Ok2 X r f) (ha : QE X C W a ga) (hb : QE X C W b gb) (hs : PlainIx b := by exact fun _ _ => rfl) : QE X C W (.Subscript a b pos) (gOp2 f ga gb) := by
  obtain ⟨ta, pa, qa⟩ := ha
  obtain ⟨tb, pb, qb⟩ := hb
  exact ⟨_, pe_ix ho pa pb hs, op_read hf qa qb⟩
theorem qe_un {op : UnaryOp} {r : V → Hp → VK → Prop} {f : List MO → D → Option D} (ho : UnR X (unaryOp op) r) (hf : Ok1 X r f) (ha : QE X C W a ga) : QE X C W (.UnaryOp op a pos) (gOp1 f ga) := by
  obtain ⟨ta, pa, qa⟩ := ha
  refine ⟨_, pe_un ho pa, fun σ H Z ι Γ M Q sl hr h => qa σ H Z ι Γ M _ sl hr (h.bind fun x M1 v H1 Z1 ι1 e1 hr1 r1 h1 => ?_)⟩
  obtain ⟨d, hd, h3⟩ := Post.of_opR (γ := D) (δ := V) h1
  exact hf v H1 Z1 ι1 M1 x d Q hr1 r1 hd h3.after
theorem chain_read {r r' : R2} {ta tb tc : TE} (hf : Ok2 X r f) (hf' : Ok2 X r' f') (qa : Rd1 X C W ga ta) (qb : Rd1 X C W gb tb) (qc : Rd1 X C W gc tc) : Rd1 X C W (gChain f f' ga gb gc) (tChain r r' ta tb tc) := by
  intro σ H Z ι Γ M Q sl hr h
  refine qa σ H Z ι Γ M _ sl hr (Post.bind h fun x M1 v H1 Z1 ι1 e1 hr1 r1 h1 => qb σ H1 Z1 ι1 Γ M1 _ (sl.ext e1) hr1 (h1.bind fun y M2 u H2 Z2 ι2 e2 hr2 r2 h2 => ?_))
  cases hd : f M2 x y with
  | none => rw [hd] at h2; exact h2.elim
  | some d =>
    rw [hd] at h2
    refine hf v u H2 Z2 ι2 M2 x y d _ hr2 (r1.ext e2) r2 hd fun w H3 Z3 e3 hr3 r3 => ?_
    have h3 := Post.shift h2 e3 hr3
    cases r3 with
    | bl k =>
      refine ⟨k, rfl, ?_⟩
      cases k with
      | false => exact h3 _ H3 Z3 ι2 .refl hr3 (.bl false)
      | true =>
        have h4 : Post X C W (rpE X.K) σ H3 Z3 ι2 M2 ((gc Γ M2).bind fun z M4 => opR (f' M4 y z) M4) Q := h3
        refine qc σ H3 Z3 ι2 Γ M2 _ ((sl.ext e1).ext e2 |>.ext e3) hr3 (h4.bind fun z M4 w' H4 Z4 ι4 e4 hr4 r4 h5 => ?_)
        obtain ⟨d', hd', h6⟩ := Post.of_opR (γ := D) (δ := V) h5
        exact hf' u w' H4 Z4 ι4 M4 y z d' Q hr4 ((r2.ext e3).ext e4) r4 hd' h6.after
    | _ => exact h3.elim
theorem qe_chain {op op' : CmpOp} {r r' : R2} (ho : OpR X (compareOp op) r) (hf : Ok2 X r f) (ho' : OpR X (compareOp op') r') (hf' : Ok2 X r' f') (ha : QE X C W a ga) (hb : QE X C W b gb) (hc : QE X C W c gc) (hm : lastMarks [op, op'] [b, c] = false := by with_unfolding_all rfl) :
    QE X C W (.Compare a [op, op'] [b, c] pos) (gChain f f' ga gb gc) := by
  obtain ⟨ta, pa, qa⟩ := ha
  obtain ⟨tb, pb, qb⟩ := hb
  obtain ⟨tc, pc, qc⟩ := hc
  exact ⟨_, pe_chain ho ho' pa pb pc (hm := hm), chain_read hf hf' qa qb qc⟩
theorem qa_nil : QA X C W [] gNil := ⟨_, pa_nil, fun σ H Z ι Γ M Q sl hr h => h [] H Z ι .refl hr .nil⟩
theorem qa_cons (ha : QE X C W e g) (hb : QA X C W es gs) (hs : starEach (e :: es) X.env = (false, eval e X.env) :: starEach es X.env := by rfl) : QA X C W (e :: es) (gCons g gs) := by
  obtain ⟨ta, pa, qa⟩ := ha
  obtain ⟨tb, pb, qb⟩ := hb
  exact ⟨_, pa_cons pa pb hs, fun σ H Z ι Γ M Q sl hr h => qa σ H Z ι Γ M _ sl hr (h.bind fun x M1 v H1 Z1 ι1 e1 hr1 r1 h1 => qb σ H1 Z1 ι1 Γ M1 _ (sl.ext e1) hr1 (h1.bind fun y M2 u H2 Z2 ι2 e2 hr2 r2 h2 => h2 _ H2 Z2 ι2 .refl hr2 (.cons (r1.ext e2) r2)))⟩
theorem qe_tup {x1} (ha : QA X C W es gs) : QE X C W (.Tuple es x1 pos) (gTup gs) := by
  obtain ⟨ta, pa, qa⟩ := ha
  refine ⟨_, pe_tup pa, fun σ H Z ι Γ M Q sl hr h => qa σ H Z ι Γ M _ sl hr (h.bind fun x M1 v H1 Z1 ι1 e1 hr1 r1 h1 => ?_)⟩
  by_cases hz : x.length ≤ sizeLine
  · rw [if_pos hz] at h1
    exact ⟨by rw [← r1.length]; exact hz, h1.after.tup hr1 r1⟩
  · rw [if_neg hz] at h1
    exact h1.elim
theorem qe_lst (ha : QA X C W es gs) : QE X C W (.List es pos) (gLst gs) := by
  obtain ⟨ta, pa, qa⟩ := ha
  refine ⟨_, pe_lst pa, fun σ H Z ι Γ M Q sl hr h => qa σ H Z ι Γ M _ sl hr (h.bind fun x M1 v H1 Z1 ι1 e1 hr1 r1 h1 => ?_)⟩
  by_cases hz : x.length ≤ sizeLine
  · rw [if_pos hz] at h1
    exact ⟨by rw [← r1.length]; exact hz, h1.after.lst hr1 r1⟩
  · rw [if_neg hz] at h1
    exact h1.elim
theorem qe_lstO (ha : QA X C W es gs) : QE X C W (.List es pos) (gLstO gs) := by
  obtain ⟨ta, pa, qa⟩ := ha
  refine ⟨_, pe_lst pa, fun σ H Z ι Γ M Q sl hr h => qa σ H Z ι Γ M _ sl hr (h.bind fun x M1 v H1 Z1 ι1 e1 hr1 r1 h1 => ?_)⟩
  by_cases hz : x.length ≤ sizeLine
  · rw [if_pos hz] at h1
    refine ⟨by rw [← r1.length]; exact hz, fun p hp => ?_⟩
    obtain ⟨hr2, e2⟩ := hr1.owned hp r1
    refine h1 _ _ _ _ e2 hr2 ?_
    have q : Rp X.K Z1 (put ι1 M1.length p) (M1 ++ [MO.lst x]).length (.ref M1.length) (.ref (put ι1 M1.length p M1.length)) := .ref (by simp)
    rw [put_at] at q
    exact q
  · rw [if_neg hz] at h1
    exact h1.elim
theorem qe_callB {x : Str} {p : Pos} {id : String} {r : List V → Hp → VK → Prop} {f : List MO → List D → Option D} (ho : CallR X (.builtin id) r) (hf : OkA X r f) (hg : Gl X x) (hm : X.mg x = none) (hv : bootBuiltins x = some (.builtin id)) (ha : QA X C W (e :: es) gs)
    (hn : x ≠ "__name__" := by decide) (hdb : (x == ("__debug__" : Str)) = false := by decide) (he : starEach (e :: es) X.env = (false, eval e X.env) :: starEach es X.env := by rfl) (hpl : (backTo pos (starEach es X.env)).any (·.1) = false := by rfl) :
    QE X C W (.Call (.Name x p) (e :: es) [] pos) (gCall f gs) := by
  obtain ⟨ta, pa, qa⟩ := ha
  refine ⟨_, pe_callB ho hg hm hv pa hn hdb he hpl, fun σ H Z ι Γ M Q sl hr h => qa σ H Z ι Γ M _ sl hr (h.bind fun x M1 v H1 Z1 ι1 e1 hr1 r1 h1 => ?_)⟩
  obtain ⟨d, hd, h3⟩ := Post.of_opR (γ := D) (δ := V) h1
  exact hf v H1 Z1 ι1 M1 x d Q hr1 r1 hd h3.after
theorem qe_callTy {x T : Str} {p : Pos} {id : String} {r : List V → Hp → VK → Prop} {f : List MO → List D → Option D} (ho : CallR X (.type id) r) (hf : OkA X r f) (hg : Gl X x) (hm : X.mg x = none) (hv : bootBuiltins x = some (.type id)) (ha : QA X C W (e :: es) gs)
    (hn : x ≠ "__name__" := by decide) (hdb : (x == ("__debug__" : Str)) = false := by decide) (he : starEach (e :: es) X.env = (false, eval e X.env) :: starEach es X.env := by rfl) (hpl : (backTo pos (starEach es X.env)).any (·.1) = false := by rfl) :
    QE X C W (.Call (.Name x p) (e :: es) [] pos) (gCall f gs) := by
  obtain ⟨ta, pa, qa⟩ := ha
  refine ⟨_, pe_callTy ho hg hm hv pa hn hdb he hpl, fun σ H Z ι Γ M Q sl hr h => qa σ H Z ι Γ M _ sl hr (h.bind fun x M1 v H1 Z1 ι1 e1 hr1 r1 h1 => ?_)⟩
  obtain ⟨d, hd, h3⟩ := Post.of_opR (γ := D) (δ := V) h1
  exact hf v H1 Z1 ι1 M1 x d Q hr1 r1 hd h3.after

/-! tests -/
theorem qt_val (ha : QE X C W a ga) (he : ∀ whole, isTrue a X.env whole = (do let v ← whole; standAt a.pos; holding [v] (truthy v)) := by intro _; rfl) : QT X C W a (gVal ga) := by
  obtain ⟨ta, pa, qa⟩ := ha
  refine ⟨_, pt_val pa he, fun σ H Z ι Γ M Q sl hr h => qa σ H Z ι Γ M _ sl hr (h.bind fun x M1 v H1 Z1 ι1 e1 hr1 r1 h1 => ?_)⟩
  cases r1 with
  | bl k => exact ⟨k, rfl, h1 k H1 Z1 ι1 .refl hr1 rfl⟩
  | _ => exact h1.elim
theorem val_read {te : TE} (q : Rd1 X C W ga te) (σ : St) (H Z : Hp) (ι : Nat → Addr) (Γ : Env) (M : List MO) (Q : Bool → Hp → Prop) (sl : Slots X.K Z ι M.length Γ σ) (hr : HR X.K H Z ι M) (h : Post X C W rpT σ H Z ι M (gVal ga Γ M) Q) : tTest te σ H Q :=
  q σ H Z ι Γ M _ sl hr (Post.bind h fun x M1 v H1 Z1 ι1 e1 hr1 r1 h1 => by
    cases r1 with
    | bl k => exact ⟨k, rfl, h1 k H1 Z1 ι1 .refl hr1 rfl⟩
    | _ => exact h1.elim)
theorem qt_cmp {op : CmpOp} {r : R2} (ho : OpR X (compareOp op) r) (hf : Ok2 X r f) (ha : QE X C W a ga) (hb : QE X C W b gb) (hm : behindInMarks op b = false) : QT X C W (.Compare a [op] [b] pos) (gVal (gOp2 f ga gb)) := by
  obtain ⟨ta, pa, qa⟩ := ha
  obtain ⟨tb, pb, qb⟩ := hb
  exact ⟨_, pt_cmpR ho pa pb hm, val_read (op_read hf qa qb)⟩
theorem qt_of (h : QW X C W a gt) : QT X C W a gt := let ⟨t, p, q⟩ := h; ⟨t, p.pt, q⟩
theorem qw_and1 (h : QT X C W a gt) : QW X C W (.BoolOp .And [a] pos) gt := let ⟨t, p, q⟩ := h; ⟨t, pw_and1 p, q⟩
theorem qw_or1 (h : QT X C W a gt) : QW X C W (.BoolOp .Or [a] pos) gt := let ⟨t, p, q⟩ := h; ⟨t, pw_or1 p, q⟩
theorem qw_and {rest : List Expr} (ha : QT X C W a gt) (hb : QW X C W (.BoolOp .And (b :: rest) pos) gu) : QW X C W (.BoolOp .And (a :: b :: rest) pos) (gAndT gt gu) := by
  obtain ⟨ta, pa, qa⟩ := ha
  obtain ⟨tb, pb, qb⟩ := hb
  refine ⟨_, pw_and pa pb, fun σ H Z ι Γ M Q sl hr h => qa σ H Z ι Γ M _ sl hr (h.bind fun x M1 v H1 Z1 ι1 e1 hr1 r1 h1 => ?_)⟩
  have r1' : x = v := r1
  subst r1'
  cases x with
  | true => exact qb σ H1 Z1 ι1 Γ M1 _ (sl.ext e1) hr1 h1
  | false => exact h1 false H1 Z1 ι1 .refl hr1 rfl
theorem qw_or {rest : List Expr} (ha : QT X C W a gt) (hb : QW X C W (.BoolOp .Or (b :: rest) pos) gu) : QW X C W (.BoolOp .Or (a :: b :: rest) pos) (gOrT gt gu) := by
  obtain ⟨ta, pa, qa⟩ := ha
  obtain ⟨tb, pb, qb⟩ := hb
  refine ⟨_, pw_or pa pb, fun σ H Z ι Γ M Q sl hr h => qa σ H Z ι Γ M _ sl hr (h.bind fun x M1 v H1 Z1 ι1 e1 hr1 r1 h1 => ?_)⟩
  have r1' : x = v := r1
  subst r1'
  cases x with
  | true => exact h1 true H1 Z1 ι1 .refl hr1 rfl
  | false => exact qb σ H1 Z1 ι1 Γ M1 _ (sl.ext e1) hr1 h1
theorem qt_not (ha : QT X C W a gt) : QT X C W (.UnaryOp .Not a pos) (gNotT gt) := by
  obtain ⟨ta, pa, qa⟩ := ha
  refine ⟨_, pt_not pa, fun σ H Z ι Γ M Q sl hr h => qa σ H Z ι Γ M _ sl hr (h.bind fun x M1 v H1 Z1 ι1 e1 hr1 r1 h1 => ?_)⟩
  have r1' : x = v := r1
  subst r1'
  exact h1 _ H1 Z1 ι1 .refl hr1 rfl
theorem qe_if (hc : QT X C W c gt) (ha : QE X C W a ga) (hb : QE X C W b gb) : QE X C W (.IfExp c a b pos) (gIfE gt ga gb) := by
  obtain ⟨tc, pc, qc⟩ := hc
  obtain ⟨ta, pa, qa⟩ := ha
  obtain ⟨tb, pb, qb⟩ := hb
  refine ⟨_, pe_ifExp pc pa pb, fun σ H Z ι Γ M Q sl hr h => qc σ H Z ι Γ M _ sl hr (h.bind fun x M1 v H1 Z1 ι1 e1 hr1 r1 h1 => ?_)⟩
  have r1' : x = v := r1
  subst r1'
  cases x with
  | true => exact qa σ H1 Z1 ι1 Γ M1 _ (sl.ext e1) hr1 h1
  | false => exact qb σ H1 Z1 ι1 Γ M1 _ (sl.ext e1) hr1 h1
theorem qe_one {op} (h : QE X C W a ga) : QE X C W (.BoolOp op [a] pos) ga := let ⟨t, p, q⟩ := h; ⟨t, pe_one p, q⟩
theorem qe_and {rest : List Expr} (ha : QE X C W a ga) (hb : QE X C W (.BoolOp .And (b :: rest) pos) gb) : QE X C W (.BoolOp .And (a :: b :: rest) pos) (gAndV ga gb) := by
  obtain ⟨ta, pa, qa⟩ := ha
  obtain ⟨tb, pb, qb⟩ := hb
  refine ⟨_, pe_and pa pb, fun σ H Z ι Γ M Q sl hr h => qa σ H Z ι Γ M _ sl hr (h.bind fun x M1 v H1 Z1 ι1 e1 hr1 r1 h1 => ?_)⟩
  cases r1 with
  | bl k =>
    refine ⟨k, rfl, ?_⟩
    cases k with
    | true => exact qb σ H1 Z1 ι1 Γ M1 _ (sl.ext e1) hr1 h1
    | false => exact h1 _ H1 Z1 ι1 .refl hr1 (.bl false)
  | _ => exact h1.elim
def dNot (_ : List MO) : D → Option D
  | .bl b => some (.bl (!b))
  | _ => none
theorem qe_not (ha : QE X C W a ga) : QE X C W (.UnaryOp .Not a pos) (gOp1 dNot ga) := by
  obtain ⟨ta, pa, qa⟩ := ha
  refine ⟨_, pe_not pa, fun σ H Z ι Γ M Q sl hr h => qa σ H Z ι Γ M _ sl hr (h.bind fun x M1 v H1 Z1 ι1 e1 hr1 r1 h1 => ?_)⟩
  cases r1 with
  | bl k => exact ⟨k, rfl, h1 _ H1 Z1 ι1 .refl hr1 (.bl _)⟩
  | _ => exact h1.elim
end
end Bk

set_option Elab.async false
set_option linter.all false
set_option maxRecDepth 100000
set_option maxHeartbeats 1000000
namespace Bk
open PySem PySem.Spec PyProof.Rows L2

/-! ### what is walked -/
abbrev GI := GA
/-- cd: what must hold of the store at each turn -/
def ItC (cd : List MO → Prop) (K : PySem.W.Frag) (J : It) (items : List D) (Z : Hp) (ι : Nat → Addr) (n : Nat) : Prop :=
  ∀ (i : Nat) (H' Z' : Hp) (ι' : Nat → Addr) (M' : List MO), Sub Z Z' → (∀ k, k < n → ι' k = ι k) → n ≤ M'.length → HR K H' Z' ι' M' → cd M' →
    (items.length = i → J.stop i H') ∧ ∀ d, items[i]? = some d → J.go i H' ∧ ∀ x H2, J.yld i H' x H2 → ∃ Z2, Ext H' Z' ι' M'.length H2 Z2 ι' M'.length ∧ HR K H2 Z2 ι' M' ∧ Rp K Z2 ι' M'.length d x
abbrev anyM : List MO → Prop := fun _ => True
abbrev ItR := ItC anyM
abbrev rpI (K : PySem.W.Frag) : RpK (List D) It := fun Z ι n items J => ItR K J items Z ι n
def QI (X : Cx) (C : CT) (W : WX) (tg e : Expr) (g : GI) : Prop := ∃ wi, PI X tg e wi ∧ ∀ (σ : St) (H Z : Hp) (ι : Nat → Addr) (Γ : Env) (M : List MO) (Q : It → Hp → Prop), Slots X.K Z ι M.length Γ σ → HR X.K H Z ι M → Post X C W (rpI X.K) σ H Z ι M (g Γ M) Q → wi σ H Q
def rngL (lo : Int) : Nat → List D
  | 0 => []
  | n + 1 => .int lo :: rngL (lo + 1) n
theorem rngL_get : ∀ (n : Nat) (lo : Int) (i : Nat) (d : D), (rngL lo n)[i]? = some d → i < n ∧ d = .int (lo + i)
  | 0, _, _, _, h => by simp [rngL] at h
  | n + 1, lo, 0, d, h => by
    simp [rngL] at h
    exact ⟨Nat.succ_pos _, by rw [← h]; simp⟩
  | n + 1, lo, i + 1, d, h => by
    simp only [rngL, List.getElem?_cons_succ] at h
    obtain ⟨h1, h2⟩ := rngL_get n (lo + 1) i d h
    refine ⟨Nat.succ_lt_succ h1, ?_⟩
    rw [h2]
    congr 1
    push_cast
    omega
theorem rngL_length : ∀ (n : Nat) (lo : Int), (rngL lo n).length = n
  | 0, _ => rfl
  | n + 1, lo => by simp [rngL, rngL_length n]
def seqD : D → Option (List D)
  | .lst ds => some ds
  | .tup ds => some ds
  | .ptu ds => some ds
  | _ => none
def gSeqI (ge : GE) : GI := fun Γ M => (ge Γ M).bind fun d M1 => opR (seqD d) M1
def inR (i : Int) : Bool := decide (-(2 ^ 62) ≤ i) && decide (i < 2 ^ 62)
def rng1 : List D → Option (List D)
  | [.int j] => if inR j then some (rngL 0 j.toNat) else none
  | _ => none
def rng2 : List D → Option (List D)
  | [.int i, .int j] => if inR i && inR j then some (rngL i (j - i).toNat) else none
  | _ => none
def gRng1 (ga : GA) : GI := fun Γ M => (ga Γ M).bind fun ds M1 => opR (rng1 ds) M1
def gRng2 (ga : GA) : GI := fun Γ M => (ga Γ M).bind fun ds M1 => opR (rng2 ds) M1
section
variable {X : Cx} {C : CT} {W : WX} {tg e a b : Expr} {g ga gb : GE} {gs : GA} {pos : Pos}
theorem itr_l {K : PySem.W.Frag} {Z : Hp} {ι : Nat → Addr} {n : Nat} {a : Addr} {xs : List V} {ds : List D} (s : ExL K Z a xs) (r : Rps K Z ι n ds xs) : ItR K (Itl K a) ds Z ι n := by
  intro i H' Z' ι' M' hz hi hn hr _
  have sH : SqL K H' a xs := (subL (fun a o h => hr.sub _ _ (hz _ _ h)) s).sq
  refine ⟨fun hl => ⟨xs, sH, by rw [← r.length]; exact Nat.le_of_eq hl⟩, fun d hd => ?_⟩
  obtain ⟨v, hv, rv⟩ := r.get hd
  refine ⟨⟨xs, v, sH, hv⟩, fun x H2 hy => ?_⟩
  obtain ⟨rfl, hx⟩ := hy
  have ex : xs[i]? = some x := hx _ sH
  rw [hv] at ex
  cases ex
  exact ⟨Z', .refl, hr, Rp.mono hz hi hn _ _ rv⟩
theorem itr_t {K : PySem.W.Frag} {Z : Hp} {ι : Nat → Addr} {n : Nat} {a : Addr} {xs : List V} {ds : List D} (s : SqT K Z a xs) (r : Rps K Z ι n ds xs) : ItR K (Itt K a) ds Z ι n := by
  intro i H' Z' ι' M' hz hi hn hr _
  have sH : SqT K H' a xs := subT (fun a o h => hr.sub _ _ (hz _ _ h)) s
  refine ⟨fun hl => ⟨xs, sH, by rw [← r.length]; exact Nat.le_of_eq hl⟩, fun d hd => ?_⟩
  obtain ⟨v, hv, rv⟩ := r.get hd
  refine ⟨⟨xs, v, sH, hv⟩, fun x H2 hy => ?_⟩
  obtain ⟨rfl, hx⟩ := hy
  have ex : xs[i]? = some x := hx _ sH
  rw [hv] at ex
  cases ex
  exact ⟨Z', .refl, hr, Rp.mono hz hi hn _ _ rv⟩
theorem itr_r {K : PySem.W.Frag} {Z : Hp} {ι : Nat → Addr} {n : Nat} {lo : Int} {m : Nat} : ItR K (Itr lo m) (rngL lo m) Z ι n := by
  intro i H' Z' ι' M' hz hi hn hr _
  refine ⟨fun hl => by rw [rngL_length] at hl; exact Nat.le_of_eq hl, fun d hd => ?_⟩
  obtain ⟨h1, rfl⟩ := rngL_get _ _ _ _ hd
  refine ⟨h1, fun x H2 hy => ?_⟩
  obtain ⟨rfl, rfl⟩ := hy
  exact ⟨Z', .refl, hr, .int _⟩
/-- a list or a tuple -/
def iSeq (K : PySem.W.Frag) (tl : TE) : TI := fun σ H R => tl σ H fun x H1 => ∃ a, x = .ref a ∧ (((∃ xs, SqL K H1 a xs) ∧ R (Itl K a) H1) ∨ ((∃ xs, SqT K H1 a xs) ∧ R (Itt K a) H1))
theorem pi_seq {tl : TE} (hl : PE X e tl) : PI X tg e (iSeq X.K tl) := by
  refine ⟨fun pins s σ H R I h => thn (hl.run pins s σ H _ I h) fun v s1 ⟨x, H1, J1, r1, a, ex, q1⟩ => ?_⟩
  subst ex
  cases r1
  have fp : ∀ b ∈ [s1.heap.objs.size], H1 b = none ∧ FpOk X pins H1 b := fun b hb => by
    obtain rfl : b = s1.heap.objs.size := by simpa using hb
    have z := J1.hok.fresh (Nat.le_refl _)
    exact ⟨z, J1.fpOk (Nat.le_refl _) z⟩
  rcases q1 with ⟨⟨xs, hq⟩, q⟩ | ⟨⟨xs, hq⟩, q⟩
  · obtain ⟨its, rv, p, hz⟩ := J1.list hq
    refine wpAny_pyIter_list p.isList ⟨_, _, _, _, H1, rfl, J1.kept (t' := s1.toks) fun b o e => Heap.get?_push_of_some _ e, turn_list a s1.heap.objs.size, ⟨_, Heap.get?_push_size _ rfl, rfl, rfl⟩, fun b hb => (fp b hb).2, q⟩
  · obtain ⟨its, rv, p, hz⟩ := J1.tuple hq
    refine wpAny_pyIter_tuple (show s1.heap.IsTuple a its.toArray from p) ⟨_, _, _, _, H1, rfl, J1.kept (t' := s1.toks) fun b o e => Heap.get?_push_of_some _ e, turn_tuple a s1.heap.objs.size, ⟨_, Heap.get?_push_size _ rfl, rfl, rfl⟩, fun b hb => (fp b hb).2, q⟩
theorem qi_seq (ha : QE X C W e g) : QI X C W tg e (gSeqI g) := by
  obtain ⟨ta, pa, qa⟩ := ha
  refine ⟨_, pi_seq pa, fun σ H Z ι Γ M Q sl hr h => qa σ H Z ι Γ M _ sl hr (h.bind fun x M1 v H1 Z1 ι1 e1 hr1 r1 h1 => ?_)⟩
  obtain ⟨ds, hd, h2⟩ := Post.of_opR (γ := D) (δ := V) h1
  cases r1 with
  | lst s r =>
    cases hd
    exact ⟨_, rfl, .inl ⟨⟨_, (subL hr1.sub s).sq⟩, h2 _ H1 Z1 ι1 .refl hr1 (itr_l s r)⟩⟩
  | tup s r =>
    cases hd
    exact ⟨_, rfl, .inr ⟨⟨_, subT hr1.sub s⟩, h2 _ H1 Z1 ι1 .refl hr1 (itr_t s r)⟩⟩
  | ptu s r =>
    cases hd
    exact ⟨_, rfl, .inr ⟨⟨_, subT hr1.sub s.sq⟩, h2 _ H1 Z1 ι1 .refl hr1 (itr_t s.sq r)⟩⟩
  | _ => cases hd
theorem qi_rng1 {p : Pos} (hg : Gl X "range") (hm : X.mg "range" = none) (ha : QA X C W [a] gs) (hs : starEach [a] X.env = [(false, eval a X.env)] := by rfl) : QI X C W tg (.Call (.Name "range" p) [a] [] pos) (gRng1 gs) := by
  obtain ⟨ta, pa, qa⟩ := ha
  refine ⟨_, pi_range1 hg hm pa hs, fun σ H Z ι Γ M Q sl hr h => qa σ H Z ι Γ M _ sl hr (h.bind fun x M1 v H1 Z1 ι1 e1 hr1 r1 h1 => ?_)⟩
  obtain ⟨ds, hd, h2⟩ := Post.of_opR (γ := D) (δ := V) h1
  unfold rng1 at hd
  split at hd
  · rename_i j
    cases r1 with
    | cons r rr =>
      cases r
      cases rr
      by_cases hj : inR j = true
      · rw [if_pos hj] at hd
        cases hd
        simp only [inR, Bool.and_eq_true, decide_eq_true_eq] at hj
        exact ⟨j, rfl, hj.1, hj.2, h2 _ H1 Z1 ι1 .refl hr1 itr_r⟩
      · rw [if_neg hj] at hd
        cases hd
  · cases hd
theorem qi_rng2 {p : Pos} (hg : Gl X "range") (hm : X.mg "range" = none) (ha : QA X C W [a, b] gs) (hs : starEach [a, b] X.env = [(false, eval a X.env), (false, eval b X.env)] := by rfl) (hs2 : starEach [b] X.env = [(false, eval b X.env)] := by rfl) : QI X C W tg (.Call (.Name "range" p) [a, b] [] pos) (gRng2 gs) := by
  obtain ⟨ta, pa, qa⟩ := ha
  refine ⟨_, pi_range2 hg hm pa hs (hs2 := hs2), fun σ H Z ι Γ M Q sl hr h => qa σ H Z ι Γ M _ sl hr (h.bind fun x M1 v H1 Z1 ι1 e1 hr1 r1 h1 => ?_)⟩
  obtain ⟨ds, hd, h2⟩ := Post.of_opR (γ := D) (δ := V) h1
  unfold rng2 at hd
  split at hd
  · rename_i i j
    cases r1 with
    | cons r rr =>
      cases r
      cases rr with
      | cons r2 rr =>
        cases r2
        cases rr
        by_cases hj : (inR i && inR j) = true
        · rw [if_pos hj] at hd
          cases hd
          simp only [inR, Bool.and_eq_true, decide_eq_true_eq] at hj
          exact ⟨i, j, rfl, ⟨hj.1.1, hj.1.2, hj.2.1, hj.2.2⟩, h2 _ H1 Z1 ι1 .refl hr1 itr_r⟩
        · rw [if_neg hj] at hd
          cases hd
  · cases hd
end

/-! ### targets -/
abbrev GG := D → Env → Option Env
abbrev GGs := List D → Env → Option Env
def gTo (i : Nat) : GG := fun d Γ => some (Γ.set i (some d))
def gToT (gs : GGs) : GG := fun d Γ => match d with
  | .tup ds => gs ds Γ
  | _ => none
def gToNil : GGs := fun ds Γ => match ds with
  | [] => some Γ
  | _ :: _ => none
def gToCons (g : GG) (gs : GGs) : GGs := fun ds Γ => match ds with
  | [] => none
  | d :: r => (g d Γ).bind fun Γ1 => gs r Γ1
def Wip (is : List Nat) (σ σ' : St) : Prop := ∀ vs : List Nat, (∀ i ∈ is, i ∈ vs) → wipe σ' vs = wipe σ vs
theorem wipe_set {σ : St} {i : Nat} {v : V} : ∀ {vs : List Nat}, i ∈ vs → wipe (σ.set i (some v)) vs = wipe σ vs
  | [], h => nomatch h
  | j :: vs, h => by
    show (wipe (σ.set i (some v)) vs).set j none = (wipe σ vs).set j none
    by_cases hm : i ∈ vs
    · rw [wipe_set hm]
    · have e : i = j := by
        rcases List.mem_cons.mp h with e | e
        · exact e
        · exact absurd e hm
      subst e
      have z : ∀ vs : List Nat, i ∉ vs → wipe (σ.set i (some v)) vs = (wipe σ vs).set i (some v) := by
        intro vs
        induction vs with
        | nil => intro _; rfl
        | cons k vs ih =>
          intro hk
          show (wipe (σ.set i (some v)) vs).set k none = ((wipe σ vs).set k none).set i (some v)
          rw [ih fun q => hk (List.mem_cons_of_mem _ q), List.set_comm _ _ (fun q => hk (by rw [q]; exact List.mem_cons_self))]
      rw [z vs hm, List.set_set]
def QG (X : Cx) (tg : Expr) (g : GG) (is : List Nat) : Prop := ∃ t, PG X tg t ∧ ∀ (v : V) (σ : St) (H Z : Hp) (ι : Nat → Addr) (n : Nat) (d : D) (Γ Γ' : Env) (Q : L2.St → Hp → Prop), Sub Z H → Slots X.K Z ι n Γ σ → Rp X.K Z ι n d v → g d Γ = some Γ' →
  (∀ σ', Slots X.K Z ι n Γ' σ' → Wip is σ σ' → Q σ' H) → t v σ H Q
def QGs (X : Cx) (tgs : List Expr) (g : GGs) (is : List Nat) : Prop := ∃ t, PGs X tgs t ∧ ∀ (vs : List V) (σ : St) (H Z : Hp) (ι : Nat → Addr) (n : Nat) (ds : List D) (Γ Γ' : Env) (Q : L2.St → Hp → Prop), Sub Z H → Slots X.K Z ι n Γ σ → Rps X.K Z ι n ds vs → g ds Γ = some Γ' →
  (∀ σ', Slots X.K Z ι n Γ' σ' → Wip is σ σ' → Q σ' H) → t vs σ H Q
section
variable {X : Cx} {e : Expr} {es : List Expr} {g : GG} {gs : GGs} {is js : List Nat} {pos : Pos}
theorem qg_name (i : Nat) {x : Str} (hN : X.N.Nodup) (hi : X.N[i]? = some x := by rfl) (hx : Loc X.env.scope x := by first | exact Or.inl rfl | exact Or.inr rfl)
    (hf : X.fn x = true ∨ X.env.scope.names.lookup x = some .local := by first | exact Or.inl rfl | exact Or.inr rfl) : QG X (.Name x pos) (gTo i) [i] := by
  refine ⟨_, pg_name hN hi hx hf, fun v σ H Z ι n d Γ Γ' Q hs sl r e h => ?_⟩
  cases e
  exact h _ (sl.set i r) fun vs hv => wipe_set (hv i (by simp))
theorem qgs_nil : QGs X [] gToNil [] := by
  refine ⟨_, pgs_nil, fun vs σ H Z ι n ds Γ Γ' Q hs sl r e h => ?_⟩
  cases r with
  | nil =>
    cases e
    exact ⟨rfl, h _ sl fun _ _ => rfl⟩
  | cons _ _ => cases e
theorem qgs_cons (h1 : QG X e g is) (h2 : QGs X es gs js) (hs : (assignEach (e :: es) X.env).map (·.2) = assign e X.env :: (assignEach es X.env).map (·.2) := by rfl) : QGs X (e :: es) (gToCons g gs) (is ++ js) := by
  obtain ⟨t1, p1, q1⟩ := h1
  obtain ⟨t2, p2, q2⟩ := h2
  refine ⟨_, pgs_cons p1 p2 hs, fun vs σ H Z ι n ds Γ Γ' Q hs sl r e h => ?_⟩
  cases r with
  | nil => cases e
  | cons r1 r2 =>
    rename_i d v ds vs
    have e' : (g d Γ).bind (fun Γ1 => gs ds Γ1) = some Γ' := e
    cases eg : g d Γ with
    | none => rw [eg] at e'; cases e'
    | some Γ1 =>
      rw [eg] at e'
      refine ⟨v, vs, rfl, q1 v σ H Z ι n d Γ Γ1 _ hs sl r1 eg fun σ1 s1 w1 => q2 vs σ1 H Z ι n ds Γ1 Γ' _ hs s1 r2 e' fun σ2 s2 w2 => h σ2 s2 fun us hu => ?_⟩
      rw [w2 us fun i hi => hu i (List.mem_append_right _ hi), w1 us fun i hi => hu i (List.mem_append_left _ hi)]
theorem qg_tup {k : Nat} {n : Nat} (hc : X.calm = true) (h : QGs X es gs is) (hn : (assignEach es X.env).length = n := by rfl) (hst : (assignEach es X.env).findIdx? (·.1) = none := by rfl) (hlen : ∀ ds Γ Γ', gs ds Γ = some Γ' → ds.length = n) : QG X (.Tuple es k pos) (gToT gs) is := by
  obtain ⟨t, p, q⟩ := h
  refine ⟨_, pg_tup hc p hn (hst := hst), fun v σ H Z ι m d Γ Γ' Q hs sl r e h => ?_⟩
  cases r with
  | tup s r =>
    have e' : gs _ Γ = some Γ' := e
    exact ⟨_, _, rfl, subT hs s, by rw [← r.length]; exact hlen _ _ _ e', q _ σ H Z ι m _ Γ Γ' Q hs sl r e' h⟩
  | _ => cases e
theorem len_nil : ∀ (ds : List D) (Γ Γ' : Env), gToNil ds Γ = some Γ' → ds.length = 0 := fun ds Γ Γ' e => by
  cases ds with
  | nil => rfl
  | cons _ _ => cases e
theorem len_cons {g : GG} {gs : GGs} {n : Nat} (h : ∀ (ds : List D) (Γ Γ' : Env), gs ds Γ = some Γ' → ds.length = n) : ∀ (ds : List D) (Γ Γ' : Env), gToCons g gs ds Γ = some Γ' → ds.length = n + 1 := fun ds Γ Γ' e => by
  cases ds with
  | nil => cases e
  | cons d ds =>
    have e' : (g d Γ).bind (fun Γ1 => gs ds Γ1) = some Γ' := e
    cases eg : g d Γ with
    | none => rw [eg] at e'; cases e'
    | some Γ1 =>
      rw [eg] at e'
      rw [List.length_cons, h _ _ _ e']
end

/-! ### statements -/
def PostS (X : Cx) (C : CT) (W : WX) (H Z : Hp) (ι : Nat → Addr) (M : List MO) (r : RS) (Dd : Ends) : Prop := match r with
  | .nx Γ M' => ∀ (σ' : L2.St) (H' Z' : Hp) (ι' : Nat → Addr), Ext H Z ι M.length H' Z' ι' M'.length → HR X.K H' Z' ι' M' → Slots X.K Z' ι' M'.length Γ σ' → Dd.nx σ' H'
  | .bk Γ M' => ∀ (σ' : L2.St) (H' Z' : Hp) (ι' : Nat → Addr), Ext H Z ι M.length H' Z' ι' M'.length → HR X.K H' Z' ι' M' → Slots X.K Z' ι' M'.length Γ σ' → Dd.bk σ' H'
  | .ct Γ M' => ∀ (σ' : L2.St) (H' Z' : Hp) (ι' : Nat → Addr), Ext H Z ι M.length H' Z' ι' M'.length → HR X.K H' Z' ι' M' → Slots X.K Z' ι' M'.length Γ σ' → Dd.ct σ' H'
  | .rt d M' => ∀ (v : V) (H' Z' : Hp) (ι' : Nat → Addr), Ext H Z ι M.length H' Z' ι' M'.length → HR X.K H' Z' ι' M' → Rp X.K Z' ι' M'.length d v → Dd.rt v H'
  | .exc c d Γ M' => ∀ (cls : Value) (dd : Option Addr) (σ' : L2.St) (H' Z' : Hp) (ι' : Nat → Addr), Ext H Z ι M.length H' Z' ι' M'.length → HR X.K H' Z' ι' M' → Slots X.K Z' ι' M'.length Γ σ' → ExcR X.K C H' Z' ι' M'.length c d cls dd → W cls dd σ' H'
  | .bad => False
def QS (X : Cx) (C : CT) (W : WX) (st : Stmt) (g : GS) : Prop := ∃ ts, PS X st ts ∧ ∀ (Dd : Ends) (σ : L2.St) (H Z : Hp) (ι : Nat → Addr) (Γ : Env) (M : List MO), Slots X.K Z ι M.length Γ σ → HR X.K H Z ι M → PostS X C W H Z ι M (g Γ M) Dd → ts Dd σ H
def QSs (X : Cx) (C : CT) (W : WX) (st : List Stmt) (g : GS) : Prop := ∃ ts, PSs X st ts ∧ ∀ (Dd : Ends) (σ : L2.St) (H Z : Hp) (ι : Nat → Addr) (Γ : Env) (M : List MO), Slots X.K Z ι M.length Γ σ → HR X.K H Z ι M → PostS X C W H Z ι M (g Γ M) Dd → ts Dd σ H
def R.thenS {α : Type} (Γ : Env) (r : R α) (f : α → List MO → RS) : RS := match r with
  | .ok a M => f a M
  | .exc c d M => .exc c d Γ M
  | .bad => .bad
def RS.next (r : RS) (f : Env → List MO → RS) : RS := match r with
  | .nx Γ M => f Γ M
  | r => r
def gPass : GS := fun Γ M => .nx Γ M
def gSeq (a b : GS) : GS := fun Γ M => (a Γ M).next b
def gExpr (ge : GE) : GS := fun Γ M => (ge Γ M).thenS Γ fun _ M1 => .nx Γ M1
def gRet (ge : GE) : GS := fun Γ M => (ge Γ M).thenS Γ fun d M1 => .rt d M1
def gRetN : GS := fun _ M => .rt .non M
def gIf (c : GT) (a b : GS) : GS := fun Γ M => (c Γ M).thenS Γ fun k M1 => if k = true then a Γ M1 else b Γ M1
def gAsg (ge : GE) (gg : GG) : GS := fun Γ M => (ge Γ M).thenS Γ fun d M1 => match gg d Γ with
  | some Γ' => .nx Γ' M1
  | none => .bad
def gBad : GS := fun _ _ => .bad
def gForget (is : List Nat) : GS := fun Γ M => .nx (forget Γ is) M
/-- a list of ours that stands in a slot is left as it is from now on -/
def gFz (i : Nat) : GS := fun Γ M => match Γ[i]? with
  | some (some (.ref k)) => match M[k]? with
    | some (.lst ds) => .nx (Γ.set i (some (.lst ds))) (M.set k .dead)
    | some (.dct ks vs) => .nx (Γ.set i (some (.dct ks vs))) (M.set k .dead)
    | _ => .bad
  | _ => .bad
/-- what the turn has made is dropped -/
def gCut (m : Nat) (r : RS) : RS := match r with
  | .nx Γ M => if m ≤ M.length ∧ cutOk m M = true then .nx (clean m Γ) (M.take m) else .bad
  | .ct Γ M => if m ≤ M.length ∧ cutOk m M = true then .ct (clean m Γ) (M.take m) else .bad
  | r => r
def gScope (a : GS) : GS := fun Γ M => gCut M.length (a Γ M)
/-- behind a loop's turn -/
def RS.turn (r : RS) (f : Env → List MO → RS) : RS := match r with
  | .nx Γ M => f Γ M
  | .ct Γ M => f Γ M
  | .bk Γ M => .nx Γ M
  | r => r
def optS (o : Option Env) (f : Env → RS) : RS := match o with
  | some Γ => f Γ
  | none => .bad
def gForL (gg : GG) (body : GS) : List D → GS
  | [] => gPass
  | d :: ds => fun Γ M => optS (gg d Γ) fun Γ1 => (body Γ1 M).turn (gForL gg body ds)
def gFor (gi : GI) (gg : GG) (body : GS) : GS := fun Γ M => (gi Γ M).thenS Γ fun ds M1 => gForL gg body ds Γ M1
section
variable {X : Cx} {C : CT} {W : WX} {H Z H1 Z1 : Hp} {ι ι1 : Nat → Addr} {M M1 : List MO} {Dd : Ends}
theorem PostS.shift {r : RS} (h : PostS X C W H Z ι M r Dd) (e : Ext H Z ι M.length H1 Z1 ι1 M1.length) (hr : HR X.K H1 Z1 ι1 M1) : PostS X C W H1 Z1 ι1 M1 r Dd := by
  cases r with
  | nx Γ M' => exact fun σ' H' Z' ι' e' => h σ' H' Z' ι' (e.trans e' hr.ali)
  | bk Γ M' => exact fun σ' H' Z' ι' e' => h σ' H' Z' ι' (e.trans e' hr.ali)
  | ct Γ M' => exact fun σ' H' Z' ι' e' => h σ' H' Z' ι' (e.trans e' hr.ali)
  | rt d M' => exact fun σ' H' Z' ι' e' => h σ' H' Z' ι' (e.trans e' hr.ali)
  | exc c d Γ M' => exact fun cls dd σ' H' Z' ι' e' => h cls dd σ' H' Z' ι' (e.trans e' hr.ali)
  | bad => exact h
theorem PostS.bind {α β : Type} {rp1 : RpK α β} {r : R α} {f : α → List MO → RS} {Γ : Env} {σ : St} {Q1 : β → Hp → Prop} (h : PostS X C W H Z ι M (r.thenS Γ f) Dd) (sl : Slots X.K Z ι M.length Γ σ)
    (k : ∀ (a : α) (M1 : List MO) (b : β) (H1 Z1 : Hp) (ι1 : Nat → Addr), Ext H Z ι M.length H1 Z1 ι1 M1.length → HR X.K H1 Z1 ι1 M1 → rp1 Z1 ι1 M1.length a b → PostS X C W H1 Z1 ι1 M1 (f a M1) Dd → Q1 b H1) :
    Post X C W rp1 σ H Z ι M r Q1 := by
  cases r with
  | ok a M' => exact fun b H' Z' ι' e' hr' rb => k a M' b H' Z' ι' e' hr' rb (PostS.shift (r := f a M') h e' hr')
  | exc c d M' => exact fun cls dd H' Z' ι' e' hr' rb => h cls dd σ H' Z' ι' e' hr' (sl.ext e') rb
  | bad => exact h
theorem PostS.next {r : RS} {f : Env → List MO → RS} {nx : L2.St → Hp → Prop} (h : PostS X C W H Z ι M (r.next f) Dd)
    (k : ∀ (Γ1 : Env) (M1 : List MO) (σ1 : L2.St) (H1 Z1 : Hp) (ι1 : Nat → Addr), Ext H Z ι M.length H1 Z1 ι1 M1.length → HR X.K H1 Z1 ι1 M1 → Slots X.K Z1 ι1 M1.length Γ1 σ1 → PostS X C W H1 Z1 ι1 M1 (f Γ1 M1) Dd → nx σ1 H1) :
    PostS X C W H Z ι M r { Dd with nx := nx } := by
  cases r with
  | nx Γ M' => exact fun σ' H' Z' ι' e' hr' sl => k Γ M' σ' H' Z' ι' e' hr' sl (PostS.shift (r := f Γ M') h e' hr')
  | bk Γ M' => exact h
  | ct Γ M' => exact h
  | rt d M' => exact h
  | exc c d Γ M' => exact h
  | bad => exact h
variable {st : Stmt} {rest : List Stmt} {e tg : Expr} {ge : GE} {gt : GT} {gg : GG} {g g2 : GS} {pos : Pos}
theorem qss_nil : QSs X C W [] gPass := ⟨_, pss_nil, fun Dd σ H Z ι Γ M sl hr h => h σ H Z ι .refl hr sl⟩
theorem qss_cons (h1 : QS X C W st g) (h2 : QSs X C W rest g2) : QSs X C W (st :: rest) (gSeq g g2) := by
  obtain ⟨t1, p1, q1⟩ := h1
  obtain ⟨t2, p2, q2⟩ := h2
  exact ⟨_, pss_cons p1 p2, fun Dd σ H Z ι Γ M sl hr h => q1 _ σ H Z ι Γ M sl hr (PostS.next h fun Γ1 M1 σ1 H1 Z1 ι1 e1 hr1 sl1 h1 => q2 Dd σ1 H1 Z1 ι1 Γ1 M1 sl1 hr1 h1)⟩
theorem qss_one (h1 : QS X C W st g) : QSs X C W [st] g := let ⟨t, p, q⟩ := h1; ⟨t, pss_one p, q⟩
/-- a step of our own behind a statement -/
theorem qs_ghost {g3 : GS} (h1 : QS X C W st g) (h : ∀ (Dd : Ends) (σ : L2.St) (H Z : Hp) (ι : Nat → Addr) (Γ : Env) (M : List MO), Slots X.K Z ι M.length Γ σ → HR X.K H Z ι M → PostS X C W H Z ι M (g3 Γ M) Dd → Dd.nx σ H) : QS X C W st (gSeq g g3) := by
  obtain ⟨t1, p1, q1⟩ := h1
  exact ⟨_, p1, fun Dd σ H Z ι Γ M sl hr hp => q1 Dd σ H Z ι Γ M sl hr (PostS.next (nx := Dd.nx) hp fun Γ1 M1 σ1 H1 Z1 ι1 e1 hr1 sl1 h1 => h Dd σ1 H1 Z1 ι1 Γ1 M1 sl1 hr1 h1)⟩
theorem qs_forget (is : List Nat) (h1 : QS X C W st g) : QS X C W st (gSeq g (gForget is)) := qs_ghost h1 fun Dd σ H Z ι Γ M sl hr h => h σ H Z ι .refl hr (sl.forget is)
theorem qs_fz (i : Nat) (h1 : QS X C W st g) : QS X C W st (gSeq g (gFz i)) := qs_ghost h1 fun Dd σ H Z ι Γ M sl hr h => by
  unfold gFz at h
  cases e : Γ[i]? with
  | none => rw [e] at h; exact h.elim
  | some o =>
    rw [e] at h
    cases o with
    | none => exact h.elim
    | some d =>
      cases d with
      | ref k =>
        simp only at h
        cases e2 : M[k]? with
        | none => rw [e2] at h; exact h.elim
        | some u =>
          rw [e2] at h
          cases u with
          | dead => exact h.elim
          | dki kvs0 => exact h.elim
          | tab nm0 => exact h.elim
          | obj nm fs => exact h.elim
          | lst ds =>
            obtain ⟨xs, r, hr1, x1, rp⟩ := hr.freeze e2
            obtain ⟨v, hv, rv⟩ := sl.2 i _ e
            cases rv
            have q := (sl.ext x1).set i rp
            have es : σ.set i (some (V.ref (ι k))) = σ := by
              have lt : i < σ.length := (List.getElem?_eq_some_iff.mp hv).1
              have ev : σ[i] = some (V.ref (ι k)) := (List.getElem?_eq_some_iff.mp hv).2
              rw [← ev, List.set_getElem_self]
            rw [es] at q
            exact h σ H _ ι x1 hr1 q
          | dct ks vs =>
            obtain ⟨ho, r, hr1, x1, rp⟩ := hr.freezeD e2
            obtain ⟨v, hv, rv⟩ := sl.2 i _ e
            cases rv
            have q := (sl.ext x1).set i rp
            have es : σ.set i (some (V.ref (ι k))) = σ := by
              have lt : i < σ.length := (List.getElem?_eq_some_iff.mp hv).1
              have ev : σ[i] = some (V.ref (ι k)) := (List.getElem?_eq_some_iff.mp hv).2
              rw [← ev, List.set_getElem_self]
            rw [es] at q
            exact h σ H _ ι x1 hr1 q
      | _ => exact h.elim
theorem qs_expr (ha : QE X C W e ge) (hs : swapsWith e none pos.line X.env = pure false := by rfl) : QS X C W (.Expr e pos) (gExpr ge) := by
  obtain ⟨ta, pa, qa⟩ := ha
  exact ⟨_, ps_expr pa hs, fun Dd σ H Z ι Γ M sl hr h => qa σ H Z ι Γ M _ sl hr (PostS.bind h sl fun x M1 v H1 Z1 ι1 e1 hr1 r1 h1 => h1 σ H1 Z1 ι1 .refl hr1 (sl.ext e1))⟩
theorem qs_ret (ha : QE X C W e ge) : QS X C W (.Return (some e) pos) (gRet ge) := by
  obtain ⟨ta, pa, qa⟩ := ha
  exact ⟨_, ps_ret pa, fun Dd σ H Z ι Γ M sl hr h => qa σ H Z ι Γ M _ sl hr (PostS.bind h sl fun x M1 v H1 Z1 ι1 e1 hr1 r1 h1 => h1 v H1 Z1 ι1 .refl hr1 r1)⟩
theorem qs_if {c : Expr} {a b : List Stmt} (hc : QT X C W c gt) (ha : QSs X C W a g) (hb : QSs X C W b g2) : QS X C W (.If c a b pos) (gIf gt g g2) := by
  obtain ⟨tc, pc, qc⟩ := hc
  obtain ⟨ta, pa, qa⟩ := ha
  obtain ⟨tb, pb, qb⟩ := hb
  refine ⟨_, ps_if pc pa pb, fun Dd σ H Z ι Γ M sl hr h => qc σ H Z ι Γ M _ sl hr (PostS.bind h sl fun x M1 v H1 Z1 ι1 e1 hr1 r1 h1 => ?_)⟩
  have r1' : x = v := r1
  subst r1'
  cases x with
  | true => exact qa Dd σ H1 Z1 ι1 Γ M1 (sl.ext e1) hr1 h1
  | false => exact qb Dd σ H1 Z1 ι1 Γ M1 (sl.ext e1) hr1 h1
theorem qs_asg {is : List Nat} (ha : QE X C W e ge) (hg : QG X tg gg is) (hs : swapsWithSole [tg] e pos.line X.env = pure false := by rfl) (hp : swappedStores [tg] e X.env = pure none := by rfl) (h1 : (assignEach [tg] X.env).map (·.2) = [assign tg X.env] := by rfl) : QS X C W (.Assign [tg] e pos) (gAsg ge gg) := by
  obtain ⟨ta, pa, qa⟩ := ha
  obtain ⟨t2, p2, q2⟩ := hg
  refine ⟨_, ps_asg pa p2 hs (hw := hp) (h1 := h1), fun Dd σ H Z ι Γ M sl hr h => qa σ H Z ι Γ M _ sl hr (PostS.bind h sl fun x M1 v H1 Z1 ι1 e1 hr1 r1 h1 => ?_)⟩
  cases eg : gg x Γ with
  | none => rw [eg] at h1; exact h1.elim
  | some Γ' =>
    rw [eg] at h1
    exact q2 v σ H1 Z1 ι1 M1.length x Γ Γ' _ hr1.sub (sl.ext e1) r1 eg fun σ' s' _ => h1 σ' H1 Z1 ι1 .refl hr1 s'

theorem qss_scope (h1 : QSs X C W rest g) : QSs X C W rest (gScope g) := by
  obtain ⟨t1, p1, q1⟩ := h1
  refine ⟨_, p1, fun Dd σ H Z ι Γ M sl hr h => q1 Dd σ H Z ι Γ M sl hr ?_⟩
  have h' : PostS X C W H Z ι M (gCut M.length (g Γ M)) Dd := h
  cases er : g Γ M with
  | nx Γ' M' =>
    rw [er] at h'
    by_cases hc : M.length ≤ M'.length ∧ cutOk M.length M' = true
    · have h2 : PostS X C W H Z ι M (if M.length ≤ M'.length ∧ cutOk M.length M' = true then .nx (clean M.length Γ') (M'.take M.length) else .bad) Dd := h'
      rw [if_pos hc] at h2
      have ln : (M'.take M.length).length = M.length := by rw [List.length_take]; omega
      intro σ' H' Z' ι' e1 hr1 sl1
      refine h2 σ' H' Z' ι' (by rw [ln]; exact e1.cut (Nat.le_refl _) hc.1) (hr1.cut hc.1 hc.2) (by rw [ln]; exact sl1.cut)
    · have h2 : PostS X C W H Z ι M (if M.length ≤ M'.length ∧ cutOk M.length M' = true then .nx (clean M.length Γ') (M'.take M.length) else .bad) Dd := h'
      rw [if_neg hc] at h2
      exact h2.elim
  | ct Γ' M' =>
    rw [er] at h'
    by_cases hc : M.length ≤ M'.length ∧ cutOk M.length M' = true
    · have h2 : PostS X C W H Z ι M (if M.length ≤ M'.length ∧ cutOk M.length M' = true then .ct (clean M.length Γ') (M'.take M.length) else .bad) Dd := h'
      rw [if_pos hc] at h2
      have ln : (M'.take M.length).length = M.length := by rw [List.length_take]; omega
      intro σ' H' Z' ι' e1 hr1 sl1
      refine h2 σ' H' Z' ι' (by rw [ln]; exact e1.cut (Nat.le_refl _) hc.1) (hr1.cut hc.1 hc.2) (by rw [ln]; exact sl1.cut)
    · have h2 : PostS X C W H Z ι M (if M.length ≤ M'.length ∧ cutOk M.length M' = true then .ct (clean M.length Γ') (M'.take M.length) else .bad) Dd := h'
      rw [if_neg hc] at h2
      exact h2.elim
  | bk Γ' M' => rw [er] at h'; exact h'
  | rt d M' => rw [er] at h'; exact h'
  | exc c d Γ' M' => rw [er] at h'; exact h'
  | bad => rw [er] at h'; exact h'
/-- a loop's turn: what is wanted behind it -/
theorem PostS.turn {r : RS} {f : Env → List MO → RS} {N : L2.St → Hp → Prop} (h : PostS X C W H Z ι M (r.turn f) Dd)
    (k : ∀ (Γ1 : Env) (M1 : List MO) (σ1 : L2.St) (H1 Z1 : Hp) (ι1 : Nat → Addr), Ext H Z ι M.length H1 Z1 ι1 M1.length → HR X.K H1 Z1 ι1 M1 → Slots X.K Z1 ι1 M1.length Γ1 σ1 → PostS X C W H1 Z1 ι1 M1 (f Γ1 M1) Dd → N σ1 H1) :
    PostS X C W H Z ι M r { Dd with nx := N, ct := N, bk := Dd.nx } := by
  cases r with
  | nx Γ M' => exact fun σ' H' Z' ι' e' hr' sl => k Γ M' σ' H' Z' ι' e' hr' sl (PostS.shift (r := f Γ M') h e' hr')
  | ct Γ M' => exact fun σ' H' Z' ι' e' hr' sl => k Γ M' σ' H' Z' ι' e' hr' sl (PostS.shift (r := f Γ M') h e' hr')
  | bk Γ M' => exact h
  | rt d M' => exact h
  | exc c d Γ M' => exact h
  | bad => exact h
theorem qs_for {iter : Expr} {body : List Stmt} {gi : GI} {is : List Nat} (hp : PassesOwn (model X.prog X.w) X.A X.env X.xe) (hc : X.calm = true) (hi : QI X C W tg iter gi) (hg : QG X tg gg is) (hb : QSs X C W body g)
    (hs : ∀ x, foldedSetIterable iter X.env x = pure x := by intro _; rfl) : QS X C W (.For tg iter body [] pos) (gFor gi gg g) := by
  obtain ⟨wi, pi, qi⟩ := hi
  obtain ⟨tg', pg, qg⟩ := hg
  obtain ⟨tb, pb, qb⟩ := hb
  refine ⟨_, ps_for hp hc pi pg pb hs, fun Dd σ H Z ι Γ M sl hr h => qi σ H Z ι Γ M _ sl hr (PostS.bind h sl fun ds M1 J H1 Z1 ι1 e1 hr1 rJ h1 => ?_)⟩
  refine ⟨fun i m σ' H' => ∃ (Z' : Hp) (ι' : Nat → Addr) (Γ' : Env) (M' : List MO), m = ds.length - i ∧ i ≤ ds.length ∧ Sub Z1 Z' ∧ (∀ k, k < M1.length → ι' k = ι1 k) ∧ M1.length ≤ M'.length ∧ HR X.K H' Z' ι' M' ∧ Slots X.K Z' ι' M'.length Γ' σ' ∧
    PostS X C W H' Z' ι' M' (gForL gg g (ds.drop i) Γ' M') Dd, ⟨ds.length, Z1, ι1, Γ, M1, rfl, Nat.zero_le _, fun _ _ z => z, fun _ _ => rfl, Nat.le_refl _, hr1, sl.ext e1, h1⟩, ?_⟩
  rintro i m σ' H' ⟨Z', ι', Γ', M', em, hle, hz, hii, hn, hr', sl', hp'⟩
  obtain ⟨hstop, hgo⟩ := rJ i H' Z' ι' M' hz hii hn hr' trivial
  by_cases hi : i < ds.length
  · refine .inr ?_
    have ed : ds.drop i = ds[i] :: ds.drop (i + 1) := List.drop_eq_getElem_cons hi
    obtain ⟨go, yl⟩ := hgo ds[i] (List.getElem?_eq_getElem hi)
    refine ⟨go, fun σ2 H2 => ∃ (Z2 : Hp) (ι2 : Nat → Addr) (Γ2 : Env) (M2 : List MO), Sub Z1 Z2 ∧ (∀ k, k < M1.length → ι2 k = ι1 k) ∧ M1.length ≤ M2.length ∧ HR X.K H2 Z2 ι2 M2 ∧ Slots X.K Z2 ι2 M2.length Γ2 σ2 ∧
      PostS X C W H2 Z2 ι2 M2 (gForL gg g (ds.drop (i + 1)) Γ2 M2) Dd, fun σ2 H2 hN => ?_, fun x H2 hy => ?_⟩
    · obtain ⟨Z2, ι2, Γ2, M2, a1, a2, a3, a4, a5, a6⟩ := hN
      exact ⟨ds.length - (i + 1), by omega, Z2, ι2, Γ2, M2, rfl, by omega, a1, a2, a3, a4, a5, a6⟩
    · obtain ⟨Z2, e2, hr2, rx⟩ := yl x H2 hy
      rw [ed] at hp'
      have hp2 := PostS.shift hp' e2 hr2
      have hb : PostS X C W H2 Z2 ι' M' (optS (gg ds[i] Γ') fun Γ1 => (g Γ1 M').turn (gForL gg g (ds.drop (i + 1)))) Dd := hp2
      cases eg : gg ds[i] Γ' with
      | none =>
        rw [eg] at hb
        exact hb.elim
      | some Γ1 =>
        rw [eg] at hb
        exact qg x σ' H2 Z2 ι' M'.length ds[i] Γ' Γ1 _ hr2.sub (sl'.ext e2) rx eg fun σ3 s3 _ => qb _ σ3 H2 Z2 ι' Γ1 M' s3 hr2 (PostS.turn hb fun Γ4 M4 σ4 H4 Z4 ι4 e4 hr4 s4 h4 =>
          ⟨Z4, ι4, Γ4, M4, fun a o z => e4.zz _ _ (e2.zz _ _ (hz _ _ z)), fun k hk => (e4.ii k (Nat.lt_of_lt_of_le hk hn)).trans (hii k hk), Nat.le_trans hn e4.ln, hr4, s4, h4⟩)
  · refine .inl ⟨hstop (by omega), ?_⟩
    rw [List.drop_eq_nil_of_le (Nat.le_of_not_lt hi)] at hp'
    exact hp' σ' H' Z' ι' .refl hr' sl'
end
end Bk

set_option Elab.async false
set_option linter.all false
set_option maxRecDepth 100000
set_option maxHeartbeats 2000000
namespace Bk
open PySem PySem.Spec PyProof.Rows L2

/-! ### a list made by a comprehension -/
/-- nothing may be raised -/
abbrev noW : WX := fun _ _ _ _ => False
theorem takes_no {X : Cx} : Takes X noW := fun u s' h => by
  unfold XE at h
  obtain ⟨_, _, _, _, _, _, _, h⟩ := h
  simp_all
/-- no exception goes on -/
def R.only {α β : Type} (r : R α) (f : α → List MO → R β) : R β := match r with
  | .ok a M => f a M
  | _ => .bad
def gLcL (gg : GG) (gt : GT) (ge : GE) (Γ : Env) : List D → List D → List MO → R (List D)
  | [], acc, M => .ok acc M
  | d :: ds, acc, M => match gg d Γ with
    | none => .bad
    | some Γ1 => (gt Γ1 M).only fun k M1 => if k = true then (ge Γ1 M1).only fun y M2 => if acc.length < sizeLine then gLcL gg gt ge Γ ds (acc ++ [y]) M2 else .bad else gLcL gg gt ge Γ ds acc M1
def gYes : GT := fun _ M => .ok true M
/-- the new list will not be changed -/
def gLc (gi : GI) (gg : GG) (gt : GT) (ge : GE) (own : List Nat) : GE := fun Γ M => (gi Γ M).bind fun ds M1 => (gLcL gg gt ge (forget Γ own) ds [] M1).bind fun acc M2 => .ok (.lst acc) M2
/-- the new list is ours -/
def gLcO (gi : GI) (gg : GG) (gt : GT) (ge : GE) (own : List Nat) : GE := fun Γ M => (gi Γ M).bind fun ds M1 => (gLcL gg gt ge (forget Γ own) ds [] M1).bind fun acc M2 => .ok (.ref M2.length) (M2 ++ [.lst acc])

section
variable {K : PySem.W.Frag} {H Z H0 Z0 : Hp} {ι ι0 : Nat → Addr} {M : List MO} {n0 : Nat} {p : Addr} {xs : List V} {ds : List D} {o : HO}
/-- a thing that is neither frozen nor ours -/
structure Odd (Z : Hp) (ι : Nat → Addr) (n : Nat) (p : Addr) : Prop where
  z : Z p = none
  i : ∀ k, k < n → ι k ≠ p
theorem HR.odd (h : HR K H Z ι M) (q : Odd Z ι M.length p) : HR K (upd H p o) Z ι M := by
  have lt : ∀ {k : Nat} {u : MO}, M[k]? = some u → k < M.length := fun e => (List.getElem?_eq_some_iff.mp e).1
  refine ⟨fun a u e => by rw [upd_ne (ne_of_none e q.z)]; exact h.sub _ _ e, fun k hk => by rw [upd_ne (q.i k hk)]; exact h.ali k hk, h.sep, h.inj, fun k u e => ?_, h.ded⟩
  exact OR.mono (fun _ _ z => z) (fun _ _ => rfl) (Nat.le_refl _) (fun o z => by rw [upd_ne (q.i k (lt e))]; exact z) (h.obj k u e)
theorem Odd.new (h : HR K H Z ι M) (hp : H p = none) : Odd Z ι M.length p := by
  refine ⟨?_, fun k hk e => ?_⟩
  · cases e : Z p with
    | none => rfl
    | some u =>
      rw [h.sub _ _ e] at hp
      cases hp
  · obtain ⟨u, hu⟩ := h.ali k hk
    rw [e, hp] at hu
    cases hu
theorem Odd.ext {H1 Z1 : Hp} {ι1 : Nat → Addr} {n n1 : Nat} {u : HO} (q : Odd Z ι n p) (hp : H p = some u) (e : Ext H Z ι n H1 Z1 ι1 n1) : Odd Z1 ι1 n1 p ∧ H1 p = some u := by
  refine ⟨⟨?_, fun k hk z => ?_⟩, e.fr p u hp fun k hk z => q.i k hk z.symm⟩
  · cases z : Z1 p with
    | none => rfl
    | some w =>
      rcases e.zn p w z with a | a | ⟨k, hk, a⟩
      · rw [q.z] at a; cases a
      · rw [hp] at a; cases a
      · exact absurd a.symm (q.i k hk)
  · by_cases hn : k < n
    · exact q.i k hn ((e.ii k hn).symm.trans z)
    · have w := e.nw k (Nat.le_of_not_lt hn) hk
      rw [z, hp] at w
      cases w
theorem Ext.touch {n : Nat} (e : Ext H0 Z0 ι0 n0 H Z ι n) (hp : H0 p = none) : Ext H0 Z0 ι0 n0 (upd H p o) Z ι n :=
  ⟨e.zz, e.ii, fun a u h1 h2 => by rw [upd_ne (ne_of_none h1 hp)]; exact e.fr a u h1 h2, e.nw, e.ln, e.zn⟩
theorem HR.adoptZ (h : HR K H Z ι M) (q : Odd Z ι M.length p) (hp : H p = some o) : HR K H (upd Z p o) ι M := by
  have s1 : Sub Z (upd Z p o) := fun a u e => by rw [upd_ne (ne_of_none e q.z)]; exact e
  refine ⟨fun a u e => ?_, h.ali, fun k u e d => by rw [upd_ne (q.i k (List.getElem?_eq_some_iff.mp e).1)]; exact h.sep k u e d, h.inj, fun k u e => ?_, fun k e => let ⟨u, hu⟩ := h.ded k e; ⟨u, s1 _ _ hu⟩⟩
  · by_cases ha : a = p
    · subst ha
      rw [upd_same] at e
      rw [← e]
      exact hp
    · rw [upd_ne ha] at e
      exact h.sub _ _ e
  · exact OR.mono s1 (fun _ _ => rfl) (Nat.le_refl _) (fun _ z => z) (h.obj k u e)
theorem Ext.adoptZ {n : Nat} (e : Ext H0 Z0 ι0 n0 H Z ι n) (hz : Z p = none) (hp : H0 p = none) : Ext H0 Z0 ι0 n0 H (upd Z p o) ι n :=
  ⟨fun a u h => by rw [upd_ne (ne_of_none (e.zz _ _ h) hz)]; exact e.zz _ _ h, e.ii, e.fr, e.nw, e.ln, fun a u h => by
    by_cases ha : a = p
    · subst ha
      exact .inr (.inl hp)
    · rw [upd_ne ha] at h
      exact e.zn a u h⟩
theorem HR.adoptM (h : HR K H Z ι M) (q : Odd Z ι M.length p) (hp : H p = some (.lst xs)) (r : Rps K Z ι M.length ds xs) : HR K H Z (put ι M.length p) (M ++ [.lst ds]) := by
  have ln : (M ++ [MO.lst ds]).length = M.length + 1 := by simp
  have cs : ∀ {k : Nat} {u : MO}, (M ++ [MO.lst ds])[k]? = some u → (k < M.length ∧ M[k]? = some u) ∨ (k = M.length ∧ u = .lst ds) := fun {k u} e => by
    by_cases hk : k < M.length
    · rw [List.getElem?_append_left hk] at e
      exact .inl ⟨hk, e⟩
    · rw [List.getElem?_append_right (Nat.le_of_not_lt hk)] at e
      by_cases hz : k - M.length = 0
      · rw [hz] at e
        exact .inr ⟨by omega, (Option.some.inj e).symm⟩
      · rw [List.getElem?_eq_none (by simp; omega)] at e
        cases e
  refine ⟨h.sub, fun k hk => ?_, fun k u e d => ?_, fun j k o u e1 e2 d1 d2 e => ?_, fun k u e => ?_, fun k e => ?_⟩
  · rw [ln] at hk
    by_cases hk' : k < M.length
    · rw [put_lt hk']
      exact h.ali k hk'
    · have : k = M.length := by omega
      subst this
      exact ⟨_, by rw [put_at]; exact hp⟩
  · rcases cs e with ⟨hk, e⟩ | ⟨rfl, rfl⟩
    · rw [put_lt hk]
      exact h.sep k u e d
    · rw [put_at]
      exact q.z
  · rcases cs e1 with ⟨hj, e1⟩ | ⟨rfl, rfl⟩ <;> rcases cs e2 with ⟨hk, e2⟩ | ⟨rfl, rfl⟩
    · rw [put_lt hj, put_lt hk] at e
      exact h.inj j k o u e1 e2 d1 d2 e
    · rw [put_lt hj, put_at] at e
      exact absurd e (q.i j hj)
    · rw [put_lt hk, put_at] at e
      exact absurd e.symm (q.i k hk)
    · rfl
  · rcases cs e with ⟨hk, e⟩ | ⟨rfl, rfl⟩
    · rw [put_lt hk]
      exact OR.mono (fun _ _ z => z) (fun _ z => put_lt z) (by rw [ln]; omega) (fun _ z => z) (h.obj k u e)
    · rw [put_at]
      exact ⟨xs, hp, Rps.mono (fun _ _ z => z) (fun _ z => put_lt z) (by rw [ln]; omega) _ _ r⟩
  · rcases cs e with ⟨hk, e⟩ | ⟨_, e⟩
    · rw [put_lt hk]
      exact h.ded k e
    · cases e
theorem Ext.adoptM (e : Ext H0 Z0 ι0 n0 H Z ι M.length) (hp : H0 p = none) : Ext H0 Z0 ι0 n0 H Z (put ι M.length p) (M ++ [MO.lst ds]).length := by
  have ln : (M ++ [MO.lst ds]).length = M.length + 1 := by simp
  refine ⟨e.zz, fun k hk => (put_lt (Nat.lt_of_lt_of_le hk e.ln)).trans (e.ii k hk), e.fr, fun k h1 h2 => ?_, by rw [ln]; have := e.ln; omega, e.zn⟩
  rw [ln] at h2
  by_cases hk : k < M.length
  · rw [put_lt hk]
    exact e.nw k h1 hk
  · have : k = M.length := by omega
    subst this
    rw [put_at]
    exact hp
end
theorem wipe_at {σ : St} : ∀ (vs : List Nat) (i : Nat), (wipe σ vs)[i]? = if i ∈ vs ∧ i < σ.length then some none else σ[i]?
  | [], i => by simp [wipe]
  | v :: vs, i => by
    have ih := wipe_at (σ := σ) vs i
    have ln := wipe_length σ vs
    show ((wipe σ vs).set v none)[i]? = _
    by_cases hv : v = i
    · subst hv
      by_cases hl : v < σ.length
      · rw [List.getElem?_set_self (by rw [ln]; exact hl), if_pos ⟨List.mem_cons_self, hl⟩]
      · rw [if_neg (fun z => hl z.2), List.getElem?_eq_none (by rw [List.length_set, ln]; omega), List.getElem?_eq_none (by omega)]
    · rw [List.getElem?_set_ne hv, ih]
      have : (i ∈ v :: vs) ↔ i ∈ vs := by simp only [List.mem_cons]; exact ⟨fun z => z.elim (fun e => absurd e.symm hv) id, .inr⟩
      simp only [this]
theorem wipe_wipe {σ : St} (vs : List Nat) : wipe (wipe σ vs) vs = wipe σ vs := by
  refine List.ext_getElem? fun i => ?_
  rw [wipe_at, wipe_length, wipe_at]
  split <;> rfl
theorem slots_wipe {K : PySem.W.Frag} {Z : Hp} {ι : Nat → Addr} {n : Nat} {σ : St} : ∀ (vs : List Nat) {Γ : Env}, Slots K Z ι n Γ σ → Slots K Z ι n (forget Γ vs) (wipe σ vs) := by
  have one : ∀ (vs : List Nat) (Γ : Env) (i : Nat) (d : D), (forget Γ vs)[i]? = some (some d) → Γ[i]? = some (some d) ∧ i ∉ vs := by
    intro vs
    induction vs with
    | nil => intro Γ i d h; exact ⟨h, by simp⟩
    | cons v vs ih =>
      intro Γ i d h
      obtain ⟨h1, h2⟩ := ih (Γ.set v none) i d h
      by_cases hv : v = i
      · subst hv
        have lt : v < Γ.length := by
          have := (List.getElem?_eq_some_iff.mp h1).1
          rw [List.length_set] at this
          exact this
        rw [List.getElem?_set_self lt] at h1
        cases h1
      · rw [List.getElem?_set_ne hv] at h1
        exact ⟨h1, by simp only [List.mem_cons, not_or]; exact ⟨fun e => hv e.symm, h2⟩⟩
  have keep : ∀ (vs : List Nat) (i : Nat), i ∉ vs → (wipe σ vs)[i]? = σ[i]? := by
    intro vs
    induction vs with
    | nil => intro i _; rfl
    | cons v vs ih =>
      intro i h
      show ((wipe σ vs).set v none)[i]? = _
      rw [List.getElem?_set_ne (fun e => h (by rw [e]; exact List.mem_cons_self))]
      exact ih i fun z => h (List.mem_cons_of_mem _ z)
  have len : ∀ (vs : List Nat) (Γ : Env), (forget Γ vs).length = Γ.length := by
    intro vs
    induction vs with
    | nil => intro Γ; rfl
    | cons v vs ih => intro Γ; exact (ih _).trans List.length_set
  intro vs Γ sl
  refine ⟨by rw [len, wipe_length]; exact sl.1, fun i d h => ?_⟩
  obtain ⟨h1, h2⟩ := one vs Γ i d h
  obtain ⟨v, e, r⟩ := sl.2 i d h1
  exact ⟨v, by rw [keep vs i h2]; exact e, r⟩
section
variable {X : Cx} {C : CT} {W : WX}
abbrev Blk (X : Cx) (scope : Scope) (F : Cx → Prop) : Prop := ∀ (s : Shared) (H : Hp) (c : Addr) (cl : List (Str × Addr)) (fp : List Addr), F (X.blk s H scope (compEnvC scope cl c X.env) fp)
/-- the readings that the functions are: the same in every block -/
def liftE (K : PySem.W.Frag) (X : Cx) (C : CT) (W : WX) (g : GE) : TE := fun σ H Q => ∃ (Z : Hp) (ι : Nat → Addr) (Γ : Env) (M : List MO), Slots K Z ι M.length Γ σ ∧ HR K H Z ι M ∧ Post X C W (rpE K) σ H Z ι M (g Γ M) Q
def liftT (K : PySem.W.Frag) (X : Cx) (C : CT) (W : WX) (g : GT) : TT := fun σ H Q => ∃ (Z : Hp) (ι : Nat → Addr) (Γ : Env) (M : List MO), Slots K Z ι M.length Γ σ ∧ HR K H Z ι M ∧ Post X C W rpT σ H Z ι M (g Γ M) Q
def liftG (K : PySem.W.Frag) (g : GG) (is : List Nat) : TG := fun v σ H Q => ∃ (Z : Hp) (ι : Nat → Addr) (n : Nat) (d : D) (Γ Γ' : Env), Sub Z H ∧ Slots K Z ι n Γ σ ∧ Rp K Z ι n d v ∧ g d Γ = some Γ' ∧ ∀ σ', Slots K Z ι n Γ' σ' → Wip is σ σ' → Q σ' H
def QTs (X : Cx) (C : CT) (W : WX) (es : List Expr) (g : GT) : Prop := ∃ te, PTs X es te ∧ ∀ (σ : St) (H Z : Hp) (ι : Nat → Addr) (Γ : Env) (M : List MO) (Q : Bool → Hp → Prop), Slots X.K Z ι M.length Γ σ → HR X.K H Z ι M → Post X C W rpT σ H Z ι M (g Γ M) Q → te σ H Q
theorem qts_nil : QTs X C W [] gYes := ⟨_, pts_nil, fun σ H Z ι Γ M Q sl hr h => h true H Z ι .refl hr rfl⟩
theorem qts_one {c : Expr} {g : GT} (h : QT X C W c g) : QTs X C W [c] g := let ⟨t, p, q⟩ := h; ⟨t, pts_one p, q⟩
theorem Post.blk {α β : Type} {X Y : Cx} {rp : RpK α β} {σ : St} {H Z : Hp} {ι : Nat → Addr} {M : List MO} {r : R α} {Q : β → Hp → Prop} (e : X.K = Y.K) (h : Post X C W rp σ H Z ι M r Q) : Post Y C W rp σ H Z ι M r Q := by
  cases r with
  | ok a M' =>
    intro b H' Z' ι' e' hr rb
    exact h b H' Z' ι' e' (by rw [e]; exact hr) rb
  | exc c d M' =>
    intro cls dd H' Z' ι' e' hr rb
    exact h cls dd H' Z' ι' e' (by rw [e]; exact hr) (by rw [e]; exact rb)
  | bad => exact h
theorem gLcL_run {cd : List MO → Prop} {gg : GG} {gt : GT} {ge : GE} {is own : List Nat} {σ : St} {Γ0 : Env} {fin : List D → List MO → R D} {Q : VK} {J : It} {p : Addr}
    {ds : List D} {H0 Z0 : Hp} {ι0 : Nat → Addr} {M0 : List MO} (hsub : ∀ i ∈ is, i ∈ own) (sl : Slots X.K Z0 ι0 M0.length Γ0 (wipe σ own)) (rJ : ItC cd X.K J ds Z0 ι0 M0.length) (cd0 : cd M0) (cdt : ∀ Γ M d M', gt Γ M = .ok d M' → cd M → cd M') (cde : ∀ Γ M d M', ge Γ M = .ok d M' → cd M → cd M') (hp0 : H0 p = none) (hr0 : HR X.K H0 Z0 ι0 M0)
    (h : Post X C W (rpE X.K) σ H0 Z0 ι0 M0 ((gLcL gg gt ge Γ0 ds [] M0).bind fin) Q)
    (hfin : ∀ (acc : List D) (accV : List V) (M : List MO) (H Z : Hp) (ι : Nat → Addr), Ext H0 Z0 ι0 M0.length H Z ι M.length → HR X.K H Z ι M → Odd Z ι M.length p → H p = some (.lst accV) → Rps X.K Z ι M.length acc accV → Post X C W (rpE X.K) σ H0 Z0 ι0 M0 (fin acc M) Q → Q (.ref p) H) :
    ∃ Wv : Nat → Nat → Hp → Prop, (∃ m, Wv 0 m (upd H0 p (.lst []))) ∧ ∀ i m H, Wv i m H →
      (J.stop i H ∧ Q (.ref p) H) ∨ (J.go i H ∧ ∃ Nx : Hp → Prop, (∀ H', Nx H' → ∃ m', m' < m ∧ Wv (i + 1) m' H') ∧ ∀ x H', J.yld i H x H' → liftG X.K gg is x (wipe σ own) H' fun σ2 H2 => wipe σ2 own = wipe σ own ∧ liftT X.K X C noW gt σ2 H2 fun b H3 =>
        if b = true then liftE X.K X C noW ge σ2 H3 fun y H4 => ∃ acc, H4 p = some (.lst acc) ∧ acc.length < sizeLine ∧ Nx (upd H4 p (.lst (acc ++ [y]))) else Nx H3) := by
  let Inv' : Nat → Hp → Prop := fun i H => ∃ (Z : Hp) (ι : Nat → Addr) (M : List MO) (acc : List D) (accV : List V), Ext H0 Z0 ι0 M0.length H Z ι M.length ∧ HR X.K H Z ι M ∧ Odd Z ι M.length p ∧ H p = some (.lst accV) ∧ Rps X.K Z ι M.length acc accV ∧ cd M ∧
    Post X C W (rpE X.K) σ H0 Z0 ι0 M0 ((gLcL gg gt ge Γ0 (ds.drop i) acc M).bind fin) Q
  have q0 : Odd Z0 ι0 M0.length p := .new hr0 hp0
  refine ⟨fun i m H => m = ds.length - i ∧ i ≤ ds.length ∧ Inv' i H, ⟨ds.length, rfl, Nat.zero_le _, Z0, ι0, M0, [], [], (Ext.refl).touch hp0, hr0.odd q0, q0, upd_same, .nil, cd0, h⟩, ?_⟩
  rintro i m H ⟨em, hle, Z, ι, M, acc, accV, e1, hr1, od, hp, ra, cdM, hpost⟩
  obtain ⟨hstop, hgo⟩ := rJ i H Z ι M e1.zz e1.ii e1.ln hr1 cdM
  by_cases hi : i < ds.length
  · refine .inr ?_
    have ed : ds.drop i = ds[i] :: ds.drop (i + 1) := List.drop_eq_getElem_cons hi
    obtain ⟨go, yl⟩ := hgo ds[i] (List.getElem?_eq_getElem hi)
    refine ⟨go, Inv' (i + 1), fun H' hN => ⟨ds.length - (i + 1), by omega, rfl, by omega, hN⟩, fun x H2 hy => ?_⟩
    obtain ⟨Z2, e2, hr2, rx⟩ := yl x H2 hy
    obtain ⟨od2, hp2⟩ := od.ext hp e2
    have e12 := e1.trans e2 hr1.ali
    rw [ed] at hpost
    cases eg : gg ds[i] Γ0 with
    | none =>
      have z : gLcL gg gt ge Γ0 (ds[i] :: ds.drop (i + 1)) acc M = .bad := by
        unfold gLcL
        rw [eg]
      rw [z] at hpost
      exact hpost.elim
    | some Γ1 =>
      have z : gLcL gg gt ge Γ0 (ds[i] :: ds.drop (i + 1)) acc M = ((gt Γ1 M).only fun k M1 => if k = true then (ge Γ1 M1).only fun y M2 => if acc.length < sizeLine then gLcL gg gt ge Γ0 (ds.drop (i + 1)) (acc ++ [y]) M2 else .bad
          else gLcL gg gt ge Γ0 (ds.drop (i + 1)) acc M1) := by
        conv => lhs; unfold gLcL
        rw [eg]
      rw [z] at hpost
      refine ⟨Z2, ι, M.length, ds[i], Γ0, Γ1, hr2.sub, sl.ext e12, rx, eg, fun σ2 s2 w2 => ⟨(w2 own hsub).trans (wipe_wipe own), Z2, ι, Γ1, M, s2, hr2, ?_⟩⟩
      cases et : gt Γ1 M with
      | bad => rw [et] at hpost; exact hpost.elim
      | exc c d M' => rw [et] at hpost; exact hpost.elim
      | ok k M3 =>
        rw [et] at hpost
        intro b H3 Z3 ι3 e3 hr3 hb
        have hb' : k = b := hb
        subst hb'
        obtain ⟨od3, hp3⟩ := od2.ext hp2 e3
        have e13 := e12.trans e3 hr2.ali
        have ra3 := (ra.ext e2).ext e3
        cases k with
        | false => exact ⟨Z3, ι3, M3, acc, accV, e13, hr3, od3, hp3, ra3, cdt _ _ _ _ et cdM, hpost⟩
        | true =>
          rw [if_pos rfl]
          refine ⟨Z3, ι3, Γ1, M3, s2.ext e3, hr3, ?_⟩
          have hpost2 : Post X C W (rpE X.K) σ H0 Z0 ι0 M0 (((ge Γ1 M3).only fun y M2 => if acc.length < sizeLine then gLcL gg gt ge Γ0 (ds.drop (i + 1)) (acc ++ [y]) M2 else .bad).bind fin) Q := hpost
          cases ee : ge Γ1 M3 with
          | bad => rw [ee] at hpost2; exact hpost2.elim
          | exc c d M' => rw [ee] at hpost2; exact hpost2.elim
          | ok y M4 =>
            rw [ee] at hpost2
            have hpost3 : Post X C W (rpE X.K) σ H0 Z0 ι0 M0 ((if acc.length < sizeLine then gLcL gg gt ge Γ0 (ds.drop (i + 1)) (acc ++ [y]) M4 else .bad).bind fin) Q := hpost2
            by_cases hz : acc.length < sizeLine
            · rw [if_pos hz] at hpost3
              intro v H4 Z4 ι4 e4 hr4 rv
              obtain ⟨od4, hp4⟩ := od3.ext hp3 e4
              have ra4 := ra3.ext e4
              exact ⟨accV, hp4, by rw [← ra4.length]; exact hz, Z4, ι4, M4, acc ++ [y], accV ++ [v], (e13.trans e4 hr3.ali).touch hp0, hr4.odd od4, od4, upd_same, ra4.append (.cons rv .nil), cde _ _ _ _ ee (cdt _ _ _ _ et cdM), hpost3⟩
            · rw [if_neg hz] at hpost3
              exact hpost3.elim
  · refine .inl ⟨hstop (by omega), ?_⟩
    rw [List.drop_eq_nil_of_le (Nat.le_of_not_lt hi)] at hpost
    exact hfin acc accV M H Z ι e1 hr1 od hp ra hpost

theorem lc_read {own : List Nat} {gi : GI} {gg : GG} {gt : GT} {ge : GE} {is : List Nat} {wi : TI} {fin : List D → List MO → R D}
    (qi : ∀ (σ : St) (H Z : Hp) (ι : Nat → Addr) (Γ : Env) (M : List MO) (Q : It → Hp → Prop), Slots X.K Z ι M.length Γ σ → HR X.K H Z ι M → Post X C W (rpI X.K) σ H Z ι M (gi Γ M) Q → wi σ H Q) (hsub : ∀ i ∈ is, i ∈ own)
    (hfin : ∀ (σ : St) (H0 Z0 : Hp) (ι0 : Nat → Addr) (M0 : List MO) (p : Addr) (Q : VK) (acc : List D) (accV : List V) (M : List MO) (H Z : Hp) (ι : Nat → Addr), H0 p = none → Ext H0 Z0 ι0 M0.length H Z ι M.length → HR X.K H Z ι M → Odd Z ι M.length p → H p = some (.lst accV) →
      Rps X.K Z ι M.length acc accV → Post X C W (rpE X.K) σ H0 Z0 ι0 M0 (fin acc M) Q → Q (.ref p) H)
    (σ : St) (H Z : Hp) (ι : Nat → Addr) (Γ : Env) (M : List MO) (Q : VK) (sl : Slots X.K Z ι M.length Γ σ) (hr : HR X.K H Z ι M)
    (h : Post X C W (rpE X.K) σ H Z ι M ((gi Γ M).bind fun ds M1 => (gLcL gg gt ge (forget Γ own) ds [] M1).bind fin) Q) :
    tLc wi (liftG X.K gg is) (liftT X.K X C noW gt) (liftE X.K X C noW ge) own σ H Q :=
  qi σ H Z ι Γ M _ sl hr (h.bind fun ds M1 J H1 Z1 ι1 e1 hr1 rJ h1 => fun p hp =>
    gLcL_run hsub (slots_wipe _ (sl.ext e1)) rJ trivial (fun _ _ _ _ _ _ => trivial) (fun _ _ _ _ _ _ => trivial) hp hr1 h1 fun acc accV M' H' Z' ι' a1 a2 a3 a4 a5 a6 => hfin σ H1 Z1 ι1 M1 p Q acc accV M' H' Z' ι' hp a1 a2 a3 a4 a5 a6)
theorem blk_g {tg : Expr} {scope : Scope} {gg : GG} {is : List Nat} (hg : Blk X scope fun Y => QG Y tg gg is) : Blk X scope fun Y => PG Y tg (liftG X.K gg is) := fun s H c cl fp => by
  obtain ⟨t, p, q⟩ := hg s H c cl fp
  exact ⟨fun pins s σ H v u Q I r h => p.run pins s σ H v u Q I r (let ⟨Z, ι, n, d, Γ, Γ', h1, h2, h3, h4, h5⟩ := h; q v σ H Z ι n d Γ Γ' Q h1 h2 h3 h4 h5)⟩
theorem blk_t {ifs : List Expr} {scope : Scope} {gt : GT} (ht : Blk X scope fun Y => QTs Y C noW ifs gt) : Blk X scope fun Y => PTs Y ifs (liftT X.K X C noW gt) := fun s H c cl fp => by
  obtain ⟨t, p, q⟩ := ht s H c cl fp
  exact ⟨fun pins s σ H Q I h => p.run pins s σ H Q I (let ⟨Z, ι, Γ, M, h1, h2, h3⟩ := h; q σ H Z ι Γ M Q h1 h2 (h3.blk rfl))⟩
theorem blk_e {elt : Expr} {scope : Scope} {ge : GE} (he : Blk X scope fun Y => QE Y C noW elt ge) : Blk X scope fun Y => PE Y elt (liftE X.K X C noW ge) := fun s H c cl fp => by
  obtain ⟨t, p, q⟩ := he s H c cl fp
  exact ⟨fun pins s σ H Q I h => p.run pins s σ H Q I (let ⟨Z, ι, Γ, M, h1, h2, h3⟩ := h; q σ H Z ι Γ M Q h1 h2 (h3.blk rfl))⟩
theorem fin_z {σ : St} {H0 Z0 : Hp} {ι0 : Nat → Addr} {M0 : List MO} {p : Addr} {Q : VK} {acc : List D} {accV : List V} {M : List MO} {H Z : Hp} {ι : Nat → Addr} (h0 : H0 p = none) (e : Ext H0 Z0 ι0 M0.length H Z ι M.length) (hr : HR X.K H Z ι M) (od : Odd Z ι M.length p) (hp : H p = some (.lst accV))
    (ra : Rps X.K Z ι M.length acc accV) (h : Post X C W (rpE X.K) σ H0 Z0 ι0 M0 (.ok (.lst acc) M) Q) : Q (.ref p) H :=
  h _ H _ ι (e.adoptZ od.z h0) (hr.adoptZ od hp) (.lst (.inl (.inl upd_same)) (Rps.mono (fun a u q => by rw [upd_ne (ne_of_none q od.z)]; exact q) (fun _ _ => rfl) (Nat.le_refl _) _ _ ra))
theorem fin_m {σ : St} {H0 Z0 : Hp} {ι0 : Nat → Addr} {M0 : List MO} {p : Addr} {Q : VK} {acc : List D} {accV : List V} {M : List MO} {H Z : Hp} {ι : Nat → Addr} (h0 : H0 p = none) (e : Ext H0 Z0 ι0 M0.length H Z ι M.length) (hr : HR X.K H Z ι M) (od : Odd Z ι M.length p) (hp : H p = some (.lst accV))
    (ra : Rps X.K Z ι M.length acc accV) (h : Post X C W (rpE X.K) σ H0 Z0 ι0 M0 (.ok (.ref M.length) (M ++ [.lst acc])) Q) : Q (.ref p) H := by
  have q : Rp X.K Z (put ι M.length p) (M ++ [MO.lst acc]).length (.ref M.length) (.ref (put ι M.length p M.length)) := .ref (by simp)
  rw [put_at] at q
  exact h _ H Z _ (e.adoptM h0) (hr.adoptM od hp ra) q
section
variable {elt tg iter : Expr} {ifs : List Expr} {scope : Scope} {own : List (Str × Nat)} {pos spos py : Pos} {gi : GI} {gg : GG} {gt : GT} {ge : GE} {is ixs : List Nat}
theorem qe_lc (hc : X.calm = true) (hN : X.N.Nodup) (hi : QI X C W tg iter gi) (ok : BlkOk X.N X.env.scope scope own)
    (hg : Blk X scope fun Y => QG Y tg gg is) (ht : Blk X scope fun Y => QTs Y C noW ifs gt) (he : Blk X scope fun Y => QE Y C noW elt ge) (hix : ixs = own.map (·.2) := by rfl) (hsub : ∀ i ∈ is, i ∈ own.map (·.2) := by decide) (hs : ∀ x, foldedSetIterable iter X.env x = pure x := by intro _; rfl) :
    QE X C W (.ListComp elt [⟨tg, iter, ifs, 0⟩] scope pos) (gLc gi gg gt ge ixs) := by
  subst hix
  obtain ⟨wi, pi, qi⟩ := hi
  exact ⟨_, pe_lc hc hN pi ok (blk_g hg) (blk_t ht) (blk_e he) hs, lc_read qi hsub fun σ H0 Z0 ι0 M0 p Q acc accV M H Z ι h0 e hr od hp ra h => fin_z h0 e hr od hp ra h⟩
theorem qe_lcO (hc : X.calm = true) (hN : X.N.Nodup) (hi : QI X C W tg iter gi) (ok : BlkOk X.N X.env.scope scope own)
    (hg : Blk X scope fun Y => QG Y tg gg is) (ht : Blk X scope fun Y => QTs Y C noW ifs gt) (he : Blk X scope fun Y => QE Y C noW elt ge) (hix : ixs = own.map (·.2) := by rfl) (hsub : ∀ i ∈ is, i ∈ own.map (·.2) := by decide) (hs : ∀ x, foldedSetIterable iter X.env x = pure x := by intro _; rfl) :
    QE X C W (.ListComp elt [⟨tg, iter, ifs, 0⟩] scope pos) (gLcO gi gg gt ge ixs) := by
  subst hix
  obtain ⟨wi, pi, qi⟩ := hi
  exact ⟨_, pe_lc hc hN pi ok (blk_g hg) (blk_t ht) (blk_e he) hs, lc_read qi hsub fun σ H0 Z0 ι0 M0 p Q acc accV M H Z ι h0 e hr od hp ra h => fin_m h0 e hr od hp ra h⟩
/-- y = [..]: the model stores the list within the comprehension -/
theorem qs_lc {i : Nat} {y : Str} (hc : X.calm = true) (hN : X.N.Nodup) (hy : X.N[i]? = some y) (hyl : X.env.scope.names.lookup y = some .local) (hsw : swapsWith (.ListComp elt [⟨tg, iter, ifs, 0⟩] scope pos) (some (.Name y py)) spos.line X.env = pure true)
    (hi : QI X C W tg iter gi) (ok : BlkOk X.N X.env.scope scope own) (hg : Blk X scope fun Y => QG Y tg gg is) (ht : Blk X scope fun Y => QTs Y C noW ifs gt) (he : Blk X scope fun Y => QE Y C noW elt ge)
    (hix : ixs = own.map (·.2) := by rfl) (hsub : ∀ i ∈ is, i ∈ own.map (·.2) := by decide) (hs : ∀ x, foldedSetIterable iter X.env x = pure x := by intro _; rfl) : QS X C W (.Assign [.Name y py] (.ListComp elt [⟨tg, iter, ifs, 0⟩] scope pos) spos) (gAsg (gLc gi gg gt ge ixs) (gTo i)) := by
  subst hix
  obtain ⟨wi, pi, qi⟩ := hi
  refine ⟨_, ps_setLc hc hN hy hyl hsw pi ok (blk_g hg) (blk_t ht) (blk_e he) hs, fun Dd σ H Z ι Γ M sl hr h => ?_⟩
  refine lc_read qi hsub (fin := fun acc M2 => .ok (.lst acc) M2) (fun σ H0 Z0 ι0 M0 p Q acc accV M H Z ι h0 e hr od hp ra h => fin_z h0 e hr od hp ra h) σ H Z ι Γ M _ sl hr (PostS.bind (Γ := Γ) h sl fun x M1 v H1 Z1 ι1 e1 hr1 r1 h1 => ?_)
  exact h1 _ H1 Z1 ι1 .refl hr1 ((sl.ext e1).set i r1)
end
end
end Bk

set_option Elab.async false
set_option linter.all false
set_option maxRecDepth 100000
set_option maxHeartbeats 2000000
namespace Bk
open PySem PySem.Spec PyProof.Rows L2

/-! ### calls: what of ours is handed over is lent, and comes back changed -/
/-- the arguments as the callee sees them, and which things of ours are lent -/
def lendA : Nat → List D → List D
  | _, [] => []
  | m, .ref _ :: r => .ref m :: lendA (m + 1) r
  | m, d :: r => d :: lendA m r
def lendK : List D → List Nat
  | [] => []
  | .ref k :: r => k :: lendK r
  | _ :: r => lendK r
def getAll (M : List MO) : List Nat → Option (List MO)
  | [] => some []
  | k :: ks => match M[k]?, getAll M ks with
    | some o, some os => some (o :: os)
    | _, _ => none
def setAll (M : List MO) : List Nat → List MO → List MO
  | k :: ks, o :: os => setAll (M.set k o) ks os
  | _, _ => M
def isDead : MO → Bool
  | .dead => true
  | _ => false
/-- no refs but at the top -/
def flatArgs : List D → Bool
  | [] => true
  | .ref _ :: r => flatArgs r
  | d :: r => below 0 d && flatArgs r
def lentOk (os : List MO) : Bool := os.all fun o => !isDead o && belowO 0 o
def backD (ks : List Nat) (n : Nat) : D → Option D
  | .ref j => if j < ks.length then (ks[j]?).map D.ref else some (.ref (n + (j - ks.length)))
  | d => if below 0 d = true then some d else none
/-- nothing is lent: nothing comes back -/
def callF (F : List D → List MO → R D) (ds : List D) (M : List MO) : R D := match getAll M (lendK ds) with
  | none => .bad
  | some os => if (lendK ds).Nodup ∧ flatArgs ds = true ∧ lentOk os = true then
      match F (lendA 0 ds) os with
      | .ok d os' => if (lendK ds).length ≤ os'.length ∧ os'.all (belowO 0) = true then
          match backD (lendK ds) M.length d with
          | some d' => .ok d' (setAll M (lendK ds) os' ++ os'.drop (lendK ds).length)
          | none => .bad
        else .bad
      | .exc c d os' => if (lendK ds).length ≤ os'.length ∧ os'.all (belowO 0) = true ∧ below 0 d = true then .exc c d (setAll M (lendK ds) os' ++ os'.drop (lendK ds).length) else .bad
      | .bad => .bad
    else .bad
def gCallF (n : Nat) (F : List D → List MO → R D) (ga : GA) : GE := fun Γ M => (ga Γ M).bind fun ds M1 => if ds.length = n then callF F ds M1 else .bad
/-- positional values, then the keywords' values, in the parameters' order -/
def pick {α : Type} (l : List α) : List Nat → List α
  | [] => []
  | i :: is => match l[i]? with
    | some a => a :: pick l is
    | none => pick l is
def gCallK (n : Nat) (F : List D → List MO → R D) (is : List Nat) (ga gk : GA) : GE := fun Γ M => (ga Γ M).bind fun ds M1 => (gk Γ M1).bind fun es M2 => if (pick (ds ++ es) is).length = n then callF F (pick (ds ++ es) is) M2 else .bad

section
variable {K : PySem.W.Frag} {Z : Hp} {ι : Nat → Addr} {n : Nat}
/-- which address stands for which lent thing -/
def lentι (ι : Nat → Addr) (ks : List Nat) : Nat → Addr := fun j => ι (ks.getD j 0)
theorem lend_rps : ∀ (ds : List D) (vs : List V) (pre : List Nat), flatArgs ds = true → Rps K Z ι n ds vs → Rps K Z (lentι ι (pre ++ lendK ds)) (pre ++ lendK ds).length (lendA pre.length ds) vs
  | [], _, _, _, h => by cases h; exact .nil
  | .ref k :: r, _, pre, hf, h => by
    cases h with
    | cons r1 rs =>
      cases r1 with
      | ref hk =>
        have ih := lend_rps r _ (pre ++ [k]) (by simpa [flatArgs] using hf) rs
        have e : pre ++ [k] ++ lendK r = pre ++ lendK (.ref k :: r) := by simp [lendK]
        rw [e] at ih
        have el : (pre ++ [k]).length = pre.length + 1 := by simp
        rw [el] at ih
        refine .cons ?_ ih
        have q : Rp K Z (lentι ι (pre ++ lendK (.ref k :: r))) (pre ++ lendK (.ref k :: r)).length (.ref pre.length) (.ref (lentι ι (pre ++ lendK (.ref k :: r)) pre.length)) := .ref (by simp [lendK])
        have ek : lentι ι (pre ++ lendK (.ref k :: r)) pre.length = ι k := by
          unfold lentι
          congr 1
          simp [lendK]
        rw [ek] at q
        exact q
  | .non :: r, _, pre, hf, h => by
    cases h with
    | cons r1 rs =>
      cases r1
      exact .cons .non (lend_rps r _ pre (by simpa [flatArgs, below] using hf) rs)
  | .bl b :: r, _, pre, hf, h => by
    cases h with
    | cons r1 rs =>
      cases r1
      exact .cons (.bl b) (lend_rps r _ pre (by simpa [flatArgs, below] using hf) rs)
  | .int i :: r, _, pre, hf, h => by
    cases h with
    | cons r1 rs =>
      cases r1
      exact .cons (.int i) (lend_rps r _ pre (by simpa [flatArgs, below] using hf) rs)
  | .str x :: r, _, pre, hf, h => by
    cases h with
    | cons r1 rs =>
      cases r1
      exact .cons (.str x) (lend_rps r _ pre (by simpa [flatArgs, below] using hf) rs)
  | .tup ds :: r, _, pre, hf, h => by
    cases h with
    | cons r1 rs =>
      have hf' : below 0 (.tup ds) = true ∧ flatArgs r = true := by simpa [flatArgs] using hf
      exact .cons (Rp.mono (fun _ _ z => z) (fun k hk => absurd hk (Nat.not_lt_zero _)) (Nat.zero_le _) _ _ (r1.shrink _ _ hf'.1)) (lend_rps r _ pre hf'.2 rs)
  | .lst ds :: r, _, pre, hf, h => by
    cases h with
    | cons r1 rs =>
      have hf' : below 0 (.lst ds) = true ∧ flatArgs r = true := by simpa [flatArgs] using hf
      exact .cons (Rp.mono (fun _ _ z => z) (fun k hk => absurd hk (Nat.not_lt_zero _)) (Nat.zero_le _) _ _ (r1.shrink _ _ hf'.1)) (lend_rps r _ pre hf'.2 rs)
  | .dct ks ws :: r, _, pre, hf, h => by
    cases h with
    | cons r1 rs =>
      have hf' : below 0 (.dct ks ws) = true ∧ flatArgs r = true := by simpa [flatArgs] using hf
      exact .cons (Rp.mono (fun _ _ z => z) (fun k hk => absurd hk (Nat.not_lt_zero _)) (Nat.zero_le _) _ _ (r1.shrink _ _ hf'.1)) (lend_rps r _ pre hf'.2 rs)
  | .ptu ds :: r, _, pre, hf, h => by
    cases h with
    | cons r1 rs =>
      have hf' : below 0 (.ptu ds) = true ∧ flatArgs r = true := by simpa [flatArgs] using hf
      exact .cons (Rp.mono (fun _ _ z => z) (fun k hk => absurd hk (Nat.not_lt_zero _)) (Nat.zero_le _) _ _ (r1.shrink _ _ hf'.1)) (lend_rps r _ pre hf'.2 rs)
  | .lam l cl :: r, _, pre, hf, h => by
    cases h with
    | cons r1 rs =>
      have hf' : below 0 (.lam l cl) = true ∧ flatArgs r = true := by simpa [flatArgs] using hf
      exact .cons (Rp.mono (fun _ _ z => z) (fun k hk => absurd hk (Nat.not_lt_zero _)) (Nat.zero_le _) _ _ (r1.shrink _ _ hf'.1)) (lend_rps r _ pre hf'.2 rs)
  | .exn nm f d :: r, _, pre, hf, h => by
    cases h with
    | cons r1 rs =>
      have hf' : below 0 (.exn nm f d) = true ∧ flatArgs r = true := by simpa [flatArgs] using hf
      exact .cons (Rp.mono (fun _ _ z => z) (fun k hk => absurd hk (Nat.not_lt_zero _)) (Nat.zero_le _) _ _ (r1.shrink _ _ hf'.1)) (lend_rps r _ pre hf'.2 rs)
  | .exv a dx f d :: r, _, pre, hf, h => by
    cases h with
    | cons r1 rs =>
      have hf' : below 0 (.exv a dx f d) = true ∧ flatArgs r = true := by simpa [flatArgs] using hf
      exact .cons (Rp.mono (fun _ _ z => z) (fun k hk => absurd hk (Nat.not_lt_zero _)) (Nat.zero_le _) _ _ (r1.shrink _ _ hf'.1)) (lend_rps r _ pre hf'.2 rs)
  | .dcx k d :: r, _, pre, hf, h => by
    cases h with
    | cons r1 rs =>
      have hf' : below 0 (.dcx k d) = true ∧ flatArgs r = true := by simpa [flatArgs] using hf
      exact .cons (Rp.mono (fun _ _ z => z) (fun k hk => absurd hk (Nat.not_lt_zero _)) (Nat.zero_le _) _ _ (r1.shrink _ _ hf'.1)) (lend_rps r _ pre hf'.2 rs)
theorem getAll_at {M : List MO} : ∀ {ks : List Nat} {os : List MO}, getAll M ks = some os → os.length = ks.length ∧ ∀ (j : Nat) (o : MO), os[j]? = some o → ∃ k, ks[j]? = some k ∧ M[k]? = some o
  | [], os, h => by
    cases h
    exact ⟨rfl, fun j o e => by simp at e⟩
  | k :: ks, os, h => by
    unfold getAll at h
    cases e1 : M[k]? with
    | none => rw [e1] at h; simp at h
    | some o =>
      cases e2 : getAll M ks with
      | none => rw [e1, e2] at h; simp at h
      | some os' =>
        rw [e1, e2] at h
        cases h
        obtain ⟨l, f⟩ := getAll_at e2
        refine ⟨by simp [l], fun j o' e => ?_⟩
        cases j with
        | zero =>
          simp at e
          subst e
          exact ⟨k, rfl, e1⟩
        | succ j =>
          obtain ⟨k', h1, h2⟩ := f j o' (by simpa using e)
          exact ⟨k', by simpa using h1, h2⟩
theorem setAll_length : ∀ (ks : List Nat) (os : List MO) (M : List MO), (setAll M ks os).length = M.length
  | [], _, _ => by simp [setAll]
  | _ :: _, [], _ => by simp [setAll]
  | k :: ks, o :: os, M => by
    show (setAll (M.set k o) ks os).length = _
    rw [setAll_length ks os, List.length_set]
/-- what stands where, behind -/
theorem setAll_at : ∀ (ks : List Nat) (os : List MO) (M : List MO) (k : Nat) (o : MO), ks.Nodup → ks.length ≤ os.length → (setAll M ks os)[k]? = some o → (k ∉ ks ∧ M[k]? = some o) ∨ ∃ j : Nat, j < ks.length ∧ ks[j]? = some k ∧ os[j]? = some o
  | [], _, M, k, o, _, _, h => .inl ⟨by simp, by simpa [setAll] using h⟩
  | _ :: _, [], _, _, _, _, hl, _ => by simp at hl
  | k0 :: ks, o0 :: os, M, k, o, nd, hl, h => by
    have nd' := List.nodup_cons.mp nd
    rcases setAll_at ks os (M.set k0 o0) k o nd'.2 (by simpa using hl) h with ⟨h1, h2⟩ | ⟨j, h1, h2, h3⟩
    · by_cases e : k0 = k
      · subst e
        have lt : k0 < M.length := by
          have := (List.getElem?_eq_some_iff.mp h2).1
          rw [List.length_set] at this
          exact this
        rw [List.getElem?_set_self lt] at h2
        exact .inr ⟨0, by simp, rfl, by simpa using h2⟩
      · rw [List.getElem?_set_ne e] at h2
        exact .inl ⟨by simp only [List.mem_cons, not_or]; exact ⟨fun z => e z.symm, h1⟩, h2⟩
    · exact .inr ⟨j + 1, by simp; omega, by simpa using h2, by simpa using h3⟩
end
/-- the things that are lent, as the callee has them -/
theorem HR.lend {K : PySem.W.Frag} {H Z : Hp} {ι : Nat → Addr} {M os : List MO} {ks : List Nat} (h : HR K H Z ι M) (nd : ks.Nodup) (g : getAll M ks = some os) (lo : lentOk os = true) : HR K H Z (lentι ι ks) os := by
  obtain ⟨l, f⟩ := getAll_at g
  have at_ : ∀ {j k : Nat}, ks[j]? = some k → lentι ι ks j = ι k := fun {j k} e => by
    unfold lentι
    rw [List.getD_eq_getElem?_getD, e]
    rfl
  have ok : ∀ {j : Nat} {o : MO}, os[j]? = some o → belowO 0 o = true ∧ o ≠ .dead := fun {j o} e => by
    have q := List.all_eq_true.mp lo o (List.mem_of_getElem? e)
    simp only [Bool.and_eq_true, Bool.not_eq_true'] at q
    exact ⟨q.2, fun z => by rw [z] at q; exact absurd q.1 (by simp [isDead])⟩
  refine ⟨h.sub, fun j hj => ?_, fun j o e d => ?_, fun i j o u e1 e2 d1 d2 e => ?_, fun j o e => ?_, fun j e => absurd rfl (ok e).2⟩
  · obtain ⟨k, h1, h2⟩ := f j os[j] (List.getElem?_eq_getElem hj)
    rw [at_ h1]
    exact h.ali k (List.getElem?_eq_some_iff.mp h2).1
  · obtain ⟨k, h1, h2⟩ := f j o e
    rw [at_ h1]
    exact h.sep k o h2 d
  · obtain ⟨k1, a1, b1⟩ := f i o e1
    obtain ⟨k2, a2, b2⟩ := f j u e2
    rw [at_ a1, at_ a2] at e
    have ek := h.inj k1 k2 o u b1 b2 d1 d2 e
    subst ek
    obtain ⟨i1, i2⟩ := List.getElem?_eq_some_iff.mp a1
    obtain ⟨j1, j2⟩ := List.getElem?_eq_some_iff.mp a2
    exact (List.getElem_inj nd).mp (i2.trans j2.symm)
  · obtain ⟨k, h1, h2⟩ := f j o e
    rw [at_ h1]
    exact (h.obj k o h2).low (ok e).1
/-- where everything stands behind a call -/
def backι (ι ι' : Nat → Addr) (n m : Nat) : Nat → Addr := fun k => if k < n then ι k else ι' (m + (k - n))
theorem HR.back {K : PySem.W.Frag} {H Z H' Z' : Hp} {ι ι' : Nat → Addr} {M os os' : List MO} {ks : List Nat} (h : HR K H Z ι M) (nd : ks.Nodup) (g : getAll M ks = some os) (lo : lentOk os = true) (e : Ext H Z (lentι ι ks) os.length H' Z' ι' os'.length) (h' : HR K H' Z' ι' os')
    (hl : ks.length ≤ os'.length) (hb : os'.all (belowO 0) = true) :
    HR K H' Z' (backι ι ι' M.length ks.length) (setAll M ks os' ++ os'.drop ks.length) ∧ Ext H Z ι M.length H' Z' (backι ι ι' M.length ks.length) (setAll M ks os' ++ os'.drop ks.length).length := by
  obtain ⟨l, f⟩ := getAll_at g
  have ln : (setAll M ks os' ++ os'.drop ks.length).length = M.length + (os'.length - ks.length) := by rw [List.length_append, setAll_length, List.length_drop]
  have bl : ∀ {k : Nat}, k < M.length → backι ι ι' M.length ks.length k = ι k := fun hk => if_pos hk
  have bn : ∀ {k : Nat}, ¬ k < M.length → backι ι ι' M.length ks.length k = ι' (ks.length + (k - M.length)) := fun hk => if_neg hk
  have at_ : ∀ {j k : Nat}, ks[j]? = some k → lentι ι ks j = ι k := fun {j k} e => by
    unfold lentι
    rw [List.getD_eq_getElem?_getD, e]
    rfl
  have at' : ∀ {j k : Nat}, ks[j]? = some k → ι' j = ι k := fun {j k} z => (e.ii j (by rw [l]; exact (List.getElem?_eq_some_iff.mp z).1)).trans (at_ z)
  have cs : ∀ {k : Nat} {o : MO}, (setAll M ks os' ++ os'.drop ks.length)[k]? = some o → (k < M.length ∧ k ∉ ks ∧ M[k]? = some o) ∨ (k < M.length ∧ ∃ j : Nat, ks[j]? = some k ∧ os'[j]? = some o) ∨ (¬ k < M.length ∧ os'[ks.length + (k - M.length)]? = some o) := fun {k o} z => by
    by_cases hk : k < M.length
    · rw [List.getElem?_append_left (by rw [setAll_length]; exact hk)] at z
      rcases setAll_at ks os' M k o nd hl z with ⟨h1, h2⟩ | ⟨j, _, h2, h3⟩
      · exact .inl ⟨hk, h1, h2⟩
      · exact .inr (.inl ⟨hk, j, h2, h3⟩)
    · rw [List.getElem?_append_right (by rw [setAll_length]; exact Nat.le_of_not_lt hk), setAll_length, List.getElem?_drop] at z
      exact .inr (.inr ⟨hk, z⟩)
  have dd : ∀ {j : Nat} {o : MO}, os[j]? = some o → o ≠ .dead := fun {j o} e => by
    have q := List.all_eq_true.mp lo o (List.mem_of_getElem? e)
    simp only [Bool.and_eq_true, Bool.not_eq_true'] at q
    exact fun z => by rw [z] at q; exact absurd q.1 (by simp [isDead])
  -- a live thing that was not lent stands apart from all that were
  have apart : ∀ {k j : Nat} {o : MO}, k ∉ ks → M[k]? = some o → o ≠ .dead → j < os.length → ι k ≠ lentι ι ks j := fun {k j o} hk ho hd hj z => by
    obtain ⟨k', h1, h2⟩ := f j os[j] (List.getElem?_eq_getElem hj)
    rw [at_ h1] at z
    have ek := h.inj k k' o os[j] ho h2 hd (dd (List.getElem?_eq_getElem hj)) z
    subst ek
    exact hk (List.mem_of_getElem? h1)
  have old : ∀ {k : Nat}, k < M.length → ∃ u, H (ι k) = some u := fun hk => h.ali _ hk
  have nw : ∀ {k j : Nat}, k < M.length → os.length ≤ j → j < os'.length → ι k ≠ ι' j := fun {k j} hk h1 h2 z => by
    obtain ⟨u, hu⟩ := old hk
    have w := e.nw j h1 h2
    rw [← z, hu] at w
    cases w
  refine ⟨⟨h'.sub, fun k hk => ?_, fun k o z d => ?_, fun a b o u z1 z2 d1 d2 z => ?_, fun k o z => ?_, fun k z => ?_⟩, e.zz, fun k hk => bl hk, fun a o h1 h2 => e.fr a o h1 fun j hj z => ?_, fun k h1 h2 => ?_, by rw [ln]; omega, fun a o z => ?_⟩
  · by_cases hk' : k < M.length
    · rw [bl hk']
      obtain ⟨u, hu⟩ := old hk'
      by_cases z : ∃ j, j < os.length ∧ ι k = lentι ι ks j
      · obtain ⟨j, hj, z⟩ := z
        rw [z, ← e.ii j hj]
        exact h'.ali j (Nat.lt_of_lt_of_le hj e.ln)
      · exact ⟨u, e.fr _ _ hu fun j hj q => z ⟨j, hj, q⟩⟩
    · rw [bn hk']
      rw [ln] at hk
      exact h'.ali _ (by omega)
  · rcases cs z with ⟨hk, hn, ho⟩ | ⟨hk, j, hj, ho⟩ | ⟨hk, ho⟩
    · rw [bl hk]
      cases q : Z' (ι k) with
      | none => rfl
      | some w =>
        rcases e.zn _ _ q with a | a | ⟨j, hj, a⟩
        · rw [h.sep k o ho d] at a; cases a
        · obtain ⟨u, hu⟩ := old hk
          rw [hu] at a; cases a
        · exact absurd a (apart hn ho d hj)
    · rw [bl hk, ← at' hj]
      exact h'.sep j o ho d
    · rw [bn hk]
      exact h'.sep _ o ho d
  · rcases cs z1 with ⟨ha, hn, ho⟩ | ⟨ha, i, hi, ho⟩ | ⟨ha, ho⟩ <;> rcases cs z2 with ⟨hb', hn', hu⟩ | ⟨hb', j, hj, hu⟩ | ⟨hb', hu⟩
    · rw [bl ha, bl hb'] at z
      exact h.inj a b o u ho hu d1 d2 z
    · rw [bl ha, bl hb'] at z
      exact absurd (z.trans (at_ hj).symm) (apart hn ho d1 (by rw [l]; exact (List.getElem?_eq_some_iff.mp hj).1))
    · rw [bl ha, bn hb'] at z
      exact absurd z (nw ha (by rw [l]; omega) (List.getElem?_eq_some_iff.mp hu).1)
    · rw [bl ha, bl hb'] at z
      exact absurd (z.symm.trans (at_ hi).symm) (apart hn' hu d2 (by rw [l]; exact (List.getElem?_eq_some_iff.mp hi).1))
    · rw [bl ha, bl hb', ← at' hi, ← at' hj] at z
      have ij := h'.inj i j o u ho hu d1 d2 z
      subst ij
      rw [hi] at hj
      exact Option.some.inj hj
    · rw [bl ha, bn hb', ← at' hi] at z
      have ij := h'.inj i _ o u ho hu d1 d2 z
      have := (List.getElem?_eq_some_iff.mp hi).1
      omega
    · rw [bn ha, bl hb'] at z
      exact absurd z.symm (nw hb' (by rw [l]; omega) (List.getElem?_eq_some_iff.mp ho).1)
    · rw [bn ha, bl hb', ← at' hj] at z
      have ij := h'.inj _ j o u ho hu d1 d2 z
      have := (List.getElem?_eq_some_iff.mp hj).1
      omega
    · rw [bn ha, bn hb'] at z
      have ij := h'.inj _ _ o u ho hu d1 d2 z
      omega
  · have low : ∀ {j : Nat} {o : MO}, os'[j]? = some o → belowO 0 o = true := fun q => List.all_eq_true.mp hb _ (List.mem_of_getElem? q)
    rcases cs z with ⟨hk, hn, ho⟩ | ⟨hk, j, hj, ho⟩ | ⟨hk, ho⟩
    · rw [bl hk]
      by_cases du : o = .dead
      · subst du
        trivial
      · exact OR.mono e.zz (fun k hk => bl hk) (by rw [ln]; omega) (fun u z => e.fr _ _ z fun j hj => apart hn ho du hj) (h.obj k o ho)
    · rw [bl hk, ← at' hj]
      exact (h'.obj j o ho).low (low ho)
    · rw [bn hk]
      exact (h'.obj _ o ho).low (low ho)
  · rcases cs z with ⟨hk, _, ho⟩ | ⟨hk, j, hj, ho⟩ | ⟨hk, ho⟩
    · rw [bl hk]
      obtain ⟨u, hu⟩ := h.ded k ho
      exact ⟨u, e.zz _ _ hu⟩
    · rw [bl hk, ← at' hj]
      exact h'.ded j ho
    · rw [bn hk]
      exact h'.ded _ ho
  · obtain ⟨k, q1, q2⟩ := f j os[j] (List.getElem?_eq_getElem hj)
    rw [at_ q1] at z
    exact h2 k (List.getElem?_eq_some_iff.mp q2).1 z
  · rw [bn (Nat.not_lt.mpr h1)]
    rw [ln] at h2
    exact e.nw _ (by rw [l]; omega) (by omega)
  · rcases e.zn a o z with q | q | ⟨j, hj, q⟩
    · exact .inl q
    · exact .inr (.inl q)
    · obtain ⟨k, q1, q2⟩ := f j os[j] (List.getElem?_eq_getElem hj)
      rw [at_ q1] at q
      exact .inr (.inr ⟨k, (List.getElem?_eq_some_iff.mp q2).1, q⟩)
theorem backD_rp {K : PySem.W.Frag} {Z' : Hp} {ι ι' : Nat → Addr} {ks : List Nat} {n m N : Nat} {d d' : D} {v : V} (hk : ∀ k ∈ ks, k < n) (hi : ∀ (j k : Nat), ks[j]? = some k → ι' j = ι k) (hN : n + (m - ks.length) ≤ N) (r : Rp K Z' ι' m d v) (h : backD ks n d = some d') :
    Rp K Z' (backι ι ι' n ks.length) N d' v := by
  have flat : ∀ {d : D}, below 0 d = true → Rp K Z' ι' m d v → Rp K Z' (backι ι ι' n ks.length) N d v := fun b r => Rp.mono (fun _ _ z => z) (fun _ z => absurd z (Nat.not_lt_zero _)) (Nat.zero_le _) _ _ (r.shrink _ _ b)
  cases r with
  | ref hj =>
    rename_i j
    have h' : (if j < ks.length then (ks[j]?).map D.ref else some (.ref (n + (j - ks.length)))) = some d' := h
    by_cases hl : j < ks.length
    · rw [if_pos hl, List.getElem?_eq_getElem hl] at h'
      cases h'
      have hk' := hk _ (List.getElem_mem hl)
      have q : Rp K Z' (backι ι ι' n ks.length) N (.ref ks[j]) (.ref (backι ι ι' n ks.length ks[j])) := .ref (by omega)
      rw [show backι ι ι' n ks.length ks[j] = ι' j by unfold backι; rw [if_pos hk']; exact (hi j _ (List.getElem?_eq_getElem hl)).symm] at q
      exact q
    · rw [if_neg hl] at h'
      cases h'
      have q : Rp K Z' (backι ι ι' n ks.length) N (.ref (n + (j - ks.length))) (.ref (backι ι ι' n ks.length (n + (j - ks.length)))) := .ref (by omega)
      rw [show backι ι ι' n ks.length (n + (j - ks.length)) = ι' j by unfold backι; rw [if_neg (by omega)]; congr 1; omega] at q
      exact q
  | non => cases h; exact .non
  | bl b => cases h; exact .bl b
  | int i => cases h; exact .int i
  | str x => cases h; exact .str x
  | tup s r =>
    rename_i ds a xs
    have h' : (if below 0 (.tup ds) = true then some (D.tup ds) else none) = some d' := h
    by_cases b : below 0 (.tup ds) = true
    · rw [if_pos b] at h'
      cases h'
      exact flat b (.tup s r)
    · rw [if_neg b] at h'
      cases h'
  | lst s r =>
    rename_i ds a xs
    have h' : (if below 0 (.lst ds) = true then some (D.lst ds) else none) = some d' := h
    by_cases b : below 0 (.lst ds) = true
    · rw [if_pos b] at h'
      cases h'
      exact flat b (.lst s r)
    · rw [if_neg b] at h'
      cases h'
  | dct s r t =>
    rename_i ks ws a nks kx xs
    have h' : (if below 0 (.dct ks ws) = true then some (D.dct ks ws) else none) = some d' := h
    by_cases b : below 0 (.dct ks ws) = true
    · rw [if_pos b] at h'
      cases h'
      exact flat b (.dct s r t)
    · rw [if_neg b] at h'
      cases h'
  | ptu s r =>
    rename_i ds a xs
    have h' : (if below 0 (.ptu ds) = true then some (D.ptu ds) else none) = some d' := h
    by_cases b : below 0 (.ptu ds) = true
    · rw [if_pos b] at h'
      cases h'
      exact flat b (.ptu s r)
    · rw [if_neg b] at h'
      cases h'
  | lam s r =>
    rename_i l cl a c
    have h' : (if below 0 (.lam l cl) = true then some (D.lam l cl) else none) = some d' := h
    rw [if_pos (show below 0 (.lam l cl) = true from rfl)] at h'
    cases h'
    exact flat rfl (.lam s r)
  | exv q w =>
    rename_i a dx f d v
    have h' : (if below 0 (.exv a dx f d) = true then some (D.exv a dx f d) else none) = some d' := h
    by_cases b : below 0 (.exv a dx f d) = true
    · rw [if_pos b] at h'
      cases h'
      exact flat b (.exv q w)
    · rw [if_neg b] at h'
      cases h'
  | dcx q w =>
    rename_i k d a v
    have h' : (if below 0 (.dcx k d) = true then some (D.dcx k d) else none) = some d' := h
    by_cases b : below 0 (.dcx k d) = true
    · rw [if_pos b] at h'
      cases h'
      exact flat b (.dcx q w)
    · rw [if_neg b] at h'
      cases h'
  | exn s r q w =>
    rename_i nm f d a dx B v
    have h' : (if below 0 (.exn nm f d) = true then some (D.exn nm f d) else none) = some d' := h
    by_cases b : below 0 (.exn nm f d) = true
    · rw [if_pos b] at h'
      cases h'
      exact flat b (.exn s r q w)
    · rw [if_neg b] at h'
      cases h'
end Bk

set_option Elab.async false
set_option linter.all false
set_option maxRecDepth 100000
set_option maxHeartbeats 2000000
namespace Bk
open PySem PySem.Spec PyProof.Rows L2

/-! ### defs -/
def PostF (K : PySem.W.Frag) (C : CT) (E : XK) (H Z : Hp) (ι : Nat → Addr) (M : List MO) (r : R D) (Q : VK) : Prop := match r with
  | .ok d M' => ∀ (v : V) (H' Z' : Hp) (ι' : Nat → Addr), Ext H Z ι M.length H' Z' ι' M'.length → HR K H' Z' ι' M' → Rp K Z' ι' M'.length d v → Q v H'
  | .exc c d M' => ∀ (cls : Value) (dd : Option Addr) (H' Z' : Hp) (ι' : Nat → Addr), Ext H Z ι M.length H' Z' ι' M'.length → HR K H' Z' ι' M' → ExcR K C H' Z' ι' M'.length c d cls dd → E cls dd H'
  | .bad => False
/-- the def at f computes F, by at most k calls one in another -/
structure FnQ (P : Program) (w : World) (K : PySem.W.Frag) (mg : Str → Option Value) (base : Heap) (C : CT) (k : Nat) (f : Addr) (fd : FuncData) (ps : List Str) (F : List D → List MO → R D) : Prop where
  run : ∀ (A : Around) (outer : List PySem.Env) (s : Shared) (H : Hp) (args : Args) (us : List Value) (vs : List V) (Q : VK) (E : XK) (ds : List D) (Z : Hp) (ι : Nat → Addr) (M : List MO), Room k A → A.guards = some [] → Env0 P w K mg base A outer s H →
    BindsTo s fd args (ps.zip us) → Vals vs us → vs.length = ps.length → Rps K Z ι M.length ds vs → HR K H Z ι M → PostF K C E H Z ι M (F ds M) Q → codeAny (model P w) A (.call (.ref f) args) (CR (L2.CX P w) outer P w H s Q E) s
theorem FnQ.mono {P : Program} {w : World} {K : PySem.W.Frag} {mg : Str → Option Value} {base : Heap} {C : CT} {j k : Nat} {f : Addr} {fd : FuncData} {ps : List Str} {F : List D → List MO → R D} (x : FnQ P w K mg base C j f fd ps F) (h : j ≤ k) : FnQ P w K mg base C k f fd ps F :=
  ⟨fun A outer s H args us vs Q E ds Z ι M hr => x.run A outer s H args us vs Q E ds Z ι M (hr.mono h)⟩
/-- what a body's end gives the caller: what it made besides is dropped -/
def retR (m : Nat) (M' : List MO) : D → R D
  | .ref k => if k < m then .ok (.ref k) (M'.take m) else match M'[k]? with
    | some (.lst ds) => if belows m ds = true then .ok (.ref m) (M'.take m ++ [.lst ds]) else .bad
    | _ => .bad
  | d => if below m d = true then .ok d (M'.take m) else .bad
def fin (m : Nat) : RS → R D
  | .rt d M' => if m ≤ M'.length ∧ cutOk m M' = true then retR m M' d else .bad
  | .nx _ M' => if m ≤ M'.length ∧ cutOk m M' = true then .ok .non (M'.take m) else .bad
  | .exc c d _ M' => if m ≤ M'.length ∧ cutOk m M' = true ∧ below m d = true then .exc c d (M'.take m) else .bad
  | _ => .bad
/-- a def of n names with the body g -/
def runF (n : Nat) (g : GS) (ds : List D) (M : List MO) : R D := fin M.length (g (ds.map some ++ List.replicate (n - ds.length) none) M)

section
variable {K : PySem.W.Frag} {C : CT} {H Z H' Z' : Hp} {ι ι' : Nat → Addr} {M M' : List MO} {E : XK} {Q : VK}
theorem take_len {α : Type} {l : List α} {m : Nat} (h : m ≤ l.length) : (l.take m).length = m := by rw [List.length_take]; omega
theorem retR_run {d : D} {v : V} (e : Ext H Z ι M.length H' Z' ι' M'.length) (hr : HR K H' Z' ι' M') (r : Rp K Z' ι' M'.length d v) (c1 : M.length ≤ M'.length) (c2 : cutOk M.length M' = true) (h : PostF K C E H Z ι M (retR M.length M' d) Q) : Q v H' := by
  have ln := take_len c1
  have flat : ∀ {d : D}, Rp K Z' ι' M'.length d v → PostF K C E H Z ι M (if below M.length d = true then .ok d (M'.take M.length) else .bad) Q → Q v H' := fun {d} r h => by
    by_cases b : below M.length d = true
    · rw [if_pos b] at h
      exact h v H' Z' ι' (by rw [ln]; exact e.cut (Nat.le_refl _) c1) (hr.cut c1 c2) (by rw [ln]; exact r.shrink _ _ b)
    · rw [if_neg b] at h
      exact h.elim
  cases r with
  | ref hk =>
    rename_i k
    have h2 : PostF K C E H Z ι M (if k < M.length then .ok (.ref k) (M'.take M.length) else match M'[k]? with
      | some (.lst ds) => if belows M.length ds = true then .ok (.ref M.length) (M'.take M.length ++ [.lst ds]) else .bad
      | _ => .bad) Q := h
    by_cases hm : k < M.length
    · rw [if_pos hm] at h2
      exact h2 _ H' Z' ι' (by rw [ln]; exact e.cut (Nat.le_refl _) c1) (hr.cut c1 c2) (by rw [ln]; exact .ref hm)
    · rw [if_neg hm] at h2
      cases e1 : M'[k]? with
      | none => rw [e1] at h2; exact h2.elim
      | some o =>
        rw [e1] at h2
        cases o with
        | dead => exact h2.elim
        | dct ks0 vs0 => exact h2.elim
        | dki kvs0 => exact h2.elim
        | tab nm0 => exact h2.elim
        | obj nm fs => exact h2.elim
        | lst ds =>
          have h3 : PostF K C E H Z ι M (if belows M.length ds = true then .ok (.ref M.length) (M'.take M.length ++ [.lst ds]) else .bad) Q := h2
          by_cases b : belows M.length ds = true
          · rw [if_pos b] at h3
            obtain ⟨xs, e2, r2⟩ := hr.obj k _ e1
            have hc := hr.cut c1 c2
            have lk : k < M'.length := (List.getElem?_eq_some_iff.mp e1).1
            have od : Odd Z' ι' (M'.take M.length).length (ι' k) := ⟨hr.sep k _ e1 (by simp), fun j hj => by
              rw [ln] at hj
              exact hr.apart (by omega) e1 (by simp) (by omega)⟩
            have q : Rp K Z' (put ι' (M'.take M.length).length (ι' k)) (M'.take M.length ++ [MO.lst ds]).length (.ref (M'.take M.length).length) (.ref (put ι' (M'.take M.length).length (ι' k) (M'.take M.length).length)) := .ref (by simp)
            rw [put_at] at q
            have n0 : H (ι' k) = none := e.nw k (by omega) lk
            have x := Ext.adoptM (M := M'.take M.length) (ds := ds) (p := ι' k) (by rw [ln]; exact e.cut (Nat.le_refl _) c1) n0
            have z := hc.adoptM od e2 (by rw [ln]; exact Rps.shrink _ _ r2 b)
            have h4 : PostF K C E H Z ι M (.ok (.ref (M'.take M.length).length) (M'.take M.length ++ [.lst ds])) Q := by rw [ln]; exact h3
            exact h4 _ H' Z' _ x z q
          · rw [if_neg b] at h3
            exact h3.elim
  | non => exact flat .non h
  | bl b => exact flat (.bl b) h
  | int i => exact flat (.int i) h
  | str x => exact flat (.str x) h
  | tup s r => exact flat (.tup s r) h
  | lst s r => exact flat (.lst s r) h
  | dct s r t => exact flat (.dct s r t) h
  | ptu s r => exact flat (.ptu s r) h
  | lam s r => exact flat (.lam s r) h
  | exn s r q w => exact flat (.exn s r q w) h
  | exv q w => exact flat (.exv q w) h
  | dcx q w => exact flat (.dcx q w) h

theorem fin_run {X : Cx} {W : WX} {r : RS} (hW : ∀ c d σ H, E c d H → W c d σ H) (eK : X.K = K) (h : PostF K C E H Z ι M (fin M.length r) Q) : PostS X C W H Z ι M r { nx := fun _ H' => Q .non H', rt := Q } := by
  subst eK
  cases r with
  | bad => exact h
  | bk Γ M' => exact h.elim
  | ct Γ M' => exact h.elim
  | nx Γ M' =>
    have h2 : PostF X.K C E H Z ι M (if M.length ≤ M'.length ∧ cutOk M.length M' = true then .ok .non (M'.take M.length) else .bad) Q := h
    by_cases c : M.length ≤ M'.length ∧ cutOk M.length M' = true
    · rw [if_pos c] at h2
      intro σ' H' Z' ι' e hr sl
      have ln := take_len c.1
      exact h2 .non H' Z' ι' (by rw [ln]; exact e.cut (Nat.le_refl _) c.1) (hr.cut c.1 c.2) .non
    · rw [if_neg c] at h2
      exact h2.elim
  | rt d M' =>
    have h2 : PostF X.K C E H Z ι M (if M.length ≤ M'.length ∧ cutOk M.length M' = true then retR M.length M' d else .bad) Q := h
    by_cases c : M.length ≤ M'.length ∧ cutOk M.length M' = true
    · rw [if_pos c] at h2
      intro v H' Z' ι' e hr r
      exact retR_run e hr r c.1 c.2 h2
    · rw [if_neg c] at h2
      exact h2.elim
  | exc n d Γ M' =>
    have h2 : PostF X.K C E H Z ι M (if M.length ≤ M'.length ∧ cutOk M.length M' = true ∧ below M.length d = true then .exc n d (M'.take M.length) else .bad) Q := h
    by_cases c : M.length ≤ M'.length ∧ cutOk M.length M' = true ∧ below M.length d = true
    · rw [if_pos c] at h2
      intro cls dd σ' H' Z' ι' e hr sl x
      have ln := take_len c.1
      obtain ⟨x1, a, v, x2, x3, x4⟩ := x
      exact hW _ _ _ _ (h2 cls dd H' Z' ι' (by rw [ln]; exact e.cut (Nat.le_refl _) c.1) (hr.cut c.1 c.2.1) ⟨x1, a, v, x2, x3, by rw [ln]; exact x4.shrink _ _ c.2.2⟩)
    · rw [if_neg c] at h2
      exact h2.elim
theorem slots_start {ds : List D} {vs : List V} {N : List Str} {n : Nat} (r : Rps K Z ι n ds vs) (hl : vs.length ≤ N.length) : Slots K Z ι n (ds.map some ++ List.replicate (N.length - ds.length) none) (L2.start N vs) := by
  have l := r.length
  refine ⟨by unfold L2.start; simp [l], fun i d h => ?_⟩
  by_cases hi : i < ds.length
  · rw [List.getElem?_append_left (by simpa using hi), List.getElem?_map] at h
    cases e : ds[i]? with
    | none => rw [e] at h; cases h
    | some d' =>
      rw [e] at h
      cases h
      obtain ⟨v, e2, r2⟩ := r.get e
      refine ⟨v, ?_, r2⟩
      unfold L2.start
      rw [List.getElem?_append_left (by rw [List.length_map, ← l]; exact hi), List.getElem?_map, e2]
      rfl
  · rw [List.getElem?_append_right (by simpa using Nat.le_of_not_lt hi), List.getElem?_replicate] at h
    split at h <;> cases h
end
section
variable {P : Program} {w : World} {K : PySem.W.Frag} {mg : Str → Option Value} {base : Heap} {C : CT}
/-- THE RULE for a def: its body computes g -/
theorem fq_of {x qual : Str} {st : Stmt} {f : Addr} {fd : FuncData} {N ps : List Str} {k : Nat} {g : GS} (F : Fun K x qual st f fd) (S : FnScope N ps (defScope st))
    (hbody : ∀ (cdv : Value) (A : Around) (outer : List PySem.Env) (s : Shared) (H : Hp) (E : XK), Room k (A.deeper (envOfC qual (defScope st) s.heap.objs.size f cdv)) → A.guards = some [] →
      QSs (cxOf (L2.CX P w) P w K mg base N qual (defScope st) f cdv A outer s H E) C (fun cls d _ H => E cls d H) (defBody st) g) : FnQ P w K mg base C (k + 1) f fd ps (runF N.length g) := by
  obtain ⟨oc, od, kV, doc, pm, an, cdv, ct, osl, rfl, lk, hcd⟩ := F.ex
  refine ⟨fun A outer s H args us vs Q E ds Z ι M room hgu env0 hbind rvs hlen rds hr hpost => ?_⟩
  have hK : K.In s.heap := env0.mod.kin.keeps fun b o z => (env0.bs b o z).1
  have hlim : s.heap.NoLimit := env0.mod.nolimit.keeps fun b o z => (env0.bs b o z).1
  have kinds : ∀ y ∈ ps.zip us, (defScope st).names.lookup y.1 = some .local ∨ ((defScope st).names.lookup y.1 = some .cell ∧ ((cellsFrom (s.heap.objs.size + 1) (defScope st).names []).lookup y.1).isSome = true) := fun y hy => by
    rcases S.par y.1 (List.of_mem_zip (a := y.1) (b := y.2) hy).1 with z | z
    · exact .inl z
    · exact .inr ⟨z, PySem.W.cellsFrom_some _ _ _ (.inl z)⟩
  refine codeAny_call_function room.depth (hK _ _ lk) rfl S.co S.gen rfl (PySem.W.codeRec_of hK hcd) (hbind _ _ _ _ (wpAny_newFunctionEnv_cells S.kind kinds fun env he s1 ic => ?_))
  subst he
  refine ⟨hlim.keeps ic.toInCall.keep, codeAny_func ?_⟩
  obtain ⟨ts, pts, qts⟩ := hbody cdv A outer s H E (room.deeper _) hgu
  have J : Inv (cxOf (L2.CX P w) P w K mg base N qual (defScope st) f cdv A outer s H E) [] (L2.start N vs) H s1 := inv_start S room.hd env0 hlen rvs ic
  have lN : vs.length ≤ N.length := by
    have z := congrArg List.length S.pre
    rw [List.length_take] at z
    omega
  have hq := qts _ (L2.start N vs) H Z ι _ M (slots_start rds lN) hr (fin_run (E := E) (fun _ _ _ _ z => z) rfl hpost)
  refine wpAny_mono (pts.run [] s1 _ H _ J hq) (fun fl s' hs => ?_) fun _ _ hs => hs
  have ends : ∀ {σ' : L2.St} {H' : Hp} {v : V} {u : Value}, Inv (cxOf (L2.CX P w) P w K mg base N qual (defScope st) f cdv A outer s H E) [] σ' H' s' → RelV v u → Q v H' → CE outer P w H s Q u s' :=
    fun {σ' H' v u} J2 rv q => ⟨v, H', J2.os, J2.bare, J2.base, J2.hok, rv, q⟩
  cases fl with
  | ret u => exact let ⟨v, σ', H', J2, rv, q⟩ := hs; ends J2 rv q
  | next => exact let ⟨σ', H', J2, q⟩ := hs; ends (v := V.non) (u := Value.none) J2 rfl q
  | brk => exact let ⟨_, _, _, q⟩ := hs; q.elim
  | cont => exact let ⟨_, _, _, q⟩ := hs; q.elim
end

/-! ### calls of defs -/
section
variable {X : Cx} {C : CT} {W : WX} {k : Nat} {f : Addr} {fd : FuncData} {ps : List Str} {F : List D → List MO → R D} {x : Str} {p pos : Pos} {e : Expr} {es : List Expr} {gs : GA}
/-- what a call asks -/
def rCallQ (K : PySem.W.Frag) (C : CT) (ps : List Str) (F : List D → List MO → R D) (E : XK) (vs : List V) (H : Hp) (Q : VK) : Prop :=
  vs.length = ps.length ∧ ∃ (ds : List D) (Z : Hp) (ι : Nat → Addr) (M : List MO), Rps K Z ι M.length ds vs ∧ HR K H Z ι M ∧ PostF K C E H Z ι M (F ds M) Q
theorem run_q {pins : List (Addr × Obj)} {σ : St} {H : Hp} {s : Shared} {Q : VK} {vs : List V} {us : List Value} {args : Args} (F0 : FnQ X.prog X.w X.K X.mg X.base C k f fd ps F) (hr : Room k X.A) (hgu : X.A.guards = some []) (tk : Takes X W) (I : Inv X pins σ H s)
    (hb : BindsTo s fd args (ps.zip us)) (r : Vals vs us) (h : rCallQ X.K C ps F (WE W σ) vs H Q) : codeAny (model X.prog X.w) X.A (.call (.ref f) args) (fun r s' => match r with
      | .ok (.ret u) => EP X pins σ Q u s'
      | .ok _ => False
      | .error e => X.xe e s') s := by
  obtain ⟨hl, ds, Z, ι, M, rd, hr', hp⟩ := h
  refine codeAny_mono (F0.run X.A X.stack s H args us vs Q (WE W σ) ds Z ι M hr hgu I.env0 hb r hl rd hr' hp) fun r s' hq => ?_
  cases r with
  | error e => exact passAt tk σ pins H s e s' I hq
  | ok fl =>
    cases fl with
    | ret u => exact I.after hq
    | next => exact hq.elim
    | brk => exact hq.elim
    | cont => exact hq.elim
theorem lent_post {σ : St} {H Z : Hp} {ι : Nat → Addr} {ds : List D} {vs : List V} {M : List MO} {Q : VK} (hr : HR X.K H Z ι M) (r : Rps X.K Z ι M.length ds vs) (hl : vs.length = ps.length) (h : Post X C W (rpE X.K) σ H Z ι M (callF F ds M) Q) : rCallQ X.K C ps F (WE W σ) vs H Q := by
  unfold callF at h
  cases eg : getAll M (lendK ds) with
  | none => rw [eg] at h; exact h.elim
  | some os =>
    rw [eg] at h
    simp only at h
    by_cases c : (lendK ds).Nodup ∧ flatArgs ds = true ∧ lentOk os = true
    · rw [if_pos c] at h
      obtain ⟨l, fa⟩ := getAll_at eg
      have r2 := lend_rps ds vs [] c.2.1 r
      simp only [List.nil_append, List.length_nil] at r2
      rw [← l] at r2
      have hr2 := hr.lend c.1 eg c.2.2
      refine ⟨hl, lendA 0 ds, Z, lentι ι (lendK ds), os, r2, hr2, ?_⟩
      have kl : ∀ k ∈ lendK ds, k < M.length := fun k hk => by
        obtain ⟨j, hj, ej⟩ := List.mem_iff_getElem.mp hk
        obtain ⟨k', q1, q2⟩ := fa j os[j] (List.getElem?_eq_getElem (by rw [l]; exact hj))
        rw [List.getElem?_eq_getElem hj] at q1
        cases q1
        rw [← ej]
        exact (List.getElem?_eq_some_iff.mp q2).1
      cases eF : F (lendA 0 ds) os with
      | bad => rw [eF] at h; exact h.elim
      | exc n d os' =>
        rw [eF] at h
        simp only at h
        by_cases c2 : (lendK ds).length ≤ os'.length ∧ os'.all (belowO 0) = true ∧ below 0 d = true
        · rw [if_pos c2] at h
          intro cls dd H' Z' ι' e' hr' x
          obtain ⟨b1, b2⟩ := hr.back c.1 eg c.2.2 e' hr' c2.1 c2.2.1
          obtain ⟨x1, a, v, x2, x3, x4⟩ := x
          exact h cls dd H' Z' _ b2 b1 ⟨x1, a, v, x2, x3, Rp.mono (fun _ _ z => z) (fun _ z => absurd z (Nat.not_lt_zero _)) (Nat.zero_le _) _ _ (x4.shrink _ _ c2.2.2)⟩
        · rw [if_neg c2] at h
          exact h.elim
      | ok d os' =>
        rw [eF] at h
        simp only at h
        by_cases c2 : (lendK ds).length ≤ os'.length ∧ os'.all (belowO 0) = true
        · rw [if_pos c2] at h
          intro v H' Z' ι' e' hr' x
          obtain ⟨b1, b2⟩ := hr.back c.1 eg c.2.2 e' hr' c2.1 c2.2
          cases eb : backD (lendK ds) M.length d with
          | none => rw [eb] at h; exact h.elim
          | some d' =>
            rw [eb] at h
            have ln : (setAll M (lendK ds) os' ++ os'.drop (lendK ds).length).length = M.length + (os'.length - (lendK ds).length) := by rw [List.length_append, setAll_length, List.length_drop]
            refine h v H' Z' _ b2 b1 (backD_rp kl (fun j k q => ?_) (by rw [ln]; exact Nat.le_refl _) x eb)
            rw [e'.ii j (by rw [l]; exact (List.getElem?_eq_some_iff.mp q).1)]
            unfold lentι
            rw [List.getD_eq_getElem?_getD, q]
            rfl
        · rw [if_neg c2] at h
          exact h.elim
    · rw [if_neg c] at h
      exact h.elim
/-- the callee runs, its arguments bound -/
theorem run_call {pins : List (Addr × Obj)} {σ : St} {H : Hp} {s : Shared} {Q : VK} {vs : List V} {us ts : List Value} {kw : List (Str × Value)} (F0 : FnQ X.prog X.w X.K X.mg X.base C k f fd ps F) (hr : Room k X.A) (hgu : X.A.guards = some []) (tk : Takes X W) (I : Inv X pins σ H s)
    (hb : BindsTo s fd ⟨us, kw⟩ (ps.zip ts)) (r : Vals vs ts) (h : rCallQ X.K C ps F (WE W σ) vs H Q) : wpAny (model X.prog X.w) X.A (call (.ref f) us kw) (EP X pins σ Q) X.xe s :=
  wpAny_call (codeAny_mono (run_q F0 hr hgu tk I hb r h) fun r s' hq => by
    cases r with
    | error e => exact hq
    | ok fl =>
      cases fl with
      | ret u => exact hq
      | next => exact hq.elim
      | brk => exact hq.elim
      | cont => exact hq.elim)
/-- f(e, ..) -/
theorem qe_call {n : Nat} (F0 : FnQ X.prog X.w X.K X.mg X.base C k f fd ps F) (hr : Room k X.A) (hgu : X.A.guards = some []) (tk : Takes X W) (hg : Gl X x) (hm : X.mg x = some (.ref f)) (hk : PySem.W.keepIn X.K (.ref f) = true) (hb : Binds X.K fd ps []) (ha : QA X C W (e :: es) gs) (hn : n = ps.length := by rfl)
    (hdb : (x == ("__debug__" : Str)) = false := by decide) (he : starEach (e :: es) X.env = (false, eval e X.env) :: starEach es X.env := by rfl) (hpl : (backTo pos (starEach es X.env)).any (·.1) = false := by rfl) :
    QE X C W (.Call (.Name x p) (e :: es) [] pos) (gCallF n F gs) := by
  subst hn
  obtain ⟨ta, pa, qa⟩ := ha
  refine ⟨fun σ H Q => ta σ H fun vs H1 => rCallQ X.K C ps F (WE W σ) vs H1 Q, ⟨fun pins s σ H Q I h => wpAny_Call_Name_kw (ld_glob I hg hm ?_ hdb)⟩, fun σ H Z ι Γ M Q sl hr h => qa σ H Z ι Γ M _ sl hr (h.bind fun ds M1 vs H1 Z1 ι1 e1 hr1 r1 h1 => ?_)⟩
  · refine PySem.W.callWith_K (h₀ := X.base) I.ok.mod.kin hk (thn (pa.run pos pins s σ H _ I h) fun us s1 hh => ?_) he hpl
    obtain ⟨vs, H1, J, r, q⟩ := hh
    have hl : us.length = ps.length := r.length.symm.trans q.1
    have hbb := hb s1 us J.kIn (by rw [List.append_nil]; exact hl)
    rw [List.append_nil] at hbb
    exact ⟨J.kIn, run_call F0 hr hgu tk J hbb r q⟩
  · by_cases c : ds.length = ps.length
    · rw [if_pos c] at h1
      exact lent_post hr1 r1 (by rw [← r1.length]; exact c) h1
    · rw [if_neg c] at h1
      exact h1.elim
variable {kws : List Keyword} {gk : GA} {ks : List Str} {is : List Nat} {np : Nat}
end
end Bk

set_option Elab.async false
set_option linter.all false
set_option maxRecDepth 100000
set_option maxHeartbeats 2000000
namespace Bk
open PySem PySem.Spec PyProof.Rows L2

/-! ### the law's own call -/
theorem no_cx {P : Program} {w : World} {outer : List PySem.Env} {H : Hp} {s s' : Shared} {u : Value} : ¬ L2.CX P w outer H s (fun _ _ _ => False) u s' := by
  intro h
  unfold L2.CX at h
  simp_all
theorem rps_ints {K : PySem.W.Frag} {Z : Hp} {ι : Nat → Addr} {n : Nat} (is : List Int) : Rps K Z ι n (is.map D.int) (is.map V.int) := Rps.of_ints is
theorem law_q {P : Program} {w : World} {K : PySem.W.Frag} {mg mb : Str → Option Value} {C : CT} {k : Nat} {fa a : Addr} {fd : FuncData} {x : Str} {F : List D → List MO → R D} {s₁ : Shared} {vs : List Value} {ns : List Int}
    (KX : K.In s₁.heap) (hns : s₁.heap.Ns mainGlobals mg) (hb : s₁.heap.Ns builtinsNs mb) (hbb : ∀ x : Str, x ≠ "__name__" → mb x = bootBuiltins x) (hlim : s₁.heap.NoLimit) (hg : s₁.gens = #[])
    (ha : s₁.heap.get? a = some { cls := .type "list", data := .seq vs.toArray }) (hi : IntsAre vs ns) (hl : ns.length ≤ sizeLine) (hr : Room k callerA)
    (hF : ∀ base : Heap, K.In base → base.Ns mainGlobals mg → FnQ P w K mg base C k fa fd [x] F) (hbind : ∀ (s : Shared) (u : Value), BindsTo s fd ⟨[u], []⟩ [(x, u)]) (hlaw : F [.lst (ns.map D.int)] [] = .ok (.bl true) []) :
    codeAny (model P w) callerA (.call (.ref fa) ⟨[.ref a], []⟩) (fun r s' => r = .ok (.ret (.bool true)) ∧ OldK s₁.heap s'.heap ∧ s'.os = s₁.os ∧ AllBare s'.gens) s₁ := by
  have hvals := vals_ints hi
  have hlen := hi.length
  have main : ∀ H : Hp, Only H → ExL K H a (ns.map V.int) → HOk P w H s₁.heap → (∀ b, H b ≠ none → b = a) → (H a ≠ none → K.lookup a = none) →
      codeAny (model P w) callerA (.call (.ref fa) ⟨[.ref a], []⟩) (fun r s' => r = .ok (.ret (.bool true)) ∧ OldK s₁.heap s'.heap ∧ s'.os = s₁.os ∧ AllBare s'.gens) s₁ := by
    intro H only seq hok alone apart
    have free : ∀ {b : Addr} {o : Obj} {es : Array DictEntry} {ep : Nat}, s₁.heap.get? b = some o → o.data = .dict es ep → H b = none := fun {b o es ep} e d => by
      refine Classical.byContradiction fun z => ?_
      have eb : b = a := alone b z
      rw [eb, ha] at e
      cases e
      cases (show Data.seq vs.toArray _ = Data.dict es ep from d)
    have stays : ∀ {b : Addr} {m : Str → Option Value}, s₁.heap.Ns b m → (hidT s₁.heap H).Ns b m := fun {b m} z =>
      let ⟨o, es, ep, e, d, r⟩ := z
      ⟨o, es, ep, hidT_get e (free e d), d, r⟩
    have kin : K.In (hidT s₁.heap H) := fun b o e => hidT_get (KX b o e) (by
      refine Classical.byContradiction fun z => ?_
      have eb : b = a := alone b z
      subst eb
      rw [apart z] at e
      cases e)
    have hmod : Mod K mg (hidT s₁.heap H) := ⟨kin, stays hns, ⟨mb, stays hb, hbb⟩, let ⟨m, h1, h2⟩ := hlim; ⟨m, stays h1, h2⟩⟩
    have env0 : Env0 P w K mg (hidT s₁.heap H) callerA [] s₁ H :=
      ⟨rfl, hmod, fun b o e => of_hidT e, Nat.le_of_eq (hidT_size _ _), trivial, fun b z => absurd (show b ∈ ([] : List Addr) from z) (by simp), hok, AllBare.of_eq hg⟩
    have hr0 : HR K H H (fun _ => 0) [] := ⟨fun _ _ h => h, fun k h => absurd h (Nat.not_lt_zero _), fun k o h => by simp at h, fun j k o u h => by simp at h, fun k o h => by simp at h, fun k h => by simp at h⟩
    refine codeAny_mono ((hF _ kin (stays hns)).run callerA [] s₁ H ⟨[.ref a], []⟩ [.ref a] [.ref a] (fun v _ => v = .bl true) (fun _ _ _ => False) [.lst (ns.map D.int)] H (fun _ => 0) [] hr rfl env0 (hbind s₁ (.ref a)) (.cons rfl .nil) rfl
      (.cons (.lst seq (rps_ints ns)) .nil) hr0 ?_) fun r s' h => ?_
    · rw [hlaw]
      intro v H' Z' ι' _ _ rv
      cases rv
      rfl
    · cases r with
      | error e => exact absurd h no_cx
      | ok fl =>
        cases fl with
        | next => exact h.elim
        | brk => exact h.elim
        | cont => exact h.elim
        | ret u =>
          obtain ⟨v, H', os, bare, un, hok', rv, q⟩ := h
          obtain rfl : v = .bl true := q
          obtain rfl : u = Value.bool true := rv
          refine ⟨rfl, .of_keep fun b o e => ?_, os, bare⟩
          cases hb2 : H b with
          | none => exact un.keep b o e hb2 (fun z => absurd (show b ∈ ([] : List Addr) from z) (by simp)) (by simp)
          | some u =>
            rcases only b with z | ⟨ob, xs, z⟩
            · rw [hb2] at z
              cases z
            · have e1 := (hok b _ z).1
              have e2 := (hok' b _ (un.frzs b ob _ z)).1
              rw [e] at e1
              cases e1
              exact e2
  cases hk : K.lookup a with
  | some o =>
    have e := KX a o hk
    rw [ha] at e
    cases e
    exact main (fun _ => none) (fun _ => .inl rfl) (.inr ⟨vs.toArray, _, hk, by rw [List.size_toArray, hlen]; exact hl, by simpa using hvals⟩) (fun b u z => absurd z (by simp)) (fun b z => absurd rfl z) fun z => absurd rfl z
  | none =>
    have at_ : ∀ b u, (if b = a then some (HO.frz { cls := .type "list", data := .seq vs.toArray } (.lst (ns.map V.int))) else none) = some u → b = a ∧ u = HO.frz { cls := .type "list", data := .seq vs.toArray } (.lst (ns.map V.int)) := fun b u z => by
      by_cases hb : b = a
      · rw [if_pos hb] at z
        exact ⟨hb, (Option.some.inj z).symm⟩
      · rw [if_neg hb] at z
        cases z
    refine main (fun b => if b = a then some (.frz { cls := .type "list", data := .seq vs.toArray } (.lst (ns.map V.int))) else none) (fun b => ?_) (.inl (.inr ⟨_, if_pos rfl⟩)) (fun b u z => ?_) (fun b z => ?_) fun _ => hk
    · by_cases hb : b = a
      · exact .inr ⟨_, _, if_pos hb⟩
      · exact .inl (if_neg hb)
    · obtain ⟨rfl, rfl⟩ := at_ b u z
      exact ⟨ha, by rw [List.length_map]; exact hl, vs, _, hvals, ha⟩
    · exact Classical.byContradiction fun hb => z (if_neg hb)
/-- what k_head leaves -/
theorem walk_q {l : PySem.W.OpenLaw} {n k : Nat} {q : Program} {loose : List Str} {XP : (Str → Option Value) → Heap → Prop} {YP : World → Heap → Prop} {d : DefRec} {K : Params → PySem.W.Frag} {x : Str} {F : List D → List MO → R D}
    (hn : l.most = some n) (hn2 : n ≤ sizeLine) (hdf : d.params.defaults = []) (hr : Room k callerA) (hY : ∀ (w : World) (h : Heap), YP w h → (K w.params).In h)
    (hF : ∀ (w : World) (mg : Str → Option Value) (fa : Addr) (h : Heap), (K w.params).In h → h.Ns mainGlobals mg → mg d.name = some (.ref fa) →
      ∃ (fd : FuncData) (C : CT), (∀ (s : Shared) (u : Value), BindsTo s fd ⟨[u], []⟩ [(x, u)]) ∧ ∀ base : Heap, (K w.params).In base → base.Ns mainGlobals mg → FnQ l.prog w (K w.params) mg base C k fa fd [x] F)
    (hlaw : ∀ ns : List Int, ns.length ≤ n → F [.lst (ns.map D.int)] [] = .ok (.bl true) []) :
    PySem.W.WalkO q loose XP YP l.row.toRowW d [] (fun f vs => PySem.call f vs) := by
  refine Att.attach_call hn hdf fun w s₀ s₁ mg mb fa o pm cd doc a vs ns G Y ho hd hcd hmg hobj hints hlen hg => ?_
  have kx := hY w _ Y
  obtain ⟨fd, C, hb, hF'⟩ := hF w mg fa _ kx G.T.g hmg
  exact law_q kx G.T.g G.T.b G.T.builtins G.T.nolimit hg hobj hints (Nat.le_trans hlen hn2) hr hF' hb (hlaw ns hlen)
end Bk

set_option Elab.async false
set_option linter.all false
set_option maxRecDepth 100000
set_option maxHeartbeats 2000000
namespace Bk
open PySem PySem.Spec PyProof.Rows L2

/-! ### what operations compute -/
def listD (M : List MO) : D → Option (List D)
  | .lst ds => some ds
  | .ref k => match M[k]? with
    | some (.lst ds) => some ds
    | _ => none
  | _ => none
def tupD : D → Option (List D)
  | .tup ds => some ds
  | _ => none
def itemsD (M : List MO) : D → Option (List D)
  | .tup ds => some ds
  | .ptu ds => some ds
  | d => listD M d
section
variable {K : PySem.W.Frag} {H Z : Hp} {ι : Nat → Addr} {M : List MO} {d : D} {ds : List D} {v : V}
theorem listD_run (hr : HR K H Z ι M) (r : Rp K Z ι M.length d v) (h : listD M d = some ds) : ∃ a xs, v = .ref a ∧ ExL K H a xs ∧ Rps K Z ι M.length ds xs := by
  cases r with
  | lst s r =>
    cases h
    exact ⟨_, _, rfl, subL hr.sub s, r⟩
  | ref hk =>
    rename_i k
    have h' : (match M[k]? with
      | some (.lst ds) => some ds
      | _ => none) = some ds := h
    cases e : M[k]? with
    | none => rw [e] at h'; cases h'
    | some o =>
      rw [e] at h'
      cases o with
      | dead => cases h'
      | dct ks0 vs0 => cases h'
      | dki kvs0 => cases h'
      | tab nm0 => cases h'
      | obj nm fs => cases h'
      | lst es =>
        cases h'
        obtain ⟨xs, e1, r1⟩ := hr.obj k _ e
        exact ⟨_, xs, rfl, .inl (.of e1), r1⟩
  | _ => cases h
theorem tupD_run (hr : HR K H Z ι M) (r : Rp K Z ι M.length d v) (h : tupD d = some ds) : ∃ a xs, v = .ref a ∧ SqT K H a xs ∧ Rps K Z ι M.length ds xs := by
  cases r with
  | tup s r =>
    cases h
    exact ⟨_, _, rfl, subT hr.sub s, r⟩
  | _ => cases h
theorem itemsD_run (hr : HR K H Z ι M) (r : Rp K Z ι M.length d v) (h : itemsD M d = some ds) : ∃ a xs, v = .ref a ∧ (ExL K H a xs ∨ SqT K H a xs) ∧ Rps K Z ι M.length ds xs := by
  cases r with
  | tup s r =>
    cases h
    exact ⟨_, _, rfl, .inr (subT hr.sub s), r⟩
  | ptu s r =>
    cases h
    exact ⟨_, _, rfl, .inr (subT hr.sub s.sq), r⟩
  | lst s r =>
    obtain ⟨a, xs, h1, h2, h3⟩ := listD_run hr (.lst s r) h
    exact ⟨a, xs, h1, .inl h2, h3⟩
  | ref hk =>
    obtain ⟨a, xs, h1, h2, h3⟩ := listD_run hr (.ref hk) h
    exact ⟨a, xs, h1, .inl h2, h3⟩
  | _ => cases h
end
def iop (c : Int → Int → Bool) (g : Int → Int → D) (_ : List MO) : D → D → Option D
  | .int i, .int j => if c i j = true then some (g i j) else none
  | _, _ => none
section
variable {X : Cx}
theorem OpR.or {f : Value → Value → Sem Value} {r r' : R2} (h : OpR X f r) (h' : OpR X f r') : OpR X f (fun x y H Q => r x y H Q ∨ r' x y H Q) := fun pins s σ H x y v u Q I rx ry q =>
  q.elim (h pins s σ H x y v u Q I rx ry) (h' pins s σ H x y v u Q I rx ry)
theorem UnR.or {f : Value → Sem Value} {r r' : V → Hp → VK → Prop} (h : UnR X f r) (h' : UnR X f r') : UnR X f (fun x H Q => r x H Q ∨ r' x H Q) := fun pins s σ H x v Q I rx q => q.elim (h pins s σ H x v Q I rx) (h' pins s σ H x v Q I rx)
/-- either of two functions, as the second finds none -/
def orD (f f' : List MO → D → D → Option D) (M : List MO) (x y : D) : Option D := (f M x y).or (f' M x y)
theorem Ok2.or {r r' : R2} {f f' : List MO → D → D → Option D} (h : Ok2 X r f) (h' : Ok2 X r' f') : Ok2 X (fun x y H Q => r x y H Q ∨ r' x y H Q) (orD f f') := fun x y H Z ι M dx dy d Q hr rx ry e q => by
  unfold orD at e
  cases e1 : f M dx dy with
  | some d' =>
    rw [e1] at e
    cases e
    exact .inl (h x y H Z ι M dx dy _ Q hr rx ry e1 q)
  | none =>
    rw [e1] at e
    exact .inr (h' x y H Z ι M dx dy _ Q hr rx ry e q)
/-- how a value without parts is handed on -/
def flatVD : V → Option D
  | .non => some .non
  | .bl b => some (.bl b)
  | .int i => some (.int i)
  | .str x => some (.str x)
  | _ => none
theorem flat_rp {K : PySem.W.Frag} {Z : Hp} {ι : Nat → Addr} {n : Nat} {v : V} {d : D} (h : flatVD v = some d) : Rp K Z ι n d v := by
  cases v with
  | non => cases h; exact .non
  | bl b => cases h; exact .bl b
  | int i => cases h; exact .int i
  | str x => cases h; exact .str x
  | _ => cases h
theorem ok_rI {P : Int → Int → Prop} {gV : Int → Int → V} {c : Int → Int → Bool} {g : Int → Int → D} (hc : ∀ i j, c i j = true → P i j) (hg : ∀ i j, flatVD (gV i j) = some (g i j)) : Ok2 X (rI P gV) (iop c g) := fun x y H Z ι M dx dy d Q hr rx ry e q => by
  cases rx with
  | int i =>
    cases ry with
    | int j =>
      have e' : (if c i j = true then some (g i j) else none) = some d := e
      by_cases hh : c i j = true
      · rw [if_pos hh] at e'
        cases e'
        exact ⟨i, j, rfl, rfl, hc i j hh, q.now hr (flat_rp (hg i j))⟩
      · rw [if_neg hh] at e'
        cases e'
    | _ => cases e
  | _ => cases ry <;> cases e
def yes2 (_ _ : Int) : Bool := true
theorem ok_rI0 {gV : Int → Int → V} {g : Int → Int → D} (hg : ∀ i j, flatVD (gV i j) = some (g i j)) : Ok2 X (rI0 gV) (iop yes2 g) := fun x y H Z ι M dx dy d Q hr rx ry e q => by
  cases rx with
  | int i =>
    cases ry with
    | int j =>
      cases e
      exact ⟨i, j, rfl, rfl, q.now hr (flat_rp (hg i j))⟩
    | _ => cases e
  | _ => cases ry <;> cases e
/-! numbers -/
def dSub := iop yes2 fun i j => .int (i - j)
def mulOk (i j : Int) : Bool := (decide (-(2 ^ 64) < i) && decide (i < 2 ^ 64)) || (decide (-(2 ^ 64) < j) && decide (j < 2 ^ 64)) || decide (i.natAbs.log2 + j.natAbs.log2 < 1000000)
def fdivOk (_ j : Int) : Bool := decide (0 < j) && decide (j.natAbs.log2 < 9000)
def dFdiv := iop fdivOk fun i j => .int (i / j)
def modOk (_ j : Int) : Bool := decide (0 < j)
def dMod := iop modOk fun i j => .int (i % j)
def dMul := iop mulOk fun i j => .int (i * j)
def powOk (i j : Int) : Bool := decide (0 ≤ j) && decide (j ≤ 1000000) && decide (i.natAbs < 2 ^ 64)
def dPow := iop powOk fun i j => .int (i ^ j.toNat)
theorem ok_sub : Ok2 X (rI0 fun i j => .int (i - j)) dSub := ok_rI0 fun _ _ => rfl
theorem ok_fdiv : Ok2 X (rI CDivW fun i j => .int (i / j)) dFdiv := ok_rI (fun i j h => by
  simp only [fdivOk, Bool.and_eq_true, decide_eq_true_eq] at h
  exact h) fun _ _ => rfl
theorem op_modP : OpR X (binaryOp .Mod) (rI (fun _ j => 0 < j) fun i j => .int (i % j)) := fun pins s σ H x y v u Q I rx ry ⟨i, j, h1, h2, h3, q⟩ =>
  op_modN pins s σ H x y v u Q I rx ry ⟨i, j, h1, h2, by omega, by
    have h4 : (0 : Int) < j := h3
    show Q (V.int (i.fmod j)) H
    rw [Int.fmod_eq_emod_of_nonneg i (by omega)]
    exact q⟩
theorem ok_mod : Ok2 X (rI (fun _ j => 0 < j) fun i j => .int (i % j)) dMod := ok_rI (fun i j h => of_decide_eq_true h) fun _ _ => rfl
theorem op_mulA : OpR X (binaryOp .Mult) (rI (fun i j => mulOk i j = true) fun i j => .int (i * j)) := fun pins s σ H x y v u Q I rx ry ⟨i, j, h1, h2, h3, q⟩ => by
  simp only [mulOk, Bool.or_eq_true, Bool.and_eq_true, decide_eq_true_eq] at h3
  rcases h3 with h3 | h3
  · exact op_mul pins s σ H x y v u Q I rx ry ⟨i, j, h1, h2, h3, q⟩
  · exact op_mulW pins s σ H x y v u Q I rx ry ⟨i, j, h1, h2, h3, q⟩
theorem ok_mul : Ok2 X (rI (fun i j => mulOk i j = true) fun i j => .int (i * j)) dMul := ok_rI (fun i j h => h) fun _ _ => rfl
theorem ok_pow : Ok2 X (rI CPow fun i j => .int (i ^ j.toNat)) dPow := ok_rI (fun i j h => by
  simp only [powOk, Bool.and_eq_true, decide_eq_true_eq] at h
  exact ⟨h.1.1, h.1.2, h.2⟩) fun _ _ => rfl
def dLt := iop yes2 fun i j => .bl (decide (i < j))
def dLe := iop yes2 fun i j => .bl (decide (i ≤ j))
def dGt := iop yes2 fun i j => .bl (decide (j < i))
def dGe := iop yes2 fun i j => .bl (decide (j ≤ i))
theorem ok_lt : Ok2 X (rI0 fun i j => .bl (decide (i < j))) dLt := ok_rI0 fun _ _ => rfl
theorem ok_le : Ok2 X (rI0 fun i j => .bl (decide (i ≤ j))) dLe := ok_rI0 fun _ _ => rfl
theorem ok_gt : Ok2 X (rI0 fun i j => .bl (decide (j < i))) dGt := ok_rI0 fun _ _ => rfl
theorem ok_ge : Ok2 X (rI0 fun i j => .bl (decide (j ≤ i))) dGe := ok_rI0 fun _ _ => rfl

/-! adding -/
def catT (_ : List MO) : D → D → Option D
  | .tup a, .tup b => if a.length + b.length ≤ sizeLine then some (.tup (a ++ b)) else none
  | _, _ => none
def catL (M : List MO) (x y : D) : Option D := match listD M x, listD M y with
  | some a, some b => if a.length + b.length ≤ sizeLine then some (.lst (a ++ b)) else none
  | _, _ => none
def addI (M : List MO) : D → D → Option D
  | .int i, .int j => some (.int (i + j))
  | .str x, .str y => if x.length + y.length ≤ sizeLine then some (.str (x ++ y)) else none
  | .tup a, y => catT M (.tup a) y
  | x, y => catL M x y
def dAdd := addI
def rCatS (K : PySem.W.Frag) : R2 := fun x y H Q => ∃ l b xs zs, x = .ref l ∧ y = .ref b ∧ ExL K H l xs ∧ ExL K H b zs ∧ xs.length + zs.length ≤ sizeLine ∧ ∀ p, H p = none → Q (.ref p) (upd H p (.lst (xs ++ zs)))
theorem op_catS : OpR X (binaryOp .Add) (rCatS X.K) := by
  intro pins s σ H x y v u Q I rx ry h
  obtain ⟨l, b, xs, zs, rfl, rfl, hx, hz, hs, q⟩ := h
  cases rx
  cases ry
  obtain ⟨its, m1, r1, e1, _⟩ := hx.at_ I
  obtain ⟨its2, m2, r2, e2, _⟩ := hz.at_ I
  refine PySem.P.add_list e1 e2 ?_ (by rw [List.size_toArray, List.size_toArray, ← r1.length, ← r2.length]; exact hs)
  have ea : its.toArray ++ its2.toArray = (its ++ its2).toArray := by simp
  rw [ea]
  exact ⟨.ref _, _, I.lnew (t' := s.toks) (r1.append r2) (by rw [List.length_append]; exact hs), rfl, q _ I.fresh⟩
abbrev rAdd (K : PySem.W.Frag) : R2 := fun x y H Q => (rI0 (fun i j => .int (i + j)) x y H Q ∨ (∃ i j, x = .str i ∧ y = .str j ∧ i.length + j.length ≤ sizeLine ∧ Q (.str (i ++ j)) H)) ∨ (rCatA K x y H Q ∨ rCatS K x y H Q)
theorem op_addA : OpR X (binaryOp .Add) (rAdd X.K) := (op_add.or op_add_str).or (op_catA.or op_catS)
theorem ok_add : Ok2 X (rAdd X.K) dAdd := fun x y H Z ι M dx dy d Q hr rx ry e q => by
  have lists : ∀ {dx : D}, Rp X.K Z ι M.length dx x → catL M dx dy = some d → rAdd X.K x y H Q := fun {dx} rx e => by
    unfold catL at e
    cases e1 : listD M dx with
    | none => rw [e1] at e; cases e
    | some a =>
      cases e2 : listD M dy with
      | none => rw [e1, e2] at e; cases e
      | some b =>
        rw [e1, e2] at e
        simp only at e
        by_cases c : a.length + b.length ≤ sizeLine
        · rw [if_pos c] at e
          cases e
          obtain ⟨p1, xs, rfl, s1, r1⟩ := listD_run hr rx e1
          obtain ⟨p2, ys, rfl, s2, r2⟩ := listD_run hr ry e2
          exact .inr (.inr ⟨p1, p2, xs, ys, rfl, rfl, s1, s2, by rw [← r1.length, ← r2.length]; exact c, q.lst hr (r1.append r2)⟩)
        · rw [if_neg c] at e
          cases e
  cases rx with
  | int i =>
    cases ry with
    | int j =>
      cases e
      exact .inl (.inl ⟨i, j, rfl, rfl, q.now hr (.int _)⟩)
    | _ => cases e
  | dct s r t => cases e
  | lam s r => cases e
  | exn s r q w => cases e
  | exv q w => cases e
  | dcx q w => cases e
  | ptu s r => cases e
  | str a =>
    cases ry with
    | str b =>
      have e' : (if a.length + b.length ≤ sizeLine then some (D.str (a ++ b)) else none) = some d := e
      by_cases c : a.length + b.length ≤ sizeLine
      · rw [if_pos c] at e'
        cases e'
        exact .inl (.inr ⟨a, b, rfl, rfl, c, q.now hr (.str _)⟩)
      · rw [if_neg c] at e'
        cases e'
    | _ => cases e
  | tup s1 r1 =>
    rename_i a p1 xs
    cases ry with
    | tup s2 r2 =>
      rename_i b p2 ys
      have e' : (if a.length + b.length ≤ sizeLine then some (D.tup (a ++ b)) else none) = some d := e
      by_cases c : a.length + b.length ≤ sizeLine
      · rw [if_pos c] at e'
        cases e'
        refine .inr (.inl ⟨p1, p2, xs, ys, rfl, rfl, subT hr.sub s1, subT hr.sub s2, by rw [← r1.length, ← r2.length]; exact c, fun z => ?_, fun _ z => ?_, fun _ _ => q.tup hr (r1.append r2)⟩)
        · have : a = [] := List.length_eq_zero_iff.mp (by rw [r1.length, z]; rfl)
          subst this
          exact q.now hr (.tup s2 r2)
        · have : b = [] := List.length_eq_zero_iff.mp (by rw [r2.length, z]; rfl)
          subst this
          rw [List.append_nil] at q
          exact q.now hr (.tup s1 r1)
      · rw [if_neg c] at e'
        cases e'
    | _ => cases e
  | lst s1 r1 => exact lists (.lst s1 r1) e
  | ref hk => exact lists (.ref hk) e
  | non => cases ry <;> cases e
  | bl b => cases ry <;> cases e

/-! is None -/
def dIsN (_ : List MO) : D → D → Option D
  | .non, .non => some (.bl true)
  | _, .non => some (.bl false)
  | _, _ => none
def dNotN (_ : List MO) : D → D → Option D
  | .non, .non => some (.bl false)
  | _, .non => some (.bl true)
  | _, _ => none
/-! equal data -/
mutual
/-- data without refs -/
def toP : D → Option PyData
  | .non => some .none
  | .bl b => some (.bool b)
  | .int i => some (.int i)
  | .str x => some (.str x)
  | .tup ds => (toPs ds).map .tuple
  | .lst ds => (toPs ds).map .list
  | .ref _ => none
  | .dct _ _ => none
  | .ptu ds => (toPs ds).map .tuple
  | .lam _ _ => none
  | .exn _ _ _ => none
  | .exv _ _ _ _ => none
  | .dcx _ _ => none
def toPs : List D → Option (List PyData)
  | [] => some []
  | d :: ds => match toP d, toPs ds with
    | some p, some ps => some (p :: ps)
    | _, _ => none
end
/-- a list of ours, and those in it, as they stand -/
def deref1 (M : List MO) : D → D
  | .ref k => match M[k]? with
    | some (.lst ds) => .lst ds
    | _ => .ref k
  | d => d
def deref (M : List MO) (d : D) : D := match deref1 M d with
  | .lst ds => .lst (ds.map (deref1 M))
  | d => d
section
variable {K : PySem.W.Frag} {H Z : Hp} {ι : Nat → Addr} {n : Nat} {M : List MO}
mutual
theorem toP_dp (hs : Sub Z H) : ∀ (d : D) (v : V) (p : PyData), Rp K Z ι n d v → toP d = some p → Dp K H v p
  | .non, _, p, h, e => by cases h; cases e; exact .non
  | .bl b, _, p, h, e => by cases h; cases e; exact .bl b
  | .int i, _, p, h, e => by cases h; cases e; exact .int i
  | .str x, _, p, h, e => by cases h; cases e; exact .str x
  | .tup ds, _, p, h, e => by
    cases h with
    | tup s r =>
      have e' : (toPs ds).map PyData.tuple = some p := e
      cases e2 : toPs ds with
      | none => rw [e2] at e'; cases e'
      | some ps =>
        rw [e2] at e'
        cases e'
        exact .tup (subT hs s) (toPs_dp hs ds _ ps r e2)
  | .lst ds, _, p, h, e => by
    cases h with
    | lst s r =>
      have e' : (toPs ds).map PyData.list = some p := e
      cases e2 : toPs ds with
      | none => rw [e2] at e'; cases e'
      | some ps =>
        rw [e2] at e'
        cases e'
        exact .lst (subL hs s).sq (toPs_dp hs ds _ ps r e2)
  | .ref k, _, p, h, e => by cases e
  | .dct _ _, _, p, h, e => by cases e
  | .ptu ds, _, p, h, e => by
    cases h with
    | ptu s r =>
      have e' : (toPs ds).map PyData.tuple = some p := e
      cases e2 : toPs ds with
      | none => rw [e2] at e'; cases e'
      | some ps =>
        rw [e2] at e'
        cases e'
        exact .tup (subT hs s.sq) (toPs_dp hs ds _ ps r e2)
  | .lam _ _, _, p, h, e => by cases e
  | .exn _ _ _, _, p, h, e => by cases e
  | .exv _ _ _ _, _, p, h, e => by cases e
  | .dcx _ _, _, p, h, e => by cases e
theorem toPs_dp (hs : Sub Z H) : ∀ (ds : List D) (vs : List V) (ps : List PyData), Rps K Z ι n ds vs → toPs ds = some ps → DpAll K H vs ps
  | [], _, ps, h, e => by cases h; cases e; exact .nil
  | d :: ds, _, ps, h, e => by
    cases h with
    | cons r rs =>
      have e' : (match toP d, toPs ds with
        | some p, some ps => some (p :: ps)
        | _, _ => none) = some ps := e
      cases e1 : toP d with
      | none => rw [e1] at e'; cases e'
      | some p =>
        cases e2 : toPs ds with
        | none => rw [e1, e2] at e'; cases e'
        | some qs =>
          rw [e1, e2] at e'
          cases e'
          exact .cons (toP_dp hs d _ p r e1) (toPs_dp hs ds _ qs rs e2)
end
theorem deref1_dp (hr : HR K H Z ι M) {d : D} {v : V} {p : PyData} (r : Rp K Z ι M.length d v) (e : toP (deref1 M d) = some p) : Dp K H v p := by
  cases r with
  | ref hk =>
    rename_i k
    have e' : toP (match M[k]? with
      | some (.lst ds) => .lst ds
      | _ => .ref k) = some p := e
    cases e1 : M[k]? with
    | none => rw [e1] at e'; cases e'
    | some o =>
      rw [e1] at e'
      cases o with
      | dead => cases e'
      | dct ks0 vs0 => cases e'
      | dki kvs0 => cases e'
      | tab nm0 => cases e'
      | obj nm fs => cases e'
      | lst ds =>
        have e2 : (toPs ds).map PyData.list = some p := e'
        obtain ⟨xs, h1, r1⟩ := hr.obj k _ e1
        cases e3 : toPs ds with
        | none => rw [e3] at e2; cases e2
        | some ps =>
          rw [e3] at e2
          cases e2
          exact .lst (.of h1) (toPs_dp hr.sub ds _ ps r1 e3)
  | non => exact toP_dp (ι := ι) (n := M.length) hr.sub _ _ _ .non e
  | bl b => exact toP_dp (ι := ι) (n := M.length) hr.sub _ _ _ (.bl b) e
  | int i => exact toP_dp (ι := ι) (n := M.length) hr.sub _ _ _ (.int i) e
  | str x => exact toP_dp (ι := ι) (n := M.length) hr.sub _ _ _ (.str x) e
  | tup s r => exact toP_dp hr.sub _ _ _ (.tup s r) e
  | dct s r t => cases e
  | lam s r => cases e
  | exn s r q w => cases e
  | exv q w => cases e
  | dcx q w => cases e
  | ptu s r => exact toP_dp hr.sub _ _ _ (.ptu s r) e
  | lst s r => exact toP_dp hr.sub _ _ _ (.lst s r) e
theorem deref1s_dp (hr : HR K H Z ι M) : ∀ {ds : List D} {vs : List V} {ps : List PyData}, Rps K Z ι M.length ds vs → toPs (ds.map (deref1 M)) = some ps → DpAll K H vs ps
  | [], _, ps, h, e => by cases h; cases e; exact .nil
  | d :: ds, _, ps, h, e => by
    cases h with
    | cons r rs =>
      have e' : (match toP (deref1 M d), toPs (ds.map (deref1 M)) with
        | some p, some ps => some (p :: ps)
        | _, _ => none) = some ps := e
      cases e1 : toP (deref1 M d) with
      | none => rw [e1] at e'; cases e'
      | some p =>
        cases e2 : toPs (ds.map (deref1 M)) with
        | none => rw [e1, e2] at e'; cases e'
        | some qs =>
          rw [e1, e2] at e'
          cases e'
          exact .cons (deref1_dp hr r e1) (deref1s_dp hr rs e2)
theorem deref_dp (hr : HR K H Z ι M) {d : D} {v : V} {p : PyData} (r : Rp K Z ι M.length d v) (e : toP (deref M d) = some p) : Dp K H v p := by
  have two : ∀ {ds : List D} {a : Addr} {xs : List V}, SqL K H a xs → Rps K Z ι M.length ds xs → toP (.lst (ds.map (deref1 M))) = some p → Dp K H (.ref a) p := fun {ds a xs} s r e => by
    have e' : (toPs (ds.map (deref1 M))).map PyData.list = some p := e
    cases e2 : toPs (ds.map (deref1 M)) with
    | none => rw [e2] at e'; cases e'
    | some ps =>
      rw [e2] at e'
      cases e'
      exact .lst s (deref1s_dp hr r e2)
  cases r with
  | lst s r => exact two (subL hr.sub s).sq r e
  | ref hk =>
    rename_i k
    cases e1 : M[k]? with
    | none =>
      have : deref M (.ref k) = .ref k := by simp [deref, deref1, e1]
      rw [this] at e
      cases e
    | some o =>
      cases o with
      | dead =>
        have : deref M (.ref k) = .ref k := by simp [deref, deref1, e1]
        rw [this] at e
        cases e
      | dct ks0 vs0 =>
        have : deref M (.ref k) = .ref k := by simp [deref, deref1, e1]
        rw [this] at e
        cases e
      | tab nm0 =>
        have : deref M (.ref k) = .ref k := by simp [deref, deref1, e1]
        rw [this] at e
        cases e
      | dki kvs0 =>
        have : deref M (.ref k) = .ref k := by simp [deref, deref1, e1]
        rw [this] at e
        cases e
      | obj nm fs =>
        have : deref M (.ref k) = .ref k := by simp [deref, deref1, e1]
        rw [this] at e
        cases e
      | lst ds =>
        have : deref M (.ref k) = .lst (ds.map (deref1 M)) := by simp [deref, deref1, e1]
        rw [this] at e
        obtain ⟨xs, h1, r1⟩ := hr.obj k _ e1
        exact two (.of h1) r1 e
  | non => exact toP_dp (ι := ι) (n := M.length) hr.sub _ _ _ .non e
  | bl b => exact toP_dp (ι := ι) (n := M.length) hr.sub _ _ _ (.bl b) e
  | int i => exact toP_dp (ι := ι) (n := M.length) hr.sub _ _ _ (.int i) e
  | str x => exact toP_dp (ι := ι) (n := M.length) hr.sub _ _ _ (.str x) e
  | tup s r => exact toP_dp hr.sub _ _ _ (.tup s r) e
  | dct s r t => cases e
  | lam s r => cases e
  | exn s r q w => cases e
  | exv q w => cases e
  | dcx q w => cases e
  | ptu s r => exact toP_dp hr.sub _ _ _ (.ptu s r) e
end
def eqP (M : List MO) (x y : D) : Option Bool := match toP (deref M x), toP (deref M y) with
  | some p, some q => if (SeqAt.shaped p && SeqAt.shaped q) = true then some (PyData.eqv p q) else none
  | _, _ => none
def dEq (M : List MO) (x y : D) : Option D := (eqP M x y).map D.bl
def dNe (M : List MO) (x y : D) : Option D := (eqP M x y).map fun b => D.bl (!b)
theorem eqP_run {K : PySem.W.Frag} {H Z : Hp} {ι : Nat → Addr} {M : List MO} {dx dy : D} {x y : V} {b : Bool} (hr : HR K H Z ι M) (rx : Rp K Z ι M.length dx x) (ry : Rp K Z ι M.length dy y) (e : eqP M dx dy = some b) :
    ∃ p q, Dp K H x p ∧ Dp K H y q ∧ SeqAt.shaped p = true ∧ SeqAt.shaped q = true ∧ PyData.eqv p q = b := by
  unfold eqP at e
  cases e1 : toP (deref M dx) with
  | none => rw [e1] at e; cases e
  | some p =>
    cases e2 : toP (deref M dy) with
    | none => rw [e1, e2] at e; cases e
    | some q =>
      rw [e1, e2] at e
      simp only at e
      by_cases c : (SeqAt.shaped p && SeqAt.shaped q) = true
      · rw [if_pos c] at e
        rw [Bool.and_eq_true] at c
        exact ⟨p, q, deref_dp hr rx e1, deref_dp hr ry e2, c.1, c.2, Option.some.inj e⟩
      · rw [if_neg c] at e
        cases e
theorem ok_eq : Ok2 X (rEqD X.K) dEq := fun x y H Z ι M dx dy d Q hr rx ry e q => by
  unfold dEq at e
  cases e1 : eqP M dx dy with
  | none => rw [e1] at e; cases e
  | some b =>
    rw [e1] at e
    cases e
    obtain ⟨p, p', h1, h2, h3, h4, h5⟩ := eqP_run hr rx ry e1
    exact ⟨p, p', h1, h2, h3, h4, by rw [h5]; exact q.now hr (.bl b)⟩
theorem ok_ne : Ok2 X (rNeD X.K) dNe := fun x y H Z ι M dx dy d Q hr rx ry e q => by
  unfold dNe at e
  cases e1 : eqP M dx dy with
  | none => rw [e1] at e; cases e
  | some b =>
    rw [e1] at e
    cases e
    obtain ⟨p, p', h1, h2, h3, h4, h5⟩ := eqP_run hr rx ry e1
    exact ⟨p, p', h1, h2, h3, h4, by rw [h5]; exact q.now hr (.bl _)⟩
end
end Bk

set_option Elab.async false
set_option linter.all false
set_option maxRecDepth 100000
set_option maxHeartbeats 2000000
namespace Bk
open PySem PySem.Spec PyProof.Rows L2
section
variable {X : Cx}
/-! a list times a number -/
def rRepS (K : PySem.W.Frag) : R2 := fun x y H Q => ∃ l k xs, x = .ref l ∧ y = .int k ∧ ExL K H l xs ∧ -(2 ^ 63) ≤ k ∧ k < 2 ^ 63 ∧ xs.length * k.toNat ≤ sizeLine ∧ ∀ p, H p = none → Q (.ref p) (upd H p (.lst (List.replicate k.toNat xs).flatten))
theorem op_repS : OpR X (binaryOp .Mult) (rRepS X.K) := by
  intro pins s σ H x y v u Q I rx ry h
  obtain ⟨l, k, xs, rfl, rfl, hx, k1, k2, hz, q⟩ := h
  cases rx
  obtain ⟨tk, rfl⟩ := ry
  obtain ⟨its, m, rv, eo, _⟩ := hx.at_ I
  have hl := rv.length
  have size : its.toArray.size * k.toNat ≤ sizeLine := by rw [List.size_toArray, ← hl]; exact hz
  have cap : ¬ its.toArray.size * k.toNat > (2 ^ 63 - 1) / 8 := Nat.not_lt.mpr (Nat.le_trans size (by decide))
  have fit : ¬ (!Builtin.List.listFitsIndex k) = true := by
    rw [fitsIndex_both k1 k2]
    exact Bool.false_ne_true
  have long : ¬ Builtin.List.listTooLong (its.toArray.size * k.toNat) = true := by
    rw [notLongL size]
    exact Bool.false_ne_true
  have made : List.foldl (fun a b => a ++ b) #[] (List.replicate (if its.toArray.isEmpty = true then 0 else k.toNat) its.toArray) = (List.replicate k.toNat its).flatten.toArray := by
    have any : ∀ j : Nat, List.foldl (fun a b => a ++ b) #[] (List.replicate j its.toArray) = (List.replicate j its).flatten.toArray := fun j => by simpa using foldl_rep its j []
    rw [any]
    cases its with
    | nil => simp
    | cons a r' => simp
  refine wpAny_binaryOp_repeat_ref (T := "list") (U := "int") (by decide) ⟨_, eo, rfl⟩ (fun s' => typeIs_int s' k tk) noFill_list_mul F.fills_int_mul F.slot_int_rmul repeat_list F.slot_int_index.lookup ?_
  refine call_meets F.slot_int_rmul (typeIs_int s k tk) F.entry_int_rmul (F.args_int_rmul_2 _ _) (int___rmul___int_list k tk l its.toArray m) ⟨eo, rfl, ⟨_, eo, rfl⟩, ?_⟩
  refine call_meets F.slot_list_mul ⟨_, eo, rfl⟩ F.entry_list_mul (F.args_list_mul_2 _ _) (AutoListH.list___mul___list_int_3 l its.toArray m k tk fit cap long) ⟨eo, ?_⟩
  rw [made]
  exact ⟨.ref _, _, I.lnew (t' := s.toks) (rv.rep k.toNat) (by rw [PyProof.Rows.lm_len_rep_flat, Nat.mul_comm]; exact hz), rfl, q _ I.fresh⟩
def repI (M : List MO) (x : D) : D → Option D
  | .int k => match listD M x with
    | some a => if decide (k < 2 ^ 63) && decide (-(2 ^ 63) ≤ k) && decide (a.length * k.toNat ≤ sizeLine) then some (.lst (List.replicate k.toNat a).flatten) else none
    | none => none
  | _ => none
def dMulA (M : List MO) : D → D → Option D
  | .int i, y => dMul M (.int i) y
  | x, y => repI M x y
abbrev rMulA (K : PySem.W.Frag) : R2 := fun x y H Q => rI (fun i j => mulOk i j = true) (fun i j => .int (i * j)) x y H Q ∨ rRepS K x y H Q
theorem op_mulL : OpR X (binaryOp .Mult) (rMulA X.K) := op_mulA.or op_repS
theorem ok_mulL : Ok2 X (rMulA X.K) dMulA := fun x y H Z ι M dx dy d Q hr rx ry e q => by
  have lists : ∀ {dx : D}, Rp X.K Z ι M.length dx x → repI M dx dy = some d → rMulA X.K x y H Q := fun {dx} rx e => by
    cases ry with
    | int k =>
      have e' : (match listD M dx with
        | some a => if decide (k < 2 ^ 63) && decide (-(2 ^ 63) ≤ k) && decide (a.length * k.toNat ≤ sizeLine) then some (D.lst (List.replicate k.toNat a).flatten) else none
        | none => none) = some d := e
      cases e1 : listD M dx with
      | none => rw [e1] at e'; cases e'
      | some a =>
        rw [e1] at e'
        simp only at e'
        by_cases c : (decide (k < 2 ^ 63) && decide (-(2 ^ 63) ≤ k) && decide (a.length * k.toNat ≤ sizeLine)) = true
        · rw [if_pos c] at e'
          cases e'
          simp only [Bool.and_eq_true, decide_eq_true_eq] at c
          obtain ⟨p1, xs, rfl, s1, r1⟩ := listD_run hr rx e1
          exact .inr ⟨p1, k, xs, rfl, rfl, s1, c.1.2, c.1.1, by rw [← r1.length]; exact c.2, q.lst hr (r1.rep k.toNat)⟩
        · rw [if_neg c] at e'
          cases e'
    | _ => cases e
  cases rx with
  | dct s_ r_ t_ => first | (cases e; done) | (cases hd; done) | (cases h; done) | (cases h1; done) | (cases e1; done) | (cases h'; done) | (cases ei; done) | (cases e'; done) | exact h.elim | exact h1.elim | exact h2.elim | exact .inl (lists (.dct s_ r_ t_) hd) | exact lists (.dct s_ r_ t_) e
  | ptu s_ r_ => first | exact seqs (.ptu s_ r_) e | (cases e; exact .base (.tup (subT hr.sub s_.sq))) | (cases e; done) | (cases hd; done) | (cases h; done) | (cases h1; done) | (cases e1; done) | (cases h'; done) | (cases ei; done) | (cases e'; done) | exact h.elim | exact h1.elim | exact h2.elim | exact .inl (lists (.ptu s_ r_) hd) | exact lists (.ptu s_ r_) e
  | lam s_ r_ => exact lists (.lam s_ r_) e
  | exn s_ r_ q_ w_ => exact lists (.exn s_ r_ q_ w_) e
  | exv q_ w_ => exact lists (.exv q_ w_) e
  | dcx q_ w_ => exact lists (.dcx q_ w_) e
  | int i => exact .inl (ok_mul (X := X) _ _ H Z ι M _ _ d Q hr (.int i) ry e q)
  | lst s1 r1 => exact lists (.lst s1 r1) e
  | ref hk => exact lists (.ref hk) e
  | tup s1 r1 => exact lists (.tup s1 r1) e
  | non => exact lists .non e
  | bl b => exact lists (.bl b) e
  | str b => exact lists (.str b) e
/-! minus -/
def dNeg (_ : List MO) : D → Option D
  | .int i => some (.int (-i))
  | _ => none
theorem ok_neg : Ok1 X (rU fun i => .int (-i)) dNeg := fun x H Z ι M dx d Q hr rx e q => by
  cases rx with
  | int i =>
    cases e
    exact ⟨i, rfl, q.now hr (.int _)⟩
  | _ => cases e
/-! items -/
def dIx (M : List MO) (x : D) : D → Option D
  | .int i => (itemsD M x).bind fun ds => atI ds i
  | _ => none
theorem atI_rp {K : PySem.W.Frag} {Z : Hp} {ι : Nat → Addr} {n : Nat} {ds : List D} {vs : List V} {i : Int} {d : D} (r : Rps K Z ι n ds vs) (h : atI ds i = some d) : ∃ v, atI vs i = some v ∧ Rp K Z ι n d v := by
  unfold atI at h
  cases e : ixN ds.length i with
  | none => rw [e] at h; cases h
  | some j =>
    rw [e] at h
    obtain ⟨v, h1, h2⟩ := r.get (i := j) h
    refine ⟨v, ?_, h2⟩
    unfold atI
    rw [← r.length, e]
    exact h1
abbrev rIxA (K : PySem.W.Frag) : R2 := fun x y H Q => rIxL K x y H Q ∨ rIxT K x y H Q
theorem ix_A : IxR X (rIxA X.K) := ix_list.or ix_tup
theorem ok_ix : Ok2 X (rIxA X.K) dIx := fun x y H Z ι M dx dy d Q hr rx ry e q => by
  cases ry with
  | int i =>
    have e' : (itemsD M dx).bind (fun ds => atI ds i) = some d := e
    cases e1 : itemsD M dx with
    | none => rw [e1] at e'; cases e'
    | some ds =>
      rw [e1] at e'
      obtain ⟨a, xs, rfl, s, r⟩ := itemsD_run hr rx e1
      obtain ⟨v, h1, h2⟩ := atI_rp r e'
      rcases s with s | s
      · exact .inl ⟨a, xs, i, v, rfl, rfl, s.sq, h1, q.now hr h2⟩
      · exact .inr ⟨a, xs, i, v, rfl, rfl, s, h1, q.now hr h2⟩
  | _ => cases e
/-! in -/
def toV : D → Option V
  | .non => some .non
  | .bl b => some (.bl b)
  | .int i => some (.int i)
  | .str x => some (.str x)
  | _ => none
def toVs : List D → Option (List V)
  | [] => some []
  | d :: ds => match toV d, toVs ds with
    | some v, some vs => some (v :: vs)
    | _, _ => none
theorem toV_is {K : PySem.W.Frag} {Z : Hp} {ι : Nat → Addr} {n : Nat} {d : D} {v w : V} (r : Rp K Z ι n d v) (h : toV d = some w) : v = w ∧ flatV v = true := by
  cases r with
  | non => cases h; exact ⟨rfl, rfl⟩
  | bl b => cases h; exact ⟨rfl, rfl⟩
  | int i => cases h; exact ⟨rfl, rfl⟩
  | str x => cases h; exact ⟨rfl, rfl⟩
  | _ => cases h
theorem toVs_is {K : PySem.W.Frag} {Z : Hp} {ι : Nat → Addr} {n : Nat} : ∀ {ds : List D} {vs ws : List V}, Rps K Z ι n ds vs → toVs ds = some ws → vs = ws ∧ vs.all flatV = true
  | [], _, _, r, h => by cases r; cases h; exact ⟨rfl, rfl⟩
  | d :: ds, _, _, r, h => by
    cases r with
    | cons r rs =>
      have h' : (match toV d, toVs ds with
        | some v, some vs => some (v :: vs)
        | _, _ => none) = some _ := h
      cases e1 : toV d with
      | none => rw [e1] at h'; cases h'
      | some v =>
        cases e2 : toVs ds with
        | none => rw [e1, e2] at h'; cases h'
        | some vs =>
          rw [e1, e2] at h'
          cases h'
          obtain ⟨a1, a2⟩ := toV_is r e1
          obtain ⟨b1, b2⟩ := toVs_is rs e2
          exact ⟨by rw [a1, b1], by simp [a2, b2]⟩
def inP (M : List MO) (x y : D) : Option Bool := match toV x, (itemsD M y).bind toVs with
  | some v, some vs => some (inV v vs)
  | _, _ => none
def dIn (M : List MO) (x y : D) : Option D := (inP M x y).map D.bl
def dNotIn (M : List MO) (x y : D) : Option D := (inP M x y).map fun b => D.bl (!b)
theorem inP_run {K : PySem.W.Frag} {H Z : Hp} {ι : Nat → Addr} {M : List MO} {dx dy : D} {x y : V} {b : Bool} (hr : HR K H Z ι M) (rx : Rp K Z ι M.length dx x) (ry : Rp K Z ι M.length dy y) (e : inP M dx dy = some b) :
    ∃ p xs, y = .ref p ∧ (SqL K H p xs ∨ SqT K H p xs) ∧ flatV x = true ∧ xs.all flatV = true ∧ inV x xs = b := by
  unfold inP at e
  cases e1 : toV dx with
  | none => rw [e1] at e; cases e
  | some v =>
    cases e2 : itemsD M dy with
    | none => rw [e1, e2] at e; cases e
    | some ds =>
      cases e3 : toVs ds with
      | none => rw [e1, e2, Option.bind_some, e3] at e; cases e
      | some vs =>
        rw [e1, e2, Option.bind_some, e3] at e
        cases e
        obtain ⟨a1, a2⟩ := toV_is rx e1
        obtain ⟨p, xs, rfl, s, r⟩ := itemsD_run hr ry e2
        obtain ⟨b1, b2⟩ := toVs_is r e3
        subst a1 b1
        exact ⟨p, _, rfl, s.elim (fun s => .inl s.sq) .inr, a2, b2, rfl⟩
/-! slices -/
abbrev GO := Env → List MO → R (Option Int)
abbrev rpO : RpK (Option Int) (Option Int) := fun _ _ _ a b => a = b
def QO (X : Cx) (C : CT) (W : WX) (e : Option Expr) (g : GO) : Prop := ∃ te, PO X e te ∧ ∀ (σ : St) (H Z : Hp) (ι : Nat → Addr) (Γ : Env) (M : List MO) (Q : Option Int → Hp → Prop), Slots X.K Z ι M.length Γ σ → HR X.K H Z ι M → Post X C W rpO σ H Z ι M (g Γ M) Q → te σ H Q
def gNoO : GO := fun _ M => .ok none M
def toI : D → Option Int
  | .int i => some i
  | _ => none
def gO (ge : GE) : GO := fun Γ M => (ge Γ M).bind fun d M1 => opR ((toI d).map some) M1
variable {C : CT} {W : WX}
theorem qo_none : QO X C W none gNoO := ⟨_, po_none, fun σ H Z ι Γ M Q sl hr h => h none H Z ι .refl hr rfl⟩
theorem qo_some {e : Expr} {g : GE} (h : QE X C W e g) : QO X C W (some e) (gO g) := by
  obtain ⟨t, p, q⟩ := h
  refine ⟨_, po_some p, fun σ H Z ι Γ M Q sl hr h => q σ H Z ι Γ M _ sl hr (h.bind fun x M1 v H1 Z1 ι1 e1 hr1 r1 h1 => ?_)⟩
  cases r1 with
  | int i => exact ⟨i, rfl, h1 _ H1 Z1 ι1 .refl hr1 rfl⟩
  | _ => exact h1.elim
def cutD (ds : List D) (lo hi : Option Int) : List D := (ds.drop (HT.sIx ds.length 0 lo)).take (HT.sIx ds.length ds.length hi - HT.sIx ds.length 0 lo)
def dCut (M : List MO) (lo hi : Option Int) : D → Option D
  | .tup ds => some (.tup (cutD ds lo hi))
  | d => (listD M d).map fun ds => .lst (cutD ds lo hi)
def gSl (ge : GE) (lo hi : GO) : GE := fun Γ M => (ge Γ M).bind fun x M1 => (lo Γ M1).bind fun a M2 => (hi Γ M2).bind fun b M3 => opR (dCut M3 a b x) M3
theorem cut_rps {K : PySem.W.Frag} {Z : Hp} {ι : Nat → Addr} {n : Nat} {ds : List D} {vs : List V} (r : Rps K Z ι n ds vs) (lo hi : Option Int) : Rps K Z ι n (cutD ds lo hi) (cutV vs lo hi) := by
  unfold cutD cutV
  rw [r.length]
  exact (r.drop _).take _
theorem qe_slice {e : Expr} {lo hi : Option Expr} {g : GE} {gl gh : GO} {pos p2 : Pos} (he : QE X C W e g) (hl : QO X C W lo gl) (hh : QO X C W hi gh) : QE X C W (.Subscript e (.Slice lo hi none p2) pos) (gSl g gl gh) := by
  obtain ⟨t, p, q⟩ := he
  obtain ⟨tl, pl, ql⟩ := hl
  obtain ⟨th, ph, qh⟩ := hh
  refine ⟨_, pe_slice (sl_list.or sl_tupA) p pl ph, fun σ H Z ι Γ M Q sl hr h => q σ H Z ι Γ M _ sl hr (h.bind fun x M1 v H1 Z1 ι1 e1 hr1 r1 h1 => ql σ H1 Z1 ι1 Γ M1 _ (sl.ext e1) hr1 (h1.bind fun a M2 a' H2 Z2 ι2 e2 hr2 ra h2 =>
    qh σ H2 Z2 ι2 Γ M2 _ ((sl.ext e1).ext e2) hr2 (h2.bind fun b M3 b' H3 Z3 ι3 e3 hr3 rb h3 => ?_)))⟩
  have ra' : a = a' := ra
  have rb' : b = b' := rb
  subst ra' rb'
  obtain ⟨d, hd, h4⟩ := Post.of_opR (γ := D) (δ := V) h3
  have r3 := (r1.ext e2).ext e3
  have q3 := h4.after
  have lists : ∀ {dx : D}, Rp X.K Z3 ι3 M3.length dx v → (listD M3 dx).map (fun ds => D.lst (cutD ds a b)) = some d → rSlL X.K v a b H3 Q := fun {dx} rx e => by
    cases e1 : listD M3 dx with
    | none => rw [e1] at e; cases e
    | some ds =>
      rw [e1] at e
      cases e
      obtain ⟨p1, xs, rfl, s1, r1⟩ := listD_run hr3 rx e1
      exact ⟨p1, xs, rfl, s1.sq, q3.lst hr3 (cut_rps r1 a b)⟩
  cases r3 with
  | dct s_ r_ t_ => first | (cases e; done) | (cases hd; done) | (cases h; done) | (cases h1; done) | (cases e1; done) | (cases h'; done) | (cases ei; done) | (cases e'; done) | exact h.elim | exact h1.elim | exact h2.elim | exact .inl (lists (.dct s_ r_ t_) hd) | exact lists (.dct s_ r_ t_) e
  | ptu s_ r_ => first | exact seqs (.ptu s_ r_) e | (cases e; exact .base (.tup (subT hr.sub s_.sq))) | (cases e; done) | (cases hd; done) | (cases h; done) | (cases h1; done) | (cases e1; done) | (cases h'; done) | (cases ei; done) | (cases e'; done) | exact h.elim | exact h1.elim | exact h2.elim | exact .inl (lists (.ptu s_ r_) hd) | exact lists (.ptu s_ r_) e
  | lam s_ r_ => first | (cases e; done) | (cases hd; done) | (cases h; done) | (cases h1; done) | (cases e1; done) | (cases h'; done) | (cases ei; done) | (cases e'; done) | exact h.elim | exact h1.elim | exact h2.elim | exact .inl (lists (.lam s_ r_) hd) | exact lists (.lam s_ r_) e | exact seqs (.lam s_ r_) e
  | exn s_ r_ q_ w_ => first | (cases e; done) | (cases hd; done) | (cases h; done) | (cases h1; done) | (cases e1; done) | (cases h'; done) | (cases ei; done) | (cases e'; done) | exact h.elim | exact h1.elim | exact h2.elim | exact .inl (lists (.exn s_ r_ q_ w_) hd) | exact lists (.exn s_ r_ q_ w_) e | exact seqs (.exn s_ r_ q_ w_) e
  | exv q_ w_ => first | (cases e; done) | (cases hd; done) | (cases h; done) | (cases h1; done) | (cases e1; done) | (cases h'; done) | (cases ei; done) | (cases e'; done) | exact h.elim | exact h1.elim | exact h2.elim | exact .inl (lists (.exv q_ w_) hd) | exact lists (.exv q_ w_) e | exact seqs (.exv q_ w_) e
  | dcx q_ w_ => first | (cases e; done) | (cases hd; done) | (cases h; done) | (cases h1; done) | (cases e1; done) | (cases h'; done) | (cases ei; done) | (cases e'; done) | exact h.elim | exact h1.elim | exact h2.elim | exact .inl (lists (.dcx q_ w_) hd) | exact lists (.dcx q_ w_) e | exact seqs (.dcx q_ w_) e
  | tup s r =>
    rename_i ds a0 xs
    cases hd
    refine .inr ⟨a0, xs, rfl, subT hr3.sub s, fun z => ?_, fun _ => q3.tup hr3 (cut_rps r a b)⟩
    have ec : cutD ds a b = ds := by
      unfold cutD
      rw [r.length, z.1, z.2, List.drop_zero, Nat.sub_zero, ← r.length, List.take_length]
    rw [ec] at q3
    exact q3.now hr3 (.tup s r)
  | lst s r => exact .inl (lists (.lst s r) hd)
  | ref hk => exact .inl (lists (.ref hk) hd)
  | non => cases hd
  | bl b => cases hd
  | int b => cases hd
  | str b => cases hd
end
end Bk

set_option Elab.async false
set_option linter.all false
set_option maxRecDepth 100000
set_option maxHeartbeats 2000000
namespace Bk
open PySem PySem.Spec PyProof.Rows L2
section
variable {X : Cx}
theorem rps1 {K : PySem.W.Frag} {Z : Hp} {ι : Nat → Addr} {n : Nat} {d : D} {vs : List V} (r : Rps K Z ι n [d] vs) : ∃ v, vs = [v] ∧ Rp K Z ι n d v := by
  cases r with
  | cons r rs =>
    cases rs
    exact ⟨_, rfl, r⟩
/-- a function of one argument -/
def fn1 (f : List MO → D → Option D) (M : List MO) : List D → Option D
  | [d] => f M d
  | _ => none
theorem OkA.of1 {r : List V → Hp → VK → Prop} {f : List MO → D → Option D} (h : Ok1 X (fun x H Q => r [x] H Q) f) : OkA X r (fn1 f) := fun xs H Z ι M ds d Q hr rx e q => by
  match ds, e, rx with
  | [d0], e, rx =>
    obtain ⟨v, rfl, r1⟩ := rps1 rx
    exact h v H Z ι M d0 d Q hr r1 e q
def fn2 (f : List MO → D → D → Option D) (M : List MO) : List D → Option D
  | [d, e] => f M d e
  | _ => none
/-! len -/
def dLen (M : List MO) : D → Option D
  | .str x => if x.length ≤ sizeLine then some (.int x.length) else none
  | d => (itemsD M d).map fun ds => .int ds.length
theorem ok_len : Ok1 X (fun x H Q => ∃ x' n, [x] = [x'] ∧ LenV X.K x' H n ∧ Q (.int n) H) dLen := fun x H Z ι M dx d Q hr rx e q => by
  have seqs : ∀ {dx : D}, Rp X.K Z ι M.length dx x → (itemsD M dx).map (fun ds => D.int ds.length) = some d → ∃ x' n, [x] = [x'] ∧ LenV X.K x' H n ∧ Q (.int n) H := fun {dx} rx e => by
    cases e1 : itemsD M dx with
    | none => rw [e1] at e; cases e
    | some ds =>
      rw [e1] at e
      cases e
      obtain ⟨a, xs, rfl, s, r⟩ := itemsD_run hr rx e1
      refine ⟨_, xs.length, rfl, ?_, by rw [← r.length]; exact q.now hr (.int _)⟩
      rcases s with s | s
      · exact .inl ⟨xs, s.sq, rfl⟩
      · exact .inr ⟨xs, s, rfl⟩
  cases rx with
  | dct s_ r_ t_ => first | (cases e; done) | (cases hd; done) | (cases h; done) | (cases h1; done) | (cases e1; done) | (cases h'; done) | (cases ei; done) | (cases e'; done) | exact h.elim | exact h1.elim | exact h2.elim | exact .inl (lists (.dct s_ r_ t_) hd) | exact lists (.dct s_ r_ t_) e
  | ptu s_ r_ => first | exact seqs (.ptu s_ r_) e | (cases e; exact .base (.tup (subT hr.sub s_.sq))) | (cases e; done) | (cases hd; done) | (cases h; done) | (cases h1; done) | (cases e1; done) | (cases h'; done) | (cases ei; done) | (cases e'; done) | exact h.elim | exact h1.elim | exact h2.elim | exact .inl (lists (.ptu s_ r_) hd) | exact lists (.ptu s_ r_) e
  | lam s_ r_ => first | (cases e; done) | (cases hd; done) | (cases h; done) | (cases h1; done) | (cases e1; done) | (cases h'; done) | (cases ei; done) | (cases e'; done) | exact h.elim | exact h1.elim | exact h2.elim | exact .inl (lists (.lam s_ r_) hd) | exact lists (.lam s_ r_) e | exact seqs (.lam s_ r_) e
  | exn s_ r_ q_ w_ => first | (cases e; done) | (cases hd; done) | (cases h; done) | (cases h1; done) | (cases e1; done) | (cases h'; done) | (cases ei; done) | (cases e'; done) | exact h.elim | exact h1.elim | exact h2.elim | exact .inl (lists (.exn s_ r_ q_ w_) hd) | exact lists (.exn s_ r_ q_ w_) e | exact seqs (.exn s_ r_ q_ w_) e
  | exv q_ w_ => first | (cases e; done) | (cases hd; done) | (cases h; done) | (cases h1; done) | (cases e1; done) | (cases h'; done) | (cases ei; done) | (cases e'; done) | exact h.elim | exact h1.elim | exact h2.elim | exact .inl (lists (.exv q_ w_) hd) | exact lists (.exv q_ w_) e | exact seqs (.exv q_ w_) e
  | dcx q_ w_ => first | (cases e; done) | (cases hd; done) | (cases h; done) | (cases h1; done) | (cases e1; done) | (cases h'; done) | (cases ei; done) | (cases e'; done) | exact h.elim | exact h1.elim | exact h2.elim | exact .inl (lists (.dcx q_ w_) hd) | exact lists (.dcx q_ w_) e | exact seqs (.dcx q_ w_) e
  | str z =>
    have e' : (if z.length ≤ sizeLine then some (D.int z.length) else none) = some d := e
    by_cases c : z.length ≤ sizeLine
    · rw [if_pos c] at e'
      cases e'
      exact ⟨_, z.length, rfl, ⟨c, rfl⟩, q.now hr (.int _)⟩
    · rw [if_neg c] at e'
      cases e'
  | tup s r => exact seqs (.tup s r) e
  | lst s r => exact seqs (.lst s r) e
  | ref hk => exact seqs (.ref hk) e
  | non => exact seqs .non e
  | bl b => exact seqs (.bl b) e
  | int b => exact seqs (.int b) e
/-! int -/
def dInt (_ : List MO) : D → Option D
  | .int i => some (.int i)
  | .bl b => some (.int (if b then 1 else 0))
  | _ => none
theorem ok_int : Ok1 X (fun x H Q => (∃ i, [x] = [.int i] ∧ Q (.int i) H) ∨ ∃ k, [x] = [.bl k] ∧ Q (.int (if k then 1 else 0)) H) dInt := fun x H Z ι M dx d Q hr rx e q => by
  cases rx with
  | int i =>
    cases e
    exact .inl ⟨i, rfl, q.now hr (.int i)⟩
  | bl b =>
    cases e
    exact .inr ⟨b, rfl, q.now hr (.int _)⟩
  | _ => cases e
/-! str of a number -/
def dStr (_ : List MO) : D → Option D
  | .int i => if i.natAbs.log2 < 1920 then some (.str (toString i)) else none
  | _ => none
/-! min, max, sum, all, any -/
def dMin2 (_ : List MO) : D → D → Option D
  | .int i, .int j => some (.int (if j < i then j else i))
  | _, _ => none
def dMax2 (_ : List MO) : D → D → Option D
  | .int i, .int j => some (.int (if j > i then j else i))
  | _, _ => none
def intsD : List D → Option (List Int)
  | [] => some []
  | .int i :: ds => (intsD ds).map (i :: ·)
  | _ => none
def blsD : List D → Option (List Bool)
  | [] => some []
  | .bl i :: ds => (blsD ds).map (i :: ·)
  | _ => none
theorem blsD_is {K : PySem.W.Frag} {Z : Hp} {ι : Nat → Addr} {n : Nat} : ∀ {ds : List D} {vs : List V} {is : List Bool}, Rps K Z ι n ds vs → blsD ds = some is → vs = is.map V.bl
  | [], _, _, r, h => by cases r; cases h; rfl
  | .bl i :: ds, _, _, r, h => by
    cases r with
    | cons r rs =>
      have h' : (blsD ds).map (i :: ·) = some _ := h
      cases e : blsD ds with
      | none => rw [e] at h'; cases h'
      | some js =>
        rw [e] at h'
        cases h'
        cases r
        rw [blsD_is rs e]
        rfl
  | .non :: _, _, _, _, h => by cases h
  | .int _ :: _, _, _, _, h => by cases h
  | .str _ :: _, _, _, _, h => by cases h
  | .tup _ :: _, _, _, _, h => by cases h
  | .lst _ :: _, _, _, _, h => by cases h
  | .ref _ :: _, _, _, _, h => by cases h
@[simp] theorem intsD_map (is : List Int) : intsD (is.map D.int) = some is := by
  induction is with
  | nil => rfl
  | cons i is ih => simp [intsD, ih]
@[simp] theorem blsD_map (is : List Bool) : blsD (is.map D.bl) = some is := by
  induction is with
  | nil => rfl
  | cons i is ih => simp [blsD, ih]
def maxI : List Int → Int
  | [] => 0
  | [i] => i
  | i :: j :: r => let m := maxI (j :: r); if m ≤ i then i else m
def ofInts (f : List Int → Option D) (M : List MO) (d : D) : Option D := ((listD M d).bind intsD).bind f
def ofBls (f : List Bool → D) (M : List MO) (d : D) : Option D := ((listD M d).bind blsD).map f
def dSum := ofInts fun is => some (.int is.sum)
def dMax := ofInts fun is => if is = [] then none else some (.int (maxI is))
def dAll := ofBls fun bs => .bl (bs.all id)
theorem ofBls_run {K : PySem.W.Frag} {H Z : Hp} {ι : Nat → Addr} {M : List MO} {f : List Bool → D} {dx d : D} {x : V} (hr : HR K H Z ι M) (r : Rp K Z ι M.length dx x) (e : ofBls f M dx = some d) : ∃ a is, x = .ref a ∧ SqL K H a (is.map V.bl) ∧ f is = d := by
  unfold ofBls at e
  cases e1 : listD M dx with
  | none => rw [e1] at e; cases e
  | some ds =>
    rw [e1, Option.bind_some] at e
    cases e2 : blsD ds with
    | none => rw [e2] at e; cases e
    | some is =>
      rw [e2] at e
      cases e
      obtain ⟨a, xs, rfl, s, r2⟩ := listD_run hr r e1
      rw [blsD_is r2 e2] at s
      exact ⟨a, is, rfl, s.sq, rfl⟩
theorem ok_all : Ok1 X (fun x H Q => rAll X.K [x] H Q) dAll := fun x H Z ι M dx d Q hr rx e q => by
  obtain ⟨a, is, rfl, s, rfl⟩ := ofBls_run hr rx e
  exact ⟨a, is, rfl, s, q.now hr (.bl _)⟩
/-! list(x), tuple(x) -/
def dList (M : List MO) (d : D) : Option D := (itemsD M d).map D.lst
def dTuple (M : List MO) (d : D) : Option D := (itemsD M d).map D.tup
theorem ok_list : Ok1 X (fun x H Q => ∃ p ys, [x] = [.ref p] ∧ (SqL X.K H p ys ∨ SqT X.K H p ys) ∧ ∀ l, H l = none → Q (.ref l) (upd H l (.lst ys))) dList := fun x H Z ι M dx d Q hr rx e q => by
  unfold dList at e
  cases e1 : itemsD M dx with
  | none => rw [e1] at e; cases e
  | some ds =>
    rw [e1] at e
    cases e
    obtain ⟨a, xs, rfl, s, r⟩ := itemsD_run hr rx e1
    exact ⟨a, xs, rfl, s.elim (fun s => .inl s.sq) .inr, q.lst hr r⟩
theorem ok_tuple : Ok1 X (fun x H Q => ∃ p ys, [x] = [.ref p] ∧ ((SqL X.K H p ys ∧ ∀ l, H l = none → Q (.ref l) (upd H l (.tup ys))) ∨ (SqT X.K H p ys ∧ Q (.ref p) H))) dTuple := fun x H Z ι M dx d Q hr rx e q => by
  unfold dTuple at e
  cases rx with
  | tup s r =>
    cases e
    exact ⟨_, _, rfl, .inr ⟨subT hr.sub s, q.now hr (.tup s r)⟩⟩
  | ptu s r =>
    cases e
    exact ⟨_, _, rfl, .inr ⟨subT hr.sub s.sq, q.now hr (.tup s.sq r)⟩⟩
  | lst s r =>
    cases e
    exact ⟨_, _, rfl, .inl ⟨(subL hr.sub s).sq, q.tup hr r⟩⟩
  | ref hk =>
    rename_i k
    cases e1 : itemsD M (.ref k) with
    | none => rw [e1] at e; cases e
    | some ds =>
      rw [e1] at e
      cases e
      obtain ⟨a, xs, ea, s, r⟩ := listD_run hr (.ref hk) e1
      cases ea
      exact ⟨_, _, rfl, .inl ⟨s.sq, q.tup hr r⟩⟩
  | _ => cases e
end
/-! list(range(..)) -/
section
variable {X : Cx} {C : CT} {W : WX} {a b e : Expr} {ga gb : GE} {p pos p2 pos2 : Pos}
def rngOk (i j : Int) : Bool := inR i && inR j && decide ((j - i).toNat ≤ 2 ^ 24)
def gRgL (own : Bool) (ga gb : GE) : GE := fun Γ M => (ga Γ M).bind fun x M1 => (gb Γ M1).bind fun y M2 => match x, y with
  | .int i, .int j => if rngOk i j = true then (if own = true then .ok (.ref M2.length) (M2 ++ [.lst (rngL i (j - i).toNat)]) else .ok (.lst (rngL i (j - i).toNat)) M2) else .bad
  | _, _ => .bad
/-! isinstance -/
/-- a value's type, dicts too -/
inductive TyD (K : PySem.W.Frag) (H : Hp) : V → Value → Prop where
  | x {v : V} {t : Value} (h : TyX K H v t) : TyD K H v t
  | d {a : Addr} {es : Array DictEntry} {ep : Nat} (h : H a = some (dnO a es ep)) : TyD K H (.ref a) (.type "dict")
theorem kit_ofD {X : Cx} {pins : List (Addr × Obj)} {σ : L2.St} {H : Hp} {s : Shared} {x : V} {u t : Value} (I : Inv X pins σ H s) (rx : RelV x u) (ty : TyD X.K H x t) : ∃ P : Heap → Prop, PySem.W.KitX X.K u t P ∧ P s.heap ∧ u ≠ .builtin "__main__.__loader__#opaque" := by
  cases ty with
  | x h => exact kit_of I rx h
  | d h =>
    cases rx
    obtain ⟨⟨o, ho, hx, _⟩, _, _⟩ := I.hok _ _ h
    exact ⟨_, PySem.W.kitx_dict, ⟨o, ho, hx.1⟩, fun z => nomatch z⟩
def rIsiD (K : PySem.W.Frag) : List V → Hp → VK → Prop := fun vs H Q => ∃ (x c : V) (t u : Value) (b : Bool), vs = [x, c] ∧ ClsV c u ∧ TyD K H x t ∧ PySem.W.kitOne K t u = some b ∧ Q (.bl b) H
def rIsiTD (K : PySem.W.Frag) : List V → Hp → VK → Prop := fun vs H Q => ∃ (x : V) (tp : Addr) (cs : List V) (t : Value) (us : List Value) (b : Bool), vs = [x, .ref tp] ∧ H tp = some (.tup cs) ∧ Paired ClsV cs us ∧ TyD K H x t ∧ PySem.W.kitAny K t us = some b ∧ Q (.bl b) H
theorem call_isiD {X : Cx} : CallR X (.builtin "isinstance") (rIsiD X.K) := by
  intro pins s σ H vs us Q I r h
  obtain ⟨x, c, t, u, b, rfl, k, ty, e, q⟩ := h
  obtain ⟨w1, w2, rfl, r1, r2⟩ := vals2 r
  have e2 := k.eq r2
  subst e2
  obtain ⟨P, KX, p, hx⟩ := kit_ofD I r1 ty
  exact PySem.W.kia_one KX I.kIn p e hx fun tk => ⟨.bl b, H, I.tok tk, rfl, q⟩
theorem call_isiTD {X : Cx} : CallR X (.builtin "isinstance") (rIsiTD X.K) := by
  intro pins s σ H vs us Q I r h
  obtain ⟨x, tp, cs, t, ws, b, rfl, hT, k, ty, e, q⟩ := h
  obtain ⟨w1, w2, rfl, r1, r2⟩ := vals2 r
  cases (show w2 = Value.ref tp from r2)
  obtain ⟨P, KX, p, hx⟩ := kit_ofD I r1 ty
  obtain ⟨_, its, rv, o, h1, h2, n, h3⟩ := (show ObjOk X.prog X.w H s.heap tp (.tup cs) from I.hok tp _ hT)
  have e3 := ClsV.all k rv
  subst e3
  obtain ⟨oc, od, dt, sl⟩ := o
  simp only at h2 h3
  subst h2 h3
  exact PySem.W.kia_tup KX I.kIn p h1 e hx fun tk => ⟨.bl b, H, I.tok tk, rfl, q⟩
def tyName (M : List MO) : D → Option String
  | .non => some "NoneType"
  | .bl _ => some "bool"
  | .int _ => some "int"
  | .str _ => some "str"
  | .tup _ => some "tuple"
  | .lst _ => some "list"
  | .dct _ _ => some "dict"
  | .lam _ _ => none
  | .exn _ _ _ => none
  | .exv _ _ _ _ => none
  | .dcx _ _ => some "dict"
  | .ptu _ => some "tuple"
  | .ref k => match M[k]? with
    | some (.lst _) => some "list"
    | _ => none
theorem tyName_run {K : PySem.W.Frag} {H Z : Hp} {ι : Nat → Addr} {M : List MO} {d : D} {x : V} {t : String} (hr : HR K H Z ι M) (r : Rp K Z ι M.length d x) (e : tyName M d = some t) : TyD K H x (.type t) := by
  have lists : ∀ {a : Addr} {xs : List V}, ExL K H a xs → TyD K H (.ref a) (.type "list") := fun {a xs} s => by
    rcases s with (s | ⟨o, s⟩) | ⟨its, m, s, _, _⟩
    · exact .x (.base (.lst s))
    · exact .x (.base (.frz s))
    · exact .x (.kList s rfl)
  cases r with
  | dct s_ r_ t_ =>
    cases e
    obtain ⟨es, ep, h1, _⟩ := s_
    exact .d (hr.sub _ _ h1)
  | lam s_ r_ => cases e
  | exn s_ r_ q_ w_ => cases e
  | exv q_ w_ => cases e
  | dcx q_ w_ =>
    cases e
    exact .x (.base (.dK (hr.sub _ _ q_)))
  | ptu s r =>
    cases e
    obtain ⟨o, s, _⟩ := s
    exact .x (.fTuple (hr.sub _ _ s))
  | non => cases e; exact .x (.base .non)
  | bl b => cases e; exact .x (.base (.bl b))
  | int i => cases e; exact .x (.base (.int i))
  | str z => cases e; exact .x (.base (.str z))
  | tup s r =>
    cases e
    rcases subT hr.sub s with (s | ⟨o, s⟩) | ⟨o, its, m, s, c, _⟩
    · exact .x (.base (.tup s))
    · exact .x (.fTuple s)
    · exact .x (.kTuple s c)
  | lst s r =>
    cases e
    exact lists (subL hr.sub s)
  | ref hk =>
    rename_i k
    have e' : (match M[k]? with
      | some (.lst _) => some "list"
      | _ => none) = some t := e
    cases e1 : M[k]? with
    | none => rw [e1] at e'; cases e'
    | some o =>
      rw [e1] at e'
      cases o with
      | dead => cases e'
      | dct ks0 vs0 => cases e'
      | dki kvs0 => cases e'
      | tab nm0 => cases e'
      | obj nm fs => cases e'
      | lst ds =>
        cases e'
        obtain ⟨xs, h1, _⟩ := hr.obj k _ e1
        exact lists (.inl (.of h1))
def dIsi (T : String) (M : List MO) (d : D) : Option D := (tyName M d).bind fun t => (kitB t T).map D.bl
def anyB (t : String) : List String → Option Bool
  | [] => some false
  | T :: Ts => match kitB t T with
    | some true => some true
    | some false => anyB t Ts
    | none => none
def dIsiT (Ts : List String) (M : List MO) (d : D) : Option D := (tyName M d).bind fun t => (anyB t Ts).map D.bl
theorem anyB_kit {K : PySem.W.Frag} {t : String} : ∀ {Ts : List String} {b : Bool}, anyB t Ts = some b → PySem.W.kitAny K (.type t) (Ts.map Value.type) = some b
  | [], b, h => by cases h; rfl
  | T :: Ts, b, h => by
    unfold anyB at h
    show (match PySem.W.kitOne K (.type t) (.type T) with
      | some true => some true
      | some false => PySem.W.kitAny K (.type t) (Ts.map Value.type)
      | none => none) = some b
    cases e : kitB t T with
    | none => rw [e] at h; cases h
    | some k =>
      rw [e] at h
      rw [kit_ty e]
      cases k with
      | true => exact h
      | false => exact anyB_kit h
theorem qe_isi {T : String} {TN : Str} {q : Pos} (hg : Gl X "isinstance") (hm : X.mg "isinstance" = none) (hT : Gl X TN) (hmT : X.mg TN = none) (hv : bootBuiltins TN = some (.type T)) (ha : QE X C W e ga) (hn : TN ≠ "__name__" := by decide) (hd : (TN == ("__debug__" : Str)) = false := by decide)
    (he : starEach [e, Expr.Name TN q] X.env = (false, eval e X.env) :: starEach [Expr.Name TN q] X.env := by rfl) (he2 : starEach [Expr.Name TN q] X.env = (false, eval (Expr.Name TN q) X.env) :: starEach [] X.env := by rfl) (hpl : (backTo pos (starEach [Expr.Name TN q] X.env)).any (·.1) = false := by rfl) :
    QE X C W (.Call (.Name "isinstance" p) [e, .Name TN q] [] pos) (gOp1 (dIsi T) ga) := by
  obtain ⟨ta, pa, qa⟩ := ha
  refine ⟨_, pe_callB call_isiD hg hm (by decide +kernel) (pa_cons pa (pa_cons (pe_bltn (v := .ty T) hT hmT hv rfl hn hd) pa_nil he2) he) (he := he) (hpl := hpl), fun σ H Z ι Γ M Q sl hr h => qa σ H Z ι Γ M _ sl hr (h.bind fun x M1 v H1 Z1 ι1 e1 hr1 r1 h1 => ?_)⟩
  obtain ⟨d, hd, h3⟩ := Post.of_opR (γ := D) (δ := V) h1
  unfold dIsi at hd
  cases e2 : tyName M1 x with
  | none => rw [e2] at hd; cases hd
  | some t =>
    rw [e2, Option.bind_some] at hd
    cases e3 : kitB t T with
    | none => rw [e3] at hd; cases hd
    | some b =>
      rw [e3] at hd
      cases hd
      exact ⟨v, .ty T, .type t, .type T, b, rfl, .ty T, tyName_run hr1 r1 e2, kit_ty e3, h3.after.now hr1 (.bl b)⟩
theorem qe_isi2 {T1 T2 : String} {N1 N2 : Str} {q1 q2 q3 : Pos} {kk : Nat} (hg : Gl X "isinstance") (hm : X.mg "isinstance" = none) (hT1 : Gl X N1) (hm1 : X.mg N1 = none) (hv1 : bootBuiltins N1 = some (.type T1)) (hT2 : Gl X N2) (hm2 : X.mg N2 = none) (hv2 : bootBuiltins N2 = some (.type T2)) (ha : QE X C W e ga)
    (hn1 : N1 ≠ "__name__" := by decide) (hd1 : (N1 == ("__debug__" : Str)) = false := by decide) (hn2 : N2 ≠ "__name__" := by decide) (hd2 : (N2 == ("__debug__" : Str)) = false := by decide)
    (he : starEach [e, Expr.Tuple [.Name N1 q1, .Name N2 q2] kk q3] X.env = (false, eval e X.env) :: starEach [Expr.Tuple [.Name N1 q1, .Name N2 q2] kk q3] X.env := by rfl) (he2 : starEach [Expr.Tuple [.Name N1 q1, .Name N2 q2] kk q3] X.env = (false, eval (Expr.Tuple [.Name N1 q1, .Name N2 q2] kk q3) X.env) :: starEach [] X.env := by rfl)
    (hpl : (backTo pos (starEach [Expr.Tuple [.Name N1 q1, .Name N2 q2] kk q3] X.env)).any (·.1) = false := by rfl)
    (hs1 : starEach [Expr.Name N1 q1, Expr.Name N2 q2] X.env = (false, eval (Expr.Name N1 q1) X.env) :: starEach [Expr.Name N2 q2] X.env := by rfl) (hs2 : starEach [Expr.Name N2 q2] X.env = (false, eval (Expr.Name N2 q2) X.env) :: starEach [] X.env := by rfl) :
    QE X C W (.Call (.Name "isinstance" p) [e, .Tuple [.Name N1 q1, .Name N2 q2] kk q3] [] pos) (gOp1 (dIsiT [T1, T2]) ga) := by
  obtain ⟨ta, pa, qa⟩ := ha
  refine ⟨_, pe_callB call_isiTD hg hm (by decide +kernel) (pa_cons pa (pa_cons (pe_tup (pa_cons (pe_bltn (v := .ty T1) hT1 hm1 hv1 rfl hn1 hd1) (pa_cons (pe_bltn (v := .ty T2) hT2 hm2 hv2 rfl hn2 hd2) pa_nil hs2) hs1)) pa_nil he2) he) (he := he) (hpl := hpl),
    fun σ H Z ι Γ M Q sl hr h => qa σ H Z ι Γ M _ sl hr (h.bind fun x M1 v H1 Z1 ι1 e1 hr1 r1 h1 => ?_)⟩
  obtain ⟨d, hd, h3⟩ := Post.of_opR (γ := D) (δ := V) h1
  unfold dIsiT at hd
  cases e2 : tyName M1 x with
  | none => rw [e2] at hd; cases hd
  | some t =>
    rw [e2, Option.bind_some] at hd
    cases e3 : anyB t [T1, T2] with
    | none => rw [e3] at hd; cases hd
    | some b =>
      rw [e3] at hd
      cases hd
      refine ⟨by show 2 ≤ sizeLine; decide, fun tp hp => ?_⟩
      obtain ⟨hr2, x2⟩ := hr1.frozen (o := .tup [.ty T1, .ty T2]) hp
      exact ⟨v, tp, [.ty T1, .ty T2], .type t, [.type T1, .type T2], b, rfl, upd_same, .cons (.ty T1) (.cons (.ty T2) .nil), tyName_run hr2 (r1.ext x2) e2, anyB_kit (Ts := [T1, T2]) e3, h3.after _ _ _ x2 hr2 (.bl b)⟩
end
end Bk

set_option Elab.async false
set_option linter.all false
set_option maxRecDepth 100000
set_option maxHeartbeats 2000000
namespace Bk
open PySem PySem.Spec PyProof.Rows L2
/-! ### what changes a list of ours -/
/-- a method: the list as it was, the argument; the list as it is, the answer -/
abbrev MF := List MO → List D → D → Option (List D × D)
abbrev MF0 := List D → Option (List D × D)
def isListD (M : List MO) (d : D) : Bool := (listD M d).isSome
def mutR (M : List MO) (x : D) (f : List D → Option (List D × D)) : R D := match x with
  | .ref k => match M[k]? with
    | some (.lst ds) => match f ds with
      | some (ds', r) => .ok r (M.set k (.lst ds'))
      | none => .bad
    | _ => .bad
  | _ => .bad
def gMeth1 (f : MF) (go ge : GE) : GE := fun Γ M => (go Γ M).bind fun x M1 => if isListD M1 x = true then (ge Γ M1).bind fun y M2 => mutR M2 x fun ds => f M2 ds y else .bad
def gMeth0 (f : MF0) (go : GE) : GE := fun Γ M => (go Γ M).bind fun x M1 => mutR M1 x f
section
variable {X : Cx} {C : CT} {W : WX}
def OkM (X : Cx) (r : V → List V → Hp → VK → Prop) (f : MF) : Prop := ∀ (p : Addr) (xs : List V) (y : V) (H Z : Hp) (ι : Nat → Addr) (M : List MO) (ds ds' : List D) (dy d : D) (Q : VK), HR X.K H Z ι M → H p = some (.lst xs) → Rps X.K Z ι M.length ds xs → Rp X.K Z ι M.length dy y → f M ds dy = some (ds', d) →
  (∀ (xs' : List V) (w : V), Rps X.K Z ι M.length ds' xs' → Rp X.K Z ι M.length d w → Q w (upd H p (.lst xs'))) → r (.ref p) [y] H Q
def OkM0 (X : Cx) (r : V → List V → Hp → VK → Prop) (f : MF0) : Prop := ∀ (p : Addr) (xs : List V) (H Z : Hp) (ι : Nat → Addr) (n : Nat) (ds ds' : List D) (d : D) (Q : VK), H p = some (.lst xs) → Rps X.K Z ι n ds xs → f ds = some (ds', d) →
  (∀ (xs' : List V) (w : V), Rps X.K Z ι n ds' xs' → Rp X.K Z ι n d w → Q w (upd H p (.lst xs'))) → r (.ref p) [] H Q
theorem mutR_run {σ : St} {H Z : Hp} {ι : Nat → Addr} {M : List MO} {x : D} {v : V} {f : List D → Option (List D × D)} {Q : VK} (hr : HR X.K H Z ι M) (r : Rp X.K Z ι M.length x v) (h : Post X C W (rpE X.K) σ H Z ι M (mutR M x f) Q) :
    ∃ (k : Nat) (ds ds' : List D) (d : D) (xs : List V), v = .ref (ι k) ∧ H (ι k) = some (.lst xs) ∧ Rps X.K Z ι M.length ds xs ∧ f ds = some (ds', d) ∧ ∀ (xs' : List V) (w : V), Rps X.K Z ι M.length ds' xs' → Rp X.K Z ι M.length d w → Q w (upd H (ι k) (.lst xs')) := by
  cases r with
  | ref hk =>
    rename_i k
    have h' : Post X C W (rpE X.K) σ H Z ι M (match M[k]? with
      | some (.lst ds) => match f ds with
        | some (ds', r) => .ok r (M.set k (.lst ds'))
        | none => .bad
      | _ => .bad) Q := h
    cases e1 : M[k]? with
    | none => rw [e1] at h'; exact h'.elim
    | some o =>
      rw [e1] at h'
      cases o with
      | dead => exact h'.elim
      | dct ks0 vs0 => exact h'.elim
      | dki kvs0 => exact h'.elim
      | tab nm0 => exact h'.elim
      | obj nm fs => exact h'.elim
      | lst ds =>
        have h2 : Post X C W (rpE X.K) σ H Z ι M (match f ds with
          | some (ds', r) => .ok r (M.set k (.lst ds'))
          | none => .bad) Q := h'
        cases e2 : f ds with
        | none => rw [e2] at h2; exact h2.elim
        | some q =>
          obtain ⟨ds', d⟩ := q
          rw [e2] at h2
          obtain ⟨xs, a1, a2⟩ := hr.obj k _ e1
          refine ⟨k, ds, ds', d, xs, rfl, a1, a2, e2, fun xs' w r1 r2 => ?_⟩
          obtain ⟨b1, b2⟩ := hr.change e1 r1
          exact h2 w _ Z ι b2 b1 (r2.ext b2)
  | _ => exact h.elim
theorem isListD_run {K : PySem.W.Frag} {H Z : Hp} {ι : Nat → Addr} {M : List MO} {d : D} {v : V} (hr : HR K H Z ι M) (r : Rp K Z ι M.length d v) (h : isListD M d = true) : tyV K "list" v H := by
  unfold isListD at h
  cases e : listD M d with
  | none => rw [e] at h; cases h
  | some ds =>
    obtain ⟨a, xs, rfl, s, _⟩ := listD_run hr r e
    exact .inl ⟨rfl, xs, s.sq⟩
theorem qe_meth1 {o e : Expr} {go ge : GE} {f : MF} {id : String} {name : Str} {pos apos : Pos} {r : V → List V → Hp → VK → Prop} (slot : Slot "list" name id) (hty : typeOf (.builtin id) = pure (.type "method_descriptor")) (hm : MtR X id r) (ok : OkM X r f) (ho : QE X C W o go) (he : QE X C W e ge)
    (hbase : attributeBase o name X.env (eval o X.env) = eval o X.env := by rfl) (hs : starEach [e] X.env = (false, eval e X.env) :: starEach [] X.env := by rfl)
    (hfew : ((backTo pos (starEach [e] X.env)).all (fun x => !x.1) && (backToKw pos (keywordEach [] X.env)).all (fun x => x.1.isSome) && decide ([e].length + ([] : List Keyword).length + (if ([] : List Keyword).isEmpty then 0 else 1) < 30)) = true := by rfl)
    (hline : (apos.endLine == pos.line) = true := by rfl) : QE X C W (.Call (.Attribute o name apos) [e] [] pos) (gMeth1 f go ge) := by
  obtain ⟨ta, pa, qa⟩ := ho
  obtain ⟨tb, pb, qb⟩ := he
  refine ⟨_, pe_bm PySem.F.plainAttrs_list slot hty hm pa (pa_cons pb pa_nil hs) hbase hfew hline hs rfl, fun σ H Z ι Γ M Q sl hr h => qa σ H Z ι Γ M _ sl hr (h.bind fun x M1 v H1 Z1 ι1 e1 hr1 r1 h1 => ?_)⟩
  by_cases c : isListD M1 x = true
  · rw [if_pos c] at h1
    refine ⟨isListD_run hr1 r1 c, qb σ H1 Z1 ι1 Γ M1 _ (sl.ext e1) hr1 (h1.bind fun y M2 u H2 Z2 ι2 e2 hr2 r2 h2 => ?_)⟩
    obtain ⟨k, ds, ds', d, xs, ev, a1, a2, a3, a4⟩ := mutR_run hr2 (r1.ext e2) h2
    rw [ev]
    exact ok _ xs u H2 Z2 ι2 M2 ds ds' y d Q hr2 a1 a2 r2 a3 a4
  · rw [if_neg c] at h1
    exact h1.elim
theorem qe_meth0 {o : Expr} {go : GE} {f : MF0} {id : String} {name : Str} {pos apos : Pos} {r : V → List V → Hp → VK → Prop} (slot : Slot "list" name id) (hty : typeOf (.builtin id) = pure (.type "method_descriptor")) (hm : MtR X id r) (ok : OkM0 X r f) (ho : QE X C W o go)
    (hbase : attributeBase o name X.env (eval o X.env) = eval o X.env := by rfl) (hline : (apos.endLine == pos.line) = true := by rfl) : QE X C W (.Call (.Attribute o name apos) [] [] pos) (gMeth0 f go) := by
  obtain ⟨ta, pa, qa⟩ := ho
  refine ⟨_, pe_bm0 PySem.F.plainAttrs_list slot hty hm pa hbase hline, fun σ H Z ι Γ M Q sl hr h => qa σ H Z ι Γ M _ sl hr (h.bind fun x M1 v H1 Z1 ι1 e1 hr1 r1 h1 => ?_)⟩
  obtain ⟨k, ds, ds', d, xs, ev, a1, a2, a3, a4⟩ := mutR_run hr1 r1 h1
  rw [ev]
  exact ⟨.inl ⟨rfl, xs, .of a1⟩, ok _ xs H1 Z1 ι1 M1.length ds ds' d Q a1 a2 a3 a4⟩
def mAppend : MF := fun _ ds y => if ds.length < sizeLine then some (ds ++ [y], .non) else none
theorem ok_append : OkM X rAppend mAppend := fun p xs y H Z ι M ds ds' dy d Q hr e r ry h q => by
  unfold mAppend at h
  by_cases c : ds.length < sizeLine
  · rw [if_pos c] at h
    cases h
    exact ⟨p, xs, y, rfl, rfl, e, by rw [← r.length]; exact c, q _ _ (r.append (.cons ry .nil)) .non⟩
  · rw [if_neg c] at h
    cases h
/-! xs[i] = e -/
def setR (M : List MO) (o i v : D) : Option (List MO) := match o, i with
  | .ref k, .int j => match M[k]? with
    | some (.lst ds) => match ixN ds.length j with
      | some m => some (M.set k (.lst (ds.set m v)))
      | none => none
    | _ => none
  | _, _ => none
def gSetI (ge go gi : GE) : GS := fun Γ M => (ge Γ M).thenS Γ fun v M1 => (go Γ M1).thenS Γ fun o M2 => (gi Γ M2).thenS Γ fun i M3 => match setR M3 o i v with
  | some M4 => .nx Γ M4
  | none => .bad
theorem qs_setI {o i e : Expr} {go gi ge : GE} {pos spos : Pos} (he : QE X C W e ge) (ho : QE X C W o go) (hi : QE X C W i gi) (hs : swapsWithSole [Expr.Subscript o i spos] e pos.line X.env = pure false := by rfl) (hp : swappedStores [Expr.Subscript o i spos] e X.env = pure none := by rfl)
    (h1 : (assignEach [Expr.Subscript o i spos] X.env).map (·.2) = [assign (Expr.Subscript o i spos) X.env] := by rfl)
    (ha : ∀ v, assign (.Subscript o i spos) X.env v = (do let ov ← holding [v] (eval o X.env); let iv ← holding [v, ov] (eval i X.env); standAt spos; holding [v, ov, iv] (setItem ov iv v); release [v, ov, iv] []) := by intro _; rfl) :
    QS X C W (.Assign [.Subscript o i spos] e pos) (gSetI ge go gi) := by
  obtain ⟨te, pe, qe⟩ := he
  obtain ⟨to, po, qo⟩ := ho
  obtain ⟨ti, pi, qi⟩ := hi
  refine ⟨_, ps_asg pe (pg_sub po pi set_list ha) hs hp h1, fun Dd σ H Z ι Γ M sl hr h => qe σ H Z ι Γ M _ sl hr (PostS.bind h sl fun v M1 v' H1 Z1 ι1 e1 hr1 r1 h1 => qo σ H1 Z1 ι1 Γ M1 _ (sl.ext e1) hr1 (PostS.bind h1 (sl.ext e1) fun o M2 o' H2 Z2 ι2 e2 hr2 r2 h2 =>
    qi σ H2 Z2 ι2 Γ M2 _ ((sl.ext e1).ext e2) hr2 (PostS.bind h2 ((sl.ext e1).ext e2) fun i M3 i' H3 Z3 ι3 e3 hr3 r3 h3 => ?_)))⟩
  have ro := r2.ext e3
  have rv := (r1.ext e2).ext e3
  have sl3 := ((sl.ext e1).ext e2).ext e3
  cases es : setR M3 o i v with
  | none => rw [es] at h3; exact h3.elim
  | some M4 =>
    rw [es] at h3
    unfold setR at es
    cases ro with
    | ref hk =>
      rename_i k
      cases r3 with
      | int j =>
        simp only at es
        cases ek : M3[k]? with
        | none => rw [ek] at es; cases es
        | some u =>
          rw [ek] at es
          cases u with
          | dead => cases es
          | dct ks0 vs0 => cases es
          | dki kvs0 => cases es
          | tab nm0 => cases es
          | obj nm fs => cases es
          | lst ds =>
            simp only at es
            cases em : ixN ds.length j with
            | none => rw [em] at es; cases es
            | some m =>
              rw [em] at es
              cases es
              obtain ⟨xs, a1, a2⟩ := hr3.obj k _ ek
              obtain ⟨b1, b2⟩ := hr3.change ek (a2.set m rv)
              exact ⟨_, xs, j, m, rfl, rfl, a1, by rw [← a2.length]; exact em, h3 σ _ Z3 ι3 b2 b1 (sl3.ext b2)⟩
      | _ => cases es
    | _ => cases es
/-! x += e -/
def gAug (i : Nat) (f : Int → Int → Int) (ge : GE) : GS := fun Γ M => match Γ[i]? with
  | some (some (.int a)) => (ge Γ M).thenS Γ fun y M1 => match y with
    | .int b => .nx (Γ.set i (some (.int (f a b)))) M1
    | _ => .bad
  | _ => .bad
/-! repr -/
end
end Bk

set_option Elab.async false
set_option linter.all false
set_option maxRecDepth 100000
set_option maxHeartbeats 2000000
namespace Bk
open PySem PySem.Spec PyProof.Rows L2
/-! ### enumerate and zip of lists and tuples -/
inductive Src where
  | l (a : Addr) | t (a : Addr)
namespace Src
def addr : Src → Addr
  | .l a => a
  | .t a => a
def here (K : PySem.W.Frag) (H : Hp) (xs : List V) : Src → Prop
  | .l a => SqL K H a xs
  | .t a => SqT K H a xs
def it (h : Heap) (i : Addr) (n : Nat) : Src → Prop
  | .l a => h.IsListIter i a n
  | .t a => h.IsTupleIter i a n
def arr (h : Heap) (items : Array Value) : Src → Prop
  | .l a => h.IsList a items
  | .t a => h.IsTuple a items
def obj : Src → Obj
  | .l a => { cls := .type "list_iterator", data := .fields #[.ref a, .int 0 0] }
  | .t a => { cls := .type "tuple_iterator", data := .fields #[.ref a, .int 0 0] }
theorem begins (S : Src) (items : Array Value) : Begins (.ref S.addr) S.obj fun h => S.arr h items := by
  cases S with
  | l a => exact begins_list a items
  | t a => exact begins_tuple a items
theorem draws {prog : Program} {w : World} {A : Around} (hh : A.handled = none) (S : Src) (i : Addr) (hne : S.addr ≠ i) (items : Array Value) :
    Draws prog w A i [i, S.addr] items.size (fun n v => items[n]? = some v) (fun n h => S.it h i n ∧ S.arr h items) := by
  cases S with
  | l a => exact Draws.list hh i a hne items
  | t a => exact Draws.tuple hh i a hne items
theorem inv {X : Cx} {pins : List (Addr × Obj)} {σ : L2.St} {H : Hp} {s : Shared} {xs : List V} (I : Inv X pins σ H s) {S : Src} (h : S.here X.K H xs) : ∃ its : List Value, Vals xs its ∧ S.arr s.heap its.toArray := by
  cases S with
  | l a =>
    obtain ⟨its, r, p, _⟩ := I.list h
    exact ⟨its, r, p.isList⟩
  | t a =>
    obtain ⟨its, r, p, _⟩ := I.tuple h
    exact ⟨its, r, p⟩
theorem inj {X : Cx} {pins : List (Addr × Obj)} {σ : L2.St} {H : Hp} {s : Shared} {xs ys : List V} (I : Inv X pins σ H s) {S : Src} (h : S.here X.K H xs) (h' : S.here X.K H ys) : xs = ys := by
  cases S with
  | l a => exact I.list_inj h h'
  | t a => exact I.tuple_inj h h'
theorem start {S : Src} {h : Heap} {i : Addr} (e : h.get? i = some S.obj) : S.it h i 0 := by
  cases S with
  | l a => exact ⟨_, e, rfl, rfl⟩
  | t a => exact ⟨_, e, rfl, rfl⟩
theorem it_at {S : Src} {h h' : Heap} {i : Addr} {n : Nat} (x : S.it h i n) (k : ∀ o, h.get? i = some o → h'.get? i = some o) : S.it h' i n := by
  cases S with
  | l a =>
    have y : h.IsListIter i a n := x
    exact y.at k
  | t a =>
    have y : h.IsTupleIter i a n := x
    exact y.at k
theorem it_obj {S : Src} {h : Heap} {i : Addr} {n : Nat} (x : S.it h i n) : ∃ o, h.get? i = some o ∧ ∀ v, o.data ≠ .cell v := by
  cases S with
  | l a =>
    obtain ⟨o, ho, _, hd⟩ := (show h.IsListIter i a n from x)
    exact ⟨o, ho, fun v q => by rw [hd] at q; cases q⟩
  | t a =>
    obtain ⟨o, ho, _, hd⟩ := (show h.IsTupleIter i a n from x)
    exact ⟨o, ho, fun v q => by rw [hd] at q; cases q⟩
theorem arr_ne {S : Src} {h : Heap} {items : Array Value} {b : Addr} {ob : Obj} (x : S.arr h items) (e : h.get? b = some ob) (hd : ∀ its n, ob.data ≠ .seq its n) : S.addr ≠ b := by
  cases S with
  | l a =>
    obtain ⟨o, ho, _, m, hdd⟩ := (show h.IsList a items from x)
    intro z
    have z' : a = b := z
    rw [z', e] at ho
    cases ho
    exact hd _ _ hdd
  | t a =>
    obtain ⟨o, ho, _, m, hdd⟩ := (show h.IsTuple a items from x)
    intro z
    have z' : a = b := z
    rw [z', e] at ho
    cases ho
    exact hd _ _ hdd
theorem arr_it {S : Src} {h : Heap} {items : Array Value} {i : Addr} {n : Nat} (x : S.arr h items) (y : S.it h i n) : S.addr ≠ i := by
  cases S with
  | l a =>
    obtain ⟨o, ho, _, m, hd⟩ := (show h.IsList a items from x)
    obtain ⟨o', ho', _, hd'⟩ := (show h.IsListIter i a n from y)
    intro z
    have z' : a = i := z
    rw [z', ho'] at ho
    cases ho
    rw [hd] at hd'
    cases hd'
  | t a =>
    obtain ⟨o, ho, _, m, hd⟩ := (show h.IsTuple a items from x)
    obtain ⟨o', ho', _, hd'⟩ := (show h.IsTupleIter i a n from y)
    intro z
    have z' : a = i := z
    rw [z', ho'] at ho
    cases ho
    rw [hd] at hd'
    cases hd'
end Src
set_option maxHeartbeats 4000000 in
theorem meets_enum1 {v : Value} {o : Obj} {H : Heap → Prop} (B : Begins v o H) :
    Meets (Builtin.«enumerate.__new__» ⟨[.type "enumerate", v], []⟩) (fun _ R s => H s.heap ∧ R (.ok (.ret (.ref (s.heap.push o).objs.size)))
      { s with heap := (s.heap.push o).push { cls := .type "enumerate", data := .fields #[.none, .bool false, .ref s.heap.objs.size, rawInt 0, .none, .none] } }) :=
  .of_wp fun prog w A R s hs => by
    obtain ⟨hp, g, d, tk, os⟩ := s
    obtain ⟨hH, hR⟩ := hs
    have subs := sub_enumerate
    have iter : ∀ {A' : Around} {E : Value → Shared → Prop} {Q : Value → Shared → Prop}, Q (.ref hp.objs.size) ⟨hp.push o, g, d, tk, os⟩ → wpAny (model prog w) A' (pyIter v) Q E ⟨hp, g, d, tk, os⟩ := fun q => B.iter prog w _ _ _ _ hH q
    wp_walk using iter
    refine wpAny_stack_any fun _ => wpAny_pure ?_
    split
    · rename_i c _ _ _ _ _
      cases (c == Value.type "enumerate") <;> (wp_walk using iter; exact ⟨_, rfl, hR⟩)
    · wp_walk using iter
      exact ⟨_, rfl, hR⟩
theorem call_enum1 {prog : Program} {w : World} {A : Around} {E : Value → Shared → Prop} {s : Shared} {v : Value} {o : Obj} {H : Heap → Prop} {Q : Value → Shared → Prop} (B : Begins v o H) (hH : H s.heap)
    (h : ∀ h', IsEnum h' (s.heap.objs.size + 1) s.heap.objs.size 0 .none → h'.get? s.heap.objs.size = some o → (∀ b u, s.heap.get? b = some u → h'.get? b = some u) → Q (.ref (s.heap.objs.size + 1)) { s with heap := h' }) :
    wpAny (model prog w) A (call (.type "enumerate") [v]) Q E s := by
  refine callType_new F.called_enumerate (by decide) (F.typeCall_enumerate_1 _) (F.newCall_enumerate_1 _) (fun ob => F.args_object_init_2 ob _) F.entry_enumerate_new (meets_enum1 B) ⟨hH, ?_⟩
  have sz : (s.heap.push o).objs.size = s.heap.objs.size + 1 := Heap.size_push ..
  show _ ∧ _
  rw [sz]
  have e := Heap.get?_push_size (s.heap.push o) (o := { cls := .type "enumerate", data := .fields #[.none, .bool false, .ref s.heap.objs.size, rawInt 0, .none, .none] }) rfl
  rw [sz] at e
  exact ⟨⟨_, e, rfl⟩, h _ e (Heap.get?_push_of_some _ (Heap.get?_push_size _ B.free)) fun b u x => Heap.get?_push_of_some _ (Heap.get?_push_of_some _ x)⟩
/-! the turns -/
def Ien (K : PySem.W.Frag) (S : Src) (k0 : Int) : It :=
  ⟨fun n H => ∃ (xs : List V) (x : V), S.here K H xs ∧ xs[n]? = some x, fun n H v H' => ∃ T x, v = .ref T ∧ H T = none ∧ H' = upd H T (.tup [.int (k0 + (n : Nat)), x]) ∧ ∀ xs, S.here K H xs → xs[n]? = some x, fun n H => ∃ xs : List V, S.here K H xs ∧ xs.length = n⟩
theorem turn_en {P : Program} {w : World} {K : PySem.W.Frag} {elts : List Expr} {kk : Nat} {tpos : Pos} (S : Src) (k0 : Int) (e i : Addr) :
    Turn P w K (.Tuple elts kk tpos) (Ien K S k0) [e, i] e (fun n h => (∃ old, IsEnum h e i (k0 + (n : Nat)) old) ∧ S.it h i n ∧ e ≠ i) where
  mem := List.mem_cons_self
  obj := fun n h st b hb => by
    obtain ⟨⟨old, he⟩, hi, _⟩ := st
    rcases List.mem_cons.mp hb with z | z
    · subst z
      exact ⟨_, he, fun v q => nomatch q⟩
    · have z' : b = i := by simpa using z
      subst z'
      exact Src.it_obj hi
  keep := fun n h h' st k => by
    obtain ⟨⟨old, he⟩, hi, ne⟩ := st
    exact ⟨⟨old, k e (by simp) _ he⟩, Src.it_at hi fun o q => k i (by simp) o q, ne⟩
  item := by
    intro X hP hw hK hc n pins s σ H E I hf st hg
    subst hP hw hK
    obtain ⟨⟨old, he⟩, hi, ne⟩ := st
    obtain ⟨xs, x, hq, hx⟩ := hg
    obtain ⟨its, rv, har⟩ := Src.inv I hq
    obtain ⟨u, hu, ru⟩ := rv.get hx
    obtain ⟨oi, hoi, _⟩ := Src.it_obj hi
    have hh : X.A.in1.handled = none := I.ok.hd hc
    have a1 : S.addr ≠ e := Src.arr_ne har he (fun _ _ q => nomatch q)
    have a2 := Src.arr_it har hi
    have Wk := WalksT.enumFrom k0 (Src.draws (prog := X.prog) (w := X.w) hh S i a2 its.toArray) e ne (by simp only [List.mem_cons, List.not_mem_nil, or_false, not_or]; exact ⟨ne, fun z => a1 z.symm⟩) (by simp)
    have ln : n < its.toArray.size := by
      have := (List.getElem?_eq_some_iff.mp hu).1
      simpa using this
    refine Wk.item n s _ E ln ⟨⟨old, he⟩, hi, har⟩ fun T vals h' tk hP hT hTup hMid hk => ⟨_, rfl, Wk.go elts kk tpos n T _ _ _ hMid fun h2 hSt hk2 => ?_⟩
    obtain ⟨t, x', hx', hvals⟩ := hP
    subst hvals
    have ex : x' = u := by
      have q : its.toArray[n]? = some u := by simpa using hu
      rw [hx'] at q
      exact Option.some.inj q
    subst ex
    have out := Wk.apart n T _ hMid
    have tup2 : h2.IsTuple T #[.int (k0 + (n : Nat)) t, x'] := hTup.at fun o q => hk2 T o out q
    have new : ObjOk X.prog X.w (upd H T (.tup [.int (k0 + (n : Nat)), x])) h2 T (.tup [.int (k0 + (n : Nat)), x]) :=
      ⟨by show 2 ≤ sizeLine; decide, [.int (k0 + (n : Nat)) t, x'], .cons ⟨_, rfl⟩ (.cons ru .nil), tup2⟩
    have J := I.turnedNew (t' := tk) (ch := [e, i]) (fun b ob hb q => hk2 b ob hb (hk b ob hb q)) hf hT new
    refine ⟨.ref T, _, J, rfl, ⟨T, x, rfl, I.hok.fresh hT, rfl, fun ys hy => by rw [Src.inj I hy hq]; exact hx⟩, ?_, fun b hb => ?_⟩
    · obtain ⟨⟨o2, he2⟩, hi2, _⟩ := hSt
      have en : k0 + ((n + 1 : Nat) : Int) = k0 + (n : Nat) + 1 := by push_cast; omega
      exact ⟨⟨o2, by first | exact he2 | (rw [en]; exact he2)⟩, hi2, ne⟩
    · have hb' : b < s.heap.objs.size := by
        rcases List.mem_cons.mp hb with z | z
        · rw [z]; exact Heap.lt_size he
        · have z' : b = i := by simpa using z
          rw [z']; exact Heap.lt_size hoi
      rw [upd_ne (Nat.ne_of_lt (Nat.lt_of_lt_of_le hb' hT))]
      exact (hf b hb).1
  done := by
    intro X hP hw hK hc n pins s σ H E I hf st hg
    subst hP hw hK
    obtain ⟨⟨old, he⟩, hi, ne⟩ := st
    obtain ⟨xs, hq, hx⟩ := hg
    obtain ⟨its, rv, har⟩ := Src.inv I hq
    have hh : X.A.in1.handled = none := I.ok.hd hc
    have a1 : S.addr ≠ e := Src.arr_ne har he (fun _ _ q => nomatch q)
    have Wk := WalksT.enumFrom k0 (Src.draws (prog := X.prog) (w := X.w) hh S i (Src.arr_it har hi) its.toArray) e ne (by simp only [List.mem_cons, List.not_mem_nil, or_false, not_or]; exact ⟨ne, fun z => a1 z.symm⟩) (by simp)
    have en : its.toArray.size = n := by rw [List.size_toArray, ← rv.length]; exact hx
    rw [en] at Wk
    exact Wk.done s _ E ⟨⟨old, he⟩, hi, har⟩ fun h' tk hk => ⟨rfl, I.turnedL (t' := tk) (ch := [e, i]) (fun b ob hb q => hk b ob hb q) hf⟩
  self := fun A n s Q E st h => by
    obtain ⟨⟨_, he⟩, _⟩ := st
    exact wpAny_pyIter_enum he h
end Bk

set_option Elab.async false
set_option linter.all false
set_option maxRecDepth 100000
set_option maxHeartbeats 2000000
namespace Bk
open PySem PySem.Spec PyProof.Rows L2
def enumL (k : Int) : List D → List D
  | [] => []
  | d :: ds => .tup [.int k, d] :: enumL (k + 1) ds
theorem enumL_len : ∀ (ds : List D) (k : Int), (enumL k ds).length = ds.length
  | [], _ => rfl
  | d :: ds, k => by simp [enumL, enumL_len ds]
theorem enumL_get : ∀ (ds : List D) (k : Int) (i : Nat) (x : D), (enumL k ds)[i]? = some x → ∃ d, ds[i]? = some d ∧ x = .tup [.int (k + (i : Nat)), d]
  | [], _, _, _, h => by simp [enumL] at h
  | d :: ds, k, 0, x, h => by
    simp [enumL] at h
    exact ⟨d, rfl, by rw [← h]; simp⟩
  | d :: ds, k, i + 1, x, h => by
    simp only [enumL, List.getElem?_cons_succ] at h
    obtain ⟨d', h1, h2⟩ := enumL_get ds (k + 1) i x h
    refine ⟨d', by simpa using h1, ?_⟩
    rw [h2]
    congr 3
    push_cast
    omega
def zipL : List D → List D → List D
  | d :: ds, e :: es => .tup [d, e] :: zipL ds es
  | _, _ => []
def gEnum (ge : GE) : GI := fun Γ M => (ge Γ M).bind fun d M1 => opR ((seqD d).map (enumL 0)) M1
def gEnumK (ge : GE) (gk : GE) : GI := fun Γ M => (ge Γ M).bind fun d M1 => (gk Γ M1).bind fun k M2 => match k with
  | .int k => if decide (-(2 ^ 63) ≤ k) && decide (k < 2 ^ 63) then opR ((seqD d).map (enumL k)) M2 else .bad
  | _ => .bad
def zipO (x y : D) : Option (List D) := match seqD x, seqD y with
  | some ds, some es => some (zipL ds es)
  | _, _ => none
def gZip (ga gb : GE) : GI := fun Γ M => (ga Γ M).bind fun x M1 => (gb Γ M1).bind fun y M2 => opR (zipO x y) M2
section
variable {X : Cx} {C : CT} {W : WX} {e e2 : Expr} {ge ga gb gk : GE} {p pos tpos : Pos} {elts : List Expr} {kk : Nat}
theorem src_of {K : PySem.W.Frag} {H Z : Hp} {ι : Nat → Addr} {n : Nat} {d : D} {ds : List D} {v : V} (hs : Sub Z H) (r : Rp K Z ι n d v) (h : seqD d = some ds) : ∃ (S : Src) (xs : List V), v = .ref S.addr ∧ S.here K Z xs ∧ Rps K Z ι n ds xs := by
  cases r with
  | lst s r => cases h; exact ⟨.l _, _, rfl, s.sq, r⟩
  | tup s r => cases h; exact ⟨.t _, _, rfl, s, r⟩
  | ptu s r => cases h; exact ⟨.t _, _, rfl, s.sq, r⟩
  | _ => cases h
theorem here_sub {K : PySem.W.Frag} {Z H : Hp} (h : Sub Z H) {S : Src} {xs : List V} : S.here K Z xs → S.here K H xs := by
  cases S with
  | l a =>
    intro q
    rcases (show SqL K Z a xs from q) with (q | ⟨o, q⟩) | q
    · exact .inl (.inl (h _ _ q))
    · exact .inl (.inr ⟨o, h _ _ q⟩)
    · exact .inr q
  | t a => exact fun q => subT h q
theorem itr_en {K : PySem.W.Frag} {Z : Hp} {ι : Nat → Addr} {n : Nat} {S : Src} {xs : List V} {ds : List D} {k : Int} (s : S.here K Z xs) (r : Rps K Z ι n ds xs) : ItR K (Ien K S k) (enumL k ds) Z ι n := by
  intro i H' Z' ι' M' hz hi hn hr _
  have sH : S.here K H' xs := here_sub (fun a o h => hr.sub _ _ (hz _ _ h)) s
  refine ⟨fun hl => ⟨xs, sH, by rw [← r.length, ← enumL_len ds k]; exact hl⟩, fun d hd => ?_⟩
  obtain ⟨d0, h1, rfl⟩ := enumL_get ds k i d hd
  obtain ⟨v, hv, rv⟩ := r.get h1
  refine ⟨⟨xs, v, sH, hv⟩, fun x H2 hy => ?_⟩
  obtain ⟨T, x', rfl, hT, rfl, hx⟩ := hy
  have ex : xs[i]? = some x' := hx _ sH
  rw [hv] at ex
  cases ex
  obtain ⟨q1, q2⟩ := hr.frozen (o := .tup [.int (k + (i : Nat)), v]) hT
  refine ⟨_, q2, q1, .tup (.inl (.inl upd_same)) (.cons (.int _) (.cons ?_ .nil))⟩
  exact Rp.ext (Rp.mono hz hi hn _ _ rv) q2
theorem qi_enum (hg : Gl X "enumerate") (hm : X.mg "enumerate" = none) (ha : QE X C W e ge) (hs : starEach [e] X.env = (false, eval e X.env) :: starEach [] X.env := by rfl) : QI X C W (.Tuple elts kk tpos) (.Call (.Name "enumerate" p) [e] [] pos) (gEnum ge) := by
  obtain ⟨ta, pa, qa⟩ := ha
  refine ⟨fun σ H R => ta σ H fun v H1 => ∃ (S : Src) (xs : List V), v = .ref S.addr ∧ S.here X.K H1 xs ∧ R (Ien X.K S 0) H1, ⟨fun pins s σ H R I h => ?_⟩, fun σ H Z ι Γ M Q sl hr h => qa σ H Z ι Γ M _ sl hr (Post.bind h fun x M1 v H1 Z1 ι1 e1 hr1 r1 h1 => ?_)⟩
  · refine Call_ (ld_blt I hg hm boot_enumerate (PyProof.Rows.callWith_type1 (thn ((pa_cons pa pa_nil hs).run pos pins s σ H (fun vs H1 => ∃ v, vs = [v] ∧ ∃ (S : Src) (xs : List V), v = .ref S.addr ∧ S.here X.K H1 xs ∧ R (Ien X.K S 0) H1) I ?_) fun us s1 hh => ?_) hs rfl))
    · have hmono : (fun x H1 => tNil σ H1 fun xs H2 => ∃ v, x :: xs = [v] ∧ ∃ (S : Src) (ys : List V), v = .ref S.addr ∧ S.here X.K H2 ys ∧ R (Ien X.K S 0) H2) = fun (v : V) (H1 : Hp) => ∃ (S : Src) (xs : List V), v = .ref S.addr ∧ S.here X.K H1 xs ∧ R (Ien X.K S 0) H1 := by
        funext x H1
        apply propext
        constructor
        · rintro ⟨v, ev, q⟩
          cases ev
          exact q
        · intro q
          exact ⟨x, rfl, q⟩
      show ta σ H fun x H1 => tNil σ H1 fun xs H2 => ∃ v, x :: xs = [v] ∧ ∃ (S : Src) (ys : List V), v = .ref S.addr ∧ S.here X.K H2 ys ∧ R (Ien X.K S 0) H2
      rw [hmono]
      exact h
    · obtain ⟨vs, H1, J, r1, v, rfl, S, xs, rfl, hq, q⟩ := hh
      obtain ⟨u, rfl, ru⟩ := Vals.one r1
      cases ru
      obtain ⟨its, rv, har⟩ := Src.inv J hq
      refine call_enum1 (S.begins its.toArray) har fun h' he hit hk => wpAny_pyIter_enum he ?_
      have J2 : Inv X pins σ H1 { s1 with heap := h' } := J.kept (t' := s1.toks) hk
      refine ⟨s1.heap.objs.size + 1, [s1.heap.objs.size + 1, s1.heap.objs.size], _, _, H1, rfl, J2, turn_en S 0 (s1.heap.objs.size + 1) s1.heap.objs.size, ⟨⟨.none, by simpa using he⟩, Src.start hit, Nat.succ_ne_self _⟩, fun b hb => ?_, q⟩
      have le : s1.heap.objs.size ≤ b := by
        rcases List.mem_cons.mp hb with z | z
        · rw [z]; exact Nat.le_succ _
        · have z' : b = s1.heap.objs.size := by simpa using z
          rw [z']
          exact Nat.le_refl _
      exact J.fpOk le (J.hok.fresh le)
  · obtain ⟨items, hd, h2⟩ := Post.of_opR (γ := D) (δ := V) h1
    cases es : seqD x with
    | none => rw [es] at hd; cases hd
    | some ds =>
      rw [es] at hd
      cases hd
      obtain ⟨S, xs, rfl, hS, r⟩ := src_of hr1.sub r1 es
      exact ⟨S, xs, rfl, here_sub hr1.sub hS, h2 _ H1 Z1 ι1 .refl hr1 (itr_en hS r)⟩
end
end Bk

set_option Elab.async false
set_option linter.all false
set_option maxRecDepth 100000
set_option maxHeartbeats 2000000
namespace Bk
open PySem PySem.Spec PyProof.Rows L2
/-! ### a comprehension over a list of ours, which it leaves as it is -/
def Pure {α : Type} (g : Env → List MO → R α) : Prop := ∀ (Γ : Env) (M : List MO) (d : α) (M' : List MO), g Γ M = .ok d M' → M' = M
theorem R.bind_ok {α β : Type} {r : R α} {f : α → List MO → R β} {b : β} {M' : List MO} (h : r.bind f = .ok b M') : ∃ a M1, r = .ok a M1 ∧ f a M1 = .ok b M' := by
  cases r with
  | ok a M1 => exact ⟨a, M1, rfl, h⟩
  | exc c d M1 => cases h
  | bad => cases h
theorem opR_ok {α : Type} {o : Option α} {M M' : List MO} {a : α} (h : opR o M = .ok a M') : M' = M := by
  cases o with
  | none => cases h
  | some a => cases h; rfl
theorem pure_v (i : Nat) : Pure (gV i) := fun Γ M d M' h => by
  unfold gV at h
  split at h <;> cases h
  rfl
theorem pure_op2 {f : List MO → D → D → Option D} {ga gb : GE} (h1 : Pure ga) (h2 : Pure gb) : Pure (gOp2 f ga gb) := fun Γ M d M' h => by
  obtain ⟨a, M1, e1, h⟩ := R.bind_ok h
  obtain ⟨b, M2, e2, h⟩ := R.bind_ok h
  rw [opR_ok h, h2 _ _ _ _ e2, h1 _ _ _ _ e1]
theorem pure_val {ga : GE} (h1 : Pure ga) : Pure (gVal ga) := fun Γ M d M' h => by
  obtain ⟨a, M1, e1, h⟩ := R.bind_ok h
  rw [opR_ok h, h1 _ _ _ _ e1]
def gLcW (ge : GE) (gg : GG) (gt : GT) (gel : GE) (own : List Nat) : GE := fun Γ M => (ge Γ M).bind fun d M1 => match d with
  | .ref k => match M1[k]? with
    | some (.lst ds) => (gLcL gg gt gel (forget Γ own) ds [] M1).bind fun acc M2 => .ok (.lst acc) M2
    | _ => .bad
  | _ => .bad
section
variable {X : Cx} {C : CT} {W : WX} {elt tg iter : Expr} {ifs : List Expr} {scope : Scope} {own : List (Str × Nat)} {pos : Pos} {gi : GE} {gg : GG} {gt : GT} {ge : GE} {is ixs : List Nat}
end
end Bk
namespace Bk
open PySem PySem.Spec PyProof.Rows L2
theorem qs_pre {X : Cx} {C : CT} {W : WX} {st : Stmt} {g : GS} (is : List Nat) (h1 : QS X C W st g) : QS X C W st (gSeq (gForget is) g) := by
  obtain ⟨t, p, q⟩ := h1
  exact ⟨t, p, fun Dd σ H Z ι Γ M sl hr h => q Dd σ H Z ι (forget Γ is) M (sl.forget is) hr h⟩
end Bk

set_option Elab.async false
set_option linter.all false
set_option maxRecDepth 100000
set_option maxHeartbeats 2000000
namespace Bk
open PySem PySem.Spec PyProof.Rows L2
/-! ### ==, for texts of any kind as well -/
def dEqA (M : List MO) (x y : D) : Option D := match x, y with
  | .str a, .str b => some (.bl (decide (a = b)))
  | x, y => dEq M x y
def dNeA (M : List MO) (x y : D) : Option D := match x, y with
  | .str a, .str b => some (.bl (!decide (a = b)))
  | x, y => dNe M x y
section
variable {X : Cx}
theorem op_eqA (hu : X.A.units + 64 < cLine) : OpR X (compareOp .Eq) (fun x y H Q => rEqD X.K x y H Q ∨ rEq x y H Q) := (op_eqD hu).or op_eq
theorem op_neA (hu : X.A.units + 64 < cLine) : OpR X (compareOp .NotEq) (fun x y H Q => rNeD X.K x y H Q ∨ rNe x y H Q) := (op_neD hu).or op_ne
theorem str_dec (a b : Str) : decide (V.str a = V.str b) = decide (a = b) := by simp
theorem ok_eqA : Ok2 X (fun x y H Q => rEqD X.K x y H Q ∨ rEq x y H Q) dEqA := fun x y H Z ι M dx dy d Q hr rx ry e q => by
  unfold dEqA at e
  split at e
  · cases e
    cases rx
    cases ry
    exact .inr ⟨rfl, q.now hr (by rw [str_dec]; exact .bl _)⟩
  · exact .inl (ok_eq x y H Z ι M dx dy d Q hr rx ry e q)
theorem ok_neA : Ok2 X (fun x y H Q => rNeD X.K x y H Q ∨ rNe x y H Q) dNeA := fun x y H Z ι M dx dy d Q hr rx ry e q => by
  unfold dNeA at e
  split at e
  · cases e
    cases rx
    cases ry
    exact .inr ⟨rfl, q.now hr (by rw [str_dec]; exact .bl _)⟩
  · exact .inl (ok_ne x y H Z ι M dx dy d Q hr rx ry e q)
end
@[simp] theorem e_eqS (M : List MO) (a b : Str) : dEqA M (.str a) (.str b) = some (.bl (decide (a = b))) := Eq.trans rfl rfl
@[simp] theorem e_neS (M : List MO) (a b : Str) : dNeA M (.str a) (.str b) = some (.bl (!decide (a = b))) := Eq.trans rfl rfl
/-! ### data that is as it is -/
structure Dt (n : Nat) (d : D) (p : PyData) : Prop where
  e : toP d = some p
  l : p.canLay0 = true
  h : p.depth ≤ n
structure Dts (n : Nat) (ds : List D) (ps : List PyData) : Prop where
  e : toPs ds = some ps
  l : PyData.canLayAll0 ps = true
  h : PyData.depthAll ps ≤ n
theorem Dt.int (n : Nat) (i : Int) : Dt n (.int i) (.int i) := ⟨rfl, rfl, Nat.zero_le _⟩
theorem Dt.non (n : Nat) : Dt n .non .none := ⟨rfl, rfl, Nat.zero_le _⟩
theorem Dt.bl (n : Nat) (b : Bool) : Dt n (.bl b) (.bool b) := ⟨rfl, rfl, Nat.zero_le _⟩
theorem Dts.nil (n : Nat) : Dts n [] [] := ⟨rfl, rfl, Nat.zero_le _⟩
theorem Dts.cons {n : Nat} {d : D} {ds : List D} {p : PyData} {ps : List PyData} (h : Dt n d p) (t : Dts n ds ps) : Dts n (d :: ds) (p :: ps) :=
  ⟨by simp [toPs, h.e, t.e], by simp [PyData.canLayAll0, h.l, t.l], by have := h.h; have := t.h; simp only [PyData.depthAll]; omega⟩
theorem Dts.tup {n : Nat} {ds : List D} {ps : List PyData} (h : Dts n ds ps) : Dt (n + 1) (.tup ds) (.tuple ps) := ⟨by simp [toP, h.e], by simpa [PyData.canLay0] using h.l, by have := h.h; simp only [PyData.depth]; omega⟩
theorem Dts.lst {n : Nat} {ds : List D} {ps : List PyData} (h : Dts n ds ps) : Dt (n + 1) (.lst ds) (.list ps) := ⟨by simp [toP, h.e], by simpa [PyData.canLay0] using h.l, by have := h.h; simp only [PyData.depth]; omega⟩
theorem Dts.map {α : Type} {n : Nat} {f : α → D} {g : α → PyData} (xs : List α) (h : ∀ x ∈ xs, Dt n (f x) (g x)) : Dts n (xs.map f) (xs.map g) := by
  induction xs with
  | nil => exact .nil n
  | cons x xs ih => exact .cons (h x (by simp)) (ih fun y hy => h y (by simp [hy]))
theorem Dts.ints (n : Nat) (is : List Int) : Dts n (is.map D.int) (is.map PyData.int) := Dts.map is fun i _ => .int n i
theorem Dt.shaped {n : Nat} {d : D} {p : PyData} (h : Dt n d p) (hn : n ≤ 64) : SeqAt.shaped p = true := by
  have := h.h
  simp [SeqAt.shaped, h.l]
  omega
theorem eqP_of {n m : Nat} {M : List MO} {x y d d' : D} {p q : PyData} (h : Dt n d p) (h' : Dt m d' q) (hx : deref M x = d) (hy : deref M y = d') (hn : n ≤ 64) (hm : m ≤ 64) : eqP M x y = some (PyData.eqv p q) := by
  unfold eqP
  rw [hx, hy, h.e, h'.e]
  simp [h.shaped hn, h'.shaped hm]
theorem eqv_same {p : PyData} (h : p.canLay0 = true) : PyData.eqv p p = true := SeqAt.eqv_refl p h
theorem eqP_same {n : Nat} {M : List MO} {x y d : D} {p : PyData} (h : Dt n d p) (hx : deref M x = d) (hy : deref M y = d) (hn : n ≤ 64) : eqP M x y = some true := by
  rw [eqP_of h h hx hy hn hn, eqv_same h.l]
theorem dEqA_p {M : List MO} {x y : D} {b : Bool} (h : eqP M x y = some b) (hx : ∀ s, x ≠ .str s) : dEqA M x y = some (.bl b) := by
  unfold dEqA
  split
  · exact absurd rfl (hx _)
  · simp [dEq, h]
theorem dNeA_p {M : List MO} {x y : D} {b : Bool} (h : eqP M x y = some b) (hx : ∀ s, x ≠ .str s) : dNeA M x y = some (.bl !b) := by
  unfold dNeA
  split
  · exact absurd rfl (hx _)
  · simp [dNe, h]
@[simp] theorem dEqA_int (M : List MO) (i j : Int) : dEqA M (.int i) (.int j) = some (.bl (decide (i = j))) := by
  rw [dEqA_p (eqP_of (Dt.int 0 i) (Dt.int 0 j) rfl rfl (by decide) (by decide)) (fun _ h => by cases h)]
  simp only [PyData.eqv]
  congr 2
  try rfl
@[simp] theorem dNeA_int (M : List MO) (i j : Int) : dNeA M (.int i) (.int j) = some (.bl (!decide (i = j))) := by
  rw [dNeA_p (eqP_of (Dt.int 0 i) (Dt.int 0 j) rfl rfl (by decide) (by decide)) (fun _ h => by cases h)]
  simp only [PyData.eqv]
  congr 2
  try rfl
theorem deref_ref {M : List MO} {k : Nat} {ds : List D} (h : M[k]? = some (.lst ds)) : deref M (.ref k) = .lst (ds.map (deref1 M)) := by
  simp [deref, deref1, h]
mutual
theorem below_toP : ∀ (d : D) (p : PyData), toP d = some p → below 0 d = true
  | .non, _, _ => rfl
  | .bl _, _, _ => rfl
  | .int _, _, _ => rfl
  | .str _, _, _ => rfl
  | .tup ds, p, h => by
    cases e : toPs ds with
    | none => simp [toP, e] at h
    | some ps => simpa [below] using belows_toPs ds ps e
  | .lst ds, p, h => by
    cases e : toPs ds with
    | none => simp [toP, e] at h
    | some ps => simpa [below] using belows_toPs ds ps e
  | .ref _, _, h => by cases h
  | .dct _ _, _, h => by cases h
  | .lam _ _, _, h => by cases h
  | .exn _ _ _, _, h => by cases h
  | .exv _ _ _ _, _, h => by cases h
  | .dcx _ _, _, h => by cases h
  | .ptu ds, p, h => by
    cases e : toPs ds with
    | none => simp [toP, e] at h
    | some ps => simpa [below] using belows_toPs ds ps e
theorem belows_toPs : ∀ (ds : List D) (ps : List PyData), toPs ds = some ps → belows 0 ds = true
  | [], _, _ => rfl
  | d :: ds, ps, h => by
    cases e1 : toP d with
    | none => simp [toPs, e1] at h
    | some p =>
      cases e2 : toPs ds with
      | none => simp [toPs, e1, e2] at h
      | some ps => simp [belows, below_toP d p e1, belows_toPs ds ps e2]
end
mutual
theorem below_up : ∀ {m : Nat} (d : D), below 0 d = true → below m d = true
  | _, .non, _ => rfl
  | _, .bl _, _ => rfl
  | _, .int _, _ => rfl
  | _, .str _, _ => rfl
  | m, .tup ds, h => by simpa [below] using belows_up ds (by simpa [below] using h)
  | m, .lst ds, h => by simpa [below] using belows_up ds (by simpa [below] using h)
  | _, .ref _, h => by simp [below] at h
  | m, .dct ks vs, h => by
    have h' : belows 0 ks = true ∧ belows 0 vs = true := by simpa [below] using h
    simp [below, belows_up ks h'.1, belows_up vs h'.2]
  | m, .ptu ds, h => by simpa [below] using belows_up ds (by simpa [below] using h)
  | _, .lam _ _, _ => rfl
  | m, .exn _ _ d, h => by simpa [below] using below_up d (by simpa [below] using h)
  | m, .exv _ _ _ d, h => by simpa [below] using below_up d (by simpa [below] using h)
  | m, .dcx _ d, h => by simpa [below] using below_up d (by simpa [below] using h)
theorem belows_up : ∀ {m : Nat} (ds : List D), belows 0 ds = true → belows m ds = true
  | _, [], _ => rfl
  | m, d :: ds, h => by
    simp only [belows, Bool.and_eq_true] at h ⊢
    exact ⟨below_up d h.1, belows_up ds h.2⟩
end
mutual
theorem flat_noref : ∀ (M : List MO) (d : D), below 0 d = true → deref1 M d = d
  | _, .non, _ => rfl
  | _, .bl _, _ => rfl
  | _, .int _, _ => rfl
  | _, .str _, _ => rfl
  | _, .tup _, _ => rfl
  | _, .lst _, _ => rfl
  | _, .ref _, h => by simp [below] at h
  | _, .dct _ _, _ => rfl
  | _, .ptu _, _ => rfl
  | _, .lam _ _, _ => rfl
  | _, .exn _ _ _, _ => rfl
  | _, .exv _ _ _ _, _ => rfl
  | _, .dcx _ _, _ => rfl
end
theorem belows_all {m : Nat} (ds : List D) : belows m ds = ds.all (below m) := by
  induction ds with
  | nil => rfl
  | cons d ds ih => simp [belows, ih]
theorem map_deref {M : List MO} {ds : List D} (h : belows 0 ds = true) : ds.map (deref1 M) = ds := by
  rw [belows_all, List.all_eq_true] at h
  conv => rhs; rw [← List.map_id ds]
  exact List.map_congr_left fun d hd => flat_noref M d (h d hd)
theorem deref_flat {M : List MO} {d : D} (h : below 0 d = true) : deref M d = d := by
  unfold deref
  rw [flat_noref M d h]
  cases d with
  | lst ds =>
    show D.lst (ds.map (deref1 M)) = _
    rw [map_deref (by simpa [below] using h)]
  | _ => rfl
theorem Dt.below {n m : Nat} {d : D} {p : PyData} (h : Dt n d p) : below m d = true := below_up d (below_toP d p h.e)
theorem Dts.belows {n m : Nat} {ds : List D} {ps : List PyData} (h : Dts n ds ps) : belows m ds = true := belows_up ds (belows_toPs ds ps h.e)
theorem Dt.deref {n : Nat} {M : List MO} {d : D} {p : PyData} (h : Dt n d p) : deref M d = d := deref_flat h.below
theorem Dts.derefR {n : Nat} {M : List MO} {k : Nat} {ds : List D} {ps : List PyData} (h : Dts n ds ps) (hk : M[k]? = some (.lst ds)) : deref M (.ref k) = .lst ds := by rw [deref_ref hk, map_deref h.belows]
@[simp] theorem belows_ints (m : Nat) (is : List Int) : belows m (is.map D.int) = true := (Dts.ints 0 is).belows
/-! what repr writes is not too long -/
structure Sh (b : Nat) (p : PyData) : Prop where
  s : p.showable = true
  d : p.hasDict = false
  l : p.leavesShort 13 = true
  b : p.bulk ≤ b
structure Shs (b : Nat) (ps : List PyData) : Prop where
  s : PyData.showableAll ps = true
  d : PyData.hasDictAll ps = false
  l : PyData.leavesShortAll 13 ps = true
  b : PyData.bulkAll ps ≤ b
theorem Sh.int {i : Int} (h : i.natAbs < 10 ^ 12) : Sh 0 (.int i) := ⟨by
  have : i.natAbs.log2 < 1920 := by
    by_cases z : i.natAbs = 0
    · rw [z]; decide
    · have : i.natAbs.log2 < 40 := (Nat.log2_lt z).mpr (by omega)
      omega
  simp [PyData.showable, this], rfl, by simpa [PyData.leavesShort] using PyData.shown_int_le h, Nat.le_refl _⟩
theorem Sh.non : Sh 0 .none := ⟨rfl, rfl, rfl, Nat.le_refl _⟩
theorem Sh.bl (b : Bool) : Sh 0 (.bool b) := ⟨rfl, rfl, rfl, Nat.le_refl _⟩
theorem Shs.nil : Shs 0 [] := ⟨rfl, rfl, rfl, Nat.le_refl _⟩
theorem Shs.cons {b c : Nat} {p : PyData} {ps : List PyData} (h : Sh b p) (t : Shs c ps) : Shs (b + 1 + c) (p :: ps) :=
  ⟨by simp [PyData.showableAll, h.s, t.s], by simp [PyData.hasDictAll, h.d, t.d], by simp [PyData.leavesShortAll, h.l, t.l], by have := h.b; have := t.b; simp only [PyData.bulkAll]; omega⟩
theorem Shs.tup {b : Nat} {ps : List PyData} (h : Shs b ps) : Sh b (.tuple ps) := ⟨by simpa [PyData.showable] using h.s, by simpa [PyData.hasDict] using h.d, by simpa [PyData.leavesShort] using h.l, by simpa [PyData.bulk] using h.b⟩
theorem Shs.lst {b : Nat} {ps : List PyData} (h : Shs b ps) : Sh b (.list ps) := ⟨by simpa [PyData.showable] using h.s, by simpa [PyData.hasDict] using h.d, by simpa [PyData.leavesShort] using h.l, by simpa [PyData.bulk] using h.b⟩
theorem Shs.map {α : Type} {b : Nat} {g : α → PyData} (xs : List α) (h : ∀ x ∈ xs, Sh b (g x)) : Shs (xs.length * (b + 1)) (xs.map g) := by
  induction xs with
  | nil => simpa using Shs.nil
  | cons x xs ih =>
    have := Shs.cons (h x (by simp)) (ih fun y hy => h y (by simp [hy]))
    simp only [List.length_cons, List.map_cons]
    rw [Nat.succ_mul, Nat.add_comm]
    exact this
theorem Shs.ints {is : List Int} (h : ∀ i ∈ is, i.natAbs < 10 ^ 12) : Shs is.length (is.map PyData.int) := by
  have := Shs.map (b := 0) is fun i hi => Sh.int (h i hi)
  simpa using this
end Bk

set_option Elab.async false
set_option linter.all false
set_option maxRecDepth 100000
set_option maxHeartbeats 2000000
namespace Bk
open PySem PySem.Spec PyProof.Rows L2
/-! ### how the functions are worked out -/
section
variable {α β : Type}
@[simp] theorem rb_ok (a : α) (M : List MO) (f : α → List MO → R β) : (R.ok a M).bind f = f a M := Eq.trans rfl rfl
@[simp] theorem rb_ex (c : Nat) (d : D) (M : List MO) (f : α → List MO → R β) : (R.exc c d M : R α).bind f = .exc c d M := Eq.trans rfl rfl
@[simp] theorem rt_ok (Γ : Env) (a : α) (M : List MO) (f : α → List MO → RS) : (R.ok a M).thenS Γ f = f a M := Eq.trans rfl rfl
@[simp] theorem rt_ex (Γ : Env) (c : Nat) (d : D) (M : List MO) (f : α → List MO → RS) : (R.exc c d M : R α).thenS Γ f = .exc c d Γ M := Eq.trans rfl rfl
@[simp] theorem ro_ok (a : α) (M : List MO) (f : α → List MO → R β) : (R.ok a M).only f = f a M := Eq.trans rfl rfl
@[simp] theorem sn_nx (Γ : Env) (M : List MO) (f : Env → List MO → RS) : (RS.nx Γ M).next f = f Γ M := Eq.trans rfl rfl
@[simp] theorem sn_rt (d : D) (M : List MO) (f : Env → List MO → RS) : (RS.rt d M).next f = .rt d M := Eq.trans rfl rfl
@[simp] theorem sn_ct (Γ : Env) (M : List MO) (f : Env → List MO → RS) : (RS.ct Γ M).next f = .ct Γ M := Eq.trans rfl rfl
@[simp] theorem sn_bk (Γ : Env) (M : List MO) (f : Env → List MO → RS) : (RS.bk Γ M).next f = .bk Γ M := Eq.trans rfl rfl
@[simp] theorem sn_ex (c : Nat) (d : D) (Γ : Env) (M : List MO) (f : Env → List MO → RS) : (RS.exc c d Γ M).next f = .exc c d Γ M := Eq.trans rfl rfl
@[simp] theorem st_nx (Γ : Env) (M : List MO) (f : Env → List MO → RS) : (RS.nx Γ M).turn f = f Γ M := Eq.trans rfl rfl
@[simp] theorem st_ct (Γ : Env) (M : List MO) (f : Env → List MO → RS) : (RS.ct Γ M).turn f = f Γ M := Eq.trans rfl rfl
@[simp] theorem st_bk (Γ : Env) (M : List MO) (f : Env → List MO → RS) : (RS.bk Γ M).turn f = .nx Γ M := Eq.trans rfl rfl
@[simp] theorem st_rt (d : D) (M : List MO) (f : Env → List MO → RS) : (RS.rt d M).turn f = .rt d M := Eq.trans rfl rfl
@[simp] theorem st_ex (c : Nat) (d : D) (Γ : Env) (M : List MO) (f : Env → List MO → RS) : (RS.exc c d Γ M).turn f = .exc c d Γ M := Eq.trans rfl rfl
@[simp] theorem opR_some (a : α) (M : List MO) : opR (some a) M = .ok a M := Eq.trans rfl rfl
@[simp] theorem optS_some (Γ : Env) (f : Env → RS) : optS (some Γ) f = f Γ := Eq.trans rfl rfl
end
@[simp] theorem u_gV (i : Nat) (Γ : Env) (M : List MO) : gV i Γ M = (match Γ[i]? with
  | some (some d) => .ok d M
  | _ => .bad) := Eq.trans rfl rfl
@[simp] theorem u_gC (d : D) (Γ : Env) (M : List MO) : gC d Γ M = .ok d M := Eq.trans rfl rfl
@[simp] theorem u_gOp2 (f : List MO → D → D → Option D) (ga gb : GE) (Γ : Env) (M : List MO) : gOp2 f ga gb Γ M = (ga Γ M).bind fun x M1 => (gb Γ M1).bind fun y M2 => opR (f M2 x y) M2 := Eq.trans rfl rfl
@[simp] theorem u_gOp1 (f : List MO → D → Option D) (ga : GE) (Γ : Env) (M : List MO) : gOp1 f ga Γ M = (ga Γ M).bind fun x M1 => opR (f M1 x) M1 := Eq.trans rfl rfl
@[simp] theorem u_gNil (Γ : Env) (M : List MO) : gNil Γ M = .ok [] M := Eq.trans rfl rfl
@[simp] theorem u_gCons (ga : GE) (gr : GA) (Γ : Env) (M : List MO) : gCons ga gr Γ M = (ga Γ M).bind fun x M1 => (gr Γ M1).bind fun xs M2 => .ok (x :: xs) M2 := Eq.trans rfl rfl
@[simp] theorem u_gTup (ga : GA) (Γ : Env) (M : List MO) : gTup ga Γ M = (ga Γ M).bind fun xs M1 => if xs.length ≤ sizeLine then .ok (.tup xs) M1 else .bad := Eq.trans rfl rfl
@[simp] theorem u_gLst (ga : GA) (Γ : Env) (M : List MO) : gLst ga Γ M = (ga Γ M).bind fun xs M1 => if xs.length ≤ sizeLine then .ok (.lst xs) M1 else .bad := Eq.trans rfl rfl
@[simp] theorem u_gLstO (ga : GA) (Γ : Env) (M : List MO) : gLstO ga Γ M = (ga Γ M).bind fun xs M1 => if xs.length ≤ sizeLine then .ok (.ref M1.length) (M1 ++ [.lst xs]) else .bad := Eq.trans rfl rfl
@[simp] theorem u_gCall (f : List MO → List D → Option D) (ga : GA) (Γ : Env) (M : List MO) : gCall f ga Γ M = (ga Γ M).bind fun xs M1 => opR (f M1 xs) M1 := Eq.trans rfl rfl
@[simp] theorem u_gVal (ga : GE) (Γ : Env) (M : List MO) : gVal ga Γ M = (ga Γ M).bind fun x M1 => opR (toBl x) M1 := Eq.trans rfl rfl
@[simp] theorem u_gAndT (a b : GT) (Γ : Env) (M : List MO) : gAndT a b Γ M = (a Γ M).bind fun c M1 => if c = true then b Γ M1 else .ok false M1 := Eq.trans rfl rfl
@[simp] theorem u_gOrT (a b : GT) (Γ : Env) (M : List MO) : gOrT a b Γ M = (a Γ M).bind fun c M1 => if c = true then .ok true M1 else b Γ M1 := Eq.trans rfl rfl
@[simp] theorem u_gNotT (a : GT) (Γ : Env) (M : List MO) : gNotT a Γ M = (a Γ M).bind fun c M1 => .ok (!c) M1 := Eq.trans rfl rfl
@[simp] theorem u_gIfE (c : GT) (a b : GE) (Γ : Env) (M : List MO) : gIfE c a b Γ M = (c Γ M).bind fun k M1 => if k = true then a Γ M1 else b Γ M1 := Eq.trans rfl rfl
@[simp] theorem u_gAndV (a b : GE) (Γ : Env) (M : List MO) : gAndV a b Γ M = ((a Γ M).bind fun x M1 => match x with
  | .bl c => if c = true then b Γ M1 else .ok (.bl false) M1
  | _ => .bad) := Eq.trans rfl rfl
@[simp] theorem u_gOrV (a b : GE) (Γ : Env) (M : List MO) : gOrV a b Γ M = ((a Γ M).bind fun x M1 => match x with
  | .bl c => if c = true then .ok (.bl true) M1 else b Γ M1
  | _ => .bad) := Eq.trans rfl rfl
@[simp] theorem u_gChain (f f' : List MO → D → D → Option D) (ga gb gc : GE) (Γ : Env) (M : List MO) : gChain f f' ga gb gc Γ M = ((ga Γ M).bind fun x M1 => (gb Γ M1).bind fun y M2 => (opR (f M2 x y) M2).bind fun k M3 => match k with
  | .bl c => if c = true then (gc Γ M3).bind fun z M4 => opR (f' M4 y z) M4 else .ok (.bl false) M3
  | _ => .bad) := Eq.trans rfl rfl
@[simp] theorem u_gSeqI (ge : GE) (Γ : Env) (M : List MO) : gSeqI ge Γ M = (ge Γ M).bind fun d M1 => opR (seqD d) M1 := Eq.trans rfl rfl
@[simp] theorem u_gRng1 (ga : GA) (Γ : Env) (M : List MO) : gRng1 ga Γ M = (ga Γ M).bind fun ds M1 => opR (rng1 ds) M1 := Eq.trans rfl rfl
@[simp] theorem u_gRng2 (ga : GA) (Γ : Env) (M : List MO) : gRng2 ga Γ M = (ga Γ M).bind fun ds M1 => opR (rng2 ds) M1 := Eq.trans rfl rfl
@[simp] theorem u_gTo (i : Nat) (d : D) (Γ : Env) : gTo i d Γ = some (Γ.set i (some d)) := Eq.trans rfl rfl
@[simp] theorem u_gToT (gs : GGs) (d : D) (Γ : Env) : gToT gs d Γ = (match d with
  | .tup ds => gs ds Γ
  | _ => none) := Eq.trans rfl rfl
@[simp] theorem u_gToNil (ds : List D) (Γ : Env) : gToNil ds Γ = (match ds with
  | [] => some Γ
  | _ :: _ => none) := Eq.trans rfl rfl
@[simp] theorem u_gToCons (g : GG) (gs : GGs) (ds : List D) (Γ : Env) : gToCons g gs ds Γ = (match ds with
  | [] => none
  | d :: r => (g d Γ).bind fun Γ1 => gs r Γ1) := Eq.trans rfl rfl
@[simp] theorem u_gPass (Γ : Env) (M : List MO) : gPass Γ M = .nx Γ M := Eq.trans rfl rfl
@[simp] theorem u_gSeq (a b : GS) (Γ : Env) (M : List MO) : gSeq a b Γ M = (a Γ M).next b := Eq.trans rfl rfl
@[simp] theorem u_gExpr (ge : GE) (Γ : Env) (M : List MO) : gExpr ge Γ M = (ge Γ M).thenS Γ fun _ M1 => .nx Γ M1 := Eq.trans rfl rfl
@[simp] theorem u_gRet (ge : GE) (Γ : Env) (M : List MO) : gRet ge Γ M = (ge Γ M).thenS Γ fun d M1 => .rt d M1 := Eq.trans rfl rfl
@[simp] theorem u_gRetN (Γ : Env) (M : List MO) : gRetN Γ M = .rt .non M := Eq.trans rfl rfl
@[simp] theorem u_gIf (c : GT) (a b : GS) (Γ : Env) (M : List MO) : gIf c a b Γ M = (c Γ M).thenS Γ fun k M1 => if k = true then a Γ M1 else b Γ M1 := Eq.trans rfl rfl
@[simp] theorem u_gAsg (ge : GE) (gg : GG) (Γ : Env) (M : List MO) : gAsg ge gg Γ M = ((ge Γ M).thenS Γ fun d M1 => match gg d Γ with
  | some Γ' => .nx Γ' M1
  | none => .bad) := Eq.trans rfl rfl
@[simp] theorem u_gBad (Γ : Env) (M : List MO) : gBad Γ M = .bad := Eq.trans rfl rfl
@[simp] theorem u_gForget (is : List Nat) (Γ : Env) (M : List MO) : gForget is Γ M = .nx (forget Γ is) M := Eq.trans rfl rfl
@[simp] theorem u_gFz (i : Nat) (Γ : Env) (M : List MO) : gFz i Γ M = (match Γ[i]? with
  | some (some (.ref k)) => match M[k]? with
    | some (.lst ds) => .nx (Γ.set i (some (.lst ds))) (M.set k .dead)
    | some (.dct ks vs) => .nx (Γ.set i (some (.dct ks vs))) (M.set k .dead)
    | _ => .bad
  | _ => .bad) := Eq.trans rfl rfl
@[simp] theorem u_gScope (a : GS) (Γ : Env) (M : List MO) : gScope a Γ M = gCut M.length (a Γ M) := Eq.trans rfl rfl
@[simp] theorem u_gFor (gi : GI) (gg : GG) (body : GS) (Γ : Env) (M : List MO) : gFor gi gg body Γ M = (gi Γ M).thenS Γ fun ds M1 => gForL gg body ds Γ M1 := Eq.trans rfl rfl
@[simp] theorem u_gYes (Γ : Env) (M : List MO) : gYes Γ M = .ok true M := Eq.trans rfl rfl
@[simp] theorem u_gLc (gi : GI) (gg : GG) (gt : GT) (ge : GE) (own : List Nat) (Γ : Env) (M : List MO) : gLc gi gg gt ge own Γ M = (gi Γ M).bind fun ds M1 => (gLcL gg gt ge (forget Γ own) ds [] M1).bind fun acc M2 => .ok (.lst acc) M2 := Eq.trans rfl rfl
@[simp] theorem u_gLcO (gi : GI) (gg : GG) (gt : GT) (ge : GE) (own : List Nat) (Γ : Env) (M : List MO) : gLcO gi gg gt ge own Γ M = (gi Γ M).bind fun ds M1 => (gLcL gg gt ge (forget Γ own) ds [] M1).bind fun acc M2 => .ok (.ref M2.length) (M2 ++ [.lst acc]) := Eq.trans rfl rfl
@[simp] theorem u_gNoO (Γ : Env) (M : List MO) : gNoO Γ M = .ok none M := Eq.trans rfl rfl
@[simp] theorem u_gO (ge : GE) (Γ : Env) (M : List MO) : gO ge Γ M = (ge Γ M).bind fun d M1 => opR ((toI d).map some) M1 := Eq.trans rfl rfl
@[simp] theorem u_gSl (ge : GE) (lo hi : GO) (Γ : Env) (M : List MO) : gSl ge lo hi Γ M = (ge Γ M).bind fun x M1 => (lo Γ M1).bind fun a M2 => (hi Γ M2).bind fun b M3 => opR (dCut M3 a b x) M3 := Eq.trans rfl rfl
@[simp] theorem u_gRgL (own : Bool) (ga gb : GE) (Γ : Env) (M : List MO) : gRgL own ga gb Γ M = ((ga Γ M).bind fun x M1 => (gb Γ M1).bind fun y M2 => match x, y with
  | .int i, .int j => if rngOk i j = true then (if own = true then .ok (.ref M2.length) (M2 ++ [.lst (rngL i (j - i).toNat)]) else .ok (.lst (rngL i (j - i).toNat)) M2) else .bad
  | _, _ => .bad) := Eq.trans rfl rfl
@[simp] theorem u_gMeth1 (f : MF) (go ge : GE) (Γ : Env) (M : List MO) : gMeth1 f go ge Γ M = (go Γ M).bind fun x M1 => if isListD M1 x = true then (ge Γ M1).bind fun y M2 => mutR M2 x fun ds => f M2 ds y else .bad := Eq.trans rfl rfl
@[simp] theorem u_gMeth0 (f : MF0) (go : GE) (Γ : Env) (M : List MO) : gMeth0 f go Γ M = (go Γ M).bind fun x M1 => mutR M1 x f := Eq.trans rfl rfl
@[simp] theorem u_gSetI (ge go gi : GE) (Γ : Env) (M : List MO) : gSetI ge go gi Γ M = ((ge Γ M).thenS Γ fun v M1 => (go Γ M1).thenS Γ fun o M2 => (gi Γ M2).thenS Γ fun i M3 => match setR M3 o i v with
  | some M4 => .nx Γ M4
  | none => .bad) := Eq.trans rfl rfl
@[simp] theorem u_gAug (i : Nat) (f : Int → Int → Int) (ge : GE) (Γ : Env) (M : List MO) : gAug i f ge Γ M = (match Γ[i]? with
  | some (some (.int a)) => (ge Γ M).thenS Γ fun y M1 => match y with
    | .int b => .nx (Γ.set i (some (.int (f a b)))) M1
    | _ => .bad
  | _ => .bad) := Eq.trans rfl rfl
@[simp] theorem u_gEnum (ge : GE) (Γ : Env) (M : List MO) : gEnum ge Γ M = (ge Γ M).bind fun d M1 => opR ((seqD d).map (enumL 0)) M1 := Eq.trans rfl rfl
@[simp] theorem u_gEnumK (ge : GE) (gk : GE) (Γ : Env) (M : List MO) : gEnumK ge gk Γ M = ((ge Γ M).bind fun d M1 => (gk Γ M1).bind fun k M2 => match k with
  | .int k => if decide (-(2 ^ 63) ≤ k) && decide (k < 2 ^ 63) then opR ((seqD d).map (enumL k)) M2 else .bad
  | _ => .bad) := Eq.trans rfl rfl
@[simp] theorem u_gZip (ga gb : GE) (Γ : Env) (M : List MO) : gZip ga gb Γ M = (ga Γ M).bind fun x M1 => (gb Γ M1).bind fun y M2 => opR (zipO x y) M2 := Eq.trans rfl rfl
@[simp] theorem u_gLcW (ge : GE) (gg : GG) (gt : GT) (gel : GE) (own : List Nat) (Γ : Env) (M : List MO) : gLcW ge gg gt gel own Γ M = ((ge Γ M).bind fun d M1 => match d with
  | .ref k => match M1[k]? with
    | some (.lst ds) => (gLcL gg gt gel (forget Γ own) ds [] M1).bind fun acc M2 => .ok (.lst acc) M2
    | _ => .bad
  | _ => .bad) := Eq.trans rfl rfl
@[simp] theorem u_gCallF (n : Nat) (F : List D → List MO → R D) (ga : GA) (Γ : Env) (M : List MO) : gCallF n F ga Γ M = (ga Γ M).bind fun ds M1 => if ds.length = n then callF F ds M1 else .bad := Eq.trans rfl rfl
@[simp] theorem u_gCallK (n : Nat) (F : List D → List MO → R D) (is : List Nat) (ga gk : GA) (Γ : Env) (M : List MO) : gCallK n F is ga gk Γ M = (ga Γ M).bind fun ds M1 => (gk Γ M1).bind fun es M2 => if (pick (ds ++ es) is).length = n then callF F (pick (ds ++ es) is) M2 else .bad := Eq.trans rfl rfl
@[simp] theorem u_gForL0 (gg : GG) (b : GS) (Γ : Env) (M : List MO) : gForL gg b [] Γ M = .nx Γ M := Eq.trans rfl rfl
@[simp] theorem u_gForLc (gg : GG) (b : GS) (d : D) (ds : List D) (Γ : Env) (M : List MO) : gForL gg b (d :: ds) Γ M = optS (gg d Γ) fun Γ1 => (b Γ1 M).turn (gForL gg b ds) := Eq.trans rfl rfl
@[simp] theorem u_forget0 (Γ : Env) : forget Γ [] = Γ := Eq.trans rfl rfl
@[simp] theorem u_forgetc (Γ : Env) (i : Nat) (is : List Nat) : forget Γ (i :: is) = forget (Γ.set i none) is := Eq.trans rfl rfl
@[simp] theorem u_toBl (b : Bool) : toBl (.bl b) = some b := Eq.trans rfl rfl
@[simp] theorem u_dNot (M : List MO) (b : Bool) : dNot M (.bl b) = some (.bl !b) := Eq.trans rfl rfl
@[simp] theorem u_toI (i : Int) : toI (.int i) = some i := Eq.trans rfl rfl
@[simp] theorem u_rng1 (j : Int) : rng1 [.int j] = if inR j then some (rngL 0 j.toNat) else none := Eq.trans rfl rfl
@[simp] theorem u_rng2 (i j : Int) : rng2 [.int i, .int j] = if inR i && inR j then some (rngL i (j - i).toNat) else none := Eq.trans rfl rfl
@[simp] theorem u_fn1 (f : List MO → D → Option D) (M : List MO) (d : D) : fn1 f M [d] = f M d := Eq.trans rfl rfl
@[simp] theorem u_fn2 (f : List MO → D → D → Option D) (M : List MO) (d e : D) : fn2 f M [d, e] = f M d e := Eq.trans rfl rfl
@[simp] theorem u_isListD (M : List MO) (d : D) : isListD M d = (listD M d).isSome := Eq.trans rfl rfl
@[simp] theorem u_pick0 {α : Type} (l : List α) : pick l [] = [] := Eq.trans rfl rfl
@[simp] theorem u_pickc {α : Type} (l : List α) (i : Nat) (is : List Nat) : pick l (i :: is) = (match l[i]? with
    | some a => a :: pick l is
    | none => pick l is) := Eq.trans rfl rfl
@[simp] theorem bl_non (m : Nat) : below m .non = true := Eq.trans rfl rfl
@[simp] theorem bl_bl (m : Nat) (b : Bool) : below m (.bl b) = true := Eq.trans rfl rfl
@[simp] theorem bl_int (m : Nat) (i : Int) : below m (.int i) = true := Eq.trans rfl rfl
@[simp] theorem bl_str (m : Nat) (x : Str) : below m (.str x) = true := Eq.trans rfl rfl
@[simp] theorem bl_tup (m : Nat) (ds : List D) : below m (.tup ds) = belows m ds := by simp [below]
@[simp] theorem bl_lst (m : Nat) (ds : List D) : below m (.lst ds) = belows m ds := by simp [below]
@[simp] theorem bl_ref (m k : Nat) : below m (.ref k) = decide (k < m) := by simp [below]
@[simp] theorem bls_nil (m : Nat) : belows m [] = true := Eq.trans rfl rfl
@[simp] theorem bls_cons (m : Nat) (d : D) (ds : List D) : belows m (d :: ds) = (below m d && belows m ds) := by simp [belows]
@[simp] theorem bls_app (m : Nat) (ds es : List D) : belows m (ds ++ es) = (belows m ds && belows m es) := by simp [belows_all]
@[simp] theorem blo_lst (m : Nat) (ds : List D) : belowO m (.lst ds) = belows m ds := Eq.trans rfl rfl
@[simp] theorem blo_dead (m : Nat) : belowO m .dead = true := Eq.trans rfl rfl
@[simp] theorem cut_0 (M : List MO) : cutOk 0 M = true := by simp [cutOk]
@[simp] theorem cut_nil (m : Nat) : cutOk m [] = true := by simp [cutOk]
@[simp] theorem cut_s (m : Nat) (o : MO) (M : List MO) : cutOk (m + 1) (o :: M) = ((M.take m).all (belowO (m + 1)) && belowO (m + 1) o) := by simp [cutOk, Bool.and_comm]
@[simp] theorem sz_1 : 1 ≤ sizeLine := by decide
@[simp] theorem sz_2 : 2 ≤ sizeLine := by decide
@[simp] theorem sz_3 : 3 ≤ sizeLine := by decide
@[simp] theorem sz_4 : 4 ≤ sizeLine := by decide
@[simp] theorem sz_5 : 5 ≤ sizeLine := by decide
@[simp] theorem sz_6 : 6 ≤ sizeLine := by decide
@[simp] theorem sz_7 : 7 ≤ sizeLine := by decide
@[simp] theorem sz_8 : 8 ≤ sizeLine := by decide
@[simp] theorem sz_9 : 9 ≤ sizeLine := by decide
@[simp] theorem sz_10 : 10 ≤ sizeLine := by decide
@[simp] theorem sz_11 : 11 ≤ sizeLine := by decide
@[simp] theorem sz_12 : 12 ≤ sizeLine := by decide
@[simp] theorem sz_13 : 13 ≤ sizeLine := by decide
@[simp] theorem sz_14 : 14 ≤ sizeLine := by decide
@[simp] theorem sz_15 : 15 ≤ sizeLine := by decide
@[simp] theorem sz_16 : 16 ≤ sizeLine := by decide
@[simp] theorem sz_17 : 17 ≤ sizeLine := by decide
@[simp] theorem sz_18 : 18 ≤ sizeLine := by decide
@[simp] theorem sz_19 : 19 ≤ sizeLine := by decide
@[simp] theorem sz_20 : 20 ≤ sizeLine := by decide
@[simp] theorem szl_0 : 0 < sizeLine := by decide
@[simp] theorem szl_1 : 1 < sizeLine := by decide
@[simp] theorem szl_2 : 2 < sizeLine := by decide
@[simp] theorem szl_3 : 3 < sizeLine := by decide
@[simp] theorem szl_4 : 4 < sizeLine := by decide
@[simp] theorem szl_5 : 5 < sizeLine := by decide
@[simp] theorem szl_6 : 6 < sizeLine := by decide
@[simp] theorem szl_7 : 7 < sizeLine := by decide
@[simp] theorem szl_8 : 8 < sizeLine := by decide
@[simp] theorem szl_9 : 9 < sizeLine := by decide
@[simp] theorem szl_10 : 10 < sizeLine := by decide
@[simp] theorem szl_11 : 11 < sizeLine := by decide
@[simp] theorem szl_12 : 12 < sizeLine := by decide
@[simp] theorem szl_13 : 13 < sizeLine := by decide
@[simp] theorem szl_14 : 14 < sizeLine := by decide
@[simp] theorem szl_15 : 15 < sizeLine := by decide
@[simp] theorem szl_16 : 16 < sizeLine := by decide
@[simp] theorem szl_17 : 17 < sizeLine := by decide
@[simp] theorem szl_18 : 18 < sizeLine := by decide
@[simp] theorem szl_19 : 19 < sizeLine := by decide
@[simp] theorem szl_20 : 20 < sizeLine := by decide
@[simp] theorem gc_nx (m : Nat) (Γ : Env) (M : List MO) : gCut m (.nx Γ M) = if m ≤ M.length ∧ cutOk m M = true then .nx (clean m Γ) (M.take m) else .bad := Eq.trans rfl rfl
@[simp] theorem gc_ct (m : Nat) (Γ : Env) (M : List MO) : gCut m (.ct Γ M) = if m ≤ M.length ∧ cutOk m M = true then .ct (clean m Γ) (M.take m) else .bad := Eq.trans rfl rfl
@[simp] theorem gc_bk (m : Nat) (Γ : Env) (M : List MO) : gCut m (.bk Γ M) = .bk Γ M := Eq.trans rfl rfl
@[simp] theorem gc_rt (m : Nat) (d : D) (M : List MO) : gCut m (.rt d M) = .rt d M := Eq.trans rfl rfl
@[simp] theorem gc_ex (m c : Nat) (d : D) (Γ : Env) (M : List MO) : gCut m (.exc c d Γ M) = .exc c d Γ M := Eq.trans rfl rfl
@[simp] theorem fi_rt (m : Nat) (d : D) (M : List MO) : fin m (.rt d M) = if m ≤ M.length ∧ cutOk m M = true then retR m M d else .bad := Eq.trans rfl rfl
@[simp] theorem fi_nx (m : Nat) (Γ : Env) (M : List MO) : fin m (.nx Γ M) = if m ≤ M.length ∧ cutOk m M = true then R.ok D.non (M.take m) else .bad := Eq.trans rfl rfl
@[simp] theorem fi_ex (m c : Nat) (d : D) (Γ : Env) (M : List MO) : fin m (.exc c d Γ M) = if m ≤ M.length ∧ cutOk m M = true ∧ below m d = true then .exc c d (M.take m) else .bad := Eq.trans rfl rfl
@[simp] theorem re_non (m : Nat) (M : List MO) : retR m M .non = .ok .non (M.take m) := Eq.trans rfl rfl
@[simp] theorem re_bl (m : Nat) (M : List MO) (b : Bool) : retR m M (.bl b) = .ok (.bl b) (M.take m) := Eq.trans rfl rfl
@[simp] theorem re_int (m : Nat) (M : List MO) (i : Int) : retR m M (.int i) = .ok (.int i) (M.take m) := Eq.trans rfl rfl
@[simp] theorem re_str (m : Nat) (M : List MO) (x : Str) : retR m M (.str x) = .ok (.str x) (M.take m) := Eq.trans rfl rfl
@[simp] theorem re_tup (m : Nat) (M : List MO) (ds : List D) : retR m M (.tup ds) = if belows m ds = true then .ok (.tup ds) (M.take m) else .bad := by simp [retR]
@[simp] theorem re_lst (m : Nat) (M : List MO) (ds : List D) : retR m M (.lst ds) = if belows m ds = true then .ok (.lst ds) (M.take m) else .bad := by simp [retR]
@[simp] theorem re_ref (m : Nat) (M : List MO) (k : Nat) : retR m M (.ref k) = if k < m then .ok (.ref k) (M.take m) else match M[k]? with
    | some (.lst ds) => if belows m ds = true then .ok (.ref m) (M.take m ++ [.lst ds]) else .bad
    | _ => .bad := Eq.trans rfl rfl
@[simp] theorem seqD_l (ds : List D) : seqD (.lst ds) = some ds := Eq.trans rfl rfl
@[simp] theorem seqD_t (ds : List D) : seqD (.tup ds) = some ds := Eq.trans rfl rfl
@[simp] theorem listD_l (M : List MO) (ds : List D) : listD M (.lst ds) = some ds := Eq.trans rfl rfl
@[simp] theorem itemsD_l (M : List MO) (ds : List D) : itemsD M (.lst ds) = some ds := Eq.trans rfl rfl
@[simp] theorem itemsD_t (M : List MO) (ds : List D) : itemsD M (.tup ds) = some ds := Eq.trans rfl rfl
@[simp] theorem itemsD_r (M : List MO) (k : Nat) : itemsD M (.ref k) = listD M (.ref k) := Eq.trans rfl rfl
@[simp] theorem e_add (M : List MO) (i j : Int) : dAdd M (.int i) (.int j) = some (.int (i + j)) := Eq.trans rfl rfl
@[simp] theorem e_addL (M : List MO) (a b : List D) : dAdd M (.lst a) (.lst b) = if a.length + b.length ≤ sizeLine then some (.lst (a ++ b)) else none := Eq.trans rfl rfl
@[simp] theorem e_addT (M : List MO) (a b : List D) : dAdd M (.tup a) (.tup b) = if a.length + b.length ≤ sizeLine then some (.tup (a ++ b)) else none := Eq.trans rfl rfl
@[simp] theorem e_sub (M : List MO) (i j : Int) : dSub M (.int i) (.int j) = some (.int (i - j)) := Eq.trans rfl rfl
theorem e_mul {i j : Int} (M : List MO) (h : mulOk i j = true) : dMulA M (.int i) (.int j) = some (.int (i * j)) := by
  show (if mulOk i j = true then some (D.int (i * j)) else none) = _
  rw [if_pos h]
@[simp] theorem e_mulR (M : List MO) (i : Int) : dMulA M (.int i) (.int 0) = some (.int 0) := by
  rw [e_mul M (by simp [mulOk])]
  simp
@[simp] theorem e_fdiv (M : List MO) (i j : Int) : dFdiv M (.int i) (.int j) = if fdivOk i j = true then some (.int (i / j)) else none := Eq.trans rfl rfl
@[simp] theorem e_mod (M : List MO) (i j : Int) : dMod M (.int i) (.int j) = if 0 < j then some (.int (i % j)) else none := by
  show (if modOk i j = true then _ else _) = _
  simp [modOk]
@[simp] theorem e_pow (M : List MO) (i j : Int) : dPow M (.int i) (.int j) = if powOk i j = true then some (.int (i ^ j.toNat)) else none := Eq.trans rfl rfl
@[simp] theorem e_lt (M : List MO) (i j : Int) : dLt M (.int i) (.int j) = some (.bl (decide (i < j))) := Eq.trans rfl rfl
@[simp] theorem e_le (M : List MO) (i j : Int) : dLe M (.int i) (.int j) = some (.bl (decide (i ≤ j))) := Eq.trans rfl rfl
@[simp] theorem e_gt (M : List MO) (i j : Int) : dGt M (.int i) (.int j) = some (.bl (decide (j < i))) := Eq.trans rfl rfl
@[simp] theorem e_ge (M : List MO) (i j : Int) : dGe M (.int i) (.int j) = some (.bl (decide (j ≤ i))) := Eq.trans rfl rfl
@[simp] theorem e_neg (M : List MO) (i : Int) : dNeg M (.int i) = some (.int (-i)) := Eq.trans rfl rfl
@[simp] theorem e_is0 (M : List MO) : dIsN M .non .non = some (.bl true) := Eq.trans rfl rfl
@[simp] theorem e_is1 (M : List MO) (i : Int) : dIsN M (.int i) .non = some (.bl false) := Eq.trans rfl rfl
@[simp] theorem e_is2 (M : List MO) (i : List D) : dIsN M (.tup i) .non = some (.bl false) := Eq.trans rfl rfl
@[simp] theorem e_is3 (M : List MO) (i : List D) : dIsN M (.lst i) .non = some (.bl false) := Eq.trans rfl rfl
@[simp] theorem e_is4 (M : List MO) (i : Str) : dIsN M (.str i) .non = some (.bl false) := Eq.trans rfl rfl
@[simp] theorem e_is5 (M : List MO) (i : Nat) : dIsN M (.ref i) .non = some (.bl false) := Eq.trans rfl rfl
@[simp] theorem e_ns0 (M : List MO) : dNotN M .non .non = some (.bl false) := Eq.trans rfl rfl
@[simp] theorem e_ns1 (M : List MO) (i : Int) : dNotN M (.int i) .non = some (.bl true) := Eq.trans rfl rfl
@[simp] theorem e_ns2 (M : List MO) (i : List D) : dNotN M (.tup i) .non = some (.bl true) := Eq.trans rfl rfl
@[simp] theorem e_ns3 (M : List MO) (i : List D) : dNotN M (.lst i) .non = some (.bl true) := Eq.trans rfl rfl
@[simp] theorem e_ns4 (M : List MO) (i : Str) : dNotN M (.str i) .non = some (.bl true) := Eq.trans rfl rfl
@[simp] theorem e_ns5 (M : List MO) (i : Nat) : dNotN M (.ref i) .non = some (.bl true) := Eq.trans rfl rfl
@[simp] theorem e_ix (M : List MO) (x : D) (i : Int) : dIx M x (.int i) = (itemsD M x).bind fun ds => atI ds i := Eq.trans rfl rfl
theorem atI_nat (ds : List D) (n : Nat) : atI ds (n : Int) = ds[n]? := by
  unfold atI ixN
  by_cases h : n < ds.length
  · simp [h]
  · simp [h]
@[simp] theorem atI_0 (a : D) (ds : List D) : atI (a :: ds) 0 = some a := (atI_nat _ 0).trans rfl
@[simp] theorem atI_1 (a b : D) (ds : List D) : atI (a :: b :: ds) 1 = some b := (atI_nat _ 1).trans rfl
@[simp] theorem atI_2 (a b c : D) (ds : List D) : atI (a :: b :: c :: ds) 2 = some c := (atI_nat _ 2).trans rfl
@[simp] theorem atI_3 (a b c d : D) (ds : List D) : atI (a :: b :: c :: d :: ds) 3 = some d := (atI_nat _ 3).trans rfl
@[simp] theorem atI_4 (a b c d e : D) (ds : List D) : atI (a :: b :: c :: d :: e :: ds) 4 = some e := (atI_nat _ 4).trans rfl
@[simp] theorem atI_5 (a b c d e f : D) (ds : List D) : atI (a :: b :: c :: d :: e :: f :: ds) 5 = some f := (atI_nat _ 5).trans rfl
@[simp] theorem e_lenL (M : List MO) (ds : List D) : dLen M (.lst ds) = some (.int ds.length) := Eq.trans rfl rfl
@[simp] theorem e_lenT (M : List MO) (ds : List D) : dLen M (.tup ds) = some (.int ds.length) := Eq.trans rfl rfl
@[simp] theorem e_lenR (M : List MO) (k : Nat) : dLen M (.ref k) = (listD M (.ref k)).map fun ds => .int ds.length := Eq.trans rfl rfl
@[simp] theorem e_lenS (M : List MO) (x : Str) : dLen M (.str x) = if x.length ≤ sizeLine then some (.int x.length) else none := Eq.trans rfl rfl
@[simp] theorem e_intI (M : List MO) (i : Int) : dInt M (.int i) = some (.int i) := Eq.trans rfl rfl
@[simp] theorem e_intB (M : List MO) (b : Bool) : dInt M (.bl b) = some (.int (if b then 1 else 0)) := Eq.trans rfl rfl
@[simp] theorem e_str (M : List MO) (i : Int) : dStr M (.int i) = if i.natAbs.log2 < 1920 then some (.str (toString i)) else none := Eq.trans rfl rfl
@[simp] theorem e_min2 (M : List MO) (i j : Int) : dMin2 M (.int i) (.int j) = some (.int (if j < i then j else i)) := Eq.trans rfl rfl
@[simp] theorem e_max2 (M : List MO) (i j : Int) : dMax2 M (.int i) (.int j) = some (.int (if i < j then j else i)) := Eq.trans rfl rfl
@[simp] theorem e_isi_ii (M : List MO) (i : Int) : dIsi "int" M (.int i) = some (.bl true) := Eq.trans rfl rfl
@[simp] theorem e_isi_ib (M : List MO) (i : Int) : dIsi "bool" M (.int i) = some (.bl false) := Eq.trans rfl rfl
@[simp] theorem e_isi_ll (M : List MO) (ds : List D) : dIsi "list" M (.lst ds) = some (.bl true) := Eq.trans rfl rfl
@[simp] theorem e_isi_tt (M : List MO) (ds : List D) : dIsi "tuple" M (.tup ds) = some (.bl true) := Eq.trans rfl rfl
@[simp] theorem e_isi_ss (M : List MO) (ds : Str) : dIsi "str" M (.str ds) = some (.bl true) := Eq.trans rfl rfl
@[simp] theorem e_isi_is (M : List MO) (i : Int) : dIsi "str" M (.int i) = some (.bl false) := Eq.trans rfl rfl
@[simp] theorem e_isiT_l (M : List MO) (ds : List D) : dIsiT ["list", "tuple"] M (.lst ds) = some (.bl true) := Eq.trans rfl rfl
@[simp] theorem e_isiT_t (M : List MO) (ds : List D) : dIsiT ["list", "tuple"] M (.tup ds) = some (.bl true) := Eq.trans rfl rfl
theorem toVs_ints (is : List Int) : toVs (is.map D.int) = some (is.map V.int) := by
  induction is with
  | nil => rfl
  | cons i is ih => simp [toVs, toV, ih]
theorem inV_ints (i : Int) (is : List Int) : inV (V.int i) (is.map V.int) = decide (i ∈ is) := by
  induction is with
  | nil => rfl
  | cons j is ih =>
    have e : eqV (V.int j) (V.int i) = decide (j = i) := Eq.trans rfl rfl
    rw [List.map_cons]
    unfold inV at ih ⊢
    rw [List.any_cons, ih, e]
    by_cases h : j = i
    · subst h
      simp
    · have h' : ¬ i = j := fun e => h e.symm
      simp [h, h']
@[simp] theorem e_inL (M : List MO) (i : Int) (is : List Int) : dIn M (.int i) (.lst (is.map D.int)) = some (.bl (decide (i ∈ is))) := by
  simp [dIn, inP, toV, toVs_ints, inV_ints]
@[simp] theorem e_inT (M : List MO) (i : Int) (is : List Int) : dIn M (.int i) (.tup (is.map D.int)) = some (.bl (decide (i ∈ is))) := by
  simp [dIn, inP, toV, toVs_ints, inV_ints]
@[simp] theorem e_niL (M : List MO) (i : Int) (is : List Int) : dNotIn M (.int i) (.lst (is.map D.int)) = some (.bl (!decide (i ∈ is))) := by
  simp [dNotIn, inP, toV, toVs_ints, inV_ints]
@[simp] theorem e_niT (M : List MO) (i : Int) (is : List Int) : dNotIn M (.int i) (.tup (is.map D.int)) = some (.bl (!decide (i ∈ is))) := by
  simp [dNotIn, inP, toV, toVs_ints, inV_ints]
end Bk
namespace Bk
open PySem PySem.Spec PyProof.Rows L2
theorem mulOk_l {i : Int} (j : Int) (h1 : -(2 ^ 64) < i) (h2 : i < 2 ^ 64) : mulOk i j = true := by
  simp only [mulOk, Bool.or_eq_true, Bool.and_eq_true, decide_eq_true_eq]
  omega
theorem mulOk_r (i : Int) {j : Int} (h1 : -(2 ^ 64) < j) (h2 : j < 2 ^ 64) : mulOk i j = true := by
  simp only [mulOk, Bool.or_eq_true, Bool.and_eq_true, decide_eq_true_eq]
  omega
theorem mulOk_m (x y : Int) {n : Int} (h0 : 0 < n) (h : n ≤ 2 ^ 63) : mulOk (x % n) y = true := by
  have a := Int.emod_nonneg x (by omega : n ≠ 0)
  have b := Int.emod_lt_of_pos x h0
  exact mulOk_l y (by omega) (by omega)
end Bk

set_option Elab.async false
set_option linter.all false
set_option maxRecDepth 100000
set_option maxHeartbeats 2000000
namespace Bk
open PySem PySem.Spec PyProof.Rows L2
/-! ### calls that lend nothing -/
theorem lendK_nil : ∀ {ds : List D}, belows 0 ds = true → lendK ds = []
  | [], _ => rfl
  | d :: ds, h => by
    simp only [belows, Bool.and_eq_true] at h
    cases d with
    | ref k => simp [below] at h
    | _ =>
      have ih := lendK_nil h.2
      simpa [lendK] using ih
theorem lendA_nil : ∀ {m : Nat} {ds : List D}, belows 0 ds = true → lendA m ds = ds
  | _, [], _ => rfl
  | m, d :: ds, h => by
    simp only [belows, Bool.and_eq_true] at h
    cases d with
    | ref k => simp [below] at h
    | _ => simp [lendA, lendA_nil h.2]
theorem flatArgs_of : ∀ {ds : List D}, belows 0 ds = true → flatArgs ds = true
  | [], _ => rfl
  | d :: ds, h => by
    simp only [belows, Bool.and_eq_true] at h
    cases d with
    | ref k => simp [below] at h
    | _ => simp [flatArgs, flatArgs_of h.2, h.1]
theorem backD_flat {n : Nat} {d : D} (h : below 0 d = true) : backD [] n d = some d := by
  cases d with
  | ref k => simp [below] at h
  | _ => simp [backD, h]
theorem c_flat {F : List D → List MO → R D} {ds : List D} {d : D} (h : F ds [] = .ok d []) (M : List MO) (ha : belows 0 ds = true) (hd : below 0 d = true) : callF F ds M = .ok d M := by
  simp [callF, lendK_nil ha, getAll, flatArgs_of ha, lentOk, lendA_nil ha, h, backD_flat hd, setAll]
theorem c_flatO {F : List D → List MO → R D} {ds es : List D} (h : F ds [] = .ok (.ref 0) [.lst es]) (M : List MO) (ha : belows 0 ds = true) (hd : belows 0 es = true) : callF F ds M = .ok (.ref M.length) (M ++ [.lst es]) := by
  simp [callF, lendK_nil ha, getAll, flatArgs_of ha, lentOk, lendA_nil ha, h, backD, setAll, belowO, hd]
/-- a call that raises -/
theorem c_flatX {F : List D → List MO → R D} {ds : List D} {d : D} {c : Nat} (h : F ds [] = .exc c d []) (M : List MO) (ha : belows 0 ds = true) (hd : below 0 d = true) : callF F ds M = .exc c d M := by
  simp [callF, lendK_nil ha, getAll, flatArgs_of ha, lentOk, lendA_nil ha, h, hd, setAll]
/-! ### numbers in a row -/
def intR (lo : Int) : Nat → List Int
  | 0 => []
  | n + 1 => lo :: intR (lo + 1) n
theorem rngL_int : ∀ (n : Nat) (lo : Int), rngL lo n = (intR lo n).map D.int
  | 0, _ => rfl
  | n + 1, lo => by simp [rngL, intR, rngL_int n]
@[simp] theorem intR_length : ∀ (n : Nat) (lo : Int), (intR lo n).length = n
  | 0, _ => rfl
  | n + 1, lo => by simp [intR, intR_length n]
theorem mem_intR : ∀ {n : Nat} {lo i : Int}, i ∈ intR lo n ↔ lo ≤ i ∧ i < lo + n
  | 0, lo, i => by simp [intR]; try omega
  | n + 1, lo, i => by
    simp only [intR, List.mem_cons, mem_intR]
    omega
/-! ### lists made by comprehensions -/
theorem lcL_map {gg : GG} {ge : GE} {Γ : Env} {M : List MO} {f : D → D} : ∀ (ds acc : List D), acc.length + ds.length ≤ sizeLine → (∀ d ∈ ds, ∃ Γ1, gg d Γ = some Γ1 ∧ ge Γ1 M = .ok (f d) M) → gLcL gg gYes ge Γ ds acc M = .ok (acc ++ ds.map f) M
  | [], acc, _, _ => by simp [gLcL]
  | d :: ds, acc, h, hf => by
    obtain ⟨Γ1, h1, h2⟩ := hf d (by simp)
    simp only [List.length_cons] at h
    have ih := lcL_map (gg := gg) (ge := ge) (Γ := Γ) (M := M) (f := f) ds (acc ++ [f d]) (by simp; omega) fun e he => hf e (by simp [he])
    have q : acc.length < sizeLine := by omega
    simp [gLcL, h1, h2, q, ih]
/-! ### walks -/
theorem forL_cons {gg : GG} {b : GS} {d : D} {ds : List D} {Γ Γ1 Γ2 : Env} {M M2 : List MO} (h1 : gg d Γ = some Γ1) (h2 : b Γ1 M = .nx Γ2 M2) : gForL gg b (d :: ds) Γ M = gForL gg b ds Γ2 M2 := by simp [h1, h2]
theorem inR_of {i : Int} (h1 : -(2 ^ 62) ≤ i) (h2 : i < 2 ^ 62) : inR i = true := by simp [inR]; omega
@[simp] theorem append_run (M : List MO) (ds : List D) (y : D) : mAppend M ds y = if ds.length < sizeLine then some (ds ++ [y], .non) else none := rfl
theorem cutD_upto {ds : List D} {n : Nat} : cutD ds none (some (n : Int)) = ds.take n := by
  unfold cutD
  rw [HT.sIx_none, HT.sIx_nat]
  simp
end Bk
namespace Bk
end Bk

set_option Elab.async false
set_option linter.all false
set_option maxRecDepth 100000
set_option maxHeartbeats 2000000
namespace Bk
open PySem PySem.Spec PyProof.Rows L2
/-! ### zip of two lists or tuples of any kind -/
section
variable {X : Cx} {C : CT} {W : WX} {e e2 : Expr} {ga gb : GE} {p pos tpos : Pos} {elts : List Expr} {kk : Nat}
end
end Bk

set_option Elab.async false
set_option linter.all false
set_option maxRecDepth 100000
set_option maxHeartbeats 2000000
namespace Bk
open PySem PySem.Spec PyProof.Rows L2
open PySem.W (kdx_alive)
/-! ### list(zip(a, b)): the zip's tuples stay, so each turn makes a new one -/
section
variable {prog : Program} {w : World} {A : Around} {E : Value → Shared → Prop} {s : Shared} {z TI TO i1 i2 T : Addr} {fp1 fp2 : List Addr} {n1 n2 i : Nat} {P1 P2 : Nat → Value → Prop} {St1 St2 : Nat → Heap → Prop} {f : Bool} {oT : Obj}
end
end Bk

set_option Elab.async false
set_option linter.all false
set_option maxRecDepth 100000
set_option maxHeartbeats 4000000
namespace Bk
open PySem PySem.Spec PyProof.Rows L2
/-- tuples laid one after the other -/
inductive Laid : Hp → List (V × V) → List Addr → Hp → Prop
  | nil (H : Hp) : Laid H [] [] H
  | snoc {H H1 : Hp} {ps : List (V × V)} {Ts : List Addr} {T : Addr} {x y : V} : Laid H ps Ts H1 → H1 T = none → Laid H (ps ++ [(x, y)]) (Ts ++ [T]) (upd H1 T (.tup [x, y]))
section
variable {X : Cx} {pins : List (Addr × Obj)} {σ : L2.St} {S1 S2 : Src} {N Sx : Nat} {its1 its2 : List Value} {xs ys : List V} {A : Around} {H0 : Hp} {R : Result → Shared → Prop}
end
end Bk

set_option Elab.async false
set_option linter.all false
set_option maxRecDepth 100000
set_option maxHeartbeats 4000000
namespace Bk
open PySem PySem.Spec PyProof.Rows L2
theorem Laid.length {H H' : Hp} {ps : List (V × V)} {Ts : List Addr} (L : Laid H ps Ts H') : Ts.length = ps.length := by
  induction L with
  | nil => rfl
  | snoc _ _ ih => simp [ih]
section
variable {X : Cx} {pins : List (Addr × Obj)} {σ : L2.St} {S1 S2 : Src} {N : Nat} {its1 its2 : List Value} {xs ys : List V} {H : Hp}
end
theorem Laid.read {K : PySem.W.Frag} {H H' : Hp} {ps : List (V × V)} {Ts : List Addr} (L : Laid H ps Ts H') : ∀ {dps : List (D × D)} {Z : Hp} {ι : Nat → Addr} {M : List MO}, HR K H Z ι M → dps.length = ps.length → (∀ (i : Nat) (dp : D × D) (vp : V × V), dps[i]? = some dp → ps[i]? = some vp → Rp K Z ι M.length dp.1 vp.1 ∧ Rp K Z ι M.length dp.2 vp.2) →
    ∃ Z', HR K H' Z' ι M ∧ Ext H Z ι M.length H' Z' ι M.length ∧ Rps K Z' ι M.length (dps.map fun dp => .tup [dp.1, dp.2]) (Ts.map V.ref) := by
  induction L with
  | nil =>
    intro dps Z ι M hr hl h
    have : dps = [] := List.length_eq_zero_iff.mp hl
    subst this
    exact ⟨Z, hr, .refl, .nil⟩
  | @snoc H1 ps Ts T x y L hT ih =>
    intro dps Z ι M hr hl h
    rcases List.eq_nil_or_concat dps with e | ⟨ds, d, e⟩
    · subst e
      simp at hl
    · rw [List.concat_eq_append] at e
      subst e
      have hl' : ds.length = ps.length := by simpa using hl
      obtain ⟨Z1, hr1, e1, r1⟩ := ih hr hl' fun i dp vp a b => h i dp vp (by rw [List.getElem?_append_left (List.getElem?_eq_some_iff.mp a).1]; exact a) (by rw [List.getElem?_append_left (List.getElem?_eq_some_iff.mp b).1]; exact b)
      obtain ⟨q1, q2⟩ := h ds.length d (x, y) (by simp) (by rw [hl']; simp)
      obtain ⟨p1, p2⟩ := hr1.frozen (o := .tup [x, y]) hT
      refine ⟨_, p1, e1.trans p2 hr1.ali, ?_⟩
      rw [List.map_append, List.map_append]
      exact (r1.ext p2).append (.cons (.tup (.inl (.inl upd_same)) (.cons ((q1.ext e1).ext p2) (.cons ((q2.ext e1).ext p2) .nil))) .nil)
def gLzip (own : Bool) (ga gb : GE) : GE := fun Γ M => (ga Γ M).bind fun x M1 => (gb Γ M1).bind fun y M2 => (opR (zipO x y) M2).bind fun ds M3 => if ds.length ≤ sizeLine then (if own = true then .ok (.ref M3.length) (M3 ++ [.lst ds]) else .ok (.lst ds) M3) else .bad
section
variable {X : Cx} {C : CT} {W : WX} {e e2 : Expr} {ga gb : GE} {p p2 pos pos2 : Pos}
end
end Bk

set_option Elab.async false
set_option linter.all false
set_option maxRecDepth 100000
set_option maxHeartbeats 2000000
namespace Bk
open PySem PySem.Spec PyProof.Rows L2
/-! ### a, b = x, y -/
def gPar2 (i j : Nat) (gs : GA) : GS := fun Γ M => (gs Γ M).thenS Γ fun ds M1 => match ds with
  | [d, e] => .nx ((Γ.set i (some d)).set j (some e)) M1
  | _ => .bad
def gPar3 (i j l : Nat) (gs : GA) : GS := fun Γ M => (gs Γ M).thenS Γ fun ds M1 => match ds with
  | [d, e, f] => .nx (((Γ.set i (some d)).set j (some e)).set l (some f)) M1
  | _ => .bad
section
variable {X : Cx} {C : CT} {W : WX} {gs : GA}
end
@[simp] theorem u_gPar2 (i j : Nat) (gs : GA) (Γ : Env) (M : List MO) : gPar2 i j gs Γ M = (gs Γ M).thenS Γ fun ds M1 => (match ds with
  | [d, e] => .nx ((Γ.set i (some d)).set j (some e)) M1
  | _ => .bad) := Eq.trans rfl rfl
@[simp] theorem u_gPar3 (i j l : Nat) (gs : GA) (Γ : Env) (M : List MO) : gPar3 i j l gs Γ M = (gs Γ M).thenS Γ fun ds M1 => (match ds with
  | [d, e, f] => .nx (((Γ.set i (some d)).set j (some e)).set l (some f)) M1
  | _ => .bad) := Eq.trans rfl rfl
@[simp] theorem u_gLzip (own : Bool) (ga gb : GE) (Γ : Env) (M : List MO) : gLzip own ga gb Γ M = (ga Γ M).bind fun x M1 => (gb Γ M1).bind fun y M2 => (opR (zipO x y) M2).bind fun ds M3 => if ds.length ≤ sizeLine then (if own = true then .ok (.ref M3.length) (M3 ++ [.lst ds]) else .ok (.lst ds) M3) else .bad := Eq.trans rfl rfl
end Bk

set_option Elab.async false
set_option linter.all false
set_option maxRecDepth 100000
set_option maxHeartbeats 4000000
namespace Bk
open PySem PySem.Spec PyProof.Rows L2
/-! ### tuple * int, any count up to a thousand -/
theorem tuple_mul1 (l : Addr) (items : Array Value) (n : Nat) (dd : Option Addr) (sl : Array (Option Value)) (u : Tok) :
    Meets (Builtin.«tuple.__mul__» ⟨[.ref l, .int 1 u], []⟩) (fun _ R s => s.heap.get? l = some { cls := .type "tuple", dict := dd, data := .seq items n, slots := sl } ∧ R (.ok (.ret (Value.ref l))) s) :=
  .of_wp fun prog w A R s h => by
    obtain ⟨hp, g, d, tk, os⟩ := s
    obtain ⟨hl, h⟩ := h
    have f1 := AutoSeq1.idx_int
    have c0 : (decide ((1 : Int) < -(2 ^ 63)) || decide ((1 : Int) ≥ 2 ^ 63)) = false := by decide
    have c1 : (items.isEmpty || (1 : Int) == 1) = true := by simp
    wp_walk using wpAny_loadPart' hl
    repeat (first
      | (refine wpAny_ite_false (decide_eq_false (by rw [c0]; exact Bool.false_ne_true)) ?_; wp_walk using wpAny_loadPart' hl)
      | (refine wpAny_ite_true (decide_eq_true c1) ?_; wp_walk using wpAny_loadPart' hl))
    exact ⟨_, rfl, h⟩
theorem tuple_mul0 (l : Addr) (items : Array Value) (n : Nat) (dd : Option Addr) (sl : Array (Option Value)) (x : Int) (u : Tok) (c0 : (decide (x < -(2 ^ 63)) || decide (x ≥ 2 ^ 63)) = false) (c1 : (items.isEmpty || x == 1) = false) (c2 : (decide (x ≤ 0) || items.isEmpty) = true) :
    Meets (Builtin.«tuple.__mul__» ⟨[.ref l, .int x u], []⟩) (fun _ R s => s.heap.get? l = some { cls := .type "tuple", dict := dd, data := .seq items n, slots := sl } ∧
      R (.ok (.ret (Value.ref s.heap.objs.size))) { s with heap := s.heap.push { cls := Value.type "tuple", data := Data.seq #[] }, toks := s.toks }) :=
  .of_wp fun prog w A R s h => by
    obtain ⟨hp, g, d, tk, os⟩ := s
    obtain ⟨hl, h⟩ := h
    have f1 := AutoSeq1.idx_int
    wp_walk using wpAny_loadPart' hl
    repeat (first
      | (refine wpAny_ite_false (decide_eq_false (by rw [c0]; exact Bool.false_ne_true)) ?_; wp_walk using wpAny_loadPart' hl)
      | (refine wpAny_ite_false (decide_eq_false (by rw [c1]; exact Bool.false_ne_true)) ?_; wp_walk using wpAny_loadPart' hl)
      | (refine wpAny_ite_true (decide_eq_true c2) ?_; wp_walk using wpAny_loadPart' hl))
    exact ⟨_, rfl, h⟩
def rRepTA (K : PySem.W.Frag) : R2 := fun x y H Q => ∃ l k xs, x = .ref l ∧ y = .int k ∧ SqT K H l xs ∧ xs ≠ [] ∧ -1000 ≤ k ∧ k ≤ 1000 ∧ xs.length ≤ 1000 ∧ (k = 1 → Q (.ref l) H) ∧ (k ≠ 1 → ∀ p, H p = none → Q (.ref p) (upd H p (.tup (List.replicate k.toNat xs).flatten)))
section
variable {X : Cx}
theorem op_repTA : OpR X (binaryOp .Mult) (rRepTA X.K) := by
  intro pins s σ H x y v u Q I rx ry h
  obtain ⟨l, k, xs, rfl, rfl, hT, hne, h0, h1, hz, q1, q⟩ := h
  by_cases h2 : 2 ≤ k
  · exact op_repT pins s σ H _ _ v u Q I rx ry ⟨l, k, xs, rfl, rfl, hT, hne, h2, h1, hz, q (by omega)⟩
  cases rx
  obtain ⟨t, rfl⟩ := ry
  obtain ⟨its, r, ⟨⟨cls, dd, data, sl⟩, ho, hc, n, hd⟩, hs⟩ := I.tuple hT
  simp only at hc hd
  subst hc hd
  have hle : its.length = xs.length := r.length.symm
  have hn : its ≠ [] := fun e => hne (List.eq_nil_of_length_eq_zero (by rw [← hle, e]; rfl))
  have hi : its.toArray.isEmpty = false := by
    cases its with
    | nil => exact absurd rfl hn
    | cons a b => rfl
  by_cases e1 : k = 1
  · subst e1
    exact wpAny_binaryOp_repeat_ref (T := "tuple") (U := "int") (by decide) ⟨_, ho, rfl⟩ (fun s' => typeIs_int s' 1 t) noFill_tuple_mul F.fills_int_mul F.slot_int_rmul repeat_tuple F.slot_int_index.lookup
      (call_meets F.slot_int_rmul (typeIs_int s 1 t) F.entry_int_rmul (F.args_int_rmul_2 _ _) (int_rmul_tuple 1 t l its.toArray n dd sl) ⟨ho, rfl, ⟨_, ho, rfl⟩, call_meets F.slot_tuple_mul ⟨_, ho, rfl⟩ F.entry_tuple_mul (F.args_tuple_mul_2 _ _) (tuple_mul1 l its.toArray n dd sl t) ⟨ho, ⟨.ref l, H, I, rfl, q1 rfl⟩⟩⟩)
  · have c0 : (decide (k < -(2 ^ 63)) || decide (k ≥ 2 ^ 63)) = false := by
      rw [decide_eq_false (by omega), decide_eq_false (by omega)] <;> rfl
    have c1 : (its.toArray.isEmpty || k == 1) = false := by
      rw [hi, Bool.false_or]; exact beq_eq_false_iff_ne.mpr e1
    have c2 : (decide (k ≤ 0) || its.toArray.isEmpty) = true := by
      rw [hi, Bool.or_false]; exact decide_eq_true (by omega)
    have z : (List.replicate k.toNat xs).flatten = [] := by
      have : k.toNat = 0 := by omega
      rw [this]; rfl
    rw [z] at q
    refine wpAny_binaryOp_repeat_ref (T := "tuple") (U := "int") (by decide) ⟨_, ho, rfl⟩ (fun s' => typeIs_int s' k t) noFill_tuple_mul F.fills_int_mul F.slot_int_rmul repeat_tuple F.slot_int_index.lookup
      (call_meets F.slot_int_rmul (typeIs_int s k t) F.entry_int_rmul (F.args_int_rmul_2 _ _) (int_rmul_tuple k t l its.toArray n dd sl) ⟨ho, rfl, ⟨_, ho, rfl⟩, call_meets F.slot_tuple_mul ⟨_, ho, rfl⟩ F.entry_tuple_mul (F.args_tuple_mul_2 _ _) (tuple_mul0 l its.toArray n dd sl k t c0 c1 c2) ⟨ho, ?_⟩⟩)
    exact ⟨.ref s.heap.objs.size, _, I.laid (t' := s.toks) (o := .tup []) (fun b ob q => Heap.get?_push_of_some _ q) (Nat.le_refl _) ⟨by decide, [], .nil, IsTup.new _ _⟩, rfl, q e1 _ (I.hok.fresh (Nat.le_refl _))⟩
def dMulT (M : List MO) (x : D) (y : D) : Option D := match x, y with
  | .tup ds, .int k => if (decide (ds ≠ []) && decide (-1000 ≤ k) && decide (k ≤ 1000) && decide (ds.length ≤ 1000)) = true then some (.tup (List.replicate k.toNat ds).flatten) else none
  | x, y => dMulA M x y
theorem op_mulT : OpR X (binaryOp .Mult) (fun x y H Q => rMulA X.K x y H Q ∨ rRepTA X.K x y H Q) := op_mulL.or op_repTA
theorem ok_mulT : Ok2 X (fun x y H Q => rMulA X.K x y H Q ∨ rRepTA X.K x y H Q) dMulT := fun x y H Z ι M dx dy d Q hr rx ry e q => by
  unfold dMulT at e
  split at e
  · rename_i ds k
    split at e
    · rename_i c
      cases e
      simp only [Bool.and_eq_true, decide_eq_true_eq] at c
      obtain ⟨⟨⟨c1, c2⟩, c3⟩, c4⟩ := c
      cases ry
      cases rx with
      | tup s r =>
        have r' := r.rep k.toNat
        refine .inr ⟨_, k, _, rfl, rfl, subT hr.sub s, fun z => c1 ?_, c2, c3, by rw [← r.length]; exact c4, fun e1 => ?_, fun _ => ?_⟩
        · have := r.length
          rw [z] at this
          exact List.eq_nil_of_length_eq_zero this
        · subst e1
          refine q.now hr (.tup s ?_)
          simpa using r
        · exact q.tup hr r'
    · cases e
  · exact .inl (ok_mulL x y H Z ι M dx dy d Q hr rx ry e q)
end
@[simp] theorem e_mulT (M : List MO) (d : D) (ds : List D) (k : Int) (h1 : -1000 ≤ k) (h2 : k ≤ 1000) (h3 : ds.length < 1000) : dMulT M (.tup (d :: ds)) (.int k) = some (.tup (List.replicate k.toNat (d :: ds)).flatten) := by
  have : (d :: ds).length ≤ 1000 := by rw [List.length_cons]; omega
  simp only [dMulT]
  rw [if_pos]
  simp [h1, h2]
  omega
@[simp] theorem e_mulTi (M : List MO) (i : Int) (y : D) : dMulT M (.int i) y = dMulA M (.int i) y := Eq.trans rfl rfl
@[simp] theorem e_mulTl (M : List MO) (ds : List D) (y : D) : dMulT M (.lst ds) y = dMulA M (.lst ds) y := Eq.trans rfl rfl
end Bk

set_option Elab.async false
set_option linter.all false
set_option maxRecDepth 100000
set_option maxHeartbeats 2000000
namespace Bk
open PySem PySem.Spec PyProof.Rows L2
theorem lcL_cons {gg : GG} {ge : GE} {d y : D} {ds acc : List D} {Γ Γ1 : Env} {M M2 : List MO} (h1 : gg d Γ = some Γ1) (h2 : ge Γ1 M = .ok y M2) (q : acc.length < sizeLine) : gLcL gg gYes ge Γ (d :: ds) acc M = gLcL gg gYes ge Γ ds (acc ++ [y]) M2 := by
  simp [gLcL, h1, h2, q]
theorem lcL_take {gg : GG} {gt : GT} {ge : GE} {d y : D} {ds acc : List D} {Γ Γ1 : Env} {M M1 M2 : List MO} (h1 : gg d Γ = some Γ1) (ht : gt Γ1 M = .ok true M1) (h2 : ge Γ1 M1 = .ok y M2) (q : acc.length < sizeLine) : gLcL gg gt ge Γ (d :: ds) acc M = gLcL gg gt ge Γ ds (acc ++ [y]) M2 := by
  simp [gLcL, h1, ht, h2, q]
theorem lcL_skip {gg : GG} {gt : GT} {ge : GE} {d : D} {ds acc : List D} {Γ Γ1 : Env} {M M1 : List MO} (h1 : gg d Γ = some Γ1) (ht : gt Γ1 M = .ok false M1) : gLcL gg gt ge Γ (d :: ds) acc M = gLcL gg gt ge Γ ds acc M1 := by
  simp [gLcL, h1, ht]
/-- a list made item by item -/
theorem lcL_run {α : Type} {gg : GG} {ge : GE} {Γ : Env} {M : List MO} (f : α → D) (g : α → D) : ∀ (xs : List α) (acc : List D), acc.length + xs.length ≤ sizeLine → (∀ x ∈ xs, ∃ Γ1, gg (f x) Γ = some Γ1 ∧ ge Γ1 M = .ok (g x) M) → gLcL gg gYes ge Γ (xs.map f) acc M = .ok (acc ++ xs.map g) M
  | [], acc, _, _ => by simp [gLcL]
  | x :: xs, acc, h, hf => by
    obtain ⟨Γ1, h1, h2⟩ := hf x (by simp)
    simp only [List.length_cons] at h
    have ih := lcL_run (gg := gg) (ge := ge) (Γ := Γ) (M := M) f g xs (acc ++ [g x]) (by simp; omega) fun e he => hf e (by simp [he])
    rw [List.map_cons, lcL_cons h1 h2 (by omega), ih]
    simp
/-- items let go by a test -/
theorem lcL_sel {α : Type} {gg : GG} {gt : GT} {ge : GE} {Γ : Env} {M : List MO} (f : α → D) (g : α → D) (c : α → Bool) : ∀ (xs : List α) (acc : List D), acc.length + xs.length ≤ sizeLine → (∀ x ∈ xs, ∃ Γ1, gg (f x) Γ = some Γ1 ∧ gt Γ1 M = .ok (c x) M ∧ (c x = true → ge Γ1 M = .ok (g x) M)) → gLcL gg gt ge Γ (xs.map f) acc M = .ok (acc ++ (xs.filter c).map g) M
  | [], acc, _, _ => by simp [gLcL]
  | x :: xs, acc, h, hf => by
    obtain ⟨Γ1, h1, h2, h3⟩ := hf x (by simp)
    simp only [List.length_cons] at h
    have hf' : ∀ y ∈ xs, ∃ Γ1, gg (f y) Γ = some Γ1 ∧ gt Γ1 M = .ok (c y) M ∧ (c y = true → ge Γ1 M = .ok (g y) M) := fun e he => hf e (by simp [he])
    cases e : c x with
    | true =>
      have ih := lcL_sel (gg := gg) (gt := gt) (ge := ge) (Γ := Γ) (M := M) f g c xs (acc ++ [g x]) (by simp; omega) hf'
      rw [List.map_cons, lcL_take h1 (by rw [h2, e]) (h3 e) (by omega), ih]
      simp [e]
    | false =>
      have ih := lcL_sel (gg := gg) (gt := gt) (ge := ge) (Γ := Γ) (M := M) f g c xs acc (by omega) hf'
      rw [List.map_cons, lcL_skip h1 (by rw [h2, e]), ih]
      simp [e]
end Bk

set_option Elab.async false
set_option linter.all false
set_option maxRecDepth 100000
set_option maxHeartbeats 2000000
namespace Bk
open PySem PySem.Spec PyProof.Rows L2
/-! ### objects of own classes: a cell of the store, its fields by name -/
def putD (f : Str) (d : D) : List (Str × D) → List (Str × D)
  | [] => [(f, d)]
  | (g, x) :: r => if g = f then (g, d) :: r else (g, x) :: putD f d r
section
variable {K : PySem.W.Frag} {H Z : Hp} {ι : Nat → Addr} {n : Nat}
end
section
variable {K : PySem.W.Frag} {H Z : Hp} {ι : Nat → Addr} {M : List MO}
end
/-! ### what the rules of objects compute -/
def gFld (nm f : Str) (ge : GE) : GE := fun Γ M => (ge Γ M).bind fun x M1 => match x with
  | .ref k => match M1[k]? with
    | some (.obj nm' fs) => if nm' = nm then opR (fs.lookup f) M1 else .bad
    | _ => .bad
  | _ => .bad
def gSetF (nm f : Str) (ge go : GE) : GS := fun Γ M => (ge Γ M).thenS Γ fun d M1 => (go Γ M1).thenS Γ fun x M2 => match x with
  | .ref k => match M2[k]? with
    | some (.obj nm' fs) => if nm' = nm ∧ fs.length < 1000 then .nx Γ (M2.set k (.obj nm (putD f d fs))) else .bad
    | _ => .bad
  | _ => .bad
def isObj (nm m : Str) (M : List MO) : D → Bool
  | .ref k => match M[k]? with
    | some (.obj nm' fs) => decide (nm' = nm) && (fs.lookup m).isNone
    | _ => false
  | _ => false
def gMeth (nm m : Str) (n : Nat) (F : List D → List MO → R D) (go : GE) (ga : GA) : GE := fun Γ M => (go Γ M).bind fun x M1 => if isObj nm m M1 x = true then (ga Γ M1).bind fun ds M2 => if ds.length + 1 = n then callF F (x :: ds) M2 else .bad else .bad
def newR (m : Nat) : D → List MO → R D
  | .non, M => .ok (.ref m) M
  | _, _ => .bad
def gNew (nm : Str) (n : Nat) (F : List D → List MO → R D) (ga : GA) : GE := fun Γ M => (ga Γ M).bind fun ds M1 => if ds.length + 1 = n then (callF F (.ref M1.length :: ds) (M1 ++ [.obj nm []])).bind (newR M1.length) else .bad
/-- a list in a field will not be changed any more -/
def gFzF (i : Nat) (f : Str) : GS := fun Γ M => match Γ[i]? with
  | some (some (.ref k)) => match M[k]? with
    | some (.obj nm fs) => match fs.lookup f with
      | some (.ref j) => match M[j]? with
        | some (.lst ds) => .nx Γ ((M.set j .dead).set k (.obj nm (putD f (.lst ds) fs)))
        | _ => .bad
      | _ => .bad
    | _ => .bad
  | _ => .bad
section
variable {X : Cx} {C : CT} {W : WX} {e o : Expr} {nm f m x : Str} {ge go : GE} {gs : GA} {pos apos pos' p : Pos} {C0 : Addr} {es : List Expr}
variable {k n : Nat} {fa : Addr} {fd : FuncData} {ps : List Str} {F : List D → List MO → R D} {pl : Sem Bool}
end
/-! ### how they are worked out -/
@[simp] theorem u_gFld (nm f : Str) (ge : GE) (Γ : Env) (M : List MO) : gFld nm f ge Γ M = ((ge Γ M).bind fun x M1 => match x with
  | .ref k => match M1[k]? with
    | some (.obj nm' fs) => if nm' = nm then opR (fs.lookup f) M1 else .bad
    | _ => .bad
  | _ => .bad) := Eq.trans rfl rfl
@[simp] theorem u_gSetF (nm f : Str) (ge go : GE) (Γ : Env) (M : List MO) : gSetF nm f ge go Γ M = ((ge Γ M).thenS Γ fun d M1 => (go Γ M1).thenS Γ fun x M2 => match x with
  | .ref k => match M2[k]? with
    | some (.obj nm' fs) => if nm' = nm ∧ fs.length < 1000 then .nx Γ (M2.set k (.obj nm (putD f d fs))) else .bad
    | _ => .bad
  | _ => .bad) := Eq.trans rfl rfl
@[simp] theorem u_isObj (nm m : Str) (M : List MO) (k : Nat) : isObj nm m M (.ref k) = (match M[k]? with
    | some (.obj nm' fs) => decide (nm' = nm) && (fs.lookup m).isNone
    | _ => false) := Eq.trans rfl rfl
@[simp] theorem u_gMeth (nm m : Str) (n : Nat) (F : List D → List MO → R D) (go : GE) (ga : GA) (Γ : Env) (M : List MO) : gMeth nm m n F go ga Γ M = (go Γ M).bind fun x M1 => if isObj nm m M1 x = true then (ga Γ M1).bind fun ds M2 => if ds.length + 1 = n then callF F (x :: ds) M2 else .bad else .bad := Eq.trans rfl rfl
@[simp] theorem u_newR (m : Nat) (M : List MO) : newR m .non M = .ok (.ref m) M := Eq.trans rfl rfl
@[simp] theorem u_gNew (nm : Str) (n : Nat) (F : List D → List MO → R D) (ga : GA) (Γ : Env) (M : List MO) : gNew nm n F ga Γ M = (ga Γ M).bind fun ds M1 => if ds.length + 1 = n then (callF F (.ref M1.length :: ds) (M1 ++ [.obj nm []])).bind (newR M1.length) else .bad := Eq.trans rfl rfl
@[simp] theorem u_gFzF (i : Nat) (f : Str) (Γ : Env) (M : List MO) : gFzF i f Γ M = (match Γ[i]? with
  | some (some (.ref k)) => match M[k]? with
    | some (.obj nm fs) => match fs.lookup f with
      | some (.ref j) => match M[j]? with
        | some (.lst ds) => .nx Γ ((M.set j .dead).set k (.obj nm (putD f (.lst ds) fs)))
        | _ => .bad
      | _ => .bad
    | _ => .bad
  | _ => .bad) := Eq.trans rfl rfl
@[simp] theorem blo_obj (m : Nat) (nm : Str) (fs : List (Str × D)) : belowO m (.obj nm fs) = belows m (fs.map (·.2)) := Eq.trans rfl rfl
end Bk

set_option Elab.async false
set_option linter.all false
set_option maxRecDepth 100000
set_option maxHeartbeats 2000000
namespace Bk
open PySem PySem.Spec PyProof.Rows L2
/-! ### range down by ones -/
def rngDn (lo : Int) : Nat → List D
  | 0 => []
  | n + 1 => .int lo :: rngDn (lo - 1) n
def rng3 : List D → Option (List D)
  | [.int i, .int j, .int c] => if (inR i && inR j && decide (c = -1)) = true then some (rngDn i (i - j).toNat) else none
  | _ => none
def gRng3 (ga : GA) : GI := fun Γ M => (ga Γ M).bind fun ds M1 => opR (rng3 ds) M1
def gRev (ge : GE) : GI := fun Γ M => (ge Γ M).bind fun d M1 => opR ((seqD d).map List.reverse) M1
def mReverse : MF0 := fun ds => some (ds.reverse, .non)
def items1 (M : List MO) : List D → Option (List D)
  | [d] => itemsD M d
  | _ => none
def gListO (ga : GA) : GE := fun Γ M => (ga Γ M).bind fun xs M1 => match items1 M1 xs with
  | some ds => .ok (.ref M1.length) (M1 ++ [.lst ds])
  | none => .bad
section
variable {X : Cx} {C : CT} {W : WX} {tg e a b c : Expr} {g ga : GE} {gs : GA} {pos p : Pos}
end
@[simp] theorem u_gRng3 (ga : GA) (Γ : Env) (M : List MO) : gRng3 ga Γ M = (ga Γ M).bind fun ds M1 => opR (rng3 ds) M1 := Eq.trans rfl rfl
@[simp] theorem u_gRev (ge : GE) (Γ : Env) (M : List MO) : gRev ge Γ M = (ge Γ M).bind fun d M1 => opR ((seqD d).map List.reverse) M1 := Eq.trans rfl rfl
@[simp] theorem u_gListO (ga : GA) (Γ : Env) (M : List MO) : gListO ga Γ M = ((ga Γ M).bind fun xs M1 => match items1 M1 xs with
  | some ds => .ok (.ref M1.length) (M1 ++ [.lst ds])
  | none => .bad) := Eq.trans rfl rfl
@[simp] theorem u_items1 (M : List MO) (d : D) : items1 M [d] = itemsD M d := Eq.trans rfl rfl
@[simp] theorem u_rng3 (i j : Int) : rng3 [.int i, .int j, .int (-1)] = if (inR i && inR j) = true then some (rngDn i (i - j).toNat) else none := by
  show (if (inR i && inR j && decide ((-1 : Int) = -1)) = true then _ else _) = _
  simp
@[simp] theorem u_reverse (ds : List D) : mReverse ds = some (ds.reverse, .non) := Eq.trans rfl rfl
end Bk

set_option Elab.async false
set_option linter.all false
set_option maxRecDepth 100000
set_option maxHeartbeats 2000000
namespace Bk
open PySem PySem.Spec PyProof.Rows L2
theorem units65 {k : Nat} {A : Around} (r : Room k A) : A.units + 65 < cLine := by have := r.un; omega
/-! ### t >= u -/
def rGeT (K : PySem.W.Frag) : R2 := fun x y H Q => ∃ (a b : Addr) (ns ms : List Int), x = .ref a ∧ y = .ref b ∧ SqT K H a (ns.map V.int) ∧ SqT K H b (ms.map V.int) ∧
  Q (.bl (Ob.lexAt (fun j => decide (ns.getD j 0 = ms.getD j 0)) (fun j => decide (ms.getD j 0 ≤ ns.getD j 0)) (decide (ns.length ≥ ms.length)) 0 (min ns.length ms.length))) H
theorem op_geT {X : Cx} (hu : X.A.units < cLine) : OpR X (compareOp .GtE) (rGeT X.K) := by
  intro pins s σ H x y v u Q I rx ry h
  obtain ⟨a, b, ns, ms, rfl, rfl, ha, hb, q⟩ := h
  cases rx
  cases ry
  obtain ⟨its, r1, p1, _⟩ := I.tuple ha
  obtain ⟨its2, r2, p2, _⟩ := I.tuple hb
  have i1 : IntsAre its ns := Vals.ints r1
  have i2 : IntsAre its2 ms := Vals.ints r2
  have e1 : its.toArray.size = ns.length := by rw [List.size_toArray]; exact i1.length
  have e2 : its2.toArray.size = ms.length := by rw [List.size_toArray]; exact i2.length
  have at1 : ∀ j (h1 : j < its.toArray.size), ∃ t, its.toArray[j] = .int (ns.getD j 0) t := fun j h1 => PyProof.Rows.IntsAre.int_at i1 _ _ (by simp at h1; simp [h1])
  have at2 : ∀ j (h1 : j < its2.toArray.size), ∃ t, its2.toArray[j] = .int (ms.getD j 0) t := fun j h1 => PyProof.Rows.IntsAre.int_at i2 _ _ (by simp at h1; simp [h1])
  have R := Ob.RcOp.tuples_ge (A := X.A) (s := s) (e := fun j => decide (ns.getD j 0 = ms.getD j 0)) (r := fun j => decide (ms.getD j 0 ≤ ns.getD j 0)) p1 p2 hu (fun j h1 h2 => by
    obtain ⟨t, et⟩ := at1 j h1
    obtain ⟨t', et'⟩ := at2 j h2
    rw [et, et']
    have z : (ns.getD j 0 == ms.getD j 0) = decide (ns.getD j 0 = ms.getD j 0) := by
      by_cases q : ns.getD j 0 = ms.getD j 0
      · rw [decide_eq_true q]; exact beq_iff_eq.mpr q
      · rw [decide_eq_false q]; exact beq_eq_false_iff_ne.mpr q
    rw [← z]
    exact SeqAt.EqAt.int_int _ _ _ _) (fun j h1 h2 _ => by
    obtain ⟨t, et⟩ := at1 j h1
    obtain ⟨t', et'⟩ := at2 j h2
    rw [et, et']
    exact Ob.RcOp.ge_int _ _ _ _)
  rw [e1, e2] at R
  have z : wpAny (model X.prog X.w) X.A (compareOp .GtE (.ref a) (.ref b)) (EP X pins σ Q) X.xe s := R X.prog X.w X.xe (EP X pins σ Q) ⟨.bl _, H, I, rfl, q⟩
  exact z
def intsL : List D → Option (List Int)
  | [] => some []
  | .int i :: ds => (intsL ds).map fun is => i :: is
  | _ => none
theorem intsL_map : ∀ is : List Int, intsL (is.map D.int) = some is
  | [] => rfl
  | i :: is => by
    show (intsL (is.map D.int)).map (fun is => i :: is) = _
    rw [intsL_map is]
    rfl
theorem intsL_run {K : PySem.W.Frag} {Z : Hp} {ι : Nat → Addr} {n : Nat} : ∀ {ds : List D} {vs : List V} {is : List Int}, Rps K Z ι n ds vs → intsL ds = some is → vs = is.map V.int
  | [], _, _, r, h => by cases r; cases h; rfl
  | d :: ds, _, _, r, h => by
    cases r with
    | cons r rs =>
      cases r with
      | int i =>
        have h' : (intsL ds).map (fun is => i :: is) = some _ := h
        cases e : intsL ds with
        | none => rw [e] at h'; cases h'
        | some js =>
          rw [e] at h'
          cases h'
          rw [List.map_cons, intsL_run rs e]
      | _ => cases h
def geI (ns ms : List Int) : Bool := Ob.lexAt (fun j => decide (ns.getD j 0 = ms.getD j 0)) (fun j => decide (ms.getD j 0 ≤ ns.getD j 0)) (decide (ns.length ≥ ms.length)) 0 (min ns.length ms.length)
def dGeA (M : List MO) (x y : D) : Option D := match x, y with
  | .tup xs, .tup ys => match intsL xs, intsL ys with
    | some ns, some ms => some (.bl (geI ns ms))
    | _, _ => none
  | x, y => dGe M x y
section
variable {X : Cx}
theorem op_geA (hu : X.A.units < cLine) : OpR X (compareOp .GtE) (fun x y H Q => rGeT X.K x y H Q ∨ rI0 (fun i j => .bl (decide (j ≤ i))) x y H Q) := (op_geT hu).or op_ge
theorem ok_geA : Ok2 X (fun x y H Q => rGeT X.K x y H Q ∨ rI0 (fun i j => .bl (decide (j ≤ i))) x y H Q) dGeA := fun x y H Z ι M dx dy d Q hr rx ry e q => by
  unfold dGeA at e
  split at e
  · rename_i xs ys
    cases e1 : intsL xs with
    | none => rw [e1] at e; cases e
    | some ns =>
      cases e2 : intsL ys with
      | none => rw [e1, e2] at e; cases e
      | some ms =>
        rw [e1, e2] at e
        cases e
        cases rx with
        | tup s1 r1 =>
          cases ry with
          | tup s2 r2 =>
            have w1 := intsL_run r1 e1
            have w2 := intsL_run r2 e2
            subst w1 w2
            exact .inl ⟨_, _, ns, ms, rfl, rfl, subT hr.sub s1, subT hr.sub s2, q.now hr (.bl _)⟩
  · exact .inr (ok_ge x y H Z ι M dx dy d Q hr rx ry e q)
end
/-! ### x in l, items of any depth -/
def inDP (M : List MO) (x y : D) : Option Bool := match toP (deref M x), toP (deref M y) with
  | some p, some (.list qs) => if (SeqAt.shaped p && SeqAt.shaped (.list qs)) = true then some (qs.any fun z => PyData.eqv z p) else none
  | _, _ => none
def inAP (M : List MO) (x y : D) : Option Bool := match inP M x y with
  | some b => some b
  | none => inDP M x y
def dInA (M : List MO) (x y : D) : Option D := (inAP M x y).map D.bl
theorem inDP_run {K : PySem.W.Frag} {H Z : Hp} {ι : Nat → Addr} {M : List MO} {dx dy : D} {x y : V} {b : Bool} (hr : HR K H Z ι M) (rx : Rp K Z ι M.length dx x) (ry : Rp K Z ι M.length dy y) (e : inDP M dx dy = some b) :
    ∃ d ds, Dp K H x d ∧ Dp K H y (.list ds) ∧ SeqAt.shaped d = true ∧ SeqAt.shaped (.list ds) = true ∧ (ds.any fun z => PyData.eqv z d) = b := by
  unfold inDP at e
  cases e1 : toP (deref M dx) with
  | none => rw [e1] at e; cases e
  | some p =>
    cases e2 : toP (deref M dy) with
    | none => rw [e1, e2] at e; cases e
    | some q =>
      rw [e1, e2] at e
      cases q with
      | list qs =>
        simp only at e
        by_cases c : (SeqAt.shaped p && SeqAt.shaped (.list qs)) = true
        · rw [if_pos c] at e
          rw [Bool.and_eq_true] at c
          exact ⟨p, qs, deref_dp hr rx e1, deref_dp hr ry e2, c.1, c.2, Option.some.inj e⟩
        · rw [if_neg c] at e
          cases e
      | _ => cases e
section
variable {X : Cx}
theorem op_inA (hu : X.A.units + 65 < cLine) : OpR X (compareOp .In) (fun x y H Q => rInD X.K x y H Q ∨ rIn X.K false x y H Q) := (op_inD hu).or op_in_seq
theorem ok_inA : Ok2 X (fun x y H Q => rInD X.K x y H Q ∨ rIn X.K false x y H Q) dInA := fun x y H Z ι M dx dy d Q hr rx ry e q => by
  unfold dInA inAP at e
  cases e1 : inP M dx dy with
  | some b =>
    rw [e1] at e
    cases e
    obtain ⟨p, xs, h1, h2, h3, h4, h5⟩ := inP_run hr rx ry e1
    exact .inr ⟨p, xs, h1, h2, h3, h4, by rw [h5]; exact q.now hr (.bl b)⟩
  | none =>
    rw [e1] at e
    simp only at e
    cases e2 : inDP M dx dy with
    | none => rw [e2] at e; cases e
    | some b =>
      rw [e2] at e
      cases e
      obtain ⟨p, ps, h1, h2, h3, h4, h5⟩ := inDP_run hr rx ry e2
      exact .inl ⟨p, ps, h1, h2, h3, h4, by rw [h5]; exact q.now hr (.bl b)⟩
end
/-! ### l.index(x) -/
def dIndex (M : List MO) (x y : D) : Option D := match toP (deref M x), toP (deref M y) with
  | some (.list ps), some q => if (SeqAt.shaped (.list ps) && SeqAt.shaped q) = true then (ps.findIdx? fun z => PyData.eqv z q).map fun j => .int (j : Nat) else none
  | _, _ => none
def gIndex (go ge : GE) : GE := fun Γ M => (go Γ M).bind fun x M1 => if isListD M1 x = true then (ge Γ M1).bind fun y M2 => opR (dIndex M2 x y) M2 else .bad
section
variable {X : Cx} {C : CT} {W : WX}
end
@[simp] theorem u_gIndex (go ge : GE) (Γ : Env) (M : List MO) : gIndex go ge Γ M = (go Γ M).bind fun x M1 => if isListD M1 x = true then (ge Γ M1).bind fun y M2 => opR (dIndex M2 x y) M2 else .bad := Eq.trans rfl rfl
@[simp] theorem e_geA (M : List MO) (i j : Int) : dGeA M (.int i) (.int j) = some (.bl (decide (j ≤ i))) := Eq.trans rfl rfl
theorem e_geT (M : List MO) (ns ms : List Int) : dGeA M (.tup (ns.map D.int)) (.tup (ms.map D.int)) = some (.bl (geI ns ms)) := by
  show (match intsL (ns.map D.int), intsL (ms.map D.int) with
    | some ns, some ms => some (D.bl (geI ns ms))
    | _, _ => none) = _
  rw [intsL_map, intsL_map]
/-- the first place that differs tells -/
theorem lexAt_diff {e r : Nat → Bool} {z : Bool} {j : Nat} (hd : e j = false) : ∀ (k i : Nat), i ≤ j → j < i + k → (∀ m, i ≤ m → m < j → e m = true) → Ob.lexAt e r z i k = r j
  | 0, i, h1, h2, _ => by omega
  | k + 1, i, h1, h2, h3 => by
    rw [Ob.lexAt_succ]
    by_cases q : i = j
    · subst q
      rw [hd]
      simp
    · rw [h3 i (Nat.le_refl _) (by omega), if_pos rfl]
      exact lexAt_diff hd k (i + 1) (by omega) (by omega) fun m a b => h3 m (by omega) b
theorem geI_less {ns ms : List Int} {j : Nat} (h1 : j < ns.length) (h2 : j < ms.length) (he : ∀ m, m < j → ns.getD m 0 = ms.getD m 0) (hl : ns.getD j 0 < ms.getD j 0) : geI ns ms = false := by
  unfold geI
  rw [lexAt_diff (j := j) (by simp only [decide_eq_false_iff_not]; omega) _ _ (Nat.zero_le _) (by omega) (fun m _ hm => by simpa using he m hm)]
  simp only [decide_eq_false_iff_not]
  omega
end Bk

set_option Elab.async false
set_option linter.all false
set_option maxRecDepth 100000
set_option maxHeartbeats 2000000
namespace Bk
open PySem PySem.Spec PyProof.Rows L2
/-! ### abs -/
def dAbs (_ : List MO) : D → Option D
  | .int i => some (.int (if i < 0 then -i else i))
  | _ => none
/-! ### sorted, ints -/
def insI (x : Int) : List Int → List Int
  | [] => [x]
  | y :: ys => if x ≤ y then x :: y :: ys else y :: insI x ys
def srtI : List Int → List Int
  | [] => []
  | x :: xs => insI x (srtI xs)
def dSortR := ofInts fun is => some (.lst ((srtI is).reverse.map D.int))
def mClear : MF0 := fun _ => some ([], .non)
/-- a method of a list that reads it, with one argument -/
def gRd1 (f : List MO → D → D → Option D) (go ge : GE) : GE := fun Γ M => (go Γ M).bind fun x M1 => if isListD M1 x = true then (ge Γ M1).bind fun y M2 => opR (f M2 x y) M2 else .bad
def dRevL (M : List MO) (x : D) : Option D := (listD M x).map fun ds => .lst ds.reverse
def gRevL (ge : GE) : GE := fun Γ M => (ge Γ M).bind fun x M1 => opR (dRevL M1 x) M1
def gSortR (ge : GE) : GE := fun Γ M => (ge Γ M).bind fun x M1 => opR (dSortR M1 x) M1
section
variable {X : Cx} {C : CT} {W : WX} {e o : Expr} {g ge go : GE}
theorem ok_abs : Ok1 X (fun x H Q => ∃ i, [x] = [.int i] ∧ Q (.int (if i < 0 then -i else i)) H) dAbs := fun x H Z ι M dx d Q hr rx e q => by
  cases rx with
  | int i =>
    cases e
    exact ⟨i, rfl, q.now hr (.int _)⟩
  | _ => cases e
theorem ok_clear : OkM0 X rClear mClear := fun p xs H Z ι n ds ds' d Q e r h q => by
  cases h
  exact ⟨p, xs, rfl, rfl, e, q [] .non .nil .non⟩
end
@[simp] theorem u_gRd1 (f : List MO → D → D → Option D) (go ge : GE) (Γ : Env) (M : List MO) : gRd1 f go ge Γ M = (go Γ M).bind fun x M1 => if isListD M1 x = true then (ge Γ M1).bind fun y M2 => opR (f M2 x y) M2 else .bad := Eq.trans rfl rfl
@[simp] theorem u_gRevL (ge : GE) (Γ : Env) (M : List MO) : gRevL ge Γ M = (ge Γ M).bind fun x M1 => opR (dRevL M1 x) M1 := Eq.trans rfl rfl
@[simp] theorem u_gSortR (ge : GE) (Γ : Env) (M : List MO) : gSortR ge Γ M = (ge Γ M).bind fun x M1 => opR (dSortR M1 x) M1 := Eq.trans rfl rfl
@[simp] theorem e_abs (M : List MO) (i : Int) : dAbs M (.int i) = some (.int (if i < 0 then -i else i)) := Eq.trans rfl rfl
@[simp] theorem e_revL (M : List MO) (ds : List D) : dRevL M (.lst ds) = some (.lst ds.reverse) := Eq.trans rfl rfl
@[simp] theorem e_clear (ds : List D) : mClear ds = some ([], .non) := Eq.trans rfl rfl
end Bk

set_option Elab.async false
set_option linter.all false
set_option maxRecDepth 100000
set_option maxHeartbeats 2000000
namespace Bk
open PySem PySem.Spec PyProof.Rows L2
/-! ### defs that work on the caller's whole store: things within things go in and come back -/
def finW : RS → R D
  | .rt d M' => .ok d M'
  | .nx _ M' => .ok .non M'
  | .exc c d _ M' => .exc c d M'
  | _ => .bad
def runW (n : Nat) (g : GS) (ds : List D) (M : List MO) : R D := finW (g (ds.map some ++ List.replicate (n - ds.length) none) M)
def callW (F : List D → List MO → R D) (ds : List D) (M : List MO) : R D := F ds M
def gCallW (n : Nat) (F : List D → List MO → R D) (ga : GA) : GE := fun Γ M => (ga Γ M).bind fun ds M1 => if ds.length = n then callW F ds M1 else .bad
def gCallWK (n : Nat) (F : List D → List MO → R D) (is : List Nat) (ga gk : GA) : GE := fun Γ M => (ga Γ M).bind fun ds M1 => (gk Γ M1).bind fun es M2 => if (pick (ds ++ es) is).length = n then callW F (pick (ds ++ es) is) M2 else .bad
section
variable {K : PySem.W.Frag} {C : CT} {H Z : Hp} {ι : Nat → Addr} {M : List MO} {E : XK} {Q : VK}
end
section
variable {P : Program} {w : World} {K : PySem.W.Frag} {mg : Str → Option Value} {base : Heap} {C : CT}
end
section
variable {X : Cx} {C : CT} {W : WX} {k : Nat} {f : Addr} {fd : FuncData} {ps : List Str} {F : List D → List MO → R D} {x : Str} {p pos : Pos} {e : Expr} {es : List Expr} {gs : GA}
variable {kws : List Keyword} {gk : GA} {ks : List Str} {is : List Nat} {np : Nat}
end
@[simp] theorem u_gCallW (n : Nat) (F : List D → List MO → R D) (ga : GA) (Γ : Env) (M : List MO) : gCallW n F ga Γ M = (ga Γ M).bind fun ds M1 => if ds.length = n then callW F ds M1 else .bad := Eq.trans rfl rfl
@[simp] theorem u_gCallWK (n : Nat) (F : List D → List MO → R D) (is : List Nat) (ga gk : GA) (Γ : Env) (M : List MO) : gCallWK n F is ga gk Γ M = (ga Γ M).bind fun ds M1 => (gk Γ M1).bind fun es M2 => if (pick (ds ++ es) is).length = n then callW F (pick (ds ++ es) is) M2 else .bad := Eq.trans rfl rfl
@[simp] theorem fw_rt (d : D) (M : List MO) : finW (.rt d M) = .ok d M := Eq.trans rfl rfl
@[simp] theorem fw_nx (Γ : Env) (M : List MO) : finW (.nx Γ M) = .ok .non M := Eq.trans rfl rfl
@[simp] theorem fw_ex (c : Nat) (d : D) (Γ : Env) (M : List MO) : finW (.exc c d Γ M) = .exc c d M := Eq.trans rfl rfl
end Bk

set_option Elab.async false
set_option linter.all false
set_option maxRecDepth 100000
set_option maxHeartbeats 2000000
namespace Bk
open PySem PySem.Spec PyProof.Rows L2
/-! ### keys -/
mutual
/-- the key that a tree is -/
def keyD : D → Option NestedKey
  | .non => some .none
  | .int i => some (.num i)
  | .tup ds => (keysD ds).map .tup
  | .ptu ds => (keysD ds).map .tup
  | _ => none
def keysD : List D → Option (List NestedKey)
  | [] => some []
  | d :: ds => match keyD d, keysD ds with
    | some k, some ks => some (k :: ks)
    | _, _ => none
end
section
variable {K : PySem.W.Frag} {H Z : Hp} {ι : Nat → Addr} {n : Nat}
end
section
variable {X : Cx} {pins : List (Addr × Obj)} {σ : L2.St} {H : Hp} {s : Shared}
mutual
theorem KeyV.is (I : Inv X pins σ H s) : ∀ (k : NestedKey) (v : V) (u : Value), KeyV X.K H k v → RelV v u → NestedIs s.heap k u
  | .none, _, _, h, r => by
    cases h
    have r' : _ = Value.none := r
    rw [r']
    exact .none
  | .num i, _, _, h, r => by
    cases h
    obtain ⟨t, rfl⟩ := r
    exact .int i t
  | .text _, _, _, h, _ => by cases h
  | .tup ks, _, _, h, r => by
    cases h with
    | tup sq kv =>
      have r' : _ = Value.ref _ := r
      rw [r']
      obtain ⟨its, rv, ⟨o, ho, hc, m, hd⟩, _⟩ := I.tuple sq
      exact .tup ho hc hd (by simpa using KeyVs.is I ks _ _ kv rv)
theorem KeyVs.is (I : Inv X pins σ H s) : ∀ (ks : List NestedKey) (vs : List V) (us : List Value), KeyVs X.K H ks vs → Vals vs us → NestedAll s.heap ks us
  | [], _, _, h, r => by
    cases h
    cases r
    exact .nil
  | k :: ks, _, _, h, r => by
    cases h with
    | cons h1 h2 =>
      cases r with
      | cons r1 r2 => exact .cons (KeyV.is I k _ _ h1 r1) (KeyVs.is I ks _ _ h2 r2)
end
abbrev NK (X : Cx) := nestedKind X.prog X.w
/-- a dict as the library tells of it -/
theorem Ents.trip (I : Inv X pins σ H s) : ∀ {nks : List NestedKey} {ks vs : List V} {es : List DictEntry}, Ents X.K H nks ks vs es → AllRef ks →
    ∃ xs : List (NestedKey × Addr × Value), es = xs.map (entryOfKey (NK X)) ∧ xs.map (·.1) = nks ∧ (∀ x ∈ xs, (NK X).is s.heap x.1 x.2.1) ∧ xs.length = vs.length ∧ ∀ (i : Nat) (v : V), vs[i]? = some v → ∃ x, xs[i]? = some x ∧ RelV v x.2.2
  | _, _, _, _, .nil, _ => ⟨[], rfl, rfl, by simp, rfl, by simp⟩
  | _, _, _, _, .cons (k := k) (y := y) (ku := ku) (v := v) (u := u) (hs := hs) a ry d h r t, hr => by
    obtain ⟨xs, e1, e2, e3, e4, e5⟩ := Ents.trip I t fun x hx => hr x (List.mem_cons_of_mem _ hx)
    obtain ⟨b, rfl⟩ := hr y (List.mem_cons_self)
    obtain rfl : ku = Value.ref b := ry
    refine ⟨(k, b, u) :: xs, ?_, by simp [e2], fun x hx => ?_, by simp [e4], fun i w hw => ?_⟩
    · rw [List.map_cons, ← e1]
      congr 1
      show (⟨hs, .ref b, u⟩ : DictEntry) = ⟨k.hash X.w, .ref b, u⟩
      rw [h X.w]
    · rcases List.mem_cons.mp hx with rfl | hx
      · exact ⟨KeyV.is I k _ _ a rfl, d⟩
      · exact e3 x hx
    · cases i with
      | zero =>
        have : v = w := by simpa using hw
        subst this
        exact ⟨(k, b, u), rfl, r⟩
      | succ i =>
        obtain ⟨x, hx, rx⟩ := e5 i w (by simpa using hw)
        exact ⟨x, by simpa using hx, rx⟩
theorem ExD.of (I : Inv X pins σ H s) {a : Addr} {nks : List NestedKey} {ks vs : List V} (h : ExD X.K H a nks ks vs) (hrf : AllRef ks) :
    ∃ xs : List (NestedKey × Addr × Value), s.heap.DictOfH (NK X) a xs ∧ xs.map (·.1) = nks ∧ xs.length = vs.length ∧ ∀ (i : Nat) (v : V), vs[i]? = some v → ∃ x, xs[i]? = some x ∧ RelV v x.2.2 := by
  obtain ⟨es, ep, h1, h2, h3, h4, h5⟩ := h
  obtain ⟨xs, e1, e2, e3, e4, e5⟩ := Ents.trip I h5 hrf
  obtain ⟨⟨o, ho, hx, hd⟩, _, _⟩ := I.hok a _ h1
  exact ⟨xs, ⟨o, es, ep, ho, hx, hd, e1, e3, by rw [e2]; exact h4⟩, e2, e4, e5⟩
end
theorem Ents.keys {K : PySem.W.Frag} {Z : Hp} : ∀ {nks : List NestedKey} {ks vs : List V} {es : List DictEntry}, Ents K Z nks ks vs es → KeyVs K Z nks ks ∧ ∃ us, Vals ks us
  | _, _, _, _, .nil => ⟨.nil, [], .nil⟩
  | _, _, _, _, .cons (ku := ku) a ry d h r t => by
    obtain ⟨h1, us, h2⟩ := Ents.keys t
    exact ⟨.cons a h1, ku :: us, .cons ry h2⟩
theorem ExD.keys {X : Cx} {pins : List (Addr × Obj)} {σ : L2.St} {H : Hp} {s : Shared} (I : Inv X pins σ H s) {a : Addr} {nks nks' : List NestedKey} {ks vs : List V} (h : ExD X.K H a nks ks vs) (h' : KeyVs X.K H nks' ks) : nks = nks' := by
  obtain ⟨es, ep, h1, h2, h3, h4, h5⟩ := h
  obtain ⟨k1, us, k2⟩ := h5.keys
  exact NestedAll.inj _ _ _ (KeyVs.is I _ _ _ k1 k2) (KeyVs.is I _ _ _ h' k2)
def posK (k : NestedKey) : List NestedKey → Option Nat
  | [] => none
  | x :: xs => if x = k then some 0 else (posK k xs).map (· + 1)
/-! ### d[k] -/
def isTup : D → Bool
  | .tup _ => true
  | .ptu _ => true
  | _ => false
/-- the place of a key, and the value there -/
def lookD (ks vs : List D) (y : D) : Option (Option D) := match keysD ks, keyD y with
  | some nks, some k => if (ks.all isTup && isTup y && decide (k.depth ≤ 8)) = true then some ((posK k nks).bind fun i => vs[i]?) else none
  | _, _ => none
/-- a dict, frozen or ours -/
def dctD (M : List MO) : D → Option (List D × List D)
  | .dct ks vs => some (ks, vs)
  | .ref k => match M[k]? with
    | some (.dct ks vs) => some (ks, vs)
    | _ => none
  | _ => none
section
variable {X : Cx}
theorem dctD_run {H Z : Hp} {ι : Nat → Addr} {M : List MO} {d : D} {v : V} {p : List D × List D} (hr : HR X.K H Z ι M) (r : Rp X.K Z ι M.length d v) (e : dctD M d = some p) :
    ∃ (a : Addr) (nks : List NestedKey) (kx xs : List V), v = .ref a ∧ ExD X.K H a nks kx xs ∧ Rps X.K Z ι M.length p.1 kx ∧ Rps X.K Z ι M.length p.2 xs := by
  cases r with
  | dct s rk rv =>
    cases e
    exact ⟨_, _, _, _, rfl, subD hr.sub s, rk, rv⟩
  | ref hk =>
    rename_i k
    have e' : (match M[k]? with
      | some (.dct ks vs) => some (ks, vs)
      | _ => none) = some p := e
    cases e1 : M[k]? with
    | none => rw [e1] at e'; cases e'
    | some o =>
      rw [e1] at e'
      cases o with
      | dct ks vs =>
        cases e'
        obtain ⟨nks, kx, xs, ⟨es, ep, h1, h2, h3, h4, h5⟩, rk, rv⟩ := hr.obj k _ e1
        exact ⟨_, nks, kx, xs, rfl, ⟨es, ep, h1, h2, h3, h4, h5.sub hr.sub⟩, rk, rv⟩
      | _ => cases e'
  | _ => cases e
end
end Bk

set_option Elab.async false
set_option linter.all false
set_option maxRecDepth 100000
set_option maxHeartbeats 2000000
namespace Bk
open PySem PySem.Spec PyProof.Rows L2
/-! ### d[k] = v for a dict that is being made -/
section
variable {K : PySem.W.Frag} {Z Z' : Hp}
mutual
theorem KeyV.map (ht : ∀ (a : Addr) (xs : List V), SqT K Z a xs → SqT K Z' a xs) : ∀ (k : NestedKey) (v : V), KeyV K Z k v → KeyV K Z' k v
  | .none, _, h => by cases h; exact .non
  | .num i, _, h => by cases h; exact .int i
  | .text x, _, h => by cases h
  | .tup ks, _, h => by
    cases h with
    | tup s r => exact .tup (ht _ _ s) (KeyVs.map ht ks _ r)
theorem KeyVs.map (ht : ∀ (a : Addr) (xs : List V), SqT K Z a xs → SqT K Z' a xs) : ∀ (ks : List NestedKey) (vs : List V), KeyVs K Z ks vs → KeyVs K Z' ks vs
  | [], _, h => by cases h; exact .nil
  | k :: ks, _, h => by
    cases h with
    | cons r s => exact .cons (KeyV.map ht k _ r) (KeyVs.map ht ks _ s)
end
mutual
/-- no text in a key: its hash is the same in every world -/
theorem KeyV.free : ∀ (k : NestedKey) (v : V), KeyV K Z k v → ∀ w w' : World, k.hash w = k.hash w'
  | .none, _, _, _, _ => rfl
  | .num _, _, _, _, _ => rfl
  | .text _, _, h, _, _ => by cases h
  | .tup ks, _, h, w, w' => by
    cases h with
    | tup s r =>
      unfold NestedKey.hash
      rw [KeyVs.free ks _ r w w']
theorem KeyVs.free : ∀ (ks : List NestedKey) (vs : List V), KeyVs K Z ks vs → ∀ w w' : World, NestedKey.hashes w ks = NestedKey.hashes w' ks
  | [], _, _, _, _ => rfl
  | k :: ks, _, h, w, w' => by
    cases h with
    | cons r s =>
      unfold NestedKey.hashes
      rw [KeyV.free k _ r w w', KeyVs.free ks _ s w w']
end
theorem Ents.map (ht : ∀ (a : Addr) (xs : List V), SqT K Z a xs → SqT K Z' a xs) : ∀ {ks : List NestedKey} {kv vs : List V} {es : List DictEntry}, Ents K Z ks kv vs es → Ents K Z' ks kv vs es
  | _, _, _, _, .nil => .nil
  | _, _, _, _, .cons a y b c d e => .cons (KeyV.map ht _ _ a) y b c d (Ents.map ht e)
theorem Ents.snoc {k : NestedKey} {y : V} {ku : Value} {z : V} {r : Value} {hs : Int} (hk : KeyV K Z k y) (hy : RelV y ku) (hd : k.depth ≤ 8) (hh : ∀ w : World, hs = k.hash w) (hr : RelV z r) : ∀ {nks : List NestedKey} {ks vs : List V} {es : List DictEntry}, Ents K Z nks ks vs es →
    Ents K Z (nks ++ [k]) (ks ++ [y]) (vs ++ [z]) (es ++ [⟨hs, ku, r⟩])
  | _, _, _, _, .nil => .cons hk hy hd hh hr .nil
  | _, _, _, _, .cons a y b c d e => .cons a y b c d (Ents.snoc hk hy hd hh hr e)
end
section
variable {X : Cx} {pins : List (Addr × Obj)} {σ : L2.St} {H : Hp} {s : Shared}
end
end Bk

set_option Elab.async false
set_option linter.all false
set_option maxRecDepth 100000
set_option maxHeartbeats 2000000
namespace Bk
open PySem PySem.Spec PyProof.Rows L2
/-! ### {k: v for t in it}, keys nested tuples: the dict in the making is an object of its own -/
section
variable {X : Cx} {kx vx tg iter : Expr} {ifs : List Expr} {scope : Scope} {own : List (Str × Nat)} {pos : Pos} {wi : TI} {g : TG} {tt : TT} {tk tv : TE}
end
end Bk

set_option Elab.async false
set_option linter.all false
set_option maxRecDepth 100000
set_option maxHeartbeats 2000000
namespace Bk
open PySem PySem.Spec PyProof.Rows L2
/-! ### dict comprehensions, as trees -/
/-- d[k] = v -/
def putKV (ks vs : List D) (k v : D) : Option (List D × List D) := match keysD ks, keyD k with
  | some nks, some nk => if (isTup k && decide (nk.depth ≤ 8) && decide (vs.length < sizeLine)) = true then (match posK nk nks with
    | some i => some (ks, vs.set i v)
    | none => some (ks ++ [k], vs ++ [v])) else none
  | _, _ => none
def gDcL (gg : GG) (gt : GT) (gk gv : GE) (Γ : Env) : List D → List D → List D → List MO → R D
  | [], ks, vs, M => .ok (.dct ks vs) M
  | d :: ds, ks, vs, M => match gg d Γ with
    | none => .bad
    | some Γ1 => (gt Γ1 M).only fun b M1 => if b = true then (gk Γ1 M1).only fun k M2 => (gv Γ1 M2).only fun v M3 => match putKV ks vs k v with
        | some r => gDcL gg gt gk gv Γ ds r.1 r.2 M3
        | none => .bad
      else gDcL gg gt gk gv Γ ds ks vs M1
def gDc (gi : GI) (gg : GG) (gt : GT) (gk gv : GE) (own : List Nat) : GE := fun Γ M => (gi Γ M).bind fun ds M1 => gDcL gg gt gk gv (forget Γ own) ds [] [] M1
/-- a dict that is being made, as it stands -/
def DI (K : PySem.W.Frag) (H Z : Hp) (ι : Nat → Addr) (n : Nat) (p : Addr) (ks vs : List D) : Prop :=
  ∃ (es : Array DictEntry) (ep : Nat) (nks : List NestedKey) (kx xs : List V), H p = some (dnO p es ep) ∧ Ents K Z nks kx xs es.toList ∧ nks.Nodup ∧ Rps K Z ι n ks kx ∧ Rps K Z ι n vs xs ∧ keysD ks = some nks ∧ kx.length ≤ sizeLine ∧ kx.length = xs.length ∧ AllRef kx
theorem DI.ext {K : PySem.W.Frag} {H Z H1 Z1 : Hp} {ι ι1 : Nat → Addr} {n n1 : Nat} {p : Addr} {ks vs : List D} (h : DI K H Z ι n p ks vs) (od : Odd Z ι n p) (e : Ext H Z ι n H1 Z1 ι1 n1) : DI K H1 Z1 ι1 n1 p ks vs := by
  obtain ⟨es, ep, nks, kx, xs, h1, h2, h3, h4, h5, h6, h7, h8, h9⟩ := h
  exact ⟨es, ep, nks, kx, xs, (od.ext h1 e).2, h2.sub e.zz, h3, h4.ext e, h5.ext e, h6, h7, h8, h9⟩
section
variable {X : Cx} {C : CT} {W : WX}
end
end Bk

set_option Elab.async false
set_option linter.all false
set_option maxRecDepth 100000
set_option maxHeartbeats 2000000
namespace Bk
open PySem PySem.Spec PyProof.Rows L2
/-! ### for k in d -/
def KeyAt (es : Array DictEntry) (kx : List V) : Prop := es.size = kx.length ∧ ∀ (i : Nat) (x : V), kx[i]? = some x → ∃ en, es[i]? = some en ∧ RelV x en.key
theorem Ents.keyAt {K : PySem.W.Frag} {Z : Hp} : ∀ {nks : List NestedKey} {ks vs : List V} {es : List DictEntry}, Ents K Z nks ks vs es → es.length = ks.length ∧ ∀ (i : Nat) (x : V), ks[i]? = some x → ∃ en, es[i]? = some en ∧ RelV x en.key
  | _, _, _, _, .nil => ⟨rfl, by simp⟩
  | _, _, _, _, .cons (y := y) (ku := ku) a ry d h r t => by
    obtain ⟨h1, h2⟩ := Ents.keyAt t
    refine ⟨by simp [h1], fun i x hx => ?_⟩
    cases i with
    | zero =>
      have : y = x := by simpa using hx
      subst this
      exact ⟨_, rfl, ry⟩
    | succ i =>
      obtain ⟨en, e1, e2⟩ := h2 i x (by simpa using hx)
      exact ⟨en, by simpa using e1, e2⟩
section
variable {P : Program} {w : World} {K : PySem.W.Frag} {tg : Expr} {d : Addr} {es : Array DictEntry} {ep : Nat} {kx : List V}
end
def dKeys : D → Option (List D)
  | .dct ks _ => some ks
  | _ => none
def gKeysI (ge : GE) : GI := fun Γ M => (ge Γ M).bind fun d M1 => opR (dKeys d) M1
@[simp] theorem u_gKeysI (ge : GE) (Γ : Env) (M : List MO) : gKeysI ge Γ M = (ge Γ M).bind fun d M1 => opR (dKeys d) M1 := Eq.trans rfl rfl
@[simp] theorem e_keys (ks vs : List D) : dKeys (.dct ks vs) = some ks := Eq.trans rfl rfl
end Bk

set_option Elab.async false
set_option linter.all false
set_option maxRecDepth 100000
set_option maxHeartbeats 2000000
namespace Bk
open PySem PySem.Spec PyProof.Rows L2
/-! ### len(d) -/
def dLenN (M : List MO) (x : D) : Option D := match dctD M x with
  | some p => some (.int (p.2.length : Nat))
  | none => dLen M x
@[simp] theorem e_lenN (M : List MO) (ks vs : List D) : dLenN M (.dct ks vs) = some (.int (vs.length : Nat)) := Eq.trans rfl rfl
end Bk

set_option Elab.async false
set_option linter.all false
set_option maxRecDepth 100000
set_option maxHeartbeats 2000000
namespace Bk
open PySem PySem.Spec PyProof.Rows L2
/-! ### for v in d.values() -/
section
variable {P : Program} {w : World} {K : PySem.W.Frag} {tg : Expr} {d : Addr} {es : Array DictEntry} {ep : Nat} {xs : List V}
end
def dVals : D → Option (List D)
  | .dct _ vs => some vs
  | _ => none
def gValsI (ge : GE) : GI := fun Γ M => (ge Γ M).bind fun d M1 => opR (dVals d) M1
@[simp] theorem u_gValsI (ge : GE) (Γ : Env) (M : List MO) : gValsI ge Γ M = (ge Γ M).bind fun d M1 => opR (dVals d) M1 := Eq.trans rfl rfl
@[simp] theorem e_vals (ks vs : List D) : dVals (.dct ks vs) = some vs := Eq.trans rfl rfl
end Bk

set_option Elab.async false
set_option linter.all false
set_option maxRecDepth 100000
set_option maxHeartbeats 2000000
namespace Bk
open PySem PySem.Spec PyProof.Rows L2
/-! ### for k, v in d.items() -/
section
variable {P : Program} {w : World} {K : PySem.W.Frag} {d : Addr} {es : Array DictEntry} {ep : Nat} {kx xs : List V}
end
def pairsD (ks vs : List D) : List D := (ks.zip vs).map fun p => .tup [p.1, p.2]
def dItems : D → Option (List D)
  | .dct ks vs => some (pairsD ks vs)
  | _ => none
def gItemsI (ge : GE) : GI := fun Γ M => (ge Γ M).bind fun d M1 => opR (dItems d) M1
@[simp] theorem u_gItemsI (ge : GE) (Γ : Env) (M : List MO) : gItemsI ge Γ M = (ge Γ M).bind fun d M1 => opR (dItems d) M1 := Eq.trans rfl rfl
@[simp] theorem e_items (ks vs : List D) : dItems (.dct ks vs) = some (pairsD ks vs) := Eq.trans rfl rfl
end Bk

set_option Elab.async false
set_option linter.all false
set_option maxRecDepth 100000
set_option maxHeartbeats 2000000
namespace Bk
open PySem PySem.Spec PyProof.Rows L2
/-! ### d.get(k, x) -/
def dGetN (M : List MO) (x y z : D) : Option D := match dctD M x with
  | some p => (lookD p.1 p.2 y).map fun o => o.getD z
  | none => none
def isDct (M : List MO) (d : D) : Bool := match dctD M d with
  | some p => p.1.all isTup
  | none => false
def gGetN (go gk gx : GE) : GE := fun Γ M => (go Γ M).bind fun x M1 => if isDct M1 x = true then (gk Γ M1).bind fun y M2 => (gx Γ M2).bind fun z M3 => opR (dGetN M3 x y z) M3 else .bad
@[simp] theorem u_gGetN (go gk gx : GE) (Γ : Env) (M : List MO) : gGetN go gk gx Γ M = (go Γ M).bind fun x M1 => if isDct M1 x = true then (gk Γ M1).bind fun y M2 => (gx Γ M2).bind fun z M3 => opR (dGetN M3 x y z) M3 else .bad := Eq.trans rfl rfl
end Bk

set_option Elab.async false
set_option linter.all false
set_option maxRecDepth 100000
set_option maxHeartbeats 4000000
namespace Bk
open PySem PySem.Spec PyProof.Rows L2
/-! ### {k: v for t in it for t1 in it1} -/
section
variable {prog : Program} {w : World} {A : Around} {R : Result → Shared → Prop} {s : Shared} {kx vx t0 i0 t1 i1 : Expr} {ifs0 ifs1 : List Expr} {scope : Scope} {pos : Pos} {it : Value} {D : Addr} {env : PySem.Env}
end
section
variable {X : Cx} {kx vx tg iter tg1 iter1 : Expr} {ifs ifs1 : List Expr} {scope : Scope} {own : List (Str × Nat)} {vs1 : List Nat} {pos : Pos} {wi wi1 : TI} {g g1 : TG} {tt tt1 : TT} {tk tv : TE}
end
end Bk

set_option Elab.async false
set_option linter.all false
set_option maxRecDepth 100000
set_option maxHeartbeats 4000000
namespace Bk
open PySem PySem.Spec PyProof.Rows L2
/-! ### {k: v for t in it for t1 in it1}, as trees -/
def gDcI (gg : GG) (gt : GT) (gk gv : GE) (Γ : Env) : List D → List D → List D → List MO → R (List D × List D)
  | [], ks, vs, M => .ok (ks, vs) M
  | d :: ds, ks, vs, M => match gg d Γ with
    | none => .bad
    | some Γ1 => (gt Γ1 M).only fun b M1 => if b = true then (gk Γ1 M1).only fun k M2 => (gv Γ1 M2).only fun v M3 => match putKV ks vs k v with
        | some r => gDcI gg gt gk gv Γ ds r.1 r.2 M3
        | none => .bad
      else gDcI gg gt gk gv Γ ds ks vs M1
def gDcO (gg : GG) (gt : GT) (gi1 : GI) (gg1 : GG) (gt1 : GT) (gk gv : GE) (vs1 : List Nat) (Γ : Env) : List D → List D → List D → List MO → R D
  | [], ks, vs, M => .ok (.dct ks vs) M
  | d :: ds, ks, vs, M => match gg d Γ with
    | none => .bad
    | some Γ1 => (gt Γ1 M).only fun b M1 => if b = true then (gi1 Γ1 M1).only fun ds1 M2 => (gDcI gg1 gt1 gk gv (forget Γ1 vs1) ds1 ks vs M2).only fun r M3 => gDcO gg gt gi1 gg1 gt1 gk gv vs1 Γ ds r.1 r.2 M3
      else gDcO gg gt gi1 gg1 gt1 gk gv vs1 Γ ds ks vs M1
def gDc2 (gi : GI) (gg : GG) (gt : GT) (gi1 : GI) (gg1 : GG) (gt1 : GT) (gk gv : GE) (own vs1 : List Nat) : GE := fun Γ M => (gi Γ M).bind fun ds M1 => gDcO gg gt gi1 gg1 gt1 gk gv vs1 (forget Γ own) ds [] [] M1
section
variable {X : Cx} {C : CT} {W : WX}
section
variable {kx vx tg iter tg1 iter1 : Expr} {ifs ifs1 : List Expr} {scope : Scope} {own : List (Str × Nat)} {pos spos py : Pos} {gi gi1 : GI} {gg gg1 : GG} {gt gt1 : GT} {gk gv : GE} {is is1 ixs vs1 : List Nat}
end
end
@[simp] theorem u_gDc2 (gi : GI) (gg : GG) (gt : GT) (gi1 : GI) (gg1 : GG) (gt1 : GT) (gk gv : GE) (own vs1 : List Nat) (Γ : Env) (M : List MO) : gDc2 gi gg gt gi1 gg1 gt1 gk gv own vs1 Γ M = (gi Γ M).bind fun ds M1 => gDcO gg gt gi1 gg1 gt1 gk gv vs1 (forget Γ own) ds [] [] M1 := Eq.trans rfl rfl
@[simp] theorem u_gDc (gi : GI) (gg : GG) (gt : GT) (gk gv : GE) (own : List Nat) (Γ : Env) (M : List MO) : gDc gi gg gt gk gv own Γ M = (gi Γ M).bind fun ds M1 => gDcL gg gt gk gv (forget Γ own) ds [] [] M1 := Eq.trans rfl rfl
end Bk

set_option Elab.async false
set_option linter.all false
set_option maxRecDepth 100000
set_option maxHeartbeats 4000000
namespace Bk
open PySem PySem.Spec PyProof.Rows L2
/-! ### sum(d.values()) -/
def gSumV (ge : GE) : GE := fun Γ M => (ge Γ M).bind fun d M1 => opR (match d with
  | .dct _ vs => (intsD vs).map fun is => .int is.sum
  | _ => none) M1
@[simp] theorem u_gSumV (ge : GE) (Γ : Env) (M : List MO) : gSumV ge Γ M = (ge Γ M).bind fun d M1 => opR (match d with
  | .dct _ vs => (intsD vs).map fun is => .int is.sum
  | _ => none) M1 := Eq.trans rfl rfl
end Bk

set_option Elab.async false
set_option linter.all false
set_option maxRecDepth 100000
set_option maxHeartbeats 4000000
namespace Bk
open PySem PySem.Spec PyProof.Rows L2
/-! ### a new thing of ours, from a thing that is neither frozen nor ours -/
section
variable {K : PySem.W.Frag} {H Z : Hp} {ι : Nat → Addr} {M : List MO} {p : Addr}
end
/-! ### dict displays -/
section
variable {X : Cx} {C : CT} {W : WX} {pos : Pos}
def gDct0 : GE := fun _ M => .ok (.dct [] []) M
def gDct0O : GE := fun _ M => .ok (.ref M.length) (M ++ [.dct [] []])
def gDki0O : GE := fun _ M => .ok (.ref M.length) (M ++ [.dki []])
def okKey (k : D) : Bool := isTup k && match keyD k with
  | some nk => decide (nk.depth ≤ 8)
  | none => false
def gDisp1 (ga gb : GE) : GE := fun Γ M => (ga Γ M).bind fun k M1 => (gb Γ M1).bind fun v M2 => if okKey k = true then .ok (.dct [k] [v]) M2 else .bad
def gDisp1O (ga gb : GE) : GE := fun Γ M => (ga Γ M).bind fun k M1 => (gb Γ M1).bind fun v M2 => if okKey k = true then .ok (.ref M2.length) (M2 ++ [.dct [k] [v]]) else .bad
@[simp] theorem u_gDct0 (Γ : Env) (M : List MO) : gDct0 Γ M = .ok (.dct [] []) M := Eq.trans rfl rfl
@[simp] theorem u_gDct0O (Γ : Env) (M : List MO) : gDct0O Γ M = .ok (.ref M.length) (M ++ [.dct [] []]) := Eq.trans rfl rfl
@[simp] theorem u_gDki0O (Γ : Env) (M : List MO) : gDki0O Γ M = .ok (.ref M.length) (M ++ [.dki []]) := Eq.trans rfl rfl
@[simp] theorem u_gDisp1 (ga gb : GE) (Γ : Env) (M : List MO) : gDisp1 ga gb Γ M = (ga Γ M).bind fun k M1 => (gb Γ M1).bind fun v M2 => if okKey k = true then .ok (.dct [k] [v]) M2 else .bad := Eq.trans rfl rfl
@[simp] theorem u_gDisp1O (ga gb : GE) (Γ : Env) (M : List MO) : gDisp1O ga gb Γ M = (ga Γ M).bind fun k M1 => (gb Γ M1).bind fun v M2 => if okKey k = true then .ok (.ref M2.length) (M2 ++ [.dct [k] [v]]) else .bad := Eq.trans rfl rfl
end
end Bk

set_option Elab.async false
set_option linter.all false
set_option maxRecDepth 100000
set_option maxHeartbeats 4000000
namespace Bk
open PySem PySem.Spec PyProof.Rows L2
/-! ### tuples that are known to have no dict -/
section
variable {X : Cx} {C : CT} {W : WX} {pos : Pos}
def gTup0P : GE := fun _ M => .ok (.ptu []) M
theorem After.ptu {H Z : Hp} {ι : Nat → Addr} {M : List MO} {ds : List D} {Q : VK} {xs : List V} (h : After X H Z ι M (.ptu ds) Q) (hr : HR X.K H Z ι M) (r : Rps X.K Z ι M.length ds xs) : ∀ (p : Addr) (o : Obj), H p = none → o.dict = none → Q (.ref p) (upd H p (.frz o (.tup xs))) := fun p o hp ho => by
  obtain ⟨h1, e1⟩ := hr.frozen (o := .frz o (.tup xs)) hp
  exact h _ _ _ e1 h1 (.ptu ⟨o, upd_same, ho⟩ (r.ext e1))
end
/-! ### sorted, pairs of ints -/
def duoD (p : Int × Int) : D := .tup [.int p.1, .int p.2]
def pairsOf : List D → Option (List (Int × Int))
  | [] => some []
  | .tup [.int a, .int b] :: ds => (pairsOf ds).map ((a, b) :: ·)
  | _ => none
@[simp] theorem pairsOf_map (ps : List (Int × Int)) : pairsOf (ps.map duoD) = some ps := by
  induction ps with
  | nil => rfl
  | cons p ps ih => simp [pairsOf, duoD] at ih ⊢; exact ih
section
variable {X : Cx}
end
@[simp] theorem u_gTup0P (Γ : Env) (M : List MO) : gTup0P Γ M = .ok (.ptu []) M := Eq.trans rfl rfl
end Bk

set_option Elab.async false
set_option linter.all false
set_option maxRecDepth 100000
set_option maxHeartbeats 4000000
namespace Bk
open PySem PySem.Spec PyProof.Rows L2
/-! ### dicts of ours with whole numbers as keys -/
def kiGet : List (Int × D) → Int → Option D
  | [], _ => none
  | p :: r, i => if p.1 = i then some p.2 else kiGet r i
def kiHas : List (Int × D) → Int → Bool
  | [], _ => false
  | p :: r, i => decide (p.1 = i) || kiHas r i
def kiRep : List (Int × D) → Int → D → List (Int × D)
  | [], _, _ => []
  | p :: r, i, d => (if p.1 = i then (p.1, d) else p) :: kiRep r i d
def kiPut (kvs : List (Int × D)) (i : Int) (d : D) : List (Int × D) := if kiHas kvs i = true then kiRep kvs i d else kvs ++ [(i, d)]
/-- the entries as they stand -/
inductive KiR (K : PySem.W.Frag) (Z : Hp) (ι : Nat → Addr) (n : Nat) : List (Int × D) → List (L2.Key × V) → Prop
  | nil : KiR K Z ι n [] []
  | cons {i : Int} {d : D} {v : V} {ks : List (Int × D)} {gs : List (L2.Key × V)} : Rp K Z ι n d v → KiR K Z ι n ks gs → KiR K Z ι n ((i, d) :: ks) ((Sum.inl i, v) :: gs)
section
variable {K : PySem.W.Frag} {Z : Hp} {ι : Nat → Addr} {n : Nat}
theorem KiR.of : ∀ {ks : List (Int × D)} {gs : List (L2.Key × V)}, gs.map (·.1) = ks.map (fun p => Sum.inl p.1) → Rps K Z ι n (ks.map (·.2)) (gs.map (·.2)) → KiR K Z ι n ks gs
  | [], [], _, _ => .nil
  | [], g :: gs, h, _ => by simp at h
  | k :: ks, [], h, _ => by simp at h
  | (i, d) :: ks, (j, v) :: gs, h, r => by
    simp only [List.map_cons, List.cons.injEq] at h
    obtain ⟨rfl, h2⟩ := h
    simp only [List.map_cons] at r
    cases r with
    | cons r1 r2 => exact .cons r1 (KiR.of h2 r2)
theorem KiR.back : ∀ {ks : List (Int × D)} {gs : List (L2.Key × V)}, KiR K Z ι n ks gs → gs.map (·.1) = ks.map (fun p => Sum.inl p.1) ∧ Rps K Z ι n (ks.map (·.2)) (gs.map (·.2)) ∧ Rps K Z ι n (ks.map fun p => .int p.1) (gs.map fun p => kV p.1) ∧ ks.length = gs.length
  | _, _, .nil => ⟨rfl, .nil, .nil, rfl⟩
  | _, _, .cons r s => by
    obtain ⟨a, b, c, d⟩ := s.back
    exact ⟨by simp [a], .cons r b, .cons (.int _) c, by simp [d]⟩
theorem KiR.get (i : Int) : ∀ {ks : List (Int × D)} {gs : List (L2.Key × V)}, KiR K Z ι n ks gs → (match kiGet ks i with
    | some d => ∃ v, valV gs (Sum.inl i) = some v ∧ Rp K Z ι n d v
    | none => valV gs (Sum.inl i) = none)
  | _, _, .nil => rfl
  | _, _, .cons (i := j) (d := d) (v := v) r s => by
    by_cases e : j = i
    · subst e
      simp only [kiGet, if_true]
      exact ⟨v, valV_pos rfl, r⟩
    · have ne : ¬ ((Sum.inl j : L2.Key) = Sum.inl i) := fun z => e (Sum.inl.inj z)
      simp only [kiGet, if_neg e]
      have ih := s.get i
      rw [valV_neg (p := ((Sum.inl j : L2.Key), v)) ne]
      exact ih
theorem KiR.has (i : Int) : ∀ {ks : List (Int × D)} {gs : List (L2.Key × V)}, KiR K Z ι n ks gs → (gs.any fun kv => decide (kv.1 = Sum.inl i)) = kiHas ks i
  | _, _, .nil => rfl
  | _, _, .cons (i := j) r s => by
    rw [List.any_cons, s.has i]
    have : (decide ((Sum.inl j : L2.Key) = Sum.inl i)) = decide (j = i) := by
      rw [decide_eq_decide]
      exact ⟨fun z => Sum.inl.inj z, fun z => by rw [z]⟩
    rw [this]
    rfl
theorem KiR.rep (i : Int) {d : D} {v : V} (rv : Rp K Z ι n d v) : ∀ {ks : List (Int × D)} {gs : List (L2.Key × V)}, KiR K Z ι n ks gs → KiR K Z ι n (kiRep ks i d) (gs.map fun kv => if kv.1 = Sum.inl i then (kv.1, v) else kv)
  | _, _, .nil => .nil
  | _, _, .cons (i := j) (v := w) r s => by
    have ih := s.rep i rv
    by_cases e : j = i
    · subst e
      simp only [kiRep, List.map_cons, if_true]
      exact .cons rv ih
    · have ne : ¬ ((Sum.inl j : L2.Key) = Sum.inl i) := fun z => e (Sum.inl.inj z)
      simp only [kiRep, List.map_cons, if_neg e, if_neg ne]
      exact .cons r ih
theorem KiR.snoc {i : Int} {d : D} {v : V} (rv : Rp K Z ι n d v) : ∀ {ks : List (Int × D)} {gs : List (L2.Key × V)}, KiR K Z ι n ks gs → KiR K Z ι n (ks ++ [(i, d)]) (gs ++ [(Sum.inl i, v)])
  | _, _, .nil => .cons rv .nil
  | _, _, .cons r s => .cons r (s.snoc rv)
theorem KiR.put (i : Int) {d : D} {v : V} (rv : Rp K Z ι n d v) {ks : List (Int × D)} {gs : List (L2.Key × V)} (h : KiR K Z ι n ks gs) : KiR K Z ι n (kiPut ks i d) (putK gs (Sum.inl i) v) := by
  unfold kiPut putK
  rw [h.has i]
  by_cases c : kiHas ks i = true
  · rw [if_pos c, if_pos c]
    exact h.rep i rv
  · rw [if_neg c, if_neg c]
    exact h.snoc rv
def kiMerge (kvs more : List (Int × D)) : List (Int × D) := more.foldl (fun acc p => kiPut acc p.1 p.2) kvs
theorem KiR.mono {Z' : Hp} {ι' : Nat → Addr} {n' : Nat} (hz : Sub Z Z') (hi : ∀ k, k < n → ι' k = ι k) (hn : n ≤ n') : ∀ {ks : List (Int × D)} {gs : List (L2.Key × V)}, KiR K Z ι n ks gs → KiR K Z' ι' n' ks gs
  | _, _, .nil => .nil
  | _, _, .cons r s => .cons (Rp.mono hz hi hn _ _ r) (s.mono hz hi hn)
end
/-! ### dict(t), t a tuple of pairs -/
section
variable {X : Cx}
end
end Bk

set_option Elab.async false
set_option linter.all false
set_option maxRecDepth 100000
set_option maxHeartbeats 4000000
namespace Bk
open PySem PySem.Spec PyProof.Rows L2
/-! ### dict(t) as a dict of ours -/
def kiOf : List D → Option (List (Int × D))
  | [] => some []
  | .tup [.int i, d] :: ds => (kiOf ds).map ((i, d) :: ·)
  | _ => none
@[simp] theorem kiOf_map (ps : List (Int × D)) : kiOf (ps.map fun p => .tup [.int p.1, p.2]) = some ps := by
  induction ps with
  | nil => rfl
  | cons p ps ih => simp [kiOf, ih]
def gDictT (ge : GE) : GE := fun Γ M => (ge Γ M).bind fun x M1 => match x with
  | .ptu ds => match kiOf ds with
    | some kvs => .ok (.ref M1.length) (M1 ++ [.dki (kiMerge [] kvs)])
    | none => .bad
  | _ => .bad
def gGetK (go gk gx : GE) : GE := fun Γ M => (go Γ M).bind fun x M1 => match x with
  | .ref k => match M1[k]? with
    | some (.dki _) => (gk Γ M1).bind fun y M2 => (gx Γ M2).bind fun z M3 => match y, M3[k]? with
      | .int i, some (.dki kvs) => .ok ((kiGet kvs i).getD z) M3
      | _, _ => .bad
    | _ => .bad
  | _ => .bad
section
variable {X : Cx} {C : CT} {W : WX}
/-! ### d[k] = v -/
theorem PSet.or {t t' : TSet} (h : PSet X t) (h' : PSet X t') : PSet X (fun o i v H Q => t o i v H Q ∨ t' o i v H Q) := by
  intro pins s σ H o i v ov iv u Q I ro ri rv q
  rcases q with q | q
  · exact h pins s σ H o i v ov iv u Q I ro ri rv q
  · exact h' pins s σ H o i v ov iv u Q I ro ri rv q
def setX (M : List MO) (o i v : D) : Option (List MO) := match o with
  | .ref k => match M[k]? with
    | some (.dct ks vs) => (putKV ks vs i v).bind fun r => if ks.all isTup = true then some (M.set k (.dct r.1 r.2)) else none
    | some (.dki kvs) => match i with
      | .int j => if kvs.length < sizeLine then some (M.set k (.dki (kiPut kvs j v))) else none
      | _ => none
    | _ => setR M o i v
  | _ => none
def gSetX (ge go gi : GE) : GS := fun Γ M => (ge Γ M).thenS Γ fun v M1 => (go Γ M1).thenS Γ fun o M2 => (gi Γ M2).thenS Γ fun i M3 => match setX M3 o i v with
  | some M4 => .nx Γ M4
  | none => .bad
end
end Bk

set_option Elab.async false
set_option linter.all false
set_option maxRecDepth 100000
set_option maxHeartbeats 4000000
namespace Bk
open PySem PySem.Spec PyProof.Rows L2
/-! ### methods on the whole store -/
def gMethW (nm m : Str) (n : Nat) (F : List D → List MO → R D) (go : GE) (ga : GA) : GE := fun Γ M => (go Γ M).bind fun x M1 => if isObj nm m M1 x = true then (ga Γ M1).bind fun ds M2 => if ds.length + 1 = n then callW F (x :: ds) M2 else .bad else .bad
section
variable {X : Cx} {C : CT} {W : WX} {e o : Expr} {nm f m x : Str} {ge go : GE} {gs : GA} {pos apos pos' p : Pos} {C0 : Addr} {es : List Expr}
variable {k n : Nat} {fa : Addr} {fd : FuncData} {ps : List Str} {F : List D → List MO → R D} {pl : Sem Bool}
end
@[simp] theorem u_gMethW (nm m : Str) (n : Nat) (F : List D → List MO → R D) (go : GE) (ga : GA) (Γ : Env) (M : List MO) : gMethW nm m n F go ga Γ M = (go Γ M).bind fun x M1 => if isObj nm m M1 x = true then (ga Γ M1).bind fun ds M2 => if ds.length + 1 = n then callW F (x :: ds) M2 else .bad else .bad := Eq.trans rfl rfl
/-! ### for k, v in d.items() of a dict of ours with whole numbers as keys; it is not used any more -/
def gItemsK (ge : GE) : GI := fun Γ M => (ge Γ M).bind fun x M1 => match x with
  | .ref k => match M1[k]? with
    | some (.dki kvs) => .ok (kvs.map fun p => .tup [.int p.1, p.2]) (M1.set k .dead)
    | _ => .bad
  | _ => .bad
@[simp] theorem u_gItemsK (ge : GE) (Γ : Env) (M : List MO) : gItemsK ge Γ M = (ge Γ M).bind fun x M1 => match x with
  | .ref k => match M1[k]? with
    | some (.dki kvs) => .ok (kvs.map fun p => .tup [.int p.1, p.2]) (M1.set k .dead)
    | _ => .bad
  | _ => .bad := Eq.trans rfl rfl
@[simp] theorem u_gDictT (ge : GE) (Γ : Env) (M : List MO) : gDictT ge Γ M = (ge Γ M).bind fun x M1 => match x with
  | .ptu ds => match kiOf ds with
    | some kvs => .ok (.ref M1.length) (M1 ++ [.dki (kiMerge [] kvs)])
    | none => .bad
  | _ => .bad := Eq.trans rfl rfl
@[simp] theorem u_gGetK (go gk gx : GE) (Γ : Env) (M : List MO) : gGetK go gk gx Γ M = (go Γ M).bind fun x M1 => match x with
  | .ref k => match M1[k]? with
    | some (.dki _) => (gk Γ M1).bind fun y M2 => (gx Γ M2).bind fun z M3 => match y, M3[k]? with
      | .int i, some (.dki kvs) => .ok ((kiGet kvs i).getD z) M3
      | _, _ => .bad
    | _ => .bad
  | _ => .bad := Eq.trans rfl rfl
@[simp] theorem u_gSetX (ge go gi : GE) (Γ : Env) (M : List MO) : gSetX ge go gi Γ M = (ge Γ M).thenS Γ fun v M1 => (go Γ M1).thenS Γ fun o M2 => (gi Γ M2).thenS Γ fun i M3 => match setX M3 o i v with
  | some M4 => .nx Γ M4
  | none => .bad := Eq.trans rfl rfl
end Bk

set_option Elab.async false
set_option linter.all false
set_option maxRecDepth 100000
set_option maxHeartbeats 4000000
namespace Bk
open PySem PySem.Spec PyProof.Rows L2
@[simp] theorem rr_ptu (m : Nat) (M : List MO) (ds : List D) : retR m M (.ptu ds) = if belows m ds = true then .ok (.ptu ds) (M.take m) else .bad := Eq.trans rfl rfl
@[simp] theorem rr_dct (m : Nat) (M : List MO) (ks vs : List D) : retR m M (.dct ks vs) = if (belows m ks && belows m vs) = true then .ok (.dct ks vs) (M.take m) else .bad := Eq.trans rfl rfl
@[simp] theorem bl_ptu (m : Nat) (ds : List D) : below m (.ptu ds) = belows m ds := Eq.trans rfl rfl
@[simp] theorem bl_dct (m : Nat) (ks vs : List D) : below m (.dct ks vs) = (belows m ks && belows m vs) := Eq.trans rfl rfl
@[simp] theorem blo_dct (m : Nat) (ks vs : List D) : belowO m (.dct ks vs) = (belows m ks && belows m vs) := Eq.trans rfl rfl
@[simp] theorem blo_dki (m : Nat) (kvs : List (Int × D)) : belowO m (.dki kvs) = belows m (kvs.map (·.2)) := Eq.trans rfl rfl
@[simp] theorem it_ptu (M : List MO) (ds : List D) : itemsD M (.ptu ds) = some ds := Eq.trans rfl rfl
@[simp] theorem e_lenNd (M : List MO) (ks vs : List D) : dLenN M (.dct ks vs) = some (.int (vs.length : Nat)) := Eq.trans rfl rfl
@[simp] theorem dn_dct (M : List MO) (ks vs : List D) : dctD M (.dct ks vs) = some (ks, vs) := Eq.trans rfl rfl
@[simp] theorem u_runW (n : Nat) (g : GS) (ds : List D) (M : List MO) : runW n g ds M = finW (g (ds.map some ++ List.replicate (n - ds.length) none) M) := Eq.trans rfl rfl
@[simp] theorem u_callW (F : List D → List MO → R D) (ds : List D) (M : List MO) : callW F ds M = F ds M := Eq.trans rfl rfl
@[simp] theorem seqD_p (ds : List D) : seqD (.ptu ds) = some ds := Eq.trans rfl rfl
end Bk

set_option Elab.async false
set_option linter.all false
set_option maxRecDepth 100000
set_option maxHeartbeats 4000000
namespace Bk
open PySem PySem.Spec PyProof.Rows L2
/-! ### a, b = a list -/
def gToL (gs : GGs) : GG := fun d Γ => match d with
  | .lst ds => gs ds Γ
  | _ => none
section
variable {X : Cx} {es : List Expr} {gs : GGs} {is : List Nat} {pos : Pos}
end
@[simp] theorem u_gToL (gs : GGs) (ds : List D) (Γ : Env) : gToL gs (.lst ds) Γ = gs ds Γ := Eq.trans rfl rfl
end Bk

set_option Elab.async false
set_option linter.all false
set_option maxRecDepth 100000
set_option maxHeartbeats 4000000
namespace Bk
open PySem PySem.Spec PyProof.Rows L2
/-! ### {"a": "b", "c": "d"}[e] -/
def gStrM (a b c d : Str) (ge : GE) : GE := fun Γ M => (ge Γ M).bind fun x M1 => match x with
  | .str s => if s = a then .ok (.str b) M1 else if s = c then .ok (.str d) M1 else .bad
  | _ => .bad
section
variable {X : Cx} {C : CT} {W : WX} {e : Expr} {ge : GE} {pos dp p1 p2 p3 p4 : Pos}
@[simp] theorem u_gStrM (a b c d : Str) (ge : GE) (Γ : Env) (M : List MO) : gStrM a b c d ge Γ M = (ge Γ M).bind fun x M1 => match x with
  | .str s => if s = a then .ok (.str b) M1 else if s = c then .ok (.str d) M1 else .bad
  | _ => .bad := Eq.trans rfl rfl
end
end Bk

set_option Elab.async false
set_option linter.all false
set_option maxRecDepth 100000
set_option maxHeartbeats 2000000
namespace Bk
open PySem PySem.Spec PyProof.Rows L2
/-! ### t < u, t > u of tuples of ints; sorted of a list of them -/
theorem canLay_ints : ∀ is : List Int, toPs (is.map D.int) = some (is.map PyData.int)
  | [] => rfl
  | i :: is => by simp [toPs, toP, canLay_ints is]
theorem toP_ints (is : List Int) : toP (.tup (is.map D.int)) = some (.tuple (is.map .int)) := by simp [toP, canLay_ints is]
theorem alike_tups (a b : List Int) : PySem.W.alike (.tuple (a.map .int)) (.tuple (b.map .int)) = true := by
  rw [PySem.W.alike]
  exact PySem.W.alike_ints a b
theorem depth_tups (a : List Int) : (PyData.tuple (a.map .int)).depth = 1 := by
  simp [PyData.depth, PySem.W.depth_ints a]
theorem lt_tups (a b : List Int) : PySem.W.dataLt (.tuple (a.map .int)) (.tuple (b.map .int)) = decide (a < b) := by
  rw [PySem.W.dataLt_tuple]
  exact PySem.W.dataLt_ints a b
theorem intsL_is : ∀ {ds : List D} {is : List Int}, intsL ds = some is → ds = is.map D.int
  | [], _, h => by cases h; rfl
  | d :: ds, is, h => by
    cases d with
    | int i =>
      have h' : (intsL ds).map (fun is => i :: is) = some is := h
      cases e : intsL ds with
      | none => rw [e] at h'; cases h'
      | some js =>
        rw [e] at h'
        cases h'
        rw [List.map_cons, ← intsL_is e]
    | _ => cases h
def dLtA (M : List MO) (x y : D) : Option D := match x, y with
  | .tup xs, .tup ys => match intsL xs, intsL ys with
    | some ns, some ms => some (.bl (decide (ns < ms)))
    | _, _ => none
  | x, y => dLt M x y
def dGtA (M : List MO) (x y : D) : Option D := match x, y with
  | .tup xs, .tup ys => match intsL xs, intsL ys with
    | some ns, some ms => some (.bl (decide (ms < ns)))
    | _, _ => none
  | x, y => dGt M x y
def rLtD (K : PySem.W.Frag) : R2 := fun x y H Q => ∃ ns ms : List Int, Dp K H x (.tuple (ns.map .int)) ∧ Dp K H y (.tuple (ms.map .int)) ∧ Q (.bl (decide (ns < ms))) H
def rGtD (K : PySem.W.Frag) : R2 := fun x y H Q => ∃ ns ms : List Int, Dp K H x (.tuple (ns.map .int)) ∧ Dp K H y (.tuple (ms.map .int)) ∧ Q (.bl (decide (ms < ns))) H
section
variable {X : Cx}
theorem op_ltD (hu : X.A.units + 65 < cLine) : OpR X (compareOp .Lt) (rLtD X.K) := by
  intro pins s σ H x y v u Q I rx ry h
  obtain ⟨ns, ms, h1, h2, q⟩ := h
  obtain ⟨as, r1⟩ := Dp.reads I _ _ _ h1 rx
  obtain ⟨bs, r2⟩ := Dp.reads I _ _ _ h2 ry
  refine PySem.W.lt_data r1 r2 (alike_tups ns ms) (by simp) (by rw [depth_tups, depth_tups]; omega) ?_
  rw [lt_tups]
  exact ⟨.bl _, H, I, rfl, q⟩
theorem op_gtD (hu : X.A.units + 65 < cLine) : OpR X (compareOp .Gt) (rGtD X.K) := by
  intro pins s σ H x y v u Q I rx ry h
  obtain ⟨ns, ms, h1, h2, q⟩ := h
  obtain ⟨as, r1⟩ := Dp.reads I _ _ _ h1 rx
  obtain ⟨bs, r2⟩ := Dp.reads I _ _ _ h2 ry
  refine PySem.W.gt_data r1 r2 (alike_tups ns ms) (by simp) (by rw [depth_tups, depth_tups]; omega) ?_
  rw [lt_tups]
  exact ⟨.bl _, H, I, rfl, q⟩
theorem op_ltA (hu : X.A.units + 65 < cLine) : OpR X (compareOp .Lt) (fun x y H Q => rLtD X.K x y H Q ∨ rI0 (fun i j => .bl (decide (i < j))) x y H Q) := (op_ltD hu).or op_lt
theorem op_gtA (hu : X.A.units + 65 < cLine) : OpR X (compareOp .Gt) (fun x y H Q => rGtD X.K x y H Q ∨ rI0 (fun i j => .bl (decide (j < i))) x y H Q) := (op_gtD hu).or op_gt
theorem ok_ltA : Ok2 X (fun x y H Q => rLtD X.K x y H Q ∨ rI0 (fun i j => .bl (decide (i < j))) x y H Q) dLtA := fun x y H Z ι M dx dy d Q hr rx ry e q => by
  unfold dLtA at e
  split at e
  · rename_i xs ys
    cases e1 : intsL xs with
    | none => rw [e1] at e; cases e
    | some ns =>
      cases e2 : intsL ys with
      | none => rw [e1, e2] at e; cases e
      | some ms =>
        rw [e1, e2] at e
        cases e
        have w1 := intsL_is e1
        have w2 := intsL_is e2
        subst w1 w2
        exact .inl ⟨ns, ms, toP_dp hr.sub _ _ _ rx (toP_ints ns), toP_dp hr.sub _ _ _ ry (toP_ints ms), q.now hr (.bl _)⟩
  · exact .inr (ok_lt x y H Z ι M dx dy d Q hr rx ry e q)
theorem ok_gtA : Ok2 X (fun x y H Q => rGtD X.K x y H Q ∨ rI0 (fun i j => .bl (decide (j < i))) x y H Q) dGtA := fun x y H Z ι M dx dy d Q hr rx ry e q => by
  unfold dGtA at e
  split at e
  · rename_i xs ys
    cases e1 : intsL xs with
    | none => rw [e1] at e; cases e
    | some ns =>
      cases e2 : intsL ys with
      | none => rw [e1, e2] at e; cases e
      | some ms =>
        rw [e1, e2] at e
        cases e
        have w1 := intsL_is e1
        have w2 := intsL_is e2
        subst w1 w2
        exact .inl ⟨ns, ms, toP_dp hr.sub _ _ _ rx (toP_ints ns), toP_dp hr.sub _ _ _ ry (toP_ints ms), q.now hr (.bl _)⟩
  · exact .inr (ok_gt x y H Z ι M dx dy d Q hr rx ry e q)
end
@[simp] theorem e_ltA_i (M : List MO) (i j : Int) : dLtA M (.int i) (.int j) = some (.bl (decide (i < j))) := Eq.trans rfl rfl
@[simp] theorem e_gtA_i (M : List MO) (i j : Int) : dGtA M (.int i) (.int j) = some (.bl (decide (j < i))) := Eq.trans rfl rfl
theorem room70 {k : Nat} {A : Around} (hr : Room k A) : A.units + 70 < cLine := by have := hr.un; omega
/-! sorted -/
abbrev tupI (is : List Int) : D := .tup (is.map D.int)
def rowsL : List D → Option (List (List Int))
  | [] => some []
  | .tup xs :: ds => match intsL xs with
    | some is => (rowsL ds).map fun rs => is :: rs
    | none => none
  | _ => none
theorem rowsL_map : ∀ rs : List (List Int), rowsL (rs.map tupI) = some rs
  | [] => rfl
  | r :: rs => by
    show (match intsL (r.map D.int) with
    | some is => (rowsL (rs.map tupI)).map fun rs => is :: rs
    | none => none) = _
    rw [intsL_map, rowsL_map rs]
    rfl
theorem rowsL_is : ∀ {ds : List D} {rs : List (List Int)}, rowsL ds = some rs → ds = rs.map tupI
  | [], _, h => by cases h; rfl
  | d :: ds, rs, h => by
    cases d with
    | tup xs =>
      have h' : (match intsL xs with
        | some is => (rowsL ds).map fun rs => is :: rs
        | none => none) = some rs := h
      cases e : intsL xs with
      | none => rw [e] at h'; cases h'
      | some is =>
        rw [e] at h'
        cases e2 : rowsL ds with
        | none => rw [e2] at h'; cases h'
        | some qs =>
          rw [e2] at h'
          cases h'
          rw [List.map_cons, ← rowsL_is e2]
          show D.tup xs :: ds = D.tup (is.map D.int) :: ds
          rw [← intsL_is e]
    | _ => cases h
def leR (p q : List Int) : Bool := decide (p ≤ q)
def srtR (rs : List (List Int)) : List (List Int) := rs.mergeSort leR
def srtOk (rs : List (List Int)) : Bool := decide (rs.length ≤ 1) || rs.all fun r => decide (r ≠ [])
theorem leR_data : PySem.W.dataLe false (fun b : List Int => .tuple (b.map .int)) = leR := by
  funext p q
  show (!PySem.W.dataLt (.tuple (q.map .int)) (.tuple (p.map .int))) = _
  rw [lt_tups]
  unfold leR
  by_cases h : q < p
  · have h' : ¬ p ≤ q := fun r => List.not_lt.mpr r h
    simp [h, h']
  · have h' : p ≤ q := List.not_lt.mp h
    simp [h, h']
section
variable {X : Cx}
theorem one_sorts {prog : Program} {w : World} {A : Around} {s : Shared} {v : Value} {r : List Int} {as : List Addr} (rd : Reads s.heap v (.tuple (r.map .int)) as) (hu : A.units + 65 < cLine) : PySem.W.SortsAt prog w A s (PySem.W.dataKind s.heap [.tuple (r.map .int)]) [v] := by
  have hal : PySem.W.AllAlike [PyData.tuple (r.map .int)] := fun d hd d' hd' => by
    rw [List.mem_singleton.mp hd, List.mem_singleton.mp hd']
    exact alike_tups r r
  refine ⟨fun u hu => ?_, PyProof.Rows.general', ?_, fun h2 => absurd h2 (by simp)⟩
  · rw [List.mem_singleton.mp hu]
    exact ⟨_, PySem.W.dataKind_some hal (List.mem_singleton.mpr rfl) rd⟩
  · intro E x y a b Q ha hb hq
    obtain ⟨d, as, hd, ra, rfl⟩ := PySem.W.dataKind_inv ha
    obtain ⟨d', as', hd', rb, rfl⟩ := PySem.W.dataKind_inv hb
    rw [List.mem_singleton.mp hd] at ra hq
    rw [List.mem_singleton.mp hd'] at rb hq
    have e : keyLt' general' x y = oneLt' false x y := rfl
    rw [e]
    exact PySem.W.oneLt_alike (fun h => by cases h) ra rb (alike_tups r r) (by simp) (by rw [depth_tups]; omega) hq
end
end Bk

set_option Elab.async false
set_option linter.all false
set_option maxRecDepth 100000
set_option maxHeartbeats 2000000
namespace Bk
open PySem PySem.Spec PyProof.Rows L2
/-! ### sum of a tuple of ints -/
def dSumT (M : List MO) (d : D) : Option D := match d with
  | .tup xs => (intsL xs).map fun is => .int is.sum
  | d => dSum M d
section
variable {X : Cx}
end
@[simp] theorem e_sumT_l (M : List MO) (l : List D) : dSumT M (.lst l) = dSum M (.lst l) := Eq.trans rfl rfl
@[simp] theorem e_sumT_r (M : List MO) (k : Nat) : dSumT M (.ref k) = dSum M (.ref k) := Eq.trans rfl rfl
end Bk

set_option Elab.async false
set_option linter.all false
set_option maxRecDepth 100000
set_option maxHeartbeats 2000000
namespace Bk
open PySem PySem.Spec PyProof.Rows L2
/-! ### a chain of three comparisons, as a test -/
def gChain3 (f f' f'' : List MO → D → D → Option D) (ga gb gc gd : GE) : GE := fun Γ M => (ga Γ M).bind fun x M1 => (gb Γ M1).bind fun y M2 => (opR (f M2 x y) M2).bind fun k M3 => match k with
  | .bl c => if c = true then (gc Γ M3).bind fun z M4 => (opR (f' M4 y z) M4).bind fun k' M5 => match k' with
      | .bl c' => if c' = true then (gd Γ M5).bind fun w M6 => opR (f'' M6 z w) M6 else .ok (.bl false) M5
      | _ => .bad
    else .ok (.bl false) M3
  | _ => .bad
@[simp] theorem u_gChain3 (f f' f'' : List MO → D → D → Option D) (ga gb gc gd : GE) (Γ : Env) (M : List MO) : gChain3 f f' f'' ga gb gc gd Γ M = ((ga Γ M).bind fun x M1 => (gb Γ M1).bind fun y M2 => (opR (f M2 x y) M2).bind fun k M3 => match k with
  | .bl c => if c = true then (gc Γ M3).bind fun z M4 => (opR (f' M4 y z) M4).bind fun k' M5 => match k' with
      | .bl c' => if c' = true then (gd Γ M5).bind fun w M6 => opR (f'' M6 z w) M6 else .ok (.bl false) M5
      | _ => .bad
    else .ok (.bl false) M3
  | _ => .bad) := Eq.trans rfl rfl
section
variable {X : Cx} {C : CT} {W : WX}
variable {a b c d : Expr} {ga gb gc gd : GE} {pos : Pos} {f f' f'' : List MO → D → D → Option D}
end
end Bk

set_option Elab.async false
set_option linter.all false
set_option maxRecDepth 100000
set_option maxHeartbeats 2000000
namespace Bk
open PySem PySem.Spec PyProof.Rows L2 HT
/-! ### t[::-1] of a tuple -/
section
variable {prog : Program} {w : World} {A : Around} {E : Value → Shared → Prop} {s : Shared}
theorem places_rev (n : Nat) : Builtin.Slice.slicePlaces ((n : Int) - 1) (-1) (-1) = n := by
  unfold Builtin.Slice.slicePlaces
  have h1 : ¬ ((-1 : Int) > 0) := by decide
  have h2 : (-(-1) : Int) = 1 := rfl
  rw [if_neg h1, h2, Int.ediv_one]
  split <;> omega
theorem adjust_rev (n : Nat) : Builtin.Slice.sliceAdjust none none (-1) (n : Int) = ((n : Int) - 1, -1) := by
  unfold Builtin.Slice.sliceAdjust
  rfl
theorem applied_rev {sl : Addr} {vs : Value} {n : Nat} {Q : Int × Int × Nat → Shared → Prop} (hs : s.heap.IsSliceOf sl .none .none vs) (ps : IsPart vs (some (-1)))
    (h : Q ((n : Int) - 1, -1, n) s) : wpAny (model prog w) A (Builtin.Slice.sliceApplied (.ref sl) (pure (n : Int))) Q E s := by
  obtain ⟨os, hos, hcs, hds⟩ := id hs
  unfold Builtin.Slice.sliceApplied Builtin.Slice.sliceFields
  refine wpAny_bind (wpAny_bind (wpAny_field hos hds (x := .none) rfl (wpAny_bind (wpAny_field hos hds (x := .none) rfl (wpAny_bind (wpAny_field hos hds (x := vs) rfl (wpAny_pure ?_)))))))
  refine wpAny_bind (slicePart_ ps ?_)
  show wpAny _ _ (if ((-1 : Int) == 0) = true then _ else _) _ _ s
  rw [if_neg (by decide)]
  refine wpAny_bind (slicePart_ .none (wpAny_bind (slicePart_ .none (wpAny_bind (wpAny_pure ?_)))))
  show wpAny _ _ (match Builtin.Slice.sliceAdjust none none (-1) (n : Int) with | (lo, hi) => pure (lo, (-1 : Int), Builtin.Slice.slicePlaces lo hi (-1))) _ _ s
  rw [adjust_rev n]
  show wpAny _ _ (pure ((n : Int) - 1, (-1 : Int), Builtin.Slice.slicePlaces ((n : Int) - 1) (-1) (-1))) _ _ s
  rw [places_rev]
  exact wpAny_pure h
theorem pick_rev (xs : Array Value) : ((List.range xs.size).filterMap fun (m : Nat) => xs[((xs.size : Int) - 1 + (m : Int) * (-1)).toNat]?).toArray = xs.toList.reverse.toArray := by
  have e : ∀ n : Nat, n = xs.size → (List.range n).filterMap (fun (m : Nat) => xs[((n : Int) - 1 + (m : Int) * (-1)).toNat]?) = ((List.range n).map (fun k => n - 1 - k)).filterMap (xs[·]?) := fun n hn => by
    rw [List.filterMap_map]
    congr 1
    funext m
    have : ((n : Int) - 1 + (m : Int) * (-1)).toNat = n - 1 - m := by omega
    rw [this]
    rfl
  rw [e xs.size rfl, PySem.W.krv_range, List.filterMap_reverse, PySem.W.krv_all]
theorem getItem_tuple_rev {t sl : Addr} {items : Array Value} {vs : Value} {Q : Value → Shared → Prop} (ht : IsTup s.heap t items) (hs : s.heap.IsSliceOf sl .none .none vs) (ps : IsPart vs (some (-1)))
    (h : Q (.ref s.heap.objs.size) { s with heap := s.heap.push { cls := .type "tuple", data := .seq items.toList.reverse.toArray } })
    (hsz : items.size ≤ sizeLine) : wpAny (model prog w) A (getItem (.ref t) (.ref sl)) Q E s := by
  have htake : sizeOk (.seq items.toList.reverse.toArray) := by
    show items.toList.reverse.toArray.size ≤ sizeLine
    rw [List.size_toArray, List.length_reverse, Array.length_toList]
    exact hsz
  obtain ⟨os, hos, hcs, hds⟩ := id hs
  have hTs : s.TypeIs (.ref sl) "slice" := ⟨os, hos, hcs⟩
  unfold getItem
  try with_reducible refine wpAny_holding ?_
  first | refine wpAny_bind (wpAny_pure ?_) | skip
  refine wpAny_bind (wpAny_sequenceKey ht.typeIs (by decide) ?_)
  refine wpAny_bind (wpAny_callSpecial?_slot (name := Str.ofString "__getitem__") ht.typeIs PyProof.Rows.slot_tuple_getitem
    (wpAny_call_entry PyProof.Rows.slot_tuple_getitem ht.typeIs entry_tuple_getitem ?_ (args_tuple_getitem _ _)))
  show wpAny _ _ (Builtin.Tuple.tupleItemsOf (.ref t) >>= _) _ _ s
  refine wpAny_bind (tupleItemsOf_ ht ?_)
  refine wpAny_bind (wpAny_typeOf hTs ?_)
  rw [if_pos (by decide)]
  refine wpAny_bind (applied_rev hs ps ?_)
  have hno : ¬ ((((items.size : Int) - 1) == 0 && (-1 : Int) == 1 && items.size == items.size) = true) := by
    intro q
    rw [Bool.and_eq_true, Bool.and_eq_true] at q
    exact absurd q.1.2 (by decide)
  show wpAny _ _ (if (((items.size : Int) - 1) == 0 && (-1 : Int) == 1 && items.size == items.size) = true then _ else _) _ _ s
  rw [if_neg hno, pick_rev]
  first
    | exact wpAny_bind (m := Builtin.Tuple.tupleExact _) (wpAny_newObj_type (wpAny_pure ⟨_, rfl, wpAny_pure h⟩) htake)
    | exact wpAny_bind (m := Builtin.Tuple.tupleExact _) (wpAny_newObj_type (wpAny_bind (wpAny_pure (wpAny_pure ⟨_, rfl, wpAny_pure h⟩))) htake)
    | exact wpAny_bind (wpAny_bind (m := Builtin.Tuple.tupleExact _) (wpAny_newObj_type (wpAny_pure (wpAny_pure ⟨_, rfl, wpAny_pure h⟩)) htake))
    | exact wpAny_bind (wpAny_bind (m := Builtin.Tuple.tupleExact _) (wpAny_newObj_type (wpAny_pure ⟨_, rfl, wpAny_pure h⟩) htake))
end
def dRevA (M : List MO) (x : D) : Option D := match x with
  | .tup ds => some (.tup ds.reverse)
  | x => dRevL M x
def gRevA (ge : GE) : GE := fun Γ M => (ge Γ M).bind fun x M1 => opR (dRevA M1 x) M1
@[simp] theorem u_gRevA (ge : GE) (Γ : Env) (M : List MO) : gRevA ge Γ M = (ge Γ M).bind fun x M1 => opR (dRevA M1 x) M1 := Eq.trans rfl rfl
@[simp] theorem e_revAt (M : List MO) (ds : List D) : dRevA M (.tup ds) = some (.tup ds.reverse) := Eq.trans rfl rfl
@[simp] theorem e_revAl (M : List MO) (ds : List D) : dRevA M (.lst ds) = some (.lst ds.reverse) := Eq.trans rfl rfl
section
variable {X : Cx} {C : CT} {W : WX} {e : Expr} {g : GE}
def tRevA (K : PySem.W.Frag) (te : TE) : TE := fun σ H Q => te σ H fun x H1 => ∃ a xs, x = .ref a ∧
  ((SqL K H1 a xs ∧ ∀ p, H1 p = none → Q (.ref p) (upd H1 p (.lst xs.reverse))) ∨ (SqT K H1 a xs ∧ ∀ p, H1 p = none → Q (.ref p) (upd H1 p (.tup xs.reverse))))
theorem pe_revA2 {te : TE} {k : Nat} {p1 p2 p3 pos : Pos} (he : PE X e te) : PE X (.Subscript e (.Slice none none (some (.UnaryOp .USub (.Constant (.int 1) k p1) p2)) p3) pos) (tRevA X.K te) := by
  refine ⟨fun pins s σ H Q I h => ?_⟩
  refine Subscript_ (thn (he.run pins s σ H _ I h) fun v s1 ⟨x, H1, I1, r1, q1⟩ => ?_)
  obtain ⟨a, xs, ex, hx⟩ := q1
  subst ex
  cases r1
  have hst : PO X (some (.UnaryOp .USub (.Constant (.int 1) k p1) p2)) (tPart (tUn (rU fun i => .int (-i)) (tC (.int 1)))) := po_some (pe_un un_neg pe_int)
  refine wpAny_Slice (thn (po_none.run pins s1 σ H1 (fun o H2 => o = none ∧ H2 = H1) I1 ⟨rfl, rfl⟩) fun vl s2 ⟨l, H2, I2, pl, el, e2⟩ => ?_)
  subst el e2
  refine thn (po_none.run pins s2 σ H2 (fun o H3 => o = none ∧ H3 = H2) I2 ⟨rfl, rfl⟩) fun vu s3 ⟨u, H3, I3, pu, eu, e3⟩ => ?_
  subst eu e3
  refine thn (hst.run pins s3 σ H3 (fun o H4 => o = some (-1) ∧ H4 = H3) I3 ⟨1, rfl, -1, rfl, rfl, rfl⟩) fun vs s4 ⟨o, H4, I4, ps, eo, e4⟩ => ?_
  subst eo e4
  have I5 : Inv X pins σ H4 { s4 with heap := s4.heap.push { cls := .type "slice", data := .fields #[vl, vu, vs] } } := I4.kept (t' := s4.toks) fun b ob q => Heap.get?_push_of_some _ q
  show wpAny (model X.prog X.w) X.A (subscriptTail e (.Slice none none (some (.UnaryOp .USub (.Constant (.int 1) k p1) p2)) p3) (.ref a) (.ref s4.heap.objs.size)) (EP X pins σ Q) X.xe { s4 with heap := s4.heap.push { cls := .type "slice", data := .fields #[vl, vu, vs] } }
  rcases hx with ⟨hx, q⟩ | ⟨hx, q⟩
  · obtain ⟨its, r, ht, hz⟩ := I5.list hx
    have hlen := r.length
    refine tail_any (ops := [.ref a, .ref s4.heap.objs.size]) ht.isList.typeIs (PySem.slot_list_getitem.lookup) ?_ (by with_unfolding_all rfl)
    refine wpAny_getItem_list_slice ht.isList (Heap.IsSliceOf.new _ vl vu vs) pl pu ps (by decide) ?_ (by rw [List.size_toArray]; omega)
    rw [PySem.W.krv_pick]
    refine ⟨.ref _, _, I5.laid (t' := s4.toks) (o := .lst xs.reverse) (fun b ob q => Heap.get?_push_of_some _ q) (Nat.le_refl _) ?_, rfl, q _ (I5.hok.fresh (Nat.le_refl _))⟩
    exact ⟨by rw [List.length_reverse]; exact hz, _, 0, r.reverse, Heap.get?_push_size _ rfl⟩
  · obtain ⟨its, r, ht, hz⟩ := I5.tuple hx
    have hlen := r.length
    cases pl
    cases pu
    refine tail_any (ops := [.ref a, .ref s4.heap.objs.size]) ht.typeIs (PyProof.Rows.slot_tuple_getitem.lookup) ?_ (by with_unfolding_all rfl)
    refine getItem_tuple_rev ht (Heap.IsSliceOf.new _ .none .none vs) ps ?_ (by rw [List.size_toArray]; omega)
    refine ⟨.ref _, _, I5.laid (t' := s4.toks) (o := .tup xs.reverse) (fun b ob q => Heap.get?_push_of_some _ q) (Nat.le_refl _) ?_, rfl, q _ (I5.hok.fresh (Nat.le_refl _))⟩
    exact ⟨by rw [List.length_reverse]; exact hz, _, r.reverse, IsTup.new _ _⟩
theorem qe_revA {k : Nat} {p1 p2 p3 pos : Pos} (he : QE X C W e g) : QE X C W (.Subscript e (.Slice none none (some (.UnaryOp .USub (.Constant (.int 1) k p1) p2)) p3) pos) (gRevA g) := by
  obtain ⟨te, pe, qe⟩ := he
  refine ⟨_, pe_revA2 pe, fun σ H Z ι Γ M Q sl hr h => qe σ H Z ι Γ M _ sl hr (h.bind fun x M1 v H1 Z1 ι1 e1 hr1 r1 h1 => ?_)⟩
  obtain ⟨d, hd, h2⟩ := Post.of_opR (γ := D) (δ := V) h1
  have lst : dRevL M1 x = some d → ∃ a xs, v = .ref a ∧
      ((SqL X.K H1 a xs ∧ ∀ p, H1 p = none → Q (.ref p) (upd H1 p (.lst xs.reverse))) ∨ (SqT X.K H1 a xs ∧ ∀ p, H1 p = none → Q (.ref p) (upd H1 p (.tup xs.reverse)))) := fun hd => by
    unfold dRevL at hd
    cases e3 : listD M1 x with
    | none => rw [e3] at hd; cases hd
    | some ds =>
      rw [e3] at hd
      cases hd
      obtain ⟨a, xs, rfl, s, r3⟩ := listD_run hr1 r1 e3
      exact ⟨a, xs, rfl, .inl ⟨s.sq, After.lst (X := X) (M := M1) (Q := Q) (fun v H' Z' e' hr' r' => h2 v H' Z' ι1 e' hr' r') hr1 r3.rev⟩⟩
  unfold dRevA at hd
  split at hd
  · rename_i ds
    cases hd
    obtain ⟨a, xs, rfl, s, r3⟩ := tupD_run hr1 r1 (ds := ds) rfl
    exact ⟨a, xs, rfl, .inr ⟨s, After.tup (X := X) (M := M1) (Q := Q) (fun v H' Z' e' hr' r' => h2 v H' Z' ι1 e' hr' r') hr1 r3.rev⟩⟩
  · exact lst hd
end
end Bk

set_option Elab.async false
set_option linter.all false
set_option maxRecDepth 100000
set_option maxHeartbeats 2000000
namespace Bk
open PySem PySem.Spec PyProof.Rows L2
/-! ### the lists within a list are left as they are from now on -/
def frz1 : D → List MO → Option (D × List MO)
  | .ref k, M => match M[k]? with
    | some (.lst es) => some (.lst es, M.set k .dead)
    | _ => none
  | d, M => some (d, M)
def frzI : List D → List MO → Option (List D × List MO)
  | [], M => some ([], M)
  | d :: ds, M => (frz1 d M).bind fun p => (frzI ds p.2).map fun q => (p.1 :: q.1, q.2)
def gFzI (i : Nat) : GS := fun Γ M => match Γ[i]? with
  | some (some (.lst ds)) => match frzI ds M with
    | some p => .nx (Γ.set i (some (.lst p.1))) p.2
    | none => .bad
  | _ => .bad
@[simp] theorem u_gFzI (i : Nat) (Γ : Env) (M : List MO) : gFzI i Γ M = (match Γ[i]? with
  | some (some (.lst ds)) => match frzI ds M with
    | some p => .nx (Γ.set i (some (.lst p.1))) p.2
    | none => .bad
  | _ => .bad) := Eq.trans rfl rfl
section
variable {K : PySem.W.Frag} {H Z : Hp} {ι : Nat → Addr} {M M' : List MO}
end
section
variable {X : Cx} {C : CT} {W : WX} {st : Stmt} {g : GS}
end
end Bk

set_option Elab.async false
set_option linter.all false
set_option maxRecDepth 100000
set_option maxHeartbeats 2000000
namespace Bk
open PySem PySem.Spec PyProof.Rows L2
/-! ### xs * k as a list of ours -/
def repO (ds : Option (List D)) (y : D) (M : List MO) : R D := match ds, y with
  | some ds, .int k => if (decide (k < 2 ^ 63) && decide (-(2 ^ 63) ≤ k) && decide (ds.length * k.toNat ≤ sizeLine)) = true then .ok (.ref M.length) (M ++ [.lst (List.replicate k.toNat ds).flatten]) else .bad
  | _, _ => .bad
def gRepO (ga gb : GE) : GE := fun Γ M => (ga Γ M).bind fun x M1 => (gb Γ M1).bind fun y M2 => repO (listD M2 x) y M2
@[simp] theorem u_gRepO (ga gb : GE) (Γ : Env) (M : List MO) : gRepO ga gb Γ M = ((ga Γ M).bind fun x M1 => (gb Γ M1).bind fun y M2 => repO (listD M2 x) y M2) := Eq.trans rfl rfl
section
variable {X : Cx} {C : CT} {W : WX} {a b : Expr} {ga gb : GE} {pos : Pos}
end
end Bk

set_option Elab.async false
set_option linter.all false
set_option maxRecDepth 100000
set_option maxHeartbeats 4000000
namespace Bk
open PySem PySem.Spec PyProof.Rows L2 Srt SrtO SrtR
/-! ### sorted(t, reverse=True) of a tuple of ints -/
section
variable {prog : Program} {w : World} {A : Around} {E : Value → Shared → Prop} {s : Shared}
end
section
variable {X : Cx}
end
def dSortRT (M : List MO) : D → Option D
  | .tup ds => (intsD ds).map fun is => .lst ((srtI is).reverse.map D.int)
  | x => dSortR M x
def gSortRT (ge : GE) : GE := fun Γ M => (ge Γ M).bind fun x M1 => opR (dSortRT M1 x) M1
@[simp] theorem u_gSortRT (ge : GE) (Γ : Env) (M : List MO) : gSortRT ge Γ M = (ge Γ M).bind fun x M1 => opR (dSortRT M1 x) M1 := Eq.trans rfl rfl
section
variable {X : Cx} {C : CT} {W : WX} {e : Expr} {g : GE}
end
end Bk

set_option Elab.async false
set_option linter.all false
set_option maxRecDepth 100000
set_option maxHeartbeats 2000000
namespace Bk
open PySem PySem.Spec PyProof.Rows L2
/-! ### a list of ours that comes back from a call, and will not be changed -/
def fzD (d : D) (M : List MO) : R D := match d with
  | .ref k => match M[k]? with
    | some (.lst ds) => .ok (.lst ds) (M.set k .dead)
    | _ => .bad
  | d => .ok d M
def gFzE (ge : GE) : GE := fun Γ M => (ge Γ M).bind fzD
@[simp] theorem u_gFzE (ge : GE) (Γ : Env) (M : List MO) : gFzE ge Γ M = (ge Γ M).bind fzD := Eq.trans rfl rfl
section
variable {X : Cx} {C : CT} {W : WX} {e : Expr} {ge : GE}
end
end Bk

set_option Elab.async false
set_option linter.all false
set_option maxRecDepth 100000
set_option maxHeartbeats 2000000
namespace Bk
open PySem PySem.Spec PyProof.Rows L2
/-! ### a loop over a list of ours, read anew at each turn -/
def gForN (gg : GG) (body : GS) (k : Nat) : Nat → Nat → GS
  | 0, _ => gBad
  | n + 1, i => fun Γ M => match M[k]? with
    | some (.lst ds) => match ds[i]? with
      | some d => optS (gg d Γ) fun Γ1 => (body Γ1 M).turn (gForN gg body k n (i + 1))
      | none => .nx Γ M
    | _ => .bad
def gForO (ge : GE) (gg : GG) (body : GS) (n : Nat) : GS := fun Γ M => (ge Γ M).thenS Γ fun d M1 => match d with
  | .ref k => gForN gg body k n 0 Γ M1
  | _ => .bad
@[simp] theorem u_gForO (ge : GE) (gg : GG) (body : GS) (n : Nat) (Γ : Env) (M : List MO) : gForO ge gg body n Γ M = ((ge Γ M).thenS Γ fun d M1 => match d with
  | .ref k => gForN gg body k n 0 Γ M1
  | _ => .bad) := Eq.trans rfl rfl
section
variable {X : Cx} {C : CT} {W : WX} {tg : Expr} {ge : GE} {gg : GG} {g : GS} {pos : Pos}
/-! ### a slice as a list of ours -/
def slO (ds : Option (List D)) (lo hi : Option Int) (M : List MO) : R D := match ds with
  | some ds => .ok (.ref M.length) (M ++ [.lst (cutD ds lo hi)])
  | none => .bad
def gSlO (ge : GE) (lo hi : GO) : GE := fun Γ M => (ge Γ M).bind fun x M1 => (lo Γ M1).bind fun a M2 => (hi Γ M2).bind fun b M3 => slO (listD M3 x) a b M3
@[simp] theorem u_gSlO (ge : GE) (lo hi : GO) (Γ : Env) (M : List MO) : gSlO ge lo hi Γ M = ((ge Γ M).bind fun x M1 => (lo Γ M1).bind fun a M2 => (hi Γ M2).bind fun b M3 => slO (listD M3 x) a b M3) := Eq.trans rfl rfl
@[simp] theorem slO_some (ds : List D) (lo hi : Option Int) (M : List MO) : slO (some ds) lo hi M = .ok (.ref M.length) (M ++ [.lst (cutD ds lo hi)]) := Eq.trans rfl rfl
end
end Bk

set_option Elab.async false
set_option linter.all false
set_option maxRecDepth 100000
set_option maxHeartbeats 4000000
namespace Bk
open PySem PySem.Spec PyProof.Rows L2
/-! ### sets of tuples of ints: sorted(set(xs)) -/
/-- each row once -/
def uniqR : List (List Int) → List (List Int)
  | [] => []
  | r :: rs => if r ∈ rs then uniqR rs else r :: uniqR rs
theorem mem_uniqR : ∀ {rs : List (List Int)} {r : List Int}, r ∈ uniqR rs ↔ r ∈ rs
  | [], r => Iff.rfl
  | q :: rs, r => by
    unfold uniqR
    by_cases h : q ∈ rs
    · rw [if_pos h, mem_uniqR, List.mem_cons]
      exact ⟨.inr, fun z => z.elim (fun e => e ▸ h) id⟩
    · rw [if_neg h, List.mem_cons, List.mem_cons, mem_uniqR]
theorem uniqR_nodup : ∀ rs : List (List Int), (uniqR rs).Nodup
  | [] => .nil
  | q :: rs => by
    unfold uniqR
    by_cases h : q ∈ rs
    · rw [if_pos h]; exact uniqR_nodup rs
    · rw [if_neg h]
      exact List.nodup_cons.mpr ⟨fun z => h (mem_uniqR.mp z), uniqR_nodup rs⟩
theorem leR_trans (a b c : List Int) (h1 : leR a b = true) (h2 : leR b c = true) : leR a c = true := by
  unfold leR at *
  simp only [decide_eq_true_eq] at *
  exact List.le_trans h1 h2
theorem leR_total (a b : List Int) : (leR a b || leR b a) = true := by
  unfold leR
  rcases List.le_total a b with h | h
  · simp [h]
  · simp [h]
theorem leR_anti {a b : List Int} (h1 : leR a b = true) (h2 : leR b a = true) : a = b := by
  unfold leR at *
  simp only [decide_eq_true_eq] at *
  exact List.le_antisymm h1 h2
theorem sorted_one : ∀ {xs ys : List (List Int)}, xs.Perm ys → xs.Pairwise (fun a b => leR a b = true) → ys.Pairwise (fun a b => leR a b = true) → xs = ys
  | [], ys, p, _, _ => by rw [List.nil_perm.mp p]
  | x :: xs, [], p, _, _ => by simp at p
  | x :: xs, y :: ys, p, h1, h2 => by
    have e : x = y := by
      have hx : x ∈ y :: ys := p.mem_iff.mp (by simp)
      have hy : y ∈ x :: xs := p.mem_iff.mpr (by simp)
      rcases List.mem_cons.mp hx with e | e
      · exact e
      · rcases List.mem_cons.mp hy with e' | e'
        · exact e'.symm
        · exact leR_anti ((List.pairwise_cons.mp h1).1 y e') ((List.pairwise_cons.mp h2).1 x e)
    subst e
    rw [sorted_one (List.Perm.cons_inv p) (List.pairwise_cons.mp h1).2 (List.pairwise_cons.mp h2).2]
theorem srtR_up (rs : List (List Int)) : (srtR rs).Pairwise (fun a b => leR a b = true) := List.pairwise_mergeSort leR_trans leR_total rs
theorem srtR_perm {rs qs : List (List Int)} (h : rs.Perm qs) : srtR rs = srtR qs :=
  sorted_one (((List.mergeSort_perm rs leR).trans h).trans (List.mergeSort_perm qs leR).symm) (srtR_up rs) (srtR_up qs)
theorem srtOk_perm {rs qs : List (List Int)} (h : rs.Perm qs) (hk : srtOk qs = true) : srtOk rs = true := by
  unfold srtOk at *
  rw [Bool.or_eq_true] at *
  rcases hk with z | z
  · left
    rw [h.length_eq]
    exact z
  · right
    rw [List.all_eq_true] at *
    exact fun r hr => z r (h.mem_iff.mp hr)
section
variable {prog : Program} {w : World} {A : Around} {E : Value → Shared → Prop} {s : Shared}
theorem sorts_tups {vs : List Value} {rs : List (List Int)} (er : PySem.W.EachIs (fun v (b : List Int) => ∃ as, Reads s.heap v (.tuple (b.map .int)) as) vs rs) (hk : srtOk rs = true) (hu : A.units + 65 < cLine) :
    PySem.W.SortsAt prog w A s (PySem.W.dataKind s.heap (rs.map fun b : List Int => PyData.tuple (b.map .int))) vs := by
  have hal : PySem.W.AllAlike (rs.map fun b => PyData.tuple (b.map .int)) := PySem.W.AllAlike.of fun b b' => alike_tups b b'
  by_cases c : rs.all (fun r => decide (r ≠ [])) = true
  · have sb : PySem.W.Sortable (rs.map fun b => PyData.tuple (b.map .int)) := .inl fun d hd => by
      obtain ⟨b, hb, rfl⟩ := List.mem_map.mp hd
      have := List.all_eq_true.mp c b hb
      cases b with
      | nil => simp at this
      | cons x b => exact ⟨_, _, rfl⟩
    refine PySem.W.SortsAt.data (PySem.W.each_map (R := fun v d => ∃ as, Reads s.heap v d as) (fun b : List Int => PyData.tuple (b.map .int)) er) hal sb fun d hd => ?_
    obtain ⟨b, hb, rfl⟩ := List.mem_map.mp hd
    rw [depth_tups]
    omega
  · have hz : rs.length ≤ 1 := by
      unfold srtOk at hk
      rw [Bool.or_eq_true] at hk
      rcases hk with hk | hk
      · simpa using hk
      · exact absurd hk c
    rcases rs with _ | ⟨r, _ | ⟨r2, rs⟩⟩
    · exact absurd (by simp) c
    · cases er with
      | cons r1 r2 =>
        cases r2
        obtain ⟨as, rd⟩ := r1
        exact one_sorts rd hu
    · simp at hz
variable {a : Addr} {L : List (Addr × List Int)} {es : Array (Int × Value)} {ep : Nat} {t : SetTable}
theorem sorted_setD {Q : Value → Shared → Prop} (R : SetTR prog w s.heap a L es ep t) (hh : A.handled = none) (hk : srtOk (L.map (·.2)) = true) (hu : A.units + 70 < cLine) (hrd : ∀ q ∈ L, ∃ as, Reads s.heap (.ref q.1) (.tuple (q.2.map .int)) as)
    (hQ : ∀ s' p (out : List Value) (c : Nat) (L1 : List (Addr × List Int)), (∀ b o, s.heap.get? b = some o → s'.heap.get? b = some o) → s'.gens = s.gens → s'.os = s.os → s.heap.objs.size ≤ p →
      s'.heap.get? p = some (seqObj "list" out.toArray c) → L1.Perm L → PySem.W.EachIs (fun v (b : List Int) => ∃ q ∈ L, v = Value.ref q.1 ∧ q.2 = b) out (srtR (L1.map (·.2))) → Q (.ref p) s') :
    wpAny (model prog w) A (call (.builtin "sorted") [.ref a]) Q E s := by
  obtain ⟨o, ho, hex, hd⟩ := R.ob
  have hsz := R.size
  have hfew := R.few
  refine Calls.call_function_entry kind_sorted plain_sorted entry_sorted (args_sorted1 _) ?_
  unfold Builtin.«sorted»
  refine wpAny_bind (m := checkCount "sorted" 1 1 _) (wpAny_pure ?_)
  refine wpAny_bind (collect_set (A := A.in1) hh ⟨o, ho, hex.1, hd⟩ R.fits (by unfold scanBound; omega) R.tab.ris R.led fun s1 vs k1 hz g1 o1 pm => ?_)
  have hes : es.toList.map (·.2) = L.map fun q => Value.ref q.1 := by
    rw [R.rows]
    unfold rowsOf
    rw [List.map_map] <;> rfl
  rw [hes] at pm
  have ord : ∀ vs : List Value, (∀ v ∈ vs, ∃ q ∈ L, v = Value.ref q.1) → ∃ L1 : List (Addr × List Int), vs = L1.map (fun q => Value.ref q.1) ∧ ∀ q ∈ L1, q ∈ L := by
    intro vs
    induction vs with
    | nil => intro _; exact ⟨[], rfl, fun q hq => (by cases hq)⟩
    | cons v vs ih =>
      intro hv
      obtain ⟨q, hq, e⟩ := hv v List.mem_cons_self
      obtain ⟨L1, e1, hs⟩ := ih fun u hu => hv u (List.mem_cons_of_mem _ hu)
      refine ⟨q :: L1, by rw [List.map_cons, e, e1], fun r hr => ?_⟩
      rcases List.mem_cons.mp hr with z | z
      · rw [z]; exact hq
      · exact hs r z
  have one : ∀ q ∈ L, ∀ r ∈ L, q.1 = r.1 → q = r := fun q hq r hr e => by
    have a1 := R.tup q hq
    have a2 := R.tup r hr
    rw [e] at a1
    have e2 : q.2 = r.2 := a1.inj a2
    exact Prod.ext e e2
  have perm_of : ∀ L1 : List (Addr × List Int), (∀ q ∈ L1, q ∈ L) → (L1.map (fun q => Value.ref q.1)).Perm (L.map fun q => Value.ref q.1) → L1.Perm L := by
    intro L1 hs pm1
    have nL : L.Nodup := nodup_of_map R.nd
    have nref : (L.map fun q => Value.ref q.1).Nodup := by
      refine List.pairwise_map.mpr (List.Pairwise.imp_of_mem (fun {q r} hq hr hne e => ?_) nL)
      injection e with e
      exact hne (one q hq r hr e)
    have n1 : L1.Nodup := nodup_of_map (pm1.nodup_iff.mpr nref)
    refine (List.perm_ext_iff_of_nodup n1 nL).mpr fun q => ⟨hs q, fun hq => ?_⟩
    have hm : Value.ref q.1 ∈ L1.map (fun q => Value.ref q.1) := pm1.mem_iff.mpr (List.mem_map.mpr ⟨q, hq, rfl⟩)
    obtain ⟨r, hr, e⟩ := List.mem_map.mp hm
    injection e with e
    rw [← one r (hs r hr) q hq e]
    exact hr
  have hvl : vs.length < 64 := by rw [pm.length_eq, List.length_map]; exact hfew
  obtain ⟨L1, e1, hs1⟩ := ord vs fun v hv => by
    obtain ⟨q, hq, e⟩ := List.mem_map.mp (pm.mem_iff.mp hv)
    exact ⟨q, hq, e.symm⟩
  have p1 : L1.Perm L := perm_of L1 hs1 (by rw [← e1]; exact pm)
  refine wpAny_bind (wpAny_newList ?_ (by rw [sizeLine_eq]; omega))
  have hoL : (s1.heap.push (seqObj "list" vs.toArray 0)).get? s1.heap.objs.size = some (seqObj "list" vs.toArray 0) := Heap.get?_push_size _ rfl
  have each : ∀ {Rr : Value → List Int → Prop} (L2 : List (Addr × List Int)), (∀ q ∈ L2, Rr (.ref q.1) q.2) → PySem.W.EachIs Rr (L2.map fun q => Value.ref q.1) (L2.map (·.2)) := by
    intro Rr L2
    induction L2 with
    | nil => intro _; exact .nil
    | cons q L2 ih => intro h; exact .cons (h q List.mem_cons_self) (ih fun r hr => h r (List.mem_cons_of_mem _ hr))
  have er : PySem.W.EachIs (fun v (b : List Int) => ∃ as, Reads (PySem.W.sortingHeap (s1.heap.push (seqObj "list" vs.toArray 0)) s1.heap.objs.size vs) v (.tuple (b.map .int)) as) vs (L1.map (·.2)) := by
    rw [e1]
    refine each L1 fun q hq => ?_
    obtain ⟨as, rd⟩ := hrd q (hs1 q hq)
    exact ⟨as, PyProof.Rows.Reads.keeps (fun b u e => by
      have e2 := k1 b u e
      exact PySem.W.sortingHeap_old (Nat.ne_of_lt (Heap.lt_size e2)) (Heap.get?_push_of_some _ e2)) rd⟩
  have en : PySem.W.EachIs (fun v (b : List Int) => ∃ q ∈ L, v = Value.ref q.1 ∧ q.2 = b) vs (L1.map (·.2)) := by
    rw [e1]
    exact each L1 fun q hq => ⟨q, hs1 q hq, rfl, rfl⟩
  have hal : PySem.W.AllAlike ((L1.map (·.2)).map fun b => PyData.tuple (b.map .int)) := PySem.W.AllAlike.of fun b b' => alike_tups b b'
  have S := sorts_tups (prog := prog) (w := w) (A := A.in1.in1) (s := { s1 with heap := PySem.W.sortingHeap (s1.heap.push (seqObj "list" vs.toArray 0)) s1.heap.objs.size vs }) er (srtOk_perm (p1.map _) hk) (by show A.units + 2 + 65 < cLine; omega)
  have sv := PySem.W.sortVals_data (h' := PySem.W.sortingHeap (s1.heap.push (seqObj "list" vs.toArray 0)) s1.heap.objs.size vs) (enc := fun b : List Int => PyData.tuple (b.map .int)) false en er hal
  rw [leR_data] at sv
  refine wpAny_bind (wpAny_holding (wpAny_call_entry (s := { s1 with heap := s1.heap.push (seqObj "list" vs.toArray 0) }) slot_list_sort ⟨_, hoL, rfl⟩ entry_list_sort (PySem.W.list_sort_vals hoL S (by rw [sizeLine_eq]; omega) ⟨.none, rfl, ?_⟩) (args_list_sort _)))
  generalize ho2 : PySem.W.sortVals (PySem.W.dataKind (PySem.W.sortingHeap (s1.heap.push (seqObj "list" vs.toArray 0)) s1.heap.objs.size vs) ((L1.map (·.2)).map fun b : List Int => PyData.tuple (b.map .int))) false vs vs = out at sv ⊢
  obtain ⟨c, hc⟩ := sortedHeap_at (vs := vs) (out := out.toArray) hoL
  refine wpAny_pure ⟨_, rfl, hQ _ s1.heap.objs.size out c L1 (fun b u e => ?_) g1 o1 hz hc p1 sv⟩
  have q := k1 b u e
  have hlt := Heap.lt_size q
  show (sortedHeap (s1.heap.push (seqObj "list" vs.toArray 0)) s1.heap.objs.size vs out.toArray).get? b = some u
  rw [sortedHeap_old (Nat.ne_of_lt hlt) (by rw [size_push']; exact Nat.lt_succ_of_lt hlt)]
  exact Heap.get?_push_of_some _ q
end
end Bk

set_option Elab.async false
set_option linter.all false
set_option maxRecDepth 100000
set_option maxHeartbeats 4000000
namespace Bk
open PySem PySem.Spec PyProof.Rows L2
/-! ### sorted(set(xs)), the rule -/
theorem each_ex {L : List (Addr × List Int)} : ∀ {out : List Value} {rows : List (List Int)}, PySem.W.EachIs (fun v (b : List Int) => ∃ q ∈ L, v = Value.ref q.1 ∧ q.2 = b) out rows →
    ∃ L' : List (Addr × List Int), out = L'.map (fun q => Value.ref q.1) ∧ L'.map (·.2) = rows ∧ ∀ q ∈ L', q ∈ L
  | _, _, .nil => ⟨[], rfl, rfl, fun q hq => by cases hq⟩
  | _, _, .cons ⟨q, hq, e1, e2⟩ t => by
    obtain ⟨L', a1, a2, a3⟩ := each_ex t
    refine ⟨q :: L', by rw [List.map_cons, e1, a1], by rw [List.map_cons, e2, a2], fun r hr => ?_⟩
    rcases List.mem_cons.mp hr with z | z
    · rw [z]; exact hq
    · exact a3 r z
theorem dpAll_ints {K : PySem.W.Frag} {H : Hp} : ∀ is : List Int, DpAll K H (is.map V.int) (is.map PyData.int)
  | [] => .nil
  | i :: is => .cons (.int i) (dpAll_ints is)
def rSortS (K : PySem.W.Frag) (P : Program) (w : World) : List V → Hp → VK → Prop := fun vs H Q => ∃ (a : Addr) (L : List (Addr × List Int)), vs = [V.ref a] ∧ H a = some (SetTO P w a L) ∧ (∀ p ∈ L, SqT K H p.1 (p.2.map V.int)) ∧
  ((L.map (·.2)).Nodup → srtOk (L.map (·.2)) = true ∧ ∀ (L' : List (Addr × List Int)) (p : Addr), (∀ q ∈ L', q ∈ L) → L'.map (·.2) = srtR (L.map (·.2)) → H p = none → Q (.ref p) (upd H p (.lst (L'.map fun q => V.ref q.1))))
section
variable {X : Cx}
theorem cr_sortS (hc : X.calm = true) (hu : X.A.units + 70 < cLine) : CallR X (.builtin "sorted") (rSortS X.K X.prog X.w) := by
  intro pins s σ H vs us Q I r h
  obtain ⟨a, L, rfl, ha, hk, q⟩ := h
  have R0 : SetT0 X.prog X.w s.heap a L := (I.hok a _ ha).1
  obtain ⟨es, ep, t, R⟩ := R0.full fun p hp => I.isT (hk p hp)
  obtain ⟨hok, q⟩ := q R.nd
  rw [Vals.ref1 r]
  refine sorted_setD R (I.ok.hd hc) hok hu (fun p hp => ?_) fun s' p out c L1 k g o hp hg pm eo => ?_
  · exact Dp.reads I _ _ _ (Dp.tup (hk p hp) (dpAll_ints p.2)) (show RelV (V.ref p.1) (Value.ref p.1) from rfl)
  obtain ⟨L', e1, e2, e3⟩ := each_ex eo
  have hfew := R.few
  have hlen : (L'.map fun q => V.ref q.1).length ≤ sizeLine := by
    have e4 := congrArg List.length e2
    rw [List.length_map] at e4
    rw [List.length_map, e4, sizeLine_eq]
    unfold srtR
    rw [List.length_mergeSort, List.length_map, pm.length_eq]
    omega
  have hn : H p = none := I.hok.fresh hp
  have hv : Vals (L'.map fun q => V.ref q.1) out := by rw [e1]; exact vals_of_refs L'
  have J : Inv X pins σ (upd H p (.lst (L'.map fun q => V.ref q.1))) { s with heap := s'.heap, gens := s'.gens, drawn := s'.drawn, toks := s'.toks } :=
    I.call (ch := []) (Un.laid k hp hn) (I.hok.laid k hp ⟨hlen, out, c, hv, hg⟩) (by rw [g]; exact I.bare) (fun _ z => nomatch z)
  have e : s' = { s with heap := s'.heap, gens := s'.gens, drawn := s'.drawn, toks := s'.toks } := by
    cases s'
    cases s
    cases o
    rfl
  rw [e]
  exact ⟨.ref p, _, J, rfl, q L' p e3 (e2.trans (srtR_perm (pm.map _))) hn⟩
end
/-! what the layer says -/
def dSortS (M : List MO) (d : D) : Option D := ((listD M d).bind rowsL).bind fun rs => if (decide (rs.length < 64) && srtOk (uniqR rs)) = true then some (.lst ((srtR (uniqR rs)).map tupI)) else none
def gSortS (ge : GE) : GE := fun Γ M => (ge Γ M).bind fun d M1 => opR (dSortS M1 d) M1
@[simp] theorem u_gSortS (ge : GE) (Γ : Env) (M : List MO) : gSortS ge Γ M = ((ge Γ M).bind fun d M1 => opR (dSortS M1 d) M1) := Eq.trans rfl rfl
theorem e_sortS (M : List MO) {rs : List (List Int)} (hl : rs.length < 64) (hk : srtOk (uniqR rs) = true) : dSortS M (.lst (rs.map fun is => D.tup (is.map D.int))) = some (.lst ((srtR (uniqR rs)).map tupI)) := by
  have : rowsL (rs.map fun is => D.tup (is.map D.int)) = some rs := rowsL_map rs
  simp [dSortS, listD, this, hl, hk]
theorem rps_intV {K : PySem.W.Frag} {Z : Hp} {ι : Nat → Addr} {n : Nat} : ∀ {is : List Int} {xs : List V}, Rps K Z ι n (is.map D.int) xs → xs = is.map V.int
  | [], _, h => by cases h; rfl
  | i :: is, _, h => by
    cases h with
    | cons h1 h2 =>
      cases h1
      rw [rps_intV h2]
      rfl
theorem rows_ks {K : PySem.W.Frag} {Z : Hp} {ι : Nat → Addr} {n : Nat} : ∀ {rs : List (List Int)} {xs : List V}, Rps K Z ι n (rs.map tupI) xs → ∃ ks : List (Addr × List Int), xs = ks.map (fun p => V.ref p.1) ∧ ks.map (·.2) = rs ∧ ∀ p ∈ ks, Rp K Z ι n (tupI p.2) (.ref p.1)
  | [], _, h => by cases h; exact ⟨[], rfl, rfl, fun p hp => by cases hp⟩
  | r :: rs, _, h => by
    cases h with
    | cons h1 h2 =>
      obtain ⟨ks, e1, e2, e3⟩ := rows_ks h2
      have ex : ∀ {v : V}, Rp K Z ι n (tupI r) v → ∃ a, v = V.ref a := fun h => by
        cases h with
        | tup s r => exact ⟨_, rfl⟩
      obtain ⟨a, rfl⟩ := ex h1
      refine ⟨(a, r) :: ks, by rw [e1]; rfl, by rw [← e2]; rfl, fun p hp => ?_⟩
      rcases List.mem_cons.mp hp with z | z
      · rw [z]; exact h1
      · exact e3 p z
theorem tupI_sq {K : PySem.W.Frag} {H Z : Hp} {ι : Nat → Addr} {n : Nat} {r : List Int} {a : Addr} (hz : Sub Z H) (h : Rp K Z ι n (tupI r) (.ref a)) : SqT K H a (r.map V.int) := by
  cases h with
  | tup s rr =>
    have e := rps_intV rr
    subst e
    exact subT hz s
theorem rps_rows {K : PySem.W.Frag} {Z : Hp} {ι : Nat → Addr} {n : Nat} : ∀ {L' : List (Addr × List Int)}, (∀ p ∈ L', Rp K Z ι n (tupI p.2) (.ref p.1)) → Rps K Z ι n ((L'.map (·.2)).map tupI) (L'.map fun p => V.ref p.1)
  | [], _ => .nil
  | p :: L', h => .cons (h p (by simp)) (rps_rows fun q hq => h q (by simp [hq]))
section
variable {X : Cx} {C : CT} {W : WX} {a : Expr} {ge : GE} {p p2 pos q : Pos}
theorem qe_sortS (hc : X.calm = true) (hu : X.A.units + 70 < cLine) (hg : Gl X "sorted") (hm : X.mg "sorted" = none) (hg2 : Gl X "set") (hm2 : X.mg "set" = none) (ha : QE X C W a ge)
    (na : starEach [a] X.env = (false, eval a X.env) :: starEach [] X.env := by rfl) (nb : starEach [Expr.Call (.Name "set" p2) [a] [] q] X.env = (false, eval (.Call (.Name "set" p2) [a] [] q) X.env) :: starEach [] X.env := by rfl) :
    QE X C W (.Call (.Name "sorted" p) [.Call (.Name "set" p2) [a] [] q] [] pos) (gSortS ge) := by
  obtain ⟨ta, pa, qa⟩ := ha
  have ps := pe_callTy (p := p2) (pos := q) (cr_setOfT hc (by omega)) hg2 hm2 (by decide +kernel) (pa_cons pa pa_nil na) (by decide) (by decide) na
  refine ⟨_, pe_callB (cr_sortS hc hu) hg hm (by decide +kernel) (pa_cons ps pa_nil nb) (by decide) (by decide) nb, fun σ H Z ι Γ M Q sl hr h => ?_⟩
  refine qa σ H Z ι Γ M _ sl hr (Post.bind h fun x M1 v H1 Z1 ι1 e1 hr1 r1 h1 => ?_)
  obtain ⟨d, hd, h2⟩ := Post.of_opR (γ := D) (δ := V) h1
  unfold dSortS at hd
  cases el : listD M1 x with
  | none => rw [el] at hd; cases hd
  | some ds =>
    rw [el, Option.bind_some] at hd
    cases er : rowsL ds with
    | none => rw [er] at hd; cases hd
    | some rs =>
      rw [er, Option.bind_some] at hd
      by_cases c : (decide (rs.length < 64) && srtOk (uniqR rs)) = true
      · rw [if_pos c] at hd
        cases hd
        simp only [Bool.and_eq_true, decide_eq_true_eq] at c
        obtain ⟨l, xs, rfl, ex, rp⟩ := listD_run hr1 r1 el
        have eds := rowsL_is er
        subst eds
        obtain ⟨ks, rfl, e2, e3⟩ := rows_ks rp
        have hks : ks.length = rs.length := by rw [← e2, List.length_map]
        refine ⟨l, ks, rfl, ex.sq, fun p hp => tupI_sq hr1.sub (e3 p hp), by rw [hks]; exact c.1, fun b L hb hs1 hs2 => ?_⟩
        have od : Odd Z1 ι1 M1.length b := .new hr1 hb
        have hrb : HR X.K (upd H1 b (SetTO X.prog X.w b L)) Z1 ι1 M1 := hr1.odd od
        have xb : Ext H1 Z1 ι1 M1.length (upd H1 b (SetTO X.prog X.w b L)) Z1 ι1 M1.length := (Ext.refl).touch hb
        refine ⟨b, L, rfl, upd_same, fun p hp => tupI_sq hrb.sub (e3 p (hs1 p hp)), fun nd => ?_⟩
        have pm : (L.map (·.2)).Perm (uniqR rs) := by
          refine (List.perm_ext_iff_of_nodup nd (uniqR_nodup rs)).mpr fun r => ?_
          rw [mem_uniqR, ← e2]
          constructor
          · intro hr
            obtain ⟨p, hp, rfl⟩ := List.mem_map.mp hr
            exact List.mem_map.mpr ⟨p, hs1 p hp, rfl⟩
          · intro hr
            obtain ⟨p, hp, rfl⟩ := List.mem_map.mp hr
            exact hs2 p hp
        refine ⟨srtOk_perm pm c.2, fun L' p' hL' eL' hp' => ?_⟩
        obtain ⟨hr3, x3⟩ := hrb.frozen (o := .lst (L'.map fun q => V.ref q.1)) hp'
        have rp' : Rps X.K Z1 ι1 M1.length ((srtR (uniqR rs)).map tupI) (L'.map fun p => V.ref p.1) := by
          rw [← srtR_perm pm, ← eL']
          exact rps_rows fun q hq => e3 q (hs1 q (hL' q hq))
        exact h2 _ _ _ _ (xb.trans x3 hrb.ali) hr3 (.lst (.inl (.inl upd_same)) (rp'.ext x3))
      · rw [if_neg c] at hd
        cases hd
end
end Bk

set_option Elab.async false
set_option linter.all false
set_option maxRecDepth 100000
set_option maxHeartbeats 4000000
namespace Bk
open PySem PySem.Spec PyProof.Rows L2 PpSet
/-! ### a set comprehension of tuples of ints, and how many they are -/
section
variable {X : Cx} {pins : List (Addr × Obj)} {σ : St} {H : Hp} {s : Shared}
end
end Bk

set_option Elab.async false
set_option linter.all false
set_option maxRecDepth 100000
set_option maxHeartbeats 4000000
namespace Bk
open PySem PySem.Spec PyProof.Rows L2 PpSet
/-! ### len({e for x in xs if ..}), e a tuple of ints -/
def rowD : D → Option (List Int)
  | .tup xs => intsL xs
  | _ => none
def gScL (gg : GG) (gt : GT) (ge : GE) (Γ0 : Env) : List D → List (List Int) → List MO → R (List (List Int))
  | [], rs, M => .ok rs M
  | d :: ds, rs, M => match gg d Γ0 with
    | none => .bad
    | some Γ1 => (gt Γ1 M).only fun k M1 => if k = true then (ge Γ1 M1).only fun y M2 => match rowD y with
        | some r => if rs.length + 1 < 64 then gScL gg gt ge Γ0 ds (rs ++ [r]) M2 else .bad
        | none => .bad
      else gScL gg gt ge Γ0 ds rs M1
def gLenSc (gi : GI) (gg : GG) (gt : GT) (ge : GE) (vs : List Nat) : GE := fun Γ M => (gi Γ M).bind fun ds M1 => (gScL gg gt ge (forget Γ vs) ds [] M1).bind fun rs M2 => .ok (.int ((uniqR rs).length : Nat)) M2
@[simp] theorem u_gLenSc (gi : GI) (gg : GG) (gt : GT) (ge : GE) (vs : List Nat) (Γ : Env) (M : List MO) : gLenSc gi gg gt ge vs Γ M = ((gi Γ M).bind fun ds M1 => (gScL gg gt ge (forget Γ vs) ds [] M1).bind fun rs M2 => .ok (.int ((uniqR rs).length : Nat)) M2) := Eq.trans rfl rfl
@[simp] theorem scL_nil (gg : GG) (gt : GT) (ge : GE) (Γ0 : Env) (rs : List (List Int)) (M : List MO) : gScL gg gt ge Γ0 [] rs M = .ok rs M := by simp [gScL]
section
variable {X : Cx} {C : CT} {W : WX}
variable {elt tg iter : Expr} {ifs : List Expr} {scope : Scope} {own : List (Str × Nat)} {p q pos : Pos} {gi : GI} {gg : GG} {gt : GT} {ge : GE} {is ixs : List Nat}
end
end Bk

set_option Elab.async false
set_option linter.all false
set_option maxRecDepth 100000
set_option maxHeartbeats 4000000
namespace Bk
open PySem PySem.Spec PyProof.Rows L2
/-! ### attributes stored at once, objects whose fields are ours, keys of a dict of ours, defs that call themselves -/
section
variable {X : Cx} {C : CT} {W : WX} {e o : Expr} {es : List Expr} {nm f m x : Str} {ge go : GE} {gs : GA} {pos apos pos' p : Pos} {C0 : Addr}
abbrev HHs := List D → Env → List MO → Option (List MO)
def gSetFs (ge : GE) (hs : HHs) : GS := fun Γ M => (ge Γ M).thenS Γ fun d M1 => match d with
  | .tup ds => match hs ds Γ M1 with
    | some M2 => .nx Γ M2
    | none => .bad
  | _ => .bad
/-! C(e, ..), the fields may be ours -/
def gNewW (nm : Str) (n : Nat) (F : List D → List MO → R D) (ga : GA) : GE := fun Γ M => (ga Γ M).bind fun ds M1 => if ds.length + 1 = n then (callW F (.ref M1.length :: ds) (M1 ++ [.obj nm []])).bind (newR M1.length) else .bad
variable {k n : Nat} {fa : Addr} {fd : FuncData} {ps : List Str} {F : List D → List MO → R D}
end
/-! a key that is not in a dict -/
section
variable {X : Cx}
end
@[simp] theorem u_gSetFs (ge : GE) (hs : HHs) (Γ : Env) (M : List MO) : gSetFs ge hs Γ M = ((ge Γ M).thenS Γ fun d M1 => match d with
  | .tup ds => match hs ds Γ M1 with
    | some M2 => .nx Γ M2
    | none => .bad
  | _ => .bad) := Eq.trans rfl rfl
@[simp] theorem u_gNewW (nm : Str) (n : Nat) (F : List D → List MO → R D) (ga : GA) (Γ : Env) (M : List MO) : gNewW nm n F ga Γ M = ((ga Γ M).bind fun ds M1 => if ds.length + 1 = n then (callW F (.ref M1.length :: ds) (M1 ++ [.obj nm []])).bind (newR M1.length) else .bad) := Eq.trans rfl rfl
end Bk

set_option Elab.async false
set_option linter.all false
set_option maxRecDepth 100000
set_option maxHeartbeats 4000000
namespace Bk
open PySem PySem.Spec PyProof.Rows L2
/-! ### len(set(xs)) of tuples of ints -/
def dLenSet (M : List MO) (d : D) : Option D := ((listD M d).bind rowsL).bind fun rs => if rs.length < 64 then some (.int ((uniqR rs).length : Nat)) else none
def gLenSet (ge : GE) : GE := fun Γ M => (ge Γ M).bind fun d M1 => opR (dLenSet M1 d) M1
@[simp] theorem u_gLenSet (ge : GE) (Γ : Env) (M : List MO) : gLenSet ge Γ M = ((ge Γ M).bind fun d M1 => opR (dLenSet M1 d) M1) := Eq.trans rfl rfl
section
variable {X : Cx} {C : CT} {W : WX} {a : Expr} {ge : GE} {p p2 pos q : Pos}
end
end Bk

set_option Elab.async false
set_option linter.all false
set_option maxRecDepth 100000
set_option maxHeartbeats 4000000
namespace Bk
open PySem PySem.Spec PyProof.Rows L2
open PySem.Sem (wp)
/-! ### zip(.., strict=True) of two iterators, its step -/
section
variable {prog : Program} {w : World} {A : Around} {E : Value → Shared → Prop} {s : Shared} {z TI TO i1 i2 : Addr} {fp1 fp2 : List Addr} {n1 n2 n i : Nat} {P1 P2 P : Nat → Value → Prop} {St1 St2 St : Nat → Heap → Prop} {a1 a2 : Value}
end
end Bk

set_option Elab.async false
set_option linter.all false
set_option maxRecDepth 100000
set_option maxHeartbeats 4000000
namespace Bk
open PySem PySem.Spec PyProof.Rows L2
open PySem.Sem (wp)
/-! ### enumerate(zip(.., .., strict=True), k) -/
section
variable {prog : Program} {w : World} {A : Around} {E : Value → Shared → Prop} {s : Shared} {z TI TO i1 i2 : Addr} {fp1 fp2 : List Addr} {n1 n2 n i : Nat} {P1 P2 P : Nat → Value → Prop} {St1 St2 St : Nat → Heap → Prop} {a1 a2 : Value}
end
end Bk

set_option Elab.async false
set_option linter.all false
set_option maxRecDepth 100000
set_option maxHeartbeats 4000000
namespace Bk
open PySem PySem.Spec PyProof.Rows L2
/-! ### enumerate(zip(.., .., strict=True), k), the rule -/
end Bk

set_option Elab.async false
set_option linter.all false
set_option maxRecDepth 100000
set_option maxHeartbeats 4000000
namespace Bk
open PySem PySem.Spec PyProof.Rows L2
/-! ### for i, (a, b) in enumerate(zip(.., .., strict=True), k) -/
def enumZO (x y : D) (k : Int) : Option (List D) := match seqD x, seqD y with
  | some ds, some es => if (decide (ds.length = es.length) && decide (-(2 ^ 63) ≤ k) && decide (k < 2 ^ 63)) = true then some (enumL k (zipL ds es)) else none
  | _, _ => none
def gEnumZ (ga gb : GE) (k : Int) : GI := fun Γ M => (ga Γ M).bind fun x M1 => (gb Γ M1).bind fun y M2 => opR (enumZO x y k) M2
@[simp] theorem u_gEnumZ (ga gb : GE) (k : Int) (Γ : Env) (M : List MO) : gEnumZ ga gb k Γ M = (ga Γ M).bind fun x M1 => (gb Γ M1).bind fun y M2 => opR (enumZO x y k) M2 := Eq.trans rfl rfl
section
open PySem.Sem (wp)
variable {prog : Program} {w : World} {A : Around} {E : Value → Shared → Prop} {s : Shared} {z TI TO : Addr} {f0 : Value} {f : Bool}
end
section
variable {X : Cx} {C : CT} {W : WX} {e e2 : Expr} {ga gb : GE} {p p2 pos zpos tpos cp kp ip : Pos} {elts : List Expr} {kk j j2 : Nat} {k : Int}
end
end Bk

set_option Elab.async false
set_option linter.all false
set_option maxRecDepth 100000
set_option maxHeartbeats 4000000
namespace Bk
open PySem PySem.Spec PyProof.Rows L2
/-! ### for a, b in zip(.., .., strict=True) -/
section
variable {prog : Program} {w : World} {A : Around} {E : Value → Shared → Prop} {s : Shared} {z TI TO i1 i2 : Addr} {fp1 fp2 : List Addr} {n1 n2 n i : Nat} {P1 P2 P : Nat → Value → Prop} {St1 St2 St : Nat → Heap → Prop} {a1 a2 : Value}
end
def zipSO (x y : D) : Option (List D) := match seqD x, seqD y with
  | some ds, some es => if ds.length = es.length then some (zipL ds es) else none
  | _, _ => none
def gZipS (ga gb : GE) : GI := fun Γ M => (ga Γ M).bind fun x M1 => (gb Γ M1).bind fun y M2 => opR (zipSO x y) M2
@[simp] theorem u_gZipS (ga gb : GE) (Γ : Env) (M : List MO) : gZipS ga gb Γ M = (ga Γ M).bind fun x M1 => (gb Γ M1).bind fun y M2 => opR (zipSO x y) M2 := Eq.trans rfl rfl
section
variable {X : Cx} {C : CT} {W : WX} {e e2 : Expr} {ga gb : GE} {p2 zpos tpos cp kp : Pos} {elts : List Expr} {kk j : Nat}
end
end Bk

set_option Elab.async false
set_option linter.all false
set_option maxRecDepth 100000
set_option maxHeartbeats 2000000
namespace Bk
open PySem PySem.Spec PyProof.Rows L2
/-! ### errors: classes of the program over ValueError, each with one attribute -/
def errOk (B : Addr) (kd : ClassData) (ar : Array (Option Value)) : Bool := match kd.mro, ar.toList with
  | .ref B2 :: tl, [_, _, _, _, some (.builtin nw), _] => B2 == B && nw == "ValueError.__new__" && !kd.hasDel && kd.hasDict && PySem.HandSPX.refsVE tl
  | _, _ => false
theorem errOk_cls {K : PySem.W.Frag} {B : Addr} {dd : Option Addr} {kd : ClassData} {ar : Array (Option Value)} (ho : K.lookup B = some ⟨.type "type", dd, .cls kd, ar⟩) (q : errOk B kd ar = true) : ∃ nm qn N bs tl sn sub ab col dd k0 k1 k2 k3 k5,
    K.lookup B = some (excClassObj nm qn B N bs tl true sn sub ab col dd k0 k1 k2 k3 k5 "ValueError.__new__") ∧ PySem.HandSPX.refsVE tl = true := by
  unfold errOk at q
  split at q
  · rename_i B2 tl k0 k1 k2 k3 nw k5 hm hs
    simp only [Bool.and_eq_true, beq_iff_eq, Bool.not_eq_true'] at q
    obtain ⟨⟨⟨⟨rfl, rfl⟩, hdel⟩, hdi⟩, hrf⟩ := q
    obtain ⟨nm, bs, mro, ns, qn, hd, sn, sub, ab, col, del⟩ := kd
    dsimp only at hm hdel hdi
    subst hm hdel hdi
    obtain ⟨l⟩ := ar
    simp only at hs
    subst hs
    exact ⟨nm, qn, ns, bs, tl, sn, sub, ab, col, dd, k0, k1, k2, k3, k5, ho, hrf⟩
  · cases q
/-- a class of errors: at B, its attribute f, its maker at fI -/
structure XC (K : PySem.W.Frag) (B fI : Addr) (f : Str) (fd : FuncData) (st : Stmt) (qual : Str) : Prop where
  ok : OexC K B
  xf : XfC K B
  no : PySem.W.findIn K (.ref B) f = some none
  ini : PySem.W.findIn K (.ref B) "__init__" = some (some (.ref fI))
  typ : PySem.W.typeIn K (.ref fI) = some (.type "function")
  fn : Fun K "__init__" qual st fI fd
  bi : Binds K fd ["self", f] []
/-- what the maker does -/
def spI (B : Addr) (f : Str) : Sp := fun vs H Q _ => ∃ (a : Addr) (y : V), vs = [.ref a, y] ∧ H a = some (exo a B none) ∧ ∀ dx, H dx = none → dx ≠ a → Q .non (upd (upd H dx (exd dx [(f, y)])) a (exo a B (some dx)))
theorem maker_ok {P : Program} {w : World} {K : PySem.W.Frag} {mg : Str → Option Value} {base : Heap} {B fI : Addr} {f qual : Str} {fd : FuncData} {st : Stmt} {p1 p2 p3 p4 : Pos} (I : XC K B fI f fd st qual) (S : FnScope ["self", f] ["self", f] (defScope st))
    (hb : defBody st = [.Assign [.Attribute (.Name "self" p1) f p2] (.Name f p3) p4]) (hd : (f == ("__debug__" : Str)) = false) (hcd : (f == ("__classdict__" : Str)) = false) (vs1 : Vis (defScope st) "self") (vs2 : Vis (defScope st) f)
    (hsw : ∀ env : PySem.Env, swapsWith (.Name f p3) (some (.Attribute (.Name "self" p1) f p2)) p4.line env = pure false) : FnOk P w K mg base CX0 1 fI fd ["self", f] (spI B f) := by
  obtain ⟨oc, od, kV, doc, pm, an, cdv, ct, osl, rfl, lk, hcode⟩ := I.fn.ex
  refine fn_of (k := 0) (N := ["self", f]) lk hcode S (fun vs H Q E h => ?_) fun A outer s H vs Q E hr h => ?_
  · obtain ⟨a, y, e, _⟩ := h
    rw [e]
    rfl
  · obtain ⟨a, y, e, ea, q⟩ := h
    subst e
    rw [hb]
    have pv : PE (cxOf CX0 P w K mg base ["self", f] qual (defScope st) fI cdv A outer s H E) (.Name f p3) (tVar 1) := pe_var rfl vs2 hd hcd
    have pself : PE (cxOf CX0 P w K mg base ["self", f] qual (defScope st) fI cdv A outer s H E) (.Name "self" p1) (tVar 0) := pe_var rfl vs1 (by decide) (by decide)
    refine ⟨_, pss_one (ps_ost pself pv (hsw _)), ?_⟩
    exact ⟨y, rfl, .ref a, rfl, a, B, rfl, I.ok, I.no, .inl ⟨ea, fun dx n ne => q dx n ne⟩⟩
section
variable {X : Cx} {C : CT} {W : WX} {B fI : Addr} {f x qual : Str} {fd : FuncData} {st : Stmt} {e : Expr} {ge : GE} {p pos pos1 : Pos}
/-- an error is raised -/
def gRaise (c : Nat) (ge : GE) : GS := fun Γ M => (ge Γ M).thenS Γ fun d M1 => .exc c d Γ M1
theorem qs_raise {c : Nat} (I : XC X.K B fI f fd st qual) (F1 : FnOk X.prog X.w X.K X.mg X.base CX0 1 fI fd ["self", f] (spI B f)) (hr : Room 2 X.A) (hc : X.calm = true) (tk : Takes X W) (hg : Gl X x) (hm : X.mg x = some (.ref B)) (hat : C.at_ c = B) (hnm : C.nm c = f)
    (he : QE X C W e ge) (hdb : (x == ("__debug__" : Str)) = false := by decide) (hs : starEach [e] X.env = (false, eval e X.env) :: starEach [] X.env := by rfl) (hpl : (backTo pos1 (starEach [] X.env)).any (·.1) = false := by rfl) :
    QS X C W (.Raise (some (.Call (.Name x p) [e] [] pos1)) none pos) (gRaise c ge) := by
  obtain ⟨te, pe, qe⟩ := he
  have mk := pmk_oex (pos := pos1) (p := p) (dvs := []) I.ok I.ini I.typ F1 hr I.bi .nil pass0 hg hm (pa_cons pe pa_nil hs) hdb hs hpl
  refine ⟨_, ps_raise hc tk mk, fun Dd σ H Z ι Γ M sl hR h => ?_⟩
  refine qe σ H Z ι Γ M _ sl hR (PostS.bind (rp1 := rpE X.K) h sl fun d M1 v H1 Z1 ι1 e1 hr1 r1 h1 => ?_)
  refine ⟨by show 1 ≤ 1000; decide, fun a ha => ⟨a, v, rfl, upd_same, fun dx hdx ne => ⟨rfl, dx, [(f, v)], upd_same, ?_, ?_, ?_⟩⟩⟩
  · rw [upd_ne ne]
    exact upd_same
  · rw [upd_ne ne] at hdx
    exact hdx
  · have hx : H1 dx = none := by
      rw [upd_ne ne] at hdx
      exact hdx
    have eq : upd (del (upd (upd (upd H1 a (exo a B none)) dx (exd dx [(f, v)])) a (exo a B (some dx))) a) dx (.xd [(f, v)]) = upd H1 dx (.xd [(f, v)]) := by
      funext b
      by_cases h1 : b = dx
      · rw [h1, upd_same, upd_same]
      · rw [upd_ne h1, upd_ne h1]
        by_cases h2 : b = a
        · rw [h2, del_same, ha]
        · rw [del_ne h2, upd_ne h2, upd_ne h1, upd_ne h2]
    rw [eq]
    obtain ⟨hr2, ex⟩ := hr1.frozen (o := .xd [(f, v)]) hx
    exact h1 (.ref B) (some dx) σ _ _ ι1 ex hr2 ((sl.ext e1).ext ex) ⟨by rw [hat], dx, v, rfl, by rw [hnm]; exact upd_same, r1.ext ex⟩
end
@[simp] theorem u_gRaise (c : Nat) (ge : GE) (Γ : Env) (M : List MO) : gRaise c ge Γ M = (ge Γ M).thenS Γ fun d M1 => .exc c d Γ M1 := rfl

/-! ### try -/
theorem Slots.unset {K : PySem.W.Frag} {Z : Hp} {ι : Nat → Addr} {n i : Nat} {Γ : Env} {σ : St} (s : Slots K Z ι n Γ σ) (o : Option V) : Slots K Z ι n (Γ.set i none) (σ.set i o) := by
  refine ⟨by rw [List.length_set, List.length_set]; exact s.1, fun j d h => ?_⟩
  by_cases hj : i = j
  · subst hj
    have lt : i < Γ.length := by
      have := (List.getElem?_eq_some_iff.mp h).1
      rw [List.length_set] at this
      exact this
    rw [List.getElem?_set_self lt] at h
    cases h
  · rw [List.getElem?_set_ne hj] at h ⊢
    exact s.2 j d h
/-- a clause: which classes it takes, the slot of its name, what it does with the error's attribute -/
structure Hd where
  is : Nat → Bool
  slot : Option Nat
  run : D → GS
def RS.noExc (r : RS) : RS := match r with
  | .exc _ _ _ _ => .bad
  | r => r
def RS.unset (i : Nat) (r : RS) : RS := match r with
  | .nx Γ M => .nx (Γ.set i none) M
  | .bk Γ M => .bk (Γ.set i none) M
  | .ct Γ M => .ct (Γ.set i none) M
  | r => r
def pickH : List Hd → Nat → D → GS
  | [], c, d => fun Γ M => .exc c d Γ M
  | h :: r, c, d => fun Γ M => if h.is c = true then (match h.slot with
      | none => (h.run d Γ M).noExc
      | some i => if i < Γ.length then ((h.run d (Γ.set i none) M).noExc).unset i else .bad) else pickH r c d Γ M
def RS.caught (m : Nat) (hs : List Hd) (r : RS) : RS := match r with
  | .exc c d Γ M => if c < m then pickH hs c d Γ M else .bad
  | r => r
def gTry (m : Nat) (body : GS) (hs : List Hd) : GS := fun Γ M => (body Γ M).caught m hs

/-- the suite of a clause without a name -/
def QOnly (X : Cx) (C : CT) (sts : List Stmt) (g : GS) : Prop := ∀ (a : Addr) (oe : Obj) (pn : List (Addr × Obj)), QSs (X.suite a ((a, oe) :: pn)) C noW sts g
/-- the suite of a clause 'as n' for the class k -/
def QAs (X : Cx) (C : CT) (k i : Nat) (sts : List Stmt) (g : D → GS) : Prop := ∀ (a : Addr) (oe : Obj) (cls : Value) (dd : Option Addr) (pn : List (Addr × Obj)), Zc cls dd oe → (∃ vs, oe.data = .fields vs) →
  ∃ ts, PSs (X.suite a ((a, oe) :: pn)) sts ts ∧ ∀ (Dd : Ends) (σ : L2.St) (H Z : Hp) (ι : Nat → Addr) (Γ : Env) (M : List MO) (d : D), σ[i]? = some (some (.ref a)) → Γ[i]? = some none → ExcR X.K C H Z ι M.length k d cls dd → Slots X.K Z ι M.length Γ σ → HR X.K H Z ι M →
    PostS X C noW H Z ι M (g d Γ M) Dd → ts Dd σ H
/-- readings of the suites -/
abbrev TSx := Addr → Value → Option Addr → TS
def tOnly (X : Cx) (C : CT) (g : D → GS) : TSx := fun _ cls dd Dd σ H => ∃ (Z : Hp) (ι : Nat → Addr) (Γ : Env) (M : List MO) (c : Nat) (d : D), ExcR X.K C H Z ι M.length c d cls dd ∧ Slots X.K Z ι M.length Γ σ ∧ HR X.K H Z ι M ∧ PostS X C noW H Z ι M (g d Γ M) Dd
def tAs (X : Cx) (C : CT) (k i : Nat) (g : D → GS) : TSx := fun a cls dd Dd σ H => ∃ (Z : Hp) (ι : Nat → Addr) (Γ : Env) (M : List MO) (d : D), σ[i]? = some (some (.ref a)) ∧ Γ[i]? = some none ∧ ExcR X.K C H Z ι M.length k d cls dd ∧ Slots X.K Z ι M.length Γ σ ∧ HR X.K H Z ι M ∧ PostS X C noW H Z ι M (g d Γ M) Dd
def endsU (i : Nat) (Dd : Ends) : Ends := { nx := fun σ H => Dd.nx (σ.set i none) H, rt := Dd.rt, bk := fun σ H => Dd.bk (σ.set i none) H, ct := fun σ H => Dd.ct (σ.set i none) H }
/-- what the clauses wish of an error of the body -/
def wHd (K : PySem.W.Frag) (Wo : WX) (Dd : Ends) : List (Value × Option Nat × TSx) → WX
  | [] => Wo
  | (c, none, ts) :: r => fun cls d σ H => ∃ b, PySem.W.exmOne K cls c = some b ∧ (b = true → ∀ a, H a = none → ts a cls d Dd σ H) ∧ (b = false → wHd K Wo Dd r cls d σ H)
  | (c, some i, ts) :: r => fun cls d σ H => ∃ b, PySem.W.exmOne K cls c = some b ∧ (b = true → ∀ a, H a = none → ts a cls d (endsU i Dd) (σ.set i (some (.ref a))) H) ∧ (b = false → wHd K Wo Dd r cls d σ H)
inductive HdK (X : Cx) : List ExceptHandler → List (Value × Option Nat × TSx) → Prop
  | nil : HdK X [] []
  | only {x : Str} {c : Value} {ts : TSx} {b0 : Stmt} {su : List Stmt} {np po : Pos} {hds : List ExceptHandler} {l : List (Value × Option Nat × TSx)} (hc : Names X x c)
      (hsu : ∀ (a : Addr) (oe : Obj) (cls : Value) (d : Option Addr) (pn : List (Addr × Obj)), Zc cls d oe → (∃ us, oe.data = .fields us) → PSs (X.suite a ((a, oe) :: pn)) (b0 :: su) (ts a cls d)) (r : HdK X hds l) :
      HdK X (.ExceptHandler (some (.Name x np)) none (b0 :: su) po :: hds) ((c, none, ts) :: l)
  | as {x n : Str} {i : Nat} {c : Value} {ts : TSx} {b0 : Stmt} {su : List Stmt} {np po : Pos} {hds : List ExceptHandler} {l : List (Value × Option Nat × TSx)} (hc : Names X x c) (hN : X.N.Nodup) (hi : X.N[i]? = some n) (hln : X.env.kindOf n = some .local)
      (hsu : ∀ (a : Addr) (oe : Obj) (cls : Value) (d : Option Addr) (pn : List (Addr × Obj)), Zc cls d oe → (∃ us, oe.data = .fields us) → PSs (X.suite a ((a, oe) :: pn)) (b0 :: su) (ts a cls d)) (r : HdK X hds l) :
      HdK X (.ExceptHandler (some (.Name x np)) (some n) (b0 :: su) po :: hds) ((c, some i, ts) :: l)
section
variable {X : Cx} {body : List Stmt} {h0 : ExceptHandler} {hds : List ExceptHandler} {l : List (Value × Option Nat × TSx)} {pos : Pos} {tb : WX → TS} {Wo : WX}
/-- try with any clauses, named or not -/
theorem ps_tryK (hs : X.stack = X.env :: X.outer) (hf : X.env.frame = some X.env.locals) (tk : Takes X Wo)
    (hb : ∀ (W : WX) (pn : List (Addr × Obj)) (xe : Value → Shared → Prop), Takes (X.tr pn xe) W → PassesOwn (model X.prog X.w) X.A X.env xe → PSs (X.tr pn xe) body (tb W))
    (hh : HdK X (h0 :: hds) l) : PS X (.Try body (h0 :: hds) [] [] pos) (fun Dd σ H => tb (wHd X.K Wo Dd l) Dd σ H) := by
  refine ⟨fun pi s σ H Dd I h => ?_⟩
  have okX := I.ok
  have frm : X.A.frames = some (X.env :: X.outer) := by rw [okX.frames, hs]
  refine wpAny_Try_except ?_
  refine wpAny_mono ((hb (wHd X.K Wo Dd l) (X.pn ++ pi) (fun e s₁ => wpAny (model X.prog X.w) X.A (noteFrame e X.env) (fun _ s₂ => wpAny (model X.prog X.w) X.A (setFlight e none) (fun _ s₃ =>
    wpAny (model X.prog X.w) X.A (handleBy e X.env (h0 :: hds)) (SP X pi Dd) X.xe s₃) X.xe s₂) X.xe s₁) (fun u s' xx => ?_) PassesOwn.looking).run [] s σ H Dd (I.toTry _) h) (fun fl s1 hsp => ?_) (fun e s1 he => he)
  · obtain ⟨a, B, sI, pi2, σ2, H2, cls, dd, rfl, J0, nb, up, sky, na, os, ag, w⟩ := xx
    have J : Inv X pi σ2 H2 sI := J0.ofTry okX
    have sky2 : Sky B (X.env :: X.outer) a (Zc cls dd) X.env.locals s'.heap := by rw [← hs]; exact sky
    show wpAny (model X.prog X.w) X.A (noteFrame (.ref a) X.env) _ _ _
    refine Sky.land Zc.steady frm hf sky2 fun h3 f3 u3 => ?_
    have J3 : Inv X pi σ2 H2 { s' with heap := h3 } := J.landed nb f3.1 (up.trans u3) os ag
    obtain ⟨oe3, vs3, he3, hz3, hd3⟩ := f3.there
    have notF : ∀ {hp : Heap} {ob : Obj} {us : Array Value}, hp.FunFrames B (X.env :: X.outer) → hp.get? a = some ob → ob.data = .fields us → a ∉ frs (X.env :: X.outer) := fun {hp ob us} ff e1 e2 hm => by
      obtain ⟨_, ob2, e3, hnf⟩ := ff.mem hm
      rw [e1] at e3
      cases e3
      exact hnf _ e2
    have nfr := notF f3.2.2.1 he3 hd3
    have nL : a ≠ X.env.locals := fun z => nfr (List.mem_filterMap.mpr ⟨X.env, List.mem_cons_self, by rw [hf, z]⟩)
    have nF : a ∉ X.fs := fun hm => by
      obtain ⟨en, hen, qe⟩ := List.mem_filterMap.mp hm
      exact nfr (List.mem_filterMap.mpr ⟨en, List.mem_cons_of_mem _ hen, qe⟩)
    have S3 := J3.suite he3 hd3 na nL nF
    have look : ∀ {c : Value} {b : Bool}, PySem.W.exmOne X.K cls c = some b → ∀ {Q : Bool → Shared → Prop} {E : Value → Shared → Prop}, True := fun _ => trivial
    have go : ∀ {hk : List ExceptHandler} {lk : List (Value × Option Nat × TSx)}, HdK X hk lk → wHd X.K Wo Dd lk cls dd σ2 H2 →
        wpAny (model X.prog X.w) X.A (handleBy (.ref a) X.env hk) (SP X pi Dd) X.xe { s' with heap := h3 } := by
      intro hk lk K0
      induction K0 with
      | nil =>
        intro w
        refine wpAny_handleBy_nil ?_
        obtain ⟨k1, k2, k3, oe, us, T, oT, ts2, hea, hza, hda, h1a, hra⟩ := id f3
        unfold PySem.passOn
        refine wpAny_bind (wpAny_field hea hda h1a ?_)
        rw [if_neg (show ¬ ((Value.ref T == Value.none) = true) from by simp)]
        have fin : wpAny (model X.prog X.w) X.A (setFlight (.ref a) X.env.frame) (fun _ s4 => wpAny (model X.prog X.w) X.A (throw (.ref a) : Sem Flow) (SP X pi Dd) X.xe s4) X.xe { s' with heap := h3 } := by
          rw [hf]
          refine HandSPX.setFlight_upZ f3 fun h4 g4 u4 => wpAny_throw (tk _ _ ?_)
          exact ⟨a, B, sI, pi, σ2, H2, cls, dd, rfl, J, nb, (up.trans u3).trans u4, .inr (.inr (by rw [hs]; exact g4)), na, os, ag, w⟩
        first
          | exact wpAny_bind (wpAny_pure (wpAny_bind fin))
          | exact wpAny_bind fin
      | @only x c ts b0 su np po hk2 l2 hc hsu r ih =>
        intro w
        obtain ⟨b, hb1, hyes, hno⟩ := w
        refine wpAny_handleBy_cons (codeAny_handlers_test ?_) (by intro q; cases q)
        have LT : PySem.W.Looks (model X.prog X.w) h3 (typeOf (.ref a)) cls := fun A2 Q2 E2 s2 k2 q2 => wpAny_typeOf_ref (k2 _ _ he3) (by rw [hz3.1]; exact q2)
        have LM := PySem.W.exm_one (M := model X.prog X.w) (J3.kIn) LT hb1
        have test : ∀ {Q E : Value → Shared → Prop}, Q c { s' with heap := h3 } → wpAny (model X.prog X.w) (X.A.mark (some (.ref a))) (eval (.Name x np) X.env) Q E { s' with heap := h3 } := fun {Q E} q => by
          obtain ⟨hg, hdbg, hm | ⟨hm, hv, hnn⟩⟩ := hc
          · exact ld_glob (X := X.suite a ((a, oe3) :: (X.pn ++ pi))) S3 hg hm q hdbg
          · exact ld_blt (X := X.suite a ((a, oe3) :: (X.pn ++ pi))) S3 hg hm hv q hnn hdbg
        refine test (LM.here ?_)
        cases b with
        | true =>
          refine codeAny_handlers_suite ?_
          refine HandSPX.lands_againZ f3 fun h4 f4 u4 => ?_
          have J4 : Inv X pi σ2 H2 { s' with heap := h4 } := J.landed nb f4.1 ((up.trans u3).trans u4) os ag
          obtain ⟨oe4, vs4, he4, hz4, hd4⟩ := f4.there
          have S4 := J4.suite he4 hd4 na nL nF
          refine wpAny_mono ((hsu a oe4 cls dd (X.pn ++ pi) hz4 ⟨_, hd4⟩).run [] _ _ H2 _ S4 (hyes rfl a na)) (fun fl s6 q6 => ?_) (fun _ _ z => False.elim z)
          cases fl with
          | next => exact let ⟨_, _, S6, q⟩ := q6; ⟨_, _, S6.unsuite okX, q⟩
          | brk => exact let ⟨_, _, S6, q⟩ := q6; ⟨_, _, S6.unsuite okX, q⟩
          | cont => exact let ⟨_, _, S6, q⟩ := q6; ⟨_, _, S6.unsuite okX, q⟩
          | ret u => exact let ⟨_, _, _, S6, r6, q⟩ := q6; ⟨_, _, _, S6.unsuite okX, r6, q⟩
        | false =>
          show wpAny _ X.A (handleBy (.ref a) X.env hk2) _ _ _
          exact ih (hno rfl)
      | @as x n i c ts b0 su np po hk2 l2 hc hN hi hln hsu r ih =>
        intro w
        obtain ⟨b, hb1, hyes, hno⟩ := w
        have vis : Loc X.env.scope n := .inl hln
        refine wpAny_handleBy_cons (codeAny_handlers_test ?_) (by intro q; cases q)
        have LT : PySem.W.Looks (model X.prog X.w) h3 (typeOf (.ref a)) cls := fun A2 Q2 E2 s2 k2 q2 => wpAny_typeOf_ref (k2 _ _ he3) (by rw [hz3.1]; exact q2)
        have LM := PySem.W.exm_one (M := model X.prog X.w) (J3.kIn) LT hb1
        have test : ∀ {Q E : Value → Shared → Prop}, Q c { s' with heap := h3 } → wpAny (model X.prog X.w) (X.A.mark (some (.ref a))) (eval (.Name x np) X.env) Q E { s' with heap := h3 } := fun {Q E} q => by
          obtain ⟨hg, hdbg, hm | ⟨hm, hv, hnn⟩⟩ := hc
          · exact ld_glob (X := X.suite a ((a, oe3) :: (X.pn ++ pi))) S3 hg hm q hdbg
          · exact ld_blt (X := X.suite a ((a, oe3) :: (X.pn ++ pi))) S3 hg hm hv q hnn hdbg
        refine test (LM.here ?_)
        cases b with
        | true =>
          refine codeAny_handlers_suite_as ?_
          refine HandSPX.lands_againZ f3 fun h4 f4 u4 => ?_
          have J4 : Inv X pi σ2 H2 { s' with heap := h4 } := J.landed nb f4.1 ((up.trans u3).trans u4) os ag
          obtain ⟨oe4, vs4, he4, hz4, hd4⟩ := f4.there
          have S4 := J4.suite he4 hd4 na nL nF
          refine store_ok (X := X.suite a ((a, oe4) :: (X.pn ++ pi))) (v := .ref a) S4 hN hi vis rfl (fun s5 S5 => ?_) (.inr hln)
          refine wpAny_mono ((hsu a oe4 cls dd (X.pn ++ pi) hz4 ⟨_, hd4⟩).run [] s5 _ H2 _ S5 (hyes rfl a na)) (fun fl s6 q6 => ?_) (fun _ _ z => False.elim z)
          have shut : ∀ {σ6 : L2.St} {H6 : Hp} {Q : Shared → Prop}, Inv (X.suite a ((a, oe4) :: (X.pn ++ pi))) [] σ6 H6 s6 → (∀ s7, Inv X pi (σ6.set i none) H6 s7 → Q s7) →
              wpAny (model X.prog X.w) X.A (do bindName X.env n .none; unbindBehindTheSuite X.env n po) (fun _ s7 => Q s7) X.xe s6 := fun {σ6 H6 Q} S6 hq => gone_ok (S6.unsuite okX) hN hi hln hq
          cases fl with
          | next => exact let ⟨_, _, S6, q⟩ := q6; shut S6 fun _ J7 => ⟨_, _, J7, q⟩
          | brk => exact let ⟨_, _, S6, q⟩ := q6; shut S6 fun _ J7 => ⟨_, _, J7, q⟩
          | cont => exact let ⟨_, _, S6, q⟩ := q6; shut S6 fun _ J7 => ⟨_, _, J7, q⟩
          | ret u => exact let ⟨_, _, _, S6, r6, q⟩ := q6; shut S6 fun _ J7 => ⟨_, _, _, J7, r6, q⟩
        | false =>
          show wpAny _ X.A (handleBy (.ref a) X.env hk2) _ _ _
          exact ih (hno rfl)
    exact go hh w
  · cases fl with
    | next => exact let ⟨_, _, J2, q⟩ := hsp; wpAny_execs_nil ⟨_, _, J2.ofTry okX, q⟩
    | brk => exact let ⟨_, _, J2, q⟩ := hsp; ⟨_, _, J2.ofTry okX, q⟩
    | cont => exact let ⟨_, _, J2, q⟩ := hsp; ⟨_, _, J2.ofTry okX, q⟩
    | ret u => exact let ⟨_, _, _, J2, r, q⟩ := hsp; ⟨_, _, _, J2.ofTry okX, r, q⟩
end
end Bk

set_option Elab.async false
set_option linter.all false
set_option maxRecDepth 100000
set_option maxHeartbeats 2000000
namespace Bk
open PySem PySem.Spec PyProof.Rows L2
/-! ### try: the rule, and the readings of an error's attribute -/
section
variable {X : Cx} {C : CT} {W : WX} {H Z H1 Z1 : Hp} {ι ι1 : Nat → Addr} {M M1 : List MO} {Dd : Ends}
theorem ExcR.ext {n n' c : Nat} {d : D} {cls : Value} {dd : Option Addr} (x : ExcR X.K C H Z ι n c d cls dd) (e : Ext H Z ι n H1 Z1 ι1 n') : ExcR X.K C H1 Z1 ι1 n' c d cls dd := by
  obtain ⟨x1, a, v, x2, x3, x4⟩ := x
  exact ⟨x1, a, v, x2, e.zz _ _ x3, x4.ext e⟩
theorem PSs.weak {st : List Stmt} {t t' : TS} (h : PSs X st t) (hw : ∀ D σ H, t' D σ H → t D σ H) : PSs X st t' := ⟨fun pi s σ H D I q => h.run pi s σ H D I (hw D σ H q)⟩
theorem PostS.noExc {r : RS} (h : PostS X C W H Z ι M r.noExc Dd) : PostS X C noW H Z ι M r Dd := by
  cases r with
  | exc c d Γ M' => exact False.elim h
  | nx Γ M' => exact h
  | bk Γ M' => exact h
  | ct Γ M' => exact h
  | rt d M' => exact h
  | bad => exact h
theorem PostS.unset {r : RS} {i : Nat} (h : PostS X C W H Z ι M (r.unset i) Dd) : PostS X C W H Z ι M r (endsU i Dd) := by
  cases r with
  | nx Γ M' => exact fun σ' H' Z' ι' e hr sl => h _ H' Z' ι' e hr (sl.unset none)
  | bk Γ M' => exact fun σ' H' Z' ι' e hr sl => h _ H' Z' ι' e hr (sl.unset none)
  | ct Γ M' => exact fun σ' H' Z' ι' e hr sl => h _ H' Z' ι' e hr (sl.unset none)
  | rt d M' => exact h
  | exc c d Γ M' => exact h
  | bad => exact h
end
/-- the clauses, as they are computed -/
inductive HdQ (X : Cx) (C : CT) (m : Nat) : List ExceptHandler → List Hd → Prop
  | nil : HdQ X C m [] []
  | only {x : Str} {c : Value} {b0 : Stmt} {su : List Stmt} {np po : Pos} {hds : List ExceptHandler} {hs : List Hd} {is : Nat → Bool} {g : GS} (hc : Names X x c) (ht : ∀ k, k < m → PySem.W.exmOne X.K (.ref (C.at_ k)) c = some (is k))
      (hq : QOnly X C (b0 :: su) g) (r : HdQ X C m hds hs) : HdQ X C m (.ExceptHandler (some (.Name x np)) none (b0 :: su) po :: hds) (⟨is, none, fun _ => g⟩ :: hs)
  | as {x n : Str} {i k : Nat} {c : Value} {b0 : Stmt} {su : List Stmt} {np po : Pos} {hds : List ExceptHandler} {hs : List Hd} {g : D → GS} (hc : Names X x c) (hN : X.N.Nodup) (hi : X.N[i]? = some n) (hln : X.env.kindOf n = some .local)
      (ht : ∀ j, j < m → PySem.W.exmOne X.K (.ref (C.at_ j)) c = some (decide (j = k))) (hq : QAs X C k i (b0 :: su) g) (r : HdQ X C m hds hs) :
      HdQ X C m (.ExceptHandler (some (.Name x np)) (some n) (b0 :: su) po :: hds) (⟨fun j => decide (j = k), some i, g⟩ :: hs)
theorem HdQ.toK {X : Cx} {C : CT} {m : Nat} {hds : List ExceptHandler} {hs : List Hd} (h : HdQ X C m hds hs) : ∃ l, HdK X hds l ∧ ∀ (Wo : WX) (Dd : Ends) (H Z : Hp) (ι : Nat → Addr) (Γ : Env) (M : List MO) (σ : L2.St) (cls : Value) (dd : Option Addr) (c : Nat) (d : D),
    c < m → ExcR X.K C H Z ι M.length c d cls dd → Slots X.K Z ι M.length Γ σ → HR X.K H Z ι M → PostS X C Wo H Z ι M (pickH hs c d Γ M) Dd → wHd X.K Wo Dd l cls dd σ H := by
  induction h with
  | nil => exact ⟨[], .nil, fun Wo Dd H Z ι Γ M σ cls dd c d hcm x sl hr h => h cls dd σ H Z ι .refl hr sl x⟩
  | @only x c0 b0 su np po hds hs is g hc ht hq r ih =>
    obtain ⟨l, hk, hw⟩ := ih
    refine ⟨(c0, none, tOnly X C fun _ => g) :: l, .only hc (fun a oe cls dd pn _ _ => ?_) hk, fun Wo Dd H Z ι Γ M σ cls dd c d hcm x sl hr h => ?_⟩
    · obtain ⟨ts, ps, qs⟩ := hq a oe pn
      refine PSs.weak ps fun D σ H q => ?_
      obtain ⟨Z, ι, Γ, M, c, d, x, sl, hr, h⟩ := q
      exact qs D σ H Z ι Γ M sl hr h
    · refine ⟨is c, by rw [x.1]; exact ht c hcm, fun hb a ha => ?_, fun hb => ?_⟩
      · have h2 : PostS X C Wo H Z ι M (if is c = true then (g Γ M).noExc else pickH hs c d Γ M) Dd := h
        rw [if_pos hb] at h2
        exact ⟨Z, ι, Γ, M, c, d, x, sl, hr, h2.noExc⟩
      · have h2 : PostS X C Wo H Z ι M (if is c = true then (g Γ M).noExc else pickH hs c d Γ M) Dd := h
        rw [if_neg (by rw [hb]; decide)] at h2
        exact hw Wo Dd H Z ι Γ M σ cls dd c d hcm x sl hr h2
  | @as x n i k c0 b0 su np po hds hs g hc hN hi hln ht hq r ih =>
    obtain ⟨l, hk, hw⟩ := ih
    refine ⟨(c0, some i, tAs X C k i g) :: l, .as hc hN hi hln (fun a oe cls dd pn hz hf => ?_) hk, fun Wo Dd H Z ι Γ M σ cls dd c d hcm x sl hr h => ?_⟩
    · obtain ⟨ts, ps, qs⟩ := hq a oe cls dd pn hz hf
      refine PSs.weak ps fun D σ H q => ?_
      obtain ⟨Z, ι, Γ, M, d, e1, e2, x, sl, hr, h⟩ := q
      exact qs D σ H Z ι Γ M d e1 e2 x sl hr h
    · refine ⟨decide (c = k), by rw [x.1]; exact ht c hcm, fun hb a ha => ?_, fun hb => ?_⟩
      · have h2 : PostS X C Wo H Z ι M (if decide (c = k) = true then (if i < Γ.length then ((g d (Γ.set i none) M).noExc).unset i else .bad) else pickH hs c d Γ M) Dd := h
        rw [if_pos hb] at h2
        have ck : c = k := of_decide_eq_true hb
        subst ck
        by_cases li : i < Γ.length
        · rw [if_pos li] at h2
          exact ⟨Z, ι, Γ.set i none, M, d, List.getElem?_set_self (by rw [← sl.1]; exact li), List.getElem?_set_self li, x, sl.unset _, hr, h2.unset.noExc⟩
        · rw [if_neg li] at h2
          exact h2.elim
      · have h2 : PostS X C Wo H Z ι M (if decide (c = k) = true then (if i < Γ.length then ((g d (Γ.set i none) M).noExc).unset i else .bad) else pickH hs c d Γ M) Dd := h
        rw [if_neg (by rw [hb]; decide)] at h2
        exact hw Wo Dd H Z ι Γ M σ cls dd c d hcm x sl hr h2
section
variable {X : Cx} {C : CT} {W : WX}
theorem qs_try {m : Nat} {body : List Stmt} {h0 : ExceptHandler} {hds : List ExceptHandler} {hl : List Hd} {g : GS} {pos : Pos} (hs : X.stack = X.env :: X.outer) (hf : X.env.frame = some X.env.locals) (tk : Takes X W)
    (hb : ∀ (W1 : WX) (pn : List (Addr × Obj)) (xe : Value → Shared → Prop), Takes (X.tr pn xe) W1 → PassesOwn (model X.prog X.w) X.A X.env xe → QSs (X.tr pn xe) C W1 body g)
    (hh : HdQ X C m (h0 :: hds) hl) : QS X C W (.Try body (h0 :: hds) [] [] pos) (gTry m g hl) := by
  obtain ⟨l, hk, hw⟩ := hh.toK
  refine ⟨_, ps_tryK (tb := fun W1 Dd σ H => ∃ (Z : Hp) (ι : Nat → Addr) (Γ : Env) (M : List MO), Slots X.K Z ι M.length Γ σ ∧ HR X.K H Z ι M ∧ PostS X C W1 H Z ι M (g Γ M) Dd) hs hf tk (fun W1 pn xe t1 po => ?_) hk, fun Dd σ H Z ι Γ M sl hr h => ⟨Z, ι, Γ, M, sl, hr, ?_⟩⟩
  · obtain ⟨ts, ps, qs⟩ := hb W1 pn xe t1 po
    refine PSs.weak ps fun D σ H q => ?_
    obtain ⟨Z, ι, Γ, M, sl, hr, h⟩ := q
    exact qs D σ H Z ι Γ M sl hr h
  · have h' : PostS X C W H Z ι M ((g Γ M).caught m hl) Dd := h
    cases eg : g Γ M with
    | exc c d Γ1 M1 =>
      rw [eg] at h'
      have h2 : PostS X C W H Z ι M (if c < m then pickH hl c d Γ1 M1 else .bad) Dd := h'
      by_cases hc : c < m
      · rw [if_pos hc] at h2
        intro cls dd σ' H' Z' ι' e hr' sl' x
        exact hw W Dd H' Z' ι' Γ1 M1 σ' cls dd c d hc x sl' hr' (h2.shift e hr')
      · rw [if_neg hc] at h2
        exact h2.elim
    | nx Γ1 M1 => rw [eg] at h'; exact h'
    | bk Γ1 M1 => rw [eg] at h'; exact h'
    | ct Γ1 M1 => rw [eg] at h'; exact h'
    | rt d M1 => rw [eg] at h'; exact h'
    | bad => rw [eg] at h'; exact h'
/-! expressions in a suite that read the error's attribute -/
abbrev RdX (X : Cx) (C : CT) (k i : Nat) (a : Addr) (cls : Value) (dd : Option Addr) {α β : Type} (rp : RpK α β) (te : L2.St → Hp → (β → Hp → Prop) → Prop) (g : D → Env → List MO → R α) : Prop :=
  ∀ (σ : L2.St) (H Z : Hp) (ι : Nat → Addr) (Γ : Env) (M : List MO) (Q : β → Hp → Prop) (d : D), σ[i]? = some (some (.ref a)) → Γ[i]? = some none → ExcR X.K C H Z ι M.length k d cls dd → Slots X.K Z ι M.length Γ σ → HR X.K H Z ι M → Post X C noW rp σ H Z ι M (g d Γ M) Q → te σ H Q
def QEx (X : Cx) (C : CT) (k i : Nat) (e : Expr) (g : D → GE) : Prop := ∀ (a : Addr) (oe : Obj) (cls : Value) (dd : Option Addr) (pn : List (Addr × Obj)), Zc cls dd oe → (∃ vs, oe.data = .fields vs) → ∃ te, PE (X.suite a ((a, oe) :: pn)) e te ∧ RdX X C k i a cls dd (rpE X.K) te g
def QAx (X : Cx) (C : CT) (k i : Nat) (es : List Expr) (g : D → GA) : Prop := ∀ (a : Addr) (oe : Obj) (cls : Value) (dd : Option Addr) (pn : List (Addr × Obj)), Zc cls dd oe → (∃ vs, oe.data = .fields vs) → ∃ te, PA (X.suite a ((a, oe) :: pn)) es te ∧ RdX X C k i a cls dd (rpA X.K) te g
variable {k i : Nat} {e e1 e2 : Expr} {es : List Expr} {g ga gb : D → GE} {gs : D → GA} {gt : D → GT} {pos np : Pos}
theorem qx_lift {g : GE} (h : ∀ (a : Addr) (oe : Obj) (pn : List (Addr × Obj)), QE (X.suite a ((a, oe) :: pn)) C noW e g) : QEx X C k i e (fun _ => g) := fun a oe cls dd pn _ _ => by
  obtain ⟨te, pe, qe⟩ := h a oe pn
  exact ⟨te, pe, fun σ H Z ι Γ M Q d _ _ _ sl hr h => qe σ H Z ι Γ M Q sl hr h⟩
theorem qx_at {B : Addr} {n f : Str} (hi : X.N[i]? = some n) (hv : Vis X.env.scope n) (hat : C.at_ k = B) (hnm : C.nm k = f) (T : XfC X.K B) (no : PySem.W.findIn X.K (.ref B) f = some none) (hd : (n == ("__debug__" : Str)) = false := by decide) (hcd : (n == ("__classdict__" : Str)) = false := by decide)
    (hb : attributeBase (.Name n np) f X.env (eval (.Name n np) X.env) = eval (.Name n np) X.env := by rfl) : QEx X C k i (.Attribute (.Name n np) f pos) (fun d => gC d) := fun a oe cls dd pn hz hf => by
  refine ⟨_, pe_xf T no hz hf (pe_var (X := X.suite a ((a, oe) :: pn)) hi hv hd hcd) hb, fun σ H Z ι Γ M Q d es eΓ x sl hr h => ?_⟩
  obtain ⟨x1, b, v, x2, x3, x4⟩ := x
  rw [hat] at x1
  rw [hnm] at x3
  exact ⟨.ref a, es, rfl, x1, b, [(f, v)], v, x2, hr.sub _ _ x3, by simp [List.lookup], h v H Z ι .refl hr x4⟩
theorem qax_nil : QAx X C k i [] (fun _ => gNil) := fun a oe cls dd pn _ _ => ⟨_, pa_nil, fun σ H Z ι Γ M Q d _ _ _ sl hr h => h [] H Z ι .refl hr .nil⟩
theorem qax_cons (ha : QEx X C k i e g) (hb : QAx X C k i es gs) (hs : starEach (e :: es) X.env = (false, eval e X.env) :: starEach es X.env := by rfl) : QAx X C k i (e :: es) (fun d => gCons (g d) (gs d)) := fun a oe cls dd pn hz hf => by
  obtain ⟨ta, pa, qa⟩ := ha a oe cls dd pn hz hf
  obtain ⟨tb, pb, qb⟩ := hb a oe cls dd pn hz hf
  exact ⟨_, pa_cons (X := X.suite a ((a, oe) :: pn)) pa pb hs, fun σ H Z ι Γ M Q d e1 e2 x sl hr h => qa σ H Z ι Γ M _ d e1 e2 x sl hr (h.bind fun y M1 v H1 Z1 ι1 x1 hr1 r1 h1 => qb σ H1 Z1 ι1 Γ M1 _ d e1 e2 (x.ext x1) (sl.ext x1) hr1 (h1.bind fun ys M2 u H2 Z2 ι2 x2 hr2 r2 h2 => h2 _ H2 Z2 ι2 .refl hr2 (.cons (r1.ext x2) r2)))⟩
theorem qx_tup {x1} (ha : QAx X C k i es gs) : QEx X C k i (.Tuple es x1 pos) (fun d => gTup (gs d)) := fun a oe cls dd pn hz hf => by
  obtain ⟨ta, pa, qa⟩ := ha a oe cls dd pn hz hf
  refine ⟨_, pe_tup pa, fun σ H Z ι Γ M Q d e1 e2 x sl hr h => qa σ H Z ι Γ M _ d e1 e2 x sl hr (h.bind fun ys M1 v H1 Z1 ι1 x1 hr1 r1 h1 => ?_)⟩
  by_cases hl : ys.length ≤ sizeLine
  · rw [if_pos hl] at h1
    exact ⟨by rw [← r1.length]; exact hl, (Post.after (X := X.suite a ((a, oe) :: pn)) (C := C) (W := noW) (σ := σ) h1).tup hr1 r1⟩
  · rw [if_neg hl] at h1
    exact h1.elim
/-! suites -/
theorem qas_ret (h : QEx X C k i e g) : QAs X C k i [.Return (some e) pos] (fun d => gRet (g d)) := fun a oe cls dd pn hz hf => by
  obtain ⟨te, pe, qe⟩ := h a oe cls dd pn hz hf
  exact ⟨_, pss_one (ps_ret pe), fun Dd σ H Z ι Γ M d e1 e2 x sl hr h => qe σ H Z ι Γ M _ d e1 e2 x sl hr (PostS.bind h sl fun y M1 v H1 Z1 ι1 x1 hr1 r1 h1 => h1 v H1 Z1 ι1 .refl hr1 r1)⟩
end
@[simp] theorem u_gTry (m : Nat) (b : GS) (hs : List Hd) (Γ : Env) (M : List MO) : gTry m b hs Γ M = (b Γ M).caught m hs := rfl
@[simp] theorem u_cExc (m : Nat) (hs : List Hd) (c : Nat) (d : D) (Γ : Env) (M : List MO) : (RS.exc c d Γ M).caught m hs = if c < m then pickH hs c d Γ M else .bad := rfl
@[simp] theorem u_cNx (m : Nat) (hs : List Hd) (Γ : Env) (M : List MO) : (RS.nx Γ M).caught m hs = .nx Γ M := rfl
@[simp] theorem u_cRt (m : Nat) (hs : List Hd) (d : D) (M : List MO) : (RS.rt d M).caught m hs = .rt d M := rfl
@[simp] theorem u_pickNil (c : Nat) (d : D) (Γ : Env) (M : List MO) : pickH [] c d Γ M = .exc c d Γ M := rfl
@[simp] theorem u_pickO (is : Nat → Bool) (g : D → GS) (r : List Hd) (c : Nat) (d : D) (Γ : Env) (M : List MO) : pickH (⟨is, none, g⟩ :: r) c d Γ M = if is c = true then (g d Γ M).noExc else pickH r c d Γ M := rfl
@[simp] theorem u_pickA (is : Nat → Bool) (i : Nat) (g : D → GS) (r : List Hd) (c : Nat) (d : D) (Γ : Env) (M : List MO) : pickH (⟨is, some i, g⟩ :: r) c d Γ M = if is c = true then (if i < Γ.length then ((g d (Γ.set i none) M).noExc).unset i else .bad) else pickH r c d Γ M := rfl
@[simp] theorem u_noNx (Γ : Env) (M : List MO) : (RS.nx Γ M).noExc = .nx Γ M := rfl
@[simp] theorem u_noRt (d : D) (M : List MO) : (RS.rt d M).noExc = .rt d M := rfl
@[simp] theorem u_unNx (i : Nat) (Γ : Env) (M : List MO) : (RS.nx Γ M).unset i = .nx (Γ.set i none) M := rfl
@[simp] theorem u_unRt (i : Nat) (d : D) (M : List MO) : (RS.rt d M).unset i = .rt d M := rfl
end Bk

set_option Elab.async false
set_option linter.all false
set_option maxRecDepth 100000
set_option maxHeartbeats 2000000
namespace Bk
open PySem PySem.Spec PyProof.Rows L2
/-! ### xs + ys as a list of ours; len(set(xs)) of ints -/
def gAddO (ga gb : GE) : GE := fun Γ M => (ga Γ M).bind fun x M1 => (gb Γ M1).bind fun y M2 => match listD M2 x, listD M2 y with
  | some a, some b => if a.length + b.length ≤ sizeLine then .ok (.ref M2.length) (M2 ++ [.lst (a ++ b)]) else .bad
  | _, _ => .bad
@[simp] theorem u_gAddO (ga gb : GE) (Γ : Env) (M : List MO) : gAddO ga gb Γ M = ((ga Γ M).bind fun x M1 => (gb Γ M1).bind fun y M2 => match listD M2 x, listD M2 y with
  | some a, some b => if a.length + b.length ≤ sizeLine then .ok (.ref M2.length) (M2 ++ [.lst (a ++ b)]) else .bad
  | _, _ => .bad) := Eq.trans rfl rfl
section
variable {X : Cx} {C : CT} {W : WX} {a b : Expr} {ga gb : GE} {pos : Pos}
end
def dupI (ns : List Int) : List Int := PyProof.Rows.firstMet (fun i => ns.getD i 0) ns.length
def dLenSetI (M : List MO) (d : D) : Option D := ((listD M d).bind intsD).bind fun ns => if ns.length < 1000 then some (.int ((dupI ns).length : Nat)) else none
def gLenSetI (ge : GE) : GE := fun Γ M => (ge Γ M).bind fun d M1 => opR (dLenSetI M1 d) M1
@[simp] theorem u_gLenSetI (ge : GE) (Γ : Env) (M : List MO) : gLenSetI ge Γ M = ((ge Γ M).bind fun d M1 => opR (dLenSetI M1 d) M1) := Eq.trans rfl rfl
section
variable {X : Cx} {C : CT} {W : WX} {a : Expr} {ge : GE} {p p2 pos q : Pos}
end
end Bk

set_option Elab.async false
set_option linter.all false
set_option maxRecDepth 100000
set_option maxHeartbeats 2000000
namespace Bk
open PySem PySem.Spec PyProof.Rows L2
/-! ### a loop over enumerate(xs), xs a list of ours (read anew at each turn) or a frozen one -/
def gForEN (gg : GG) (body : GS) (k : Nat) : Nat → Nat → GS
  | 0, _ => gBad
  | n + 1, i => fun Γ M => match M[k]? with
    | some (.lst ds) => match ds[i]? with
      | some d => optS (gg (.tup [.int (0 + (i : Nat)), d]) Γ) fun Γ1 => (body Γ1 M).turn (gForEN gg body k n (i + 1))
      | none => if ds.length = i then .nx Γ M else .bad
    | _ => .bad
def gForE (ge : GE) (gg : GG) (body : GS) (n : Nat) : GS := fun Γ M => (ge Γ M).thenS Γ fun d M1 => match d with
  | .ref k => gForEN gg body k n 0 Γ M1
  | d => match seqD d with
    | some ds => gForL gg body (enumL 0 ds) Γ M1
    | none => .bad
@[simp] theorem u_gForE (ge : GE) (gg : GG) (body : GS) (n : Nat) (Γ : Env) (M : List MO) : gForE ge gg body n Γ M = ((ge Γ M).thenS Γ fun d M1 => match d with
  | .ref k => gForEN gg body k n 0 Γ M1
  | d => match seqD d with
    | some ds => gForL gg body (enumL 0 ds) Γ M1
    | none => .bad) := Eq.trans rfl rfl
section
variable {X : Cx} {C : CT} {W : WX} {e : Expr} {ge : GE} {gg : GG} {g : GS} {p pos tpos pos2 : Pos} {elts : List Expr} {kk : Nat}
end
end Bk

set_option Elab.async false
set_option linter.all false
set_option maxRecDepth 100000
set_option maxHeartbeats 2000000
namespace Bk
open PySem PySem.Spec PyProof.Rows L2
/-! ### a comprehension over a list of ours (read anew at each turn) or a frozen one -/
def gLcB (ge : GE) (gg : GG) (gt : GT) (gel : GE) (own : List Nat) : GE := fun Γ M => (ge Γ M).bind fun d M1 => match d with
  | .ref k => match M1[k]? with
    | some (.lst ds) => (gLcL gg gt gel (forget Γ own) ds [] M1).bind fun acc M2 => .ok (.lst acc) M2
    | _ => .bad
  | d => match seqD d with
    | some ds => (gLcL gg gt gel (forget Γ own) ds [] M1).bind fun acc M2 => .ok (.lst acc) M2
    | none => .bad
@[simp] theorem u_gLcB (ge : GE) (gg : GG) (gt : GT) (gel : GE) (own : List Nat) (Γ : Env) (M : List MO) : gLcB ge gg gt gel own Γ M = (ge Γ M).bind fun d M1 => match d with
  | .ref k => match M1[k]? with
    | some (.lst ds) => (gLcL gg gt gel (forget Γ own) ds [] M1).bind fun acc M2 => .ok (.lst acc) M2
    | _ => .bad
  | d => match seqD d with
    | some ds => (gLcL gg gt gel (forget Γ own) ds [] M1).bind fun acc M2 => .ok (.lst acc) M2
    | none => .bad := Eq.trans rfl rfl
section
variable {X : Cx} {C : CT} {W : WX} {elt tg iter : Expr} {ifs : List Expr} {scope : Scope} {own : List (Str × Nat)} {pos : Pos} {gi : GE} {gg : GG} {gt : GT} {ge : GE} {is ixs : List Nat}
end
end Bk

set_option Elab.async false
set_option linter.all false
set_option maxRecDepth 100000
set_option maxHeartbeats 2000000
namespace Bk
open PySem PySem.Spec PyProof.Rows L2
/-! ### max of a list of tuples of whole numbers -/
def maxR (r : List Int) (rs : List (List Int)) : List Int := rs.foldl (fun a y => if a < y then y else a) r
def dMaxT (M : List MO) (d : D) : Option D := ((listD M d).bind rowsL).bind fun rs => match rs with
  | [] => none
  | r :: rs => some (tupI (maxR r rs))
section
variable {X : Cx}
def dMaxB (M : List MO) (d : D) : Option D := match dMax M d with
  | some r => some r
  | none => dMaxT M d
end
@[simp] theorem e_maxB_i (M : List MO) {is : List Int} (h : is ≠ []) : dMaxB M (.lst (is.map D.int)) = some (.int (maxI is)) := by
  have : dMax M (.lst (is.map D.int)) = some (.int (maxI is)) := by
    simp only [dMax, ofInts, listD, Option.bind_some, intsD_map, if_neg h]
  simp only [dMaxB, this]
end Bk

set_option Elab.async false
set_option linter.all false
set_option maxRecDepth 100000
set_option maxHeartbeats 2000000
namespace Bk
open PySem PySem.Spec PyProof.Rows L2
/-! ### walks over lists of ours that stay as they are while they are walked, and over frozen ones -/
abbrev Wt := List (Nat × List D)
def wOk (w : Wt) (M : List MO) : Prop := ∀ p ∈ w, M[p.1]? = some (.lst p.2)
theorem wOk_nil (M : List MO) : wOk [] M := fun _ h => absurd h (by simp)
theorem wOk_one {k : Nat} {ds : List D} {M : List MO} : wOk [(k, ds)] M ↔ M[k]? = some (.lst ds) := ⟨fun h => h (k, ds) (by simp), fun h p hp => by
  have : p = (k, ds) := by simpa using hp
  rw [this]
  exact h⟩
abbrev GJ := Env → List MO → R (List D × Wt)
def srcW (M : List MO) : D → Option (List D × Wt)
  | .lst ds => some (ds, [])
  | .tup ds => some (ds, [])
  | .ptu ds => some (ds, [])
  | .ref k => match M[k]? with
    | some (.lst ds) => some (ds, [(k, ds)])
    | _ => none
  | _ => none
@[simp] theorem srcW_lst (M : List MO) (ds : List D) : srcW M (.lst ds) = some (ds, []) := Eq.trans rfl rfl
@[simp] theorem srcW_tup (M : List MO) (ds : List D) : srcW M (.tup ds) = some (ds, []) := Eq.trans rfl rfl
@[simp] theorem srcW_ptu (M : List MO) (ds : List D) : srcW M (.ptu ds) = some (ds, []) := Eq.trans rfl rfl
theorem srcW_ref {M : List MO} {k : Nat} {ds : List D} (h : M[k]? = some (.lst ds)) : srcW M (.ref k) = some (ds, [(k, ds)]) := by simp only [srcW, h]
theorem srcW_ok {M : List MO} {d : D} {ds : List D} {w : Wt} (h : srcW M d = some (ds, w)) : wOk w M := by
  cases d with
  | ref k =>
    simp only [srcW] at h
    split at h
    · rename_i es e
      cases h
      exact wOk_one.mpr e
    · cases h
  | lst es => cases h; exact wOk_nil M
  | tup es => cases h; exact wOk_nil M
  | ptu es => cases h; exact wOk_nil M
  | _ => cases h
def SrcOk (K : PySem.W.Frag) (S : Src) (ds : List D) (w : Wt) (Z : Hp) (ι : Nat → Addr) (n : Nat) : Prop :=
  ∀ (H' Z' : Hp) (ι' : Nat → Addr) (M' : List MO), Sub Z Z' → (∀ k, k < n → ι' k = ι k) → n ≤ M'.length → HR K H' Z' ι' M' → wOk w M' → ∃ xs, S.here K H' xs ∧ Rps K Z' ι' M'.length ds xs
theorem srcOk_of {K : PySem.W.Frag} {H Z : Hp} {ι : Nat → Addr} {M : List MO} {d : D} {ds : List D} {w : Wt} {v : V} (hr : HR K H Z ι M) (r : Rp K Z ι M.length d v) (h : srcW M d = some (ds, w)) : ∃ (S : Src), v = .ref S.addr ∧ SrcOk K S ds w Z ι M.length := by
  cases r with
  | lst s r => cases h; exact ⟨.l _, rfl, fun H' Z' ι' M' hz hi hn hr' _ => ⟨_, (subL (fun a o q => hr'.sub _ _ (hz _ _ q)) s).sq, Rps.mono hz hi hn _ _ r⟩⟩
  | tup s r => cases h; exact ⟨.t _, rfl, fun H' Z' ι' M' hz hi hn hr' _ => ⟨_, subT (fun a o q => hr'.sub _ _ (hz _ _ q)) s, Rps.mono hz hi hn _ _ r⟩⟩
  | ptu s r => cases h; exact ⟨.t _, rfl, fun H' Z' ι' M' hz hi hn hr' _ => ⟨_, subT (fun a o q => hr'.sub _ _ (hz _ _ q)) s.sq, Rps.mono hz hi hn _ _ r⟩⟩
  | ref hk =>
    rename_i k
    simp only [srcW] at h
    split at h
    · rename_i es e
      cases h
      refine ⟨.l (ι k), rfl, fun H' Z' ι' M' hz hi hn hr' hw => ?_⟩
      obtain ⟨xs, e1, r⟩ := hr'.obj k _ (wOk_one.mp hw)
      rw [hi k hk] at e1
      exact ⟨xs, .of e1, r⟩
    · cases h
  | _ => cases h
theorem SrcOk.mono {K : PySem.W.Frag} {S : Src} {ds : List D} {w : Wt} {Z Z1 : Hp} {ι ι1 : Nat → Addr} {n n1 : Nat} (h : SrcOk K S ds w Z ι n) (hz : Sub Z Z1) (hi : ∀ k, k < n → ι1 k = ι k) (hn : n ≤ n1) : SrcOk K S ds w Z1 ι1 n1 :=
  fun H' Z' ι' M' a b c d e => h H' Z' ι' M' (fun x o q => a _ _ (hz _ _ q)) (fun k hk => (b k (Nat.lt_of_lt_of_le hk hn)).trans (hi k hk)) (Nat.le_trans hn c) d e
section
variable {K : PySem.W.Frag} {Z : Hp} {ι : Nat → Addr} {n : Nat} {S S1 S2 : Src} {ds es : List D} {w w' : Wt}
theorem itc_en {k : Int} (s : SrcOk K S ds w Z ι n) : ItC (wOk w) K (Ien K S k) (enumL k ds) Z ι n := by
  intro i H' Z' ι' M' hz hi hn hr hM
  obtain ⟨xs, sH, r⟩ := s H' Z' ι' M' hz hi hn hr hM
  refine ⟨fun hl => ⟨xs, sH, by rw [← r.length, ← enumL_len ds k]; exact hl⟩, fun d hd => ?_⟩
  obtain ⟨d0, h1, rfl⟩ := enumL_get ds k i d hd
  obtain ⟨v, hv, rv⟩ := r.get h1
  refine ⟨⟨xs, v, sH, hv⟩, fun x H2 hy => ?_⟩
  obtain ⟨T, x', rfl, hT, rfl, hx⟩ := hy
  have ex : xs[i]? = some x' := hx _ sH
  rw [hv] at ex
  cases ex
  obtain ⟨q1, q2⟩ := hr.frozen (o := .tup [.int (k + (i : Nat)), v]) hT
  exact ⟨_, q2, q1, .tup (.inl (.inl upd_same)) (.cons (.int _) (.cons (rv.ext q2) .nil))⟩
end
abbrev rpJ (K : PySem.W.Frag) : RpK (List D × Wt) It := fun Z ι n iw J => ItC (wOk iw.2) K J iw.1 Z ι n
def QJ (X : Cx) (C : CT) (W : WX) (tg e : Expr) (g : GJ) : Prop := ∃ wi, PI X tg e wi ∧ ∀ (σ : St) (H Z : Hp) (ι : Nat → Addr) (Γ : Env) (M : List MO) (Q : It → Hp → Prop), Slots X.K Z ι M.length Γ σ → HR X.K H Z ι M → Post X C W (rpJ X.K) σ H Z ι M (g Γ M) Q → wi σ H Q
def gSeqJ (ge : GE) : GJ := fun Γ M => (ge Γ M).bind fun d M1 => opR (srcW M1 d) M1
def gEnumJ (ge : GE) : GJ := fun Γ M => (ge Γ M).bind fun d M1 => opR ((srcW M1 d).map fun p => (enumL 0 p.1, p.2)) M1
def gEnumKJ (ge gk : GE) : GJ := fun Γ M => (ge Γ M).bind fun d M1 => (gk Γ M1).bind fun k M2 => match k with
  | .int k => if decide (-(2 ^ 63) ≤ k) && decide (k < 2 ^ 63) then opR ((srcW M2 d).map fun p => (enumL k p.1, p.2)) M2 else .bad
  | _ => .bad
def zipW (M : List MO) (x y : D) : Option (List D × Wt) := match srcW M x, srcW M y with
  | some p, some q => some (zipL p.1 q.1, p.2 ++ q.2)
  | _, _ => none
def gZipJ (ga gb : GE) : GJ := fun Γ M => (ga Γ M).bind fun x M1 => (gb Γ M1).bind fun y M2 => opR (zipW M2 x y) M2
@[simp] theorem u_gSeqJ (ge : GE) (Γ : Env) (M : List MO) : gSeqJ ge Γ M = (ge Γ M).bind fun d M1 => opR (srcW M1 d) M1 := Eq.trans rfl rfl
@[simp] theorem u_gEnumJ (ge : GE) (Γ : Env) (M : List MO) : gEnumJ ge Γ M = (ge Γ M).bind fun d M1 => opR ((srcW M1 d).map fun p => (enumL 0 p.1, p.2)) M1 := Eq.trans rfl rfl
@[simp] theorem u_gEnumKJ (ge gk : GE) (Γ : Env) (M : List MO) : gEnumKJ ge gk Γ M = (ge Γ M).bind fun d M1 => (gk Γ M1).bind fun k M2 => match k with
  | .int k => if decide (-(2 ^ 63) ≤ k) && decide (k < 2 ^ 63) then opR ((srcW M2 d).map fun p => (enumL k p.1, p.2)) M2 else .bad
  | _ => .bad := Eq.trans rfl rfl
@[simp] theorem u_gZipJ (ga gb : GE) (Γ : Env) (M : List MO) : gZipJ ga gb Γ M = (ga Γ M).bind fun x M1 => (gb Γ M1).bind fun y M2 => opR (zipW M2 x y) M2 := Eq.trans rfl rfl
section
variable {X : Cx} {C : CT} {W : WX} {e e2 : Expr} {ge ga gb gk : GE} {p pos tpos : Pos} {elts : List Expr} {kk : Nat}
theorem pi_en1 {ta : TE} (hg : Gl X "enumerate") (hm : X.mg "enumerate" = none) (pa : PE X e ta) (hs : starEach [e] X.env = (false, eval e X.env) :: starEach [] X.env := by rfl) : PI X (.Tuple elts kk tpos) (.Call (.Name "enumerate" p) [e] [] pos)
    (fun σ H R => ta σ H fun v H1 => ∃ (S : Src) (xs : List V), v = .ref S.addr ∧ S.here X.K H1 xs ∧ R (Ien X.K S 0) H1) := ⟨fun pins s σ H R I h => by
  refine Call_ (ld_blt I hg hm boot_enumerate (PyProof.Rows.callWith_type1 (thn ((pa_cons pa pa_nil hs).run pos pins s σ H (fun vs H1 => ∃ v, vs = [v] ∧ ∃ (S : Src) (xs : List V), v = .ref S.addr ∧ S.here X.K H1 xs ∧ R (Ien X.K S 0) H1) I ?_) fun us s1 hh => ?_) hs rfl))
  · have hmono : (fun x H1 => tNil σ H1 fun xs H2 => ∃ v, x :: xs = [v] ∧ ∃ (S : Src) (ys : List V), v = .ref S.addr ∧ S.here X.K H2 ys ∧ R (Ien X.K S 0) H2) = fun (v : V) (H1 : Hp) => ∃ (S : Src) (xs : List V), v = .ref S.addr ∧ S.here X.K H1 xs ∧ R (Ien X.K S 0) H1 := by
      funext x H1
      apply propext
      constructor
      · rintro ⟨v, ev, q⟩
        cases ev
        exact q
      · intro q
        exact ⟨x, rfl, q⟩
    show ta σ H fun x H1 => tNil σ H1 fun xs H2 => ∃ v, x :: xs = [v] ∧ ∃ (S : Src) (ys : List V), v = .ref S.addr ∧ S.here X.K H2 ys ∧ R (Ien X.K S 0) H2
    rw [hmono]
    exact h
  · obtain ⟨vs, H1, J, r1, v, rfl, S, xs, rfl, hq, q⟩ := hh
    obtain ⟨u, rfl, ru⟩ := Vals.one r1
    cases ru
    obtain ⟨its, rv, har⟩ := Src.inv J hq
    refine call_enum1 (S.begins its.toArray) har fun h' he hit hk => wpAny_pyIter_enum he ?_
    have J2 : Inv X pins σ H1 { s1 with heap := h' } := J.kept (t' := s1.toks) hk
    refine ⟨s1.heap.objs.size + 1, [s1.heap.objs.size + 1, s1.heap.objs.size], _, _, H1, rfl, J2, turn_en S 0 (s1.heap.objs.size + 1) s1.heap.objs.size, ⟨⟨.none, by simpa using he⟩, Src.start hit, Nat.succ_ne_self _⟩, fun b hb => ?_, q⟩
    have le : s1.heap.objs.size ≤ b := by
      rcases List.mem_cons.mp hb with z | z
      · rw [z]; exact Nat.le_succ _
      · have z' : b = s1.heap.objs.size := by simpa using z
        rw [z']
        exact Nat.le_refl _
    exact J.fpOk le (J.hok.fresh le)⟩
theorem qj_enum (hg : Gl X "enumerate") (hm : X.mg "enumerate" = none) (ha : QE X C W e ge) (hs : starEach [e] X.env = (false, eval e X.env) :: starEach [] X.env := by rfl) : QJ X C W (.Tuple elts kk tpos) (.Call (.Name "enumerate" p) [e] [] pos) (gEnumJ ge) := by
  obtain ⟨ta, pa, qa⟩ := ha
  refine ⟨_, pi_en1 hg hm pa hs, fun σ H Z ι Γ M Q sl hr h => qa σ H Z ι Γ M _ sl hr (Post.bind h fun x M1 v H1 Z1 ι1 e1 hr1 r1 h1 => ?_)⟩
  obtain ⟨iw, hd, h2⟩ := Post.of_opR (γ := D) (δ := V) h1
  obtain ⟨⟨ds, w⟩, hd1, rfl⟩ := Option.map_eq_some_iff.mp hd
  obtain ⟨S, rfl, s⟩ := srcOk_of hr1 r1 hd1
  obtain ⟨xs, hx, _⟩ := s H1 Z1 ι1 M1 (fun _ _ z => z) (fun _ _ => rfl) (Nat.le_refl _) hr1 (srcW_ok hd1)
  exact ⟨S, xs, rfl, hx, h2 _ H1 Z1 ι1 .refl hr1 (itc_en s)⟩
end
/-! the loop -/
open Classical in
noncomputable def chkW (w : Wt) (M : List MO) (r : RS) : RS := if wOk w M then r else .bad
theorem chkW_t {w : Wt} {M : List MO} {r : RS} (h : wOk w M) : chkW w M r = r := by unfold chkW; rw [if_pos h]
theorem chkW_f {w : Wt} {M : List MO} {r : RS} (h : ¬ wOk w M) : chkW w M r = .bad := by unfold chkW; rw [if_neg h]
noncomputable def gForW (gg : GG) (body : GS) (w : Wt) : List D → GS
  | [] => fun Γ M => chkW w M (.nx Γ M)
  | d :: ds => fun Γ M => chkW w M (optS (gg d Γ) fun Γ1 => (body Γ1 M).turn (gForW gg body w ds))
noncomputable def gForJ (gj : GJ) (gg : GG) (body : GS) : GS := fun Γ M => (gj Γ M).thenS Γ fun iw M1 => gForW gg body iw.2 iw.1 Γ M1
@[simp] theorem u_gForJ (gj : GJ) (gg : GG) (body : GS) (Γ : Env) (M : List MO) : gForJ gj gg body Γ M = (gj Γ M).thenS Γ fun iw M1 => gForW gg body iw.2 iw.1 Γ M1 := Eq.trans rfl rfl
@[simp] theorem forW_nil (gg : GG) (body : GS) (ds : List D) (Γ : Env) (M : List MO) : gForW gg body [] ds Γ M = gForL gg body ds Γ M := by
  suffices h : gForW gg body [] ds = gForL gg body ds by rw [h]
  induction ds with
  | nil => funext Γ M; exact chkW_t (wOk_nil M)
  | cons d ds ih =>
    funext Γ M
    show chkW [] M (optS (gg d Γ) fun Γ1 => (body Γ1 M).turn (gForW gg body [] ds)) = _
    rw [chkW_t (wOk_nil M), ih]
    rfl
theorem forW_end {gg : GG} {body : GS} {w : Wt} {Γ : Env} {M : List MO} (h : wOk w M) : gForW gg body w [] Γ M = .nx Γ M := chkW_t h
theorem forW_turn {gg : GG} {body : GS} {w : Wt} {d : D} {ds : List D} {Γ Γ1 : Env} {M : List MO} (h : wOk w M) (hg : gg d Γ = some Γ1) : gForW gg body w (d :: ds) Γ M = (body Γ1 M).turn (gForW gg body w ds) := by
  show chkW w M (optS (gg d Γ) fun Γ1 => (body Γ1 M).turn (gForW gg body w ds)) = _
  rw [chkW_t h, hg]
  rfl
theorem forW_cons {gg : GG} {body : GS} {w : Wt} {d : D} {ds : List D} {Γ Γ1 Γ2 : Env} {M M2 : List MO} (h : wOk w M) (hg : gg d Γ = some Γ1) (hb : body Γ1 M = .nx Γ2 M2) : gForW gg body w (d :: ds) Γ M = gForW gg body w ds Γ2 M2 := by
  rw [forW_turn h hg, hb]
  rfl
section
variable {X : Cx} {C : CT} {W : WX} {tg : Expr} {gg : GG} {g : GS} {pos : Pos}
theorem qs_forJ {iter : Expr} {body : List Stmt} {gj : GJ} {is : List Nat} (hp : PassesOwn (model X.prog X.w) X.A X.env X.xe) (hc : X.calm = true) (hi : QJ X C W tg iter gj) (hg : QG X tg gg is) (hb : QSs X C W body g)
    (hs : ∀ x, foldedSetIterable iter X.env x = pure x := by intro _; rfl) : QS X C W (.For tg iter body [] pos) (gForJ gj gg g) := by
  obtain ⟨wi, pi, qi⟩ := hi
  obtain ⟨tg', pg, qg⟩ := hg
  obtain ⟨tb, pb, qb⟩ := hb
  refine ⟨_, ps_for hp hc pi pg pb hs, fun Dd σ H Z ι Γ M sl hr h => qi σ H Z ι Γ M _ sl hr (PostS.bind h sl fun iw M1 J H1 Z1 ι1 e1 hr1 rJ h1 => ?_)⟩
  obtain ⟨ds, w⟩ := iw
  refine ⟨fun i m σ' H' => ∃ (Z' : Hp) (ι' : Nat → Addr) (Γ' : Env) (M' : List MO), m = ds.length - i ∧ i ≤ ds.length ∧ Sub Z1 Z' ∧ (∀ k, k < M1.length → ι' k = ι1 k) ∧ M1.length ≤ M'.length ∧ HR X.K H' Z' ι' M' ∧ Slots X.K Z' ι' M'.length Γ' σ' ∧
    PostS X C W H' Z' ι' M' (gForW gg g w (ds.drop i) Γ' M') Dd, ⟨ds.length, Z1, ι1, Γ, M1, rfl, Nat.zero_le _, fun _ _ z => z, fun _ _ => rfl, Nat.le_refl _, hr1, sl.ext e1, h1⟩, ?_⟩
  rintro i m σ' H' ⟨Z', ι', Γ', M', em, hle, hz, hii, hn, hr', sl', hp'⟩
  by_cases hw : wOk w M'
  case neg =>
    exfalso
    cases ed : ds.drop i with
    | nil =>
      rw [ed] at hp'
      have hp' : PostS X C W H' Z' ι' M' (chkW w M' (.nx Γ' M')) Dd := hp'
      rw [chkW_f hw] at hp'
      exact hp'
    | cons d es =>
      rw [ed] at hp'
      have hp' : PostS X C W H' Z' ι' M' (chkW w M' (optS (gg d Γ') fun Γ1 => (g Γ1 M').turn (gForW gg g w es))) Dd := hp'
      rw [chkW_f hw] at hp'
      exact hp'
  obtain ⟨hstop, hgo⟩ := rJ i H' Z' ι' M' hz hii hn hr' hw
  by_cases hi : i < ds.length
  · refine .inr ?_
    have ed : ds.drop i = ds[i] :: ds.drop (i + 1) := List.drop_eq_getElem_cons hi
    obtain ⟨go, yl⟩ := hgo ds[i] (List.getElem?_eq_getElem hi)
    refine ⟨go, fun σ2 H2 => ∃ (Z2 : Hp) (ι2 : Nat → Addr) (Γ2 : Env) (M2 : List MO), Sub Z1 Z2 ∧ (∀ k, k < M1.length → ι2 k = ι1 k) ∧ M1.length ≤ M2.length ∧ HR X.K H2 Z2 ι2 M2 ∧ Slots X.K Z2 ι2 M2.length Γ2 σ2 ∧
      PostS X C W H2 Z2 ι2 M2 (gForW gg g w (ds.drop (i + 1)) Γ2 M2) Dd, fun σ2 H2 hN => ?_, fun x H2 hy => ?_⟩
    · obtain ⟨Z2, ι2, Γ2, M2, a1, a2, a3, a4, a5, a6⟩ := hN
      exact ⟨ds.length - (i + 1), by omega, Z2, ι2, Γ2, M2, rfl, by omega, a1, a2, a3, a4, a5, a6⟩
    · obtain ⟨Z2, e2, hr2, rx⟩ := yl x H2 hy
      rw [ed] at hp'
      have hp2 := PostS.shift hp' e2 hr2
      have hb : PostS X C W H2 Z2 ι' M' (chkW w M' (optS (gg ds[i] Γ') fun Γ1 => (g Γ1 M').turn (gForW gg g w (ds.drop (i + 1))))) Dd := hp2
      rw [chkW_t hw] at hb
      cases eg : gg ds[i] Γ' with
      | none =>
        rw [eg] at hb
        exact hb.elim
      | some Γ1 =>
        rw [eg] at hb
        exact qg x σ' H2 Z2 ι' M'.length ds[i] Γ' Γ1 _ hr2.sub (sl'.ext e2) rx eg fun σ3 s3 _ => qb _ σ3 H2 Z2 ι' Γ1 M' s3 hr2 (PostS.turn hb fun Γ4 M4 σ4 H4 Z4 ι4 e4 hr4 s4 h4 =>
          ⟨Z4, ι4, Γ4, M4, fun a o z => e4.zz _ _ (e2.zz _ _ (hz _ _ z)), fun k hk => (e4.ii k (Nat.lt_of_lt_of_le hk hn)).trans (hii k hk), Nat.le_trans hn e4.ln, hr4, s4, h4⟩)
  · refine .inl ⟨hstop (show ds.length = i by omega), ?_⟩
    rw [List.drop_eq_nil_of_le (Nat.le_of_not_lt hi)] at hp'
    have hp' : PostS X C W H' Z' ι' M' (chkW w M' (.nx Γ' M')) Dd := hp'
    rw [chkW_t hw] at hp'
    exact hp' σ' H' Z' ι' .refl hr' sl'
end
/-! the comprehension: what is within changes nothing -/
def gLcJ (gj : GJ) (gg : GG) (gt : GT) (gel : GE) (own : List Nat) : GE := fun Γ M => (gj Γ M).bind fun iw M1 => (gLcL gg gt gel (forget Γ own) iw.1 [] M1).bind fun acc M2 => .ok (.lst acc) M2
@[simp] theorem u_gLcJ (gj : GJ) (gg : GG) (gt : GT) (gel : GE) (own : List Nat) (Γ : Env) (M : List MO) : gLcJ gj gg gt gel own Γ M = (gj Γ M).bind fun iw M1 => (gLcL gg gt gel (forget Γ own) iw.1 [] M1).bind fun acc M2 => .ok (.lst acc) M2 := Eq.trans rfl rfl
section
variable {X : Cx} {C : CT} {W : WX} {elt tg iter : Expr} {ifs : List Expr} {scope : Scope} {own : List (Str × Nat)} {pos : Pos} {gj : GJ} {gg : GG} {gt : GT} {ge : GE} {is ixs : List Nat}
/-- the watch holds where the walk begins -/
def JOk (gj : GJ) : Prop := ∀ Γ M iw M', gj Γ M = .ok iw M' → wOk iw.2 M'
theorem jok_enum {g : GE} : JOk (gEnumJ g) := fun Γ M iw M' h => by
  obtain ⟨d, M1, _, h⟩ := R.bind_ok (show (g Γ M).bind _ = _ from h)
  cases hs : srcW M1 d with
  | none => rw [hs] at h; cases h
  | some p =>
    rw [hs] at h
    cases h
    exact srcW_ok hs
theorem qe_lcJ (hc : X.calm = true) (hN : X.N.Nodup) (hi : QJ X C W tg iter gj) (hj : JOk gj) (ok : BlkOk X.N X.env.scope scope own) (hg : Blk X scope fun Y => QG Y tg gg is) (ht : Blk X scope fun Y => QTs Y C noW ifs gt) (he : Blk X scope fun Y => QE Y C noW elt ge)
    (p1 : Pure gt) (p2 : Pure ge) (hix : ixs = own.map (·.2) := by rfl) (hsub : ∀ i ∈ is, i ∈ own.map (·.2) := by decide) (hs : ∀ x, foldedSetIterable iter X.env x = pure x := by intro _; rfl) : QE X C W (.ListComp elt [⟨tg, iter, ifs, 0⟩] scope pos) (gLcJ gj gg gt ge ixs) := by
  subst hix
  obtain ⟨wi, pi, qi⟩ := hi
  refine ⟨_, pe_lc hc hN pi ok (blk_g hg) (blk_t ht) (blk_e he) hs, fun σ H Z ι Γ M Q sl hr h => qi σ H Z ι Γ M _ sl hr ?_⟩
  cases er : gj Γ M with
  | bad =>
    have h : Post X C W (rpE X.K) σ H Z ι M ((gj Γ M).bind _) Q := h
    rw [er] at h
    exact h.elim
  | exc c d M1 =>
    have h : Post X C W (rpE X.K) σ H Z ι M ((gj Γ M).bind _) Q := h
    rw [er] at h
    exact h
  | ok iw M1 =>
    have hw := hj _ _ _ _ er
    have h : Post X C W (rpE X.K) σ H Z ι M ((gj Γ M).bind fun iw M1 => (gLcL gg gt ge (forget Γ (own.map (·.2))) iw.1 [] M1).bind fun acc M2 => .ok (.lst acc) M2) Q := h
    rw [er] at h
    have h : Post X C W (rpE X.K) σ H Z ι M ((gLcL gg gt ge (forget Γ (own.map (·.2))) iw.1 [] M1).bind fun acc M2 => .ok (.lst acc) M2) Q := h
    intro J H1 Z1 ι1 e1 hr1 rJ p hp
    exact gLcL_run hsub (slots_wipe _ (sl.ext e1)) rJ hw (fun Γ M d M' e c => by rw [p1 _ _ _ _ e]; exact c) (fun Γ M d M' e c => by rw [p2 _ _ _ _ e]; exact c) hp hr1 (h.shift e1 hr1)
      fun acc accV M' H' Z' ι' b1 b2 b3 b4 b5 b6 => fin_z hp b1 b2 b3 b4 b5 b6
end
end Bk

set_option Elab.async false
set_option linter.all false
set_option maxRecDepth 100000
set_option maxHeartbeats 2000000
namespace Bk
open PySem PySem.Spec PyProof.Rows L2
/-! ### xs == [] and xs != [], whatever xs holds -/
section
variable {X : Cx}
end
/-! ### == of data that holds lists of ours at any depth -/
mutual
def toPM (M : List MO) : Nat → D → Option PyData
  | 0, d => toP d
  | n + 1, .ref k => match M[k]? with
    | some (.lst ds) => (toPMs M n ds).map .list
    | _ => none
  | n + 1, .lst ds => (toPMs M n ds).map .list
  | n + 1, .tup ds => (toPMs M n ds).map .tuple
  | n + 1, .ptu ds => (toPMs M n ds).map .tuple
  | _ + 1, d => toP d
termination_by n d => (n, 0)
def toPMs (M : List MO) (n : Nat) (ds : List D) : Option (List PyData) := match ds with
  | [] => some []
  | d :: ds => match toPM M n d, toPMs M n ds with
    | some p, some ps => some (p :: ps)
    | _, _ => none
termination_by (n, ds.length + 1)
end
section
variable {K : PySem.W.Frag} {H Z : Hp} {ι : Nat → Addr} {M : List MO}
theorem toPMs_nil (n : Nat) : toPMs M n [] = some [] := by rw [toPMs]
theorem toPMs_cons (n : Nat) (d : D) (ds : List D) : toPMs M n (d :: ds) = match toPM M n d, toPMs M n ds with
    | some p, some ps => some (p :: ps)
    | _, _ => none := by rw [toPMs]
theorem toPM_ref (n k : Nat) : toPM M (n + 1) (.ref k) = match M[k]? with
    | some (.lst ds) => (toPMs M n ds).map .list
    | _ => none := by rw [toPM]
theorem toPM_lst (n : Nat) (ds : List D) : toPM M (n + 1) (.lst ds) = (toPMs M n ds).map .list := by rw [toPM]
theorem toPM_tup (n : Nat) (ds : List D) : toPM M (n + 1) (.tup ds) = (toPMs M n ds).map .tuple := by rw [toPM]
theorem toPM_ptu (n : Nat) (ds : List D) : toPM M (n + 1) (.ptu ds) = (toPMs M n ds).map .tuple := by rw [toPM]
theorem toPM_non (n : Nat) : toPM M n .non = some .none := by cases n <;> rw [toPM] <;> first | rfl | intros; simp_all
theorem toPM_bl (n : Nat) (b : Bool) : toPM M n (.bl b) = some (.bool b) := by cases n <;> rw [toPM] <;> first | rfl | intros; simp_all
theorem toPM_int (n : Nat) (b : Int) : toPM M n (.int b) = some (.int b) := by cases n <;> rw [toPM] <;> first | rfl | intros; simp_all
theorem toPM_str (n : Nat) (b : Str) : toPM M n (.str b) = some (.str b) := by cases n <;> rw [toPM] <;> first | rfl | intros; simp_all
theorem toPM_dct (n : Nat) (a b : List D) : toPM M n (.dct a b) = none := by cases n <;> rw [toPM] <;> first | rfl | intros; simp_all
theorem toPM_lam (n : Nat) (l : LSy) (cl : List (Str × Addr)) : toPM M n (.lam l cl) = none := by cases n <;> rw [toPM] <;> first | rfl | intros; simp_all
theorem toPM_exn (n : Nat) (a b : Str) (d : D) : toPM M n (.exn a b d) = none := by cases n <;> rw [toPM] <;> first | rfl | intros; simp_all
theorem toPM_exv (n : Nat) (a b : Addr) (f : Str) (d : D) : toPM M n (.exv a b f d) = none := by cases n <;> rw [toPM] <;> first | rfl | intros; simp_all
theorem toPM_dcx (n : Nat) (k : Key) (d : D) : toPM M n (.dcx k d) = none := by cases n <;> rw [toPM] <;> first | rfl | intros; simp_all
theorem toPMs_of (hr : HR K H Z ι M) {n : Nat} (ih : ∀ (d : D) (v : V) (p : PyData), Rp K Z ι M.length d v → toPM M n d = some p → Dp K H v p) : ∀ (ds : List D) (vs : List V) (ps : List PyData), Rps K Z ι M.length ds vs → toPMs M n ds = some ps → DpAll K H vs ps
  | [], _, ps, h, e => by
    rw [toPMs_nil] at e
    cases h
    cases e
    exact .nil
  | d :: ds, _, ps, h, e => by
    rw [toPMs_cons] at e
    cases h with
    | cons r rs =>
      cases e1 : toPM M n d with
      | none => rw [e1] at e; cases e
      | some p =>
        cases e2 : toPMs M n ds with
        | none => rw [e1, e2] at e; cases e
        | some qs =>
          rw [e1, e2] at e
          cases e
          exact .cons (ih d _ p r e1) (toPMs_of hr ih ds _ qs rs e2)
theorem toPM_dp (hr : HR K H Z ι M) : ∀ (n : Nat) (d : D) (v : V) (p : PyData), Rp K Z ι M.length d v → toPM M n d = some p → Dp K H v p
  | 0, d, v, p, r, e => by
    rw [toPM] at e
    exact toP_dp hr.sub d v p r e
  | n + 1, d, v, p, r, e => by
    cases r with
    | lst s r =>
      rw [toPM_lst] at e
      obtain ⟨ps, e1, rfl⟩ := Option.map_eq_some_iff.mp e
      exact .lst (subL hr.sub s).sq (toPMs_of hr (toPM_dp hr n) _ _ _ r e1)
    | tup s r =>
      rw [toPM_tup] at e
      obtain ⟨ps, e1, rfl⟩ := Option.map_eq_some_iff.mp e
      exact .tup (subT hr.sub s) (toPMs_of hr (toPM_dp hr n) _ _ _ r e1)
    | ptu s r =>
      rw [toPM_ptu] at e
      obtain ⟨ps, e1, rfl⟩ := Option.map_eq_some_iff.mp e
      exact .tup (subT hr.sub s.sq) (toPMs_of hr (toPM_dp hr n) _ _ _ r e1)
    | ref hk =>
      rename_i k
      rw [toPM_ref] at e
      split at e
      · rename_i ds e0
        obtain ⟨ps, e1, rfl⟩ := Option.map_eq_some_iff.mp e
        obtain ⟨xs, h1, r1⟩ := hr.obj k _ e0
        exact .lst (.of h1) (toPMs_of hr (toPM_dp hr n) _ _ _ r1 e1)
      · cases e
    | non => rw [toPM_non] at e; cases e; exact .non
    | bl b => rw [toPM_bl] at e; cases e; exact .bl b
    | int b => rw [toPM_int] at e; cases e; exact .int b
    | str b => rw [toPM_str] at e; cases e; exact .str b
    | dct s r t => rw [toPM_dct] at e; cases e
    | lam s r => rw [toPM_lam] at e; cases e
    | exn s r q w => rw [toPM_exn] at e; cases e
    | exv q w => rw [toPM_exv] at e; cases e
    | dcx q w => rw [toPM_dcx] at e; cases e
end
def eqPF (M : List MO) (x y : D) : Option Bool := match toPM M 6 x, toPM M 6 y with
  | some p, some q => if (SeqAt.shaped p && SeqAt.shaped q) = true then some (PyData.eqv p q) else none
  | _, _ => none
def dEqF (M : List MO) (x y : D) : Option D := (eqPF M x y).map D.bl
def dNeF (M : List MO) (x y : D) : Option D := (eqPF M x y).map fun b => D.bl (!b)
theorem eqPF_run {K : PySem.W.Frag} {H Z : Hp} {ι : Nat → Addr} {M : List MO} {dx dy : D} {x y : V} {b : Bool} (hr : HR K H Z ι M) (rx : Rp K Z ι M.length dx x) (ry : Rp K Z ι M.length dy y) (e : eqPF M dx dy = some b) :
    ∃ p q, Dp K H x p ∧ Dp K H y q ∧ SeqAt.shaped p = true ∧ SeqAt.shaped q = true ∧ PyData.eqv p q = b := by
  unfold eqPF at e
  cases e1 : toPM M 6 dx with
  | none => rw [e1] at e; cases e
  | some p =>
    cases e2 : toPM M 6 dy with
    | none => rw [e1, e2] at e; cases e
    | some q =>
      rw [e1, e2] at e
      simp only at e
      by_cases c : (SeqAt.shaped p && SeqAt.shaped q) = true
      · rw [if_pos c] at e
        rw [Bool.and_eq_true] at c
        exact ⟨p, q, toPM_dp hr _ _ _ _ rx e1, toPM_dp hr _ _ _ _ ry e2, c.1, c.2, Option.some.inj e⟩
      · rw [if_neg c] at e
        cases e
theorem eqPF_of {M : List MO} {x y : D} {p q : PyData} (h1 : toPM M 6 x = some p) (h2 : toPM M 6 y = some q) (s1 : SeqAt.shaped p = true) (s2 : SeqAt.shaped q = true) : eqPF M x y = some (PyData.eqv p q) := by
  unfold eqPF
  rw [h1, h2]
  simp [s1, s2]
section
variable {X : Cx}
theorem ok_eqF : Ok2 X (rEqD X.K) dEqF := fun x y H Z ι M dx dy d Q hr rx ry e q => by
  unfold dEqF at e
  cases e1 : eqPF M dx dy with
  | none => rw [e1] at e; cases e
  | some b =>
    rw [e1] at e
    cases e
    obtain ⟨p, p', h1, h2, h3, h4, h5⟩ := eqPF_run hr rx ry e1
    exact ⟨p, p', h1, h2, h3, h4, by rw [h5]; exact q.now hr (.bl b)⟩
theorem ok_neF : Ok2 X (rNeD X.K) dNeF := fun x y H Z ι M dx dy d Q hr rx ry e q => by
  unfold dNeF at e
  cases e1 : eqPF M dx dy with
  | none => rw [e1] at e; cases e
  | some b =>
    rw [e1] at e
    cases e
    obtain ⟨p, p', h1, h2, h3, h4, h5⟩ := eqPF_run hr rx ry e1
    exact ⟨p, p', h1, h2, h3, h4, by rw [h5]; exact q.now hr (.bl _)⟩
end
/-! ### a comprehension over a list of ours that stays as it is, looked at at each turn -/
open Classical in
noncomputable def chkR {α : Type} (w : Wt) (M : List MO) (r : R α) : R α := if wOk w M then r else .bad
theorem chkR_t {α : Type} {w : Wt} {M : List MO} {r : R α} (h : wOk w M) : chkR w M r = r := by unfold chkR; rw [if_pos h]
theorem chkR_f {α : Type} {w : Wt} {M : List MO} {r : R α} (h : ¬ wOk w M) : chkR w M r = .bad := by unfold chkR; rw [if_neg h]
noncomputable def gLcLW (gg : GG) (gt : GT) (ge : GE) (Γ : Env) (w : Wt) : List D → List D → List MO → R (List D)
  | [], acc => fun M => chkR w M (.ok acc M)
  | d :: ds, acc => fun M => chkR w M (match gg d Γ with
    | none => .bad
    | some Γ1 => (gt Γ1 M).only fun k M1 => if k = true then (ge Γ1 M1).only fun y M2 => if acc.length < sizeLine then gLcLW gg gt ge Γ w ds (acc ++ [y]) M2 else .bad
        else gLcLW gg gt ge Γ w ds acc M1)
@[simp] theorem lcLW_nil (gg : GG) (gt : GT) (ge : GE) (Γ : Env) (ds acc : List D) (M : List MO) : gLcLW gg gt ge Γ [] ds acc M = gLcL gg gt ge Γ ds acc M := by
  suffices h : ∀ (ds acc : List D) (M : List MO), gLcLW gg gt ge Γ [] ds acc M = gLcL gg gt ge Γ ds acc M from h ds acc M
  intro ds
  induction ds with
  | nil => intro acc M; exact chkR_t (wOk_nil M)
  | cons d ds ih =>
    intro acc M
    refine (chkR_t (wOk_nil M)).trans ?_
    unfold gLcL
    cases gg d Γ with
    | none => rfl
    | some Γ1 => simp only [ih]
noncomputable def gLcK (gj : GJ) (gg : GG) (gt : GT) (gel : GE) (own : List Nat) : GE := fun Γ M => (gj Γ M).bind fun iw M1 => (gLcLW gg gt gel (forget Γ own) iw.2 iw.1 [] M1).bind fun acc M2 => .ok (.lst acc) M2
@[simp] theorem u_gLcK (gj : GJ) (gg : GG) (gt : GT) (gel : GE) (own : List Nat) (Γ : Env) (M : List MO) : gLcK gj gg gt gel own Γ M = (gj Γ M).bind fun iw M1 => (gLcLW gg gt gel (forget Γ own) iw.2 iw.1 [] M1).bind fun acc M2 => .ok (.lst acc) M2 := Eq.trans rfl rfl
section
variable {X : Cx} {C : CT} {W : WX}
theorem gLcLW_run {w : Wt} {gg : GG} {gt : GT} {ge : GE} {is own : List Nat} {σ : St} {Γ0 : Env} {fin : List D → List MO → R D} {Q : VK} {J : It} {p : Addr}
    {ds : List D} {H0 Z0 : Hp} {ι0 : Nat → Addr} {M0 : List MO} (hsub : ∀ i ∈ is, i ∈ own) (sl : Slots X.K Z0 ι0 M0.length Γ0 (wipe σ own)) (rJ : ItC (wOk w) X.K J ds Z0 ι0 M0.length) (hp0 : H0 p = none) (hr0 : HR X.K H0 Z0 ι0 M0)
    (h : Post X C W (rpE X.K) σ H0 Z0 ι0 M0 ((gLcLW gg gt ge Γ0 w ds [] M0).bind fin) Q)
    (hfin : ∀ (acc : List D) (accV : List V) (M : List MO) (H Z : Hp) (ι : Nat → Addr), Ext H0 Z0 ι0 M0.length H Z ι M.length → HR X.K H Z ι M → Odd Z ι M.length p → H p = some (.lst accV) → Rps X.K Z ι M.length acc accV → Post X C W (rpE X.K) σ H0 Z0 ι0 M0 (fin acc M) Q → Q (.ref p) H) :
    ∃ Wv : Nat → Nat → Hp → Prop, (∃ m, Wv 0 m (upd H0 p (.lst []))) ∧ ∀ i m H, Wv i m H →
      (J.stop i H ∧ Q (.ref p) H) ∨ (J.go i H ∧ ∃ Nx : Hp → Prop, (∀ H', Nx H' → ∃ m', m' < m ∧ Wv (i + 1) m' H') ∧ ∀ x H', J.yld i H x H' → liftG X.K gg is x (wipe σ own) H' fun σ2 H2 => wipe σ2 own = wipe σ own ∧ liftT X.K X C noW gt σ2 H2 fun b H3 =>
        if b = true then liftE X.K X C noW ge σ2 H3 fun y H4 => ∃ acc, H4 p = some (.lst acc) ∧ acc.length < sizeLine ∧ Nx (upd H4 p (.lst (acc ++ [y]))) else Nx H3) := by
  let Inv' : Nat → Hp → Prop := fun i H => ∃ (Z : Hp) (ι : Nat → Addr) (M : List MO) (acc : List D) (accV : List V), Ext H0 Z0 ι0 M0.length H Z ι M.length ∧ HR X.K H Z ι M ∧ Odd Z ι M.length p ∧ H p = some (.lst accV) ∧ Rps X.K Z ι M.length acc accV ∧
    Post X C W (rpE X.K) σ H0 Z0 ι0 M0 ((gLcLW gg gt ge Γ0 w (ds.drop i) acc M).bind fin) Q
  have q0 : Odd Z0 ι0 M0.length p := .new hr0 hp0
  refine ⟨fun i m H => m = ds.length - i ∧ i ≤ ds.length ∧ Inv' i H, ⟨ds.length, rfl, Nat.zero_le _, Z0, ι0, M0, [], [], (Ext.refl).touch hp0, hr0.odd q0, q0, upd_same, .nil, h⟩, ?_⟩
  rintro i m H ⟨em, hle, Z, ι, M, acc, accV, e1, hr1, od, hp, ra, hpost⟩
  have cdM : wOk w M := by
    by_cases hw : wOk w M
    · exact hw
    · exfalso
      have z : gLcLW gg gt ge Γ0 w (ds.drop i) acc M = .bad := by
        cases ds.drop i <;> exact chkR_f hw
      rw [z] at hpost
      exact hpost
  obtain ⟨hstop, hgo⟩ := rJ i H Z ι M e1.zz e1.ii e1.ln hr1 cdM
  by_cases hi : i < ds.length
  · refine .inr ?_
    have ed : ds.drop i = ds[i] :: ds.drop (i + 1) := List.drop_eq_getElem_cons hi
    obtain ⟨go, yl⟩ := hgo ds[i] (List.getElem?_eq_getElem hi)
    refine ⟨go, Inv' (i + 1), fun H' hN => ⟨ds.length - (i + 1), by omega, rfl, by omega, hN⟩, fun x H2 hy => ?_⟩
    obtain ⟨Z2, e2, hr2, rx⟩ := yl x H2 hy
    obtain ⟨od2, hp2⟩ := od.ext hp e2
    have e12 := e1.trans e2 hr1.ali
    rw [ed] at hpost
    cases eg : gg ds[i] Γ0 with
    | none =>
      have z : gLcLW gg gt ge Γ0 w (ds[i] :: ds.drop (i + 1)) acc M = .bad := by
        refine (chkR_t cdM).trans ?_
        simp only [eg]
      rw [z] at hpost
      exact hpost.elim
    | some Γ1 =>
      have z : gLcLW gg gt ge Γ0 w (ds[i] :: ds.drop (i + 1)) acc M = ((gt Γ1 M).only fun k M1 => if k = true then (ge Γ1 M1).only fun y M2 => if acc.length < sizeLine then gLcLW gg gt ge Γ0 w (ds.drop (i + 1)) (acc ++ [y]) M2 else .bad
          else gLcLW gg gt ge Γ0 w (ds.drop (i + 1)) acc M1) := by
        refine (chkR_t cdM).trans ?_
        simp only [eg]
      rw [z] at hpost
      refine ⟨Z2, ι, M.length, ds[i], Γ0, Γ1, hr2.sub, sl.ext e12, rx, eg, fun σ2 s2 w2 => ⟨(w2 own hsub).trans (wipe_wipe own), Z2, ι, Γ1, M, s2, hr2, ?_⟩⟩
      cases et : gt Γ1 M with
      | bad => rw [et] at hpost; exact hpost.elim
      | exc c d M' => rw [et] at hpost; exact hpost.elim
      | ok k M3 =>
        rw [et] at hpost
        intro b H3 Z3 ι3 e3 hr3 hb
        have hb' : k = b := hb
        subst hb'
        obtain ⟨od3, hp3⟩ := od2.ext hp2 e3
        have e13 := e12.trans e3 hr2.ali
        have ra3 := (ra.ext e2).ext e3
        cases k with
        | false => exact ⟨Z3, ι3, M3, acc, accV, e13, hr3, od3, hp3, ra3, hpost⟩
        | true =>
          rw [if_pos rfl]
          refine ⟨Z3, ι3, Γ1, M3, s2.ext e3, hr3, ?_⟩
          have hpost2 : Post X C W (rpE X.K) σ H0 Z0 ι0 M0 (((ge Γ1 M3).only fun y M2 => if acc.length < sizeLine then gLcLW gg gt ge Γ0 w (ds.drop (i + 1)) (acc ++ [y]) M2 else .bad).bind fin) Q := hpost
          cases ee : ge Γ1 M3 with
          | bad => rw [ee] at hpost2; exact hpost2.elim
          | exc c d M' => rw [ee] at hpost2; exact hpost2.elim
          | ok y M4 =>
            rw [ee] at hpost2
            have hpost3 : Post X C W (rpE X.K) σ H0 Z0 ι0 M0 ((if acc.length < sizeLine then gLcLW gg gt ge Γ0 w (ds.drop (i + 1)) (acc ++ [y]) M4 else .bad).bind fin) Q := hpost2
            by_cases hz : acc.length < sizeLine
            · rw [if_pos hz] at hpost3
              intro v H4 Z4 ι4 e4 hr4 rv
              obtain ⟨od4, hp4⟩ := od3.ext hp3 e4
              have ra4 := ra3.ext e4
              exact ⟨accV, hp4, by rw [← ra4.length]; exact hz, Z4, ι4, M4, acc ++ [y], accV ++ [v], (e13.trans e4 hr3.ali).touch hp0, hr4.odd od4, od4, upd_same, ra4.append (.cons rv .nil), hpost3⟩
            · rw [if_neg hz] at hpost3
              exact hpost3.elim
  · refine .inl ⟨hstop (by omega), ?_⟩
    rw [List.drop_eq_nil_of_le (Nat.le_of_not_lt hi), show gLcLW gg gt ge Γ0 w [] acc M = .ok acc M from chkR_t cdM] at hpost
    exact hfin acc accV M H Z ι e1 hr1 od hp ra hpost

end
section
variable {X : Cx} {C : CT} {W : WX} {elt tg iter : Expr} {ifs : List Expr} {scope : Scope} {own : List (Str × Nat)} {pos : Pos} {gj : GJ} {gg : GG} {gt : GT} {ge : GE} {is ixs : List Nat}
theorem qe_lcK (hc : X.calm = true) (hN : X.N.Nodup) (hi : QJ X C W tg iter gj) (ok : BlkOk X.N X.env.scope scope own) (hg : Blk X scope fun Y => QG Y tg gg is) (ht : Blk X scope fun Y => QTs Y C noW ifs gt) (he : Blk X scope fun Y => QE Y C noW elt ge)
    (hix : ixs = own.map (·.2) := by rfl) (hsub : ∀ i ∈ is, i ∈ own.map (·.2) := by decide) (hs : ∀ x, foldedSetIterable iter X.env x = pure x := by intro _; rfl) : QE X C W (.ListComp elt [⟨tg, iter, ifs, 0⟩] scope pos) (gLcK gj gg gt ge ixs) := by
  subst hix
  obtain ⟨wi, pi, qi⟩ := hi
  exact ⟨_, pe_lc hc hN pi ok (blk_g hg) (blk_t ht) (blk_e he) hs, fun σ H Z ι Γ M Q sl hr h => qi σ H Z ι Γ M _ sl hr (h.bind fun iw M1 J H1 Z1 ι1 e1 hr1 rJ h1 => fun p hp =>
    gLcLW_run hsub (slots_wipe _ (sl.ext e1)) rJ hp hr1 h1 fun acc accV M' H' Z' ι' b1 b2 b3 b4 b5 b6 => fin_z hp b1 b2 b3 b4 b5 b6)⟩
end
end Bk

set_option Elab.async false
set_option linter.all false
set_option maxRecDepth 100000
set_option maxHeartbeats 4000000
namespace Bk
open PySem PySem.Spec PyProof.Rows L2
/-! ### C(k = v, ..), the fields may be ours -/
def gNewWK (nm : Str) (n : Nat) (F : List D → List MO → R D) (is : List Nat) (gk : GA) : GE := fun Γ M => (gk Γ M).bind fun ds M1 => if (pick (.ref M1.length :: ds) is).length = n then (callW F (pick (.ref M1.length :: ds) is) (M1 ++ [.obj nm []])).bind (newR M1.length) else .bad
section
variable {X : Cx} {C : CT} {W : WX} {nm x : Str} {pos p : Pos} {C0 : Addr} {k n : Nat} {fa : Addr} {fd : FuncData} {ps : List Str} {F : List D → List MO → R D} {kws : List Keyword} {gk : GA} {ks : List Str} {is : List Nat}
end
/-! ### list(range(a, b, -1)) -/
def gRg3L (gs : GA) : GE := fun Γ M => (gs Γ M).bind fun ds M1 => match rng3 ds with
  | some xs => if xs.length ≤ 2 ^ 24 then .ok (.lst xs) M1 else .bad
  | none => .bad
section
variable {X : Cx} {C : CT} {W : WX} {a b c : Expr} {gs : GA} {ta : TA} {p pos p2 pos2 : Pos}
end
@[simp] theorem u_gRg3L (gs : GA) (Γ : Env) (M : List MO) : gRg3L gs Γ M = ((gs Γ M).bind fun ds M1 => match rng3 ds with
  | some xs => if xs.length ≤ 2 ^ 24 then .ok (.lst xs) M1 else .bad
  | none => .bad) := Eq.trans rfl rfl
@[simp] theorem u_gNewWK (nm : Str) (n : Nat) (F : List D → List MO → R D) (is : List Nat) (gk : GA) (Γ : Env) (M : List MO) : gNewWK nm n F is gk Γ M = ((gk Γ M).bind fun ds M1 => if (pick (.ref M1.length :: ds) is).length = n then (callW F (pick (.ref M1.length :: ds) is) (M1 ++ [.obj nm []])).bind (newR M1.length) else .bad) := Eq.trans rfl rfl
end Bk

set_option Elab.async false
set_option linter.all false
set_option maxRecDepth 100000
set_option maxHeartbeats 2000000
namespace Bk
open PySem PySem.Spec PyProof.Rows L2
/-! ### min of a tuple of whole numbers -/
section
variable {X : Cx}
end
end Bk

set_option Elab.async false
set_option linter.all false
set_option maxRecDepth 100000
set_option maxHeartbeats 2000000
namespace Bk
open PySem PySem.Spec PyProof.Rows L2
/-! ### isinstance(x, C) of an object of the class itself -/
def gIsC (nm : Str) (ge : GE) : GE := fun Γ M => (ge Γ M).bind fun x M1 => match x with
  | .ref k => match M1[k]? with
    | some (.obj nm' _) => if nm' = nm then .ok (.bl true) M1 else .bad
    | _ => .bad
  | _ => .bad
@[simp] theorem u_gIsC (nm : Str) (ge : GE) (Γ : Env) (M : List MO) : gIsC nm ge Γ M = ((ge Γ M).bind fun x M1 => match x with
  | .ref k => match M1[k]? with
    | some (.obj nm' _) => if nm' = nm then .ok (.bl true) M1 else .bad
    | _ => .bad
  | _ => .bad) := Eq.trans rfl rfl
section
variable {X : Cx} {C : CT} {W : WX} {e : Expr} {ga : GE} {p pos q : Pos} {C0 : Addr} {nm TN : Str}
end
end Bk

set_option Elab.async false
set_option linter.all false
set_option maxRecDepth 100000
set_option maxHeartbeats 4000000
namespace Bk
open PySem PySem.Spec PyProof.Rows L2
/-! ### d.setdefault(k, x), keys that are tuples -/
def setdX (M : List MO) (x y z : D) : Option (D × List MO) := match x with
  | .ref k => match M[k]? with
    | some (.dct ks vs) => match keysD ks, keyD y with
      | some nks, some nk => if (ks.all isTup && isTup y && decide (nk.depth ≤ 8) && decide (vs.length < sizeLine)) = true then (match posK nk nks with
        | some i => (vs[i]?).map fun w => (w, M)
        | none => some (z, M.set k (.dct (ks ++ [y]) (vs ++ [z])))) else none
      | _, _ => none
    | _ => none
  | _ => none
def isDctR (M : List MO) (x : D) : Bool := match x with
  | .ref k => match M[k]? with
    | some (.dct _ _) => true
    | _ => false
  | _ => false
def gSetd (go gk gx : GE) : GE := fun Γ M => (go Γ M).bind fun x M1 => if isDctR M1 x = true then (gk Γ M1).bind fun y M2 => (gx Γ M2).bind fun z M3 => match setdX M3 x y z with
  | some r => .ok r.1 r.2
  | none => .bad else .bad
@[simp] theorem u_gSetd (go gk gx : GE) (Γ : Env) (M : List MO) : gSetd go gk gx Γ M = ((go Γ M).bind fun x M1 => if isDctR M1 x = true then (gk Γ M1).bind fun y M2 => (gx Γ M2).bind fun z M3 => match setdX M3 x y z with
  | some r => .ok r.1 r.2
  | none => .bad else .bad) := Eq.trans rfl rfl
end Bk

set_option Elab.async false
set_option linter.all false
set_option maxRecDepth 100000
set_option maxHeartbeats 4000000
namespace Bk
open PySem PySem.Spec PyProof.Rows L2
/-! ### for i, x in enumerate(xs, start=k) -/
section
variable {X : Cx} {C : CT} {W : WX} {e : Expr} {ge : GE} {p pos tpos cp kp : Pos} {elts : List Expr} {kk j : Nat} {k : Int}
end
end Bk

set_option Elab.async false
set_option linter.all false
set_option maxRecDepth 100000
set_option maxHeartbeats 2000000
namespace Bk
open PySem PySem.Spec PyProof.Rows L2
/-! ### y = [.. for x in xs], xs a list of ours that stays as it is, or a frozen one -/
section
variable {X : Cx} {C : CT} {W : WX} {elt tg iter : Expr} {ifs : List Expr} {scope : Scope} {own : List (Str × Nat)} {pos spos py : Pos} {gj : GJ} {gg : GG} {gt : GT} {ge : GE} {is ixs : List Nat}
end
end Bk

set_option Elab.async false
set_option linter.all false
set_option maxRecDepth 100000
set_option maxHeartbeats 2000000
namespace Bk
open PySem PySem.Spec PyProof.Rows L2
/-! ### max of a tuple of whole numbers -/
section
variable {X : Cx}
end
end Bk

set_option Elab.async false
set_option linter.all false
set_option maxRecDepth 100000
set_option maxHeartbeats 4000000
namespace Bk
open PySem PySem.Spec PyProof.Rows L2
/-! ### tuples that are known to have no dict: displays, (x,) + t, t.count(k) of ints -/
section
variable {X : Cx} {C : CT} {W : WX} {pos : Pos}
def gTupP (gs : GA) : GE := fun Γ M => (gs Γ M).bind fun ds M1 => if ds.length ≤ sizeLine then .ok (.ptu ds) M1 else .bad
@[simp] theorem u_gTupP (gs : GA) (Γ : Env) (M : List MO) : gTupP gs Γ M = (gs Γ M).bind fun ds M1 => if ds.length ≤ sizeLine then .ok (.ptu ds) M1 else .bad := Eq.trans rfl rfl
/-! t + u, t not empty -/
def dAddP (M : List MO) (x y : D) : Option D := match x, y with
  | .ptu (a :: as), .ptu b => if (a :: as).length + b.length ≤ sizeLine then some (.ptu ((a :: as) ++ b)) else none
  | _, _ => none
@[simp] theorem e_addP (M : List MO) (a : D) (as b : List D) : dAddP M (.ptu (a :: as)) (.ptu b) = if (a :: as).length + b.length ≤ sizeLine then some (.ptu ((a :: as) ++ b)) else none := Eq.trans rfl rfl
/-! t.count(k) -/
def gCntP (go ge : GE) : GE := fun Γ M => (go Γ M).bind fun x M1 => match x with
  | .ptu ds => (ge Γ M1).bind fun y M2 => opR (match intsD ds, y with
    | some is, .int k => some (D.int (is.count k : Nat))
    | _, _ => none) M2
  | _ => .bad
@[simp] theorem u_gCntP (go ge : GE) (Γ : Env) (M : List MO) : gCntP go ge Γ M = ((go Γ M).bind fun x M1 => match x with
  | .ptu ds => (ge Γ M1).bind fun y M2 => opR (match intsD ds, y with
    | some is, .int k => some (D.int (is.count k : Nat))
    | _, _ => none) M2
  | _ => .bad) := Eq.trans rfl rfl
/-! such a tuple as any tuple -/
def wkD : D → D
  | .ptu ds => .tup ds
  | d => d
@[simp] theorem wkD_p (ds : List D) : wkD (.ptu ds) = .tup ds := Eq.trans rfl rfl
@[simp] theorem wkD_t (ds : List D) : wkD (.tup ds) = .tup ds := Eq.trans rfl rfl
@[simp] theorem wkD_l (ds : List D) : wkD (.lst ds) = .lst ds := Eq.trans rfl rfl
@[simp] theorem wkD_r (k : Nat) : wkD (.ref k) = .ref k := Eq.trans rfl rfl
@[simp] theorem wkD_i (k : Int) : wkD (.int k) = .int k := Eq.trans rfl rfl
def gWk (ge : GE) : GE := fun Γ M => (ge Γ M).bind fun x M1 => .ok (wkD x) M1
@[simp] theorem u_gWk (ge : GE) (Γ : Env) (M : List MO) : gWk ge Γ M = (ge Γ M).bind fun x M1 => .ok (wkD x) M1 := Eq.trans rfl rfl
end
end Bk

set_option Elab.async false
set_option linter.all false
set_option maxRecDepth 100000
set_option maxHeartbeats 4000000
namespace Bk
open PySem PySem.Spec PyProof.Rows L2
/-! a key in a dict -/
section
variable {X : Cx}
end
end Bk

set_option Elab.async false
set_option linter.all false
set_option maxRecDepth 100000
set_option maxHeartbeats 4000000
namespace Bk
open PySem PySem.Spec PyProof.Rows L2 PpSet
/-! ### sorted({e for x in xs if ..}), e an int -/
section
variable {X : Cx} {pins : List (Addr × Obj)} {σ : St} {H : Hp} {s : Shared}
end
def sciD : D → Option Int
  | .int i => some i
  | _ => none
def insU (rs : List Int) (r : Int) : List Int := if r ∈ rs then rs else rs ++ [r]
def gScI (gg : GG) (gt : GT) (ge : GE) (Γ0 : Env) : List D → List Int → List MO → R (List Int)
  | [], rs, M => .ok rs M
  | d :: ds, rs, M => match gg d Γ0 with
    | none => .bad
    | some Γ1 => (gt Γ1 M).only fun k M1 => if k = true then (ge Γ1 M1).only fun y M2 => match sciD y with
        | some r => if rs.length + 1 < 64 then gScI gg gt ge Γ0 ds (insU rs r) M2 else .bad
        | none => .bad
      else gScI gg gt ge Γ0 ds rs M1
def gSortSc (gi : GI) (gg : GG) (gt : GT) (ge : GE) (vs : List Nat) : GE := fun Γ M => (gi Γ M).bind fun ds M1 => (gScI gg gt ge (forget Γ vs) ds [] M1).bind fun rs M2 => .ok (.lst ((srtI rs).map D.int)) M2
@[simp] theorem u_gSortSc (gi : GI) (gg : GG) (gt : GT) (ge : GE) (vs : List Nat) (Γ : Env) (M : List MO) : gSortSc gi gg gt ge vs Γ M = ((gi Γ M).bind fun ds M1 => (gScI gg gt ge (forget Γ vs) ds [] M1).bind fun rs M2 => .ok (.lst ((srtI rs).map D.int)) M2) := Eq.trans rfl rfl
@[simp] theorem scI_nil (gg : GG) (gt : GT) (ge : GE) (Γ0 : Env) (rs : List Int) (M : List MO) : gScI gg gt ge Γ0 [] rs M = .ok rs M := by simp [gScI]
section
variable {X : Cx} {C : CT} {W : WX}
variable {elt tg iter : Expr} {ifs : List Expr} {scope : Scope} {own : List (Str × Nat)} {p q pos : Pos} {gi : GI} {gg : GG} {gt : GT} {ge : GE} {is ixs : List Nat}
end
end Bk

set_option Elab.async false
set_option linter.all false
set_option maxRecDepth 100000
set_option maxHeartbeats 2000000
namespace Bk
open PySem PySem.Spec PyProof.Rows L2
/-! ### lambdas: made, called in the def that got one -/
section
variable {K : PySem.W.Frag} {H Z : Hp} {ι : Nat → Addr} {M : List MO}
end
/-- a lambda is made: k, where the maker's table lies in the store -/
def gLam (k : Nat) (nm : Str) (l : LSy) (cl : List (Str × Addr)) : GE := fun _ M => match M[k]? with
  | some (.tab nm') => if nm' = nm then .ok (.lam l cl) M else .bad
  | _ => .bad
section
variable {X : Cx} {C : CT} {W : WX} {pins : List (Addr × Obj)} {σ : L2.St} {H : Hp} {s : Shared}
end
@[simp] theorem u_gLam (k : Nat) (nm : Str) (l : LSy) (cl : List (Str × Addr)) (Γ : Env) (M : List MO) : gLam k nm l cl Γ M = (match M[k]? with
  | some (.tab nm') => if nm' = nm then .ok (.lam l cl) M else .bad
  | _ => .bad) := Eq.trans rfl rfl
end Bk

set_option Elab.async false
set_option linter.all false
set_option maxRecDepth 100000
set_option maxHeartbeats 4000000
namespace Bk
open PySem PySem.Spec PySem.Calls PyProof.Rows L2
/-! ### a caught error as data: isinstance, its attribute -/
section
variable {pg : Program} {wd : World} {Ar : Around} {E : Value → Shared → Prop} {K : PySem.W.Frag} {x B : Addr} {ob : Obj} {od : Option Obj}
end
section
variable {X : Cx} {C : CT} {a B dx : Addr} {oe : Obj} {pn : List (Addr × Obj)}
end
end Bk

set_option Elab.async false
set_option linter.all false
set_option maxRecDepth 100000
set_option maxHeartbeats 4000000
namespace Bk
open PySem PySem.Spec PyProof.Rows L2
/-! ### suites that look at the caught error; defs that call what they get -/
section
variable {X : Cx} {C : CT} {W : WX} {a B dx : Addr} {oe : Obj} {pn : List (Addr × Obj)} {p pos ep np : Pos} {en : Str}
end
section
variable {X : Cx} {C : CT} {W : WX} {a B dx : Addr} {oe : Obj} {pn : List (Addr × Obj)} {p pos ep np : Pos} {en : Str}
end
/-! clauses -/
/-- what holds for all addresses alike -/
noncomputable def allA (f : Addr → Addr → RS) : RS := open Classical in if ∀ a b, f a b = f 0 0 then f 0 0 else .bad
theorem allA_eq {f : Addr → Addr → RS} {r : RS} (h : ∀ a b, f a b = r) : allA f = r := by
  unfold allA
  rw [if_pos fun a b => (h a b).trans (h 0 0).symm]
  exact h 0 0
@[simp] theorem allA_c (r : RS) : allA (fun _ _ => r) = r := allA_eq fun _ _ => rfl
theorem allA_at {f : Addr → Addr → RS} (a b : Addr) (h : allA f ≠ .bad) : allA f = f a b := by
  unfold allA at h ⊢
  split at h
  · rename_i q
    rw [if_pos q, q a b]
  · exact absurd rfl h
structure Hd2 where
  is : Nat → Bool
  slot : Option Nat
  run : Nat → Addr → Addr → GS
noncomputable def pickH2 (nms : Nat → Str) : List Hd2 → Nat → D → GS
  | [], c, d => fun Γ M => .exc c d Γ M
  | h :: r, c, d => fun Γ M => if h.is c = true then (match h.slot with
      | none => (h.run c 0 0 Γ M).noExc
      | some i => if i < Γ.length then allA fun a dx => ((h.run c a dx (Γ.set i (some (.exv a dx (nms c) d))) M).noExc).unset i else .bad) else pickH2 nms r c d Γ M
/-- the suite of a clause 'as n', for any class that it takes -/
def QSv (X : Cx) (C : CT) (m : Nat) (is : Nat → Bool) (sts : List Stmt) (gA : Nat → Addr → Addr → GS) : Prop := ∀ (a : Addr) (oe : Obj) (c : Nat) (dx : Addr) (pn : List (Addr × Obj)), c < m → is c = true → Zc (.ref (C.at_ c)) (some dx) oe → (∃ vs, oe.data = .fields vs) → QSs (X.suite a ((a, oe) :: pn)) C noW sts (gA c a dx)
def tAsV (X : Cx) (C : CT) (m i : Nat) (is : Nat → Bool) (nms : Nat → Str) (gA : Nat → Addr → Addr → GS) : TSx := fun a cls dd Dd σ H => ∃ (Z : Hp) (ι : Nat → Addr) (Γ : Env) (M : List MO) (c : Nat) (dx : Addr) (d : D), c < m ∧ is c = true ∧ cls = .ref (C.at_ c) ∧ dd = some dx ∧
  Slots X.K Z ι M.length (Γ.set i (some (.exv a dx (nms c) d))) σ ∧ HR X.K H Z ι M ∧ PostS X C noW H Z ι M (gA c a dx (Γ.set i (some (.exv a dx (nms c) d))) M) Dd
inductive HdV (X : Cx) (C : CT) (m : Nat) : List ExceptHandler → List Hd2 → Prop
  | nil : HdV X C m [] []
  | only {x : Str} {c : Value} {b0 : Stmt} {su : List Stmt} {np po : Pos} {hds : List ExceptHandler} {hs : List Hd2} {is : Nat → Bool} {g : GS} (hc : Names X x c) (ht : ∀ k, k < m → PySem.W.exmOne X.K (.ref (C.at_ k)) c = some (is k))
      (hq : QOnly X C (b0 :: su) g) (r : HdV X C m hds hs) : HdV X C m (.ExceptHandler (some (.Name x np)) none (b0 :: su) po :: hds) (⟨is, none, fun _ _ _ => g⟩ :: hs)
  | as {x n : Str} {i : Nat} {c : Value} {b0 : Stmt} {su : List Stmt} {np po : Pos} {hds : List ExceptHandler} {hs : List Hd2} {is : Nat → Bool} {gA : Nat → Addr → Addr → GS} (hc : Names X x c) (hN : X.N.Nodup) (hi : X.N[i]? = some n) (hln : X.env.kindOf n = some .local)
      (ht : ∀ k, k < m → PySem.W.exmOne X.K (.ref (C.at_ k)) c = some (is k)) (hq : QSv X C m is (b0 :: su) gA) (r : HdV X C m hds hs) :
      HdV X C m (.ExceptHandler (some (.Name x np)) (some n) (b0 :: su) po :: hds) (⟨is, some i, gA⟩ :: hs)
theorem PostS.bad_no {X : Cx} {C : CT} {W : WX} {H Z : Hp} {ι : Nat → Addr} {M : List MO} {r : RS} {Dd : Ends} (h : PostS X C W H Z ι M r Dd) : r ≠ .bad := fun e => by
  subst e
  exact h
theorem HdV.toK {X : Cx} {C : CT} {m : Nat} {nms : Nat → Str} {hds : List ExceptHandler} {hs : List Hd2} (hn : ∀ k, k < m → C.nm k = nms k) (h : HdV X C m hds hs) : ∃ l, HdK X hds l ∧ ∀ (Wo : WX) (Dd : Ends) (H Z : Hp) (ι : Nat → Addr) (Γ : Env) (M : List MO) (σ : L2.St) (cls : Value) (dd : Option Addr) (c : Nat) (d : D),
    c < m → ExcR X.K C H Z ι M.length c d cls dd → Slots X.K Z ι M.length Γ σ → HR X.K H Z ι M → PostS X C Wo H Z ι M (pickH2 nms hs c d Γ M) Dd → wHd X.K Wo Dd l cls dd σ H := by
  induction h with
  | nil => exact ⟨[], .nil, fun Wo Dd H Z ι Γ M σ cls dd c d hcm x sl hr h => h cls dd σ H Z ι .refl hr sl x⟩
  | @only x c0 b0 su np po hds hs is g hc ht hq r ih =>
    obtain ⟨l, hk, hw⟩ := ih
    refine ⟨(c0, none, tOnly X C fun _ => g) :: l, .only hc (fun a oe cls dd pn _ _ => ?_) hk, fun Wo Dd H Z ι Γ M σ cls dd c d hcm x sl hr h => ?_⟩
    · obtain ⟨ts, ps, qs⟩ := hq a oe pn
      refine PSs.weak ps fun D σ H q => ?_
      obtain ⟨Z, ι, Γ, M, c, d, x, sl, hr, h⟩ := q
      exact qs D σ H Z ι Γ M sl hr h
    · refine ⟨is c, by rw [x.1]; exact ht c hcm, fun hb a ha => ?_, fun hb => ?_⟩
      · have h2 : PostS X C Wo H Z ι M (if is c = true then (g Γ M).noExc else pickH2 nms hs c d Γ M) Dd := h
        rw [if_pos hb] at h2
        exact ⟨Z, ι, Γ, M, c, d, x, sl, hr, h2.noExc⟩
      · have h2 : PostS X C Wo H Z ι M (if is c = true then (g Γ M).noExc else pickH2 nms hs c d Γ M) Dd := h
        rw [if_neg (by rw [hb]; decide)] at h2
        exact hw Wo Dd H Z ι Γ M σ cls dd c d hcm x sl hr h2
  | @as x n i c0 b0 su np po hds hs is gA hc hN hi hln ht hq r ih =>
    obtain ⟨l, hk, hw⟩ := ih
    refine ⟨(c0, some i, tAsV X C m i is nms gA) :: l, .as hc hN hi hln (fun a oe cls dd pn hz hf => ⟨fun pi s σ H D I q => ?_⟩) hk, fun Wo Dd H Z ι Γ M σ cls dd c d hcm x sl hr h => ?_⟩
    · obtain ⟨Z, ι, Γ, M, c, dx, d, h1, h2, rfl, rfl, sl, hr, h⟩ := q
      obtain ⟨ts, ps, qs⟩ := hq a oe c dx pn h1 h2 hz hf
      exact ps.run pi s σ H D I (qs D σ H Z ι _ M sl hr h)
    · refine ⟨is c, by rw [x.1]; exact ht c hcm, fun hb a ha => ?_, fun hb => ?_⟩
      · have h2 : PostS X C Wo H Z ι M (if is c = true then (if i < Γ.length then allA fun a dx => ((gA c a dx (Γ.set i (some (.exv a dx (nms c) d))) M).noExc).unset i else .bad) else pickH2 nms hs c d Γ M) Dd := h
        rw [if_pos hb] at h2
        obtain ⟨x1, dx, v, x2, x3, x4⟩ := x
        rw [hn c hcm] at x3
        by_cases li : i < Γ.length
        · rw [if_pos li] at h2
          have q := allA_at a dx h2.bad_no
          rw [q] at h2
          exact ⟨Z, ι, Γ, M, c, dx, d, hcm, hb, x1, x2, sl.set i (.exv x3 x4), hr, h2.unset.noExc⟩
        · rw [if_neg li] at h2
          exact h2.elim
      · have h2 : PostS X C Wo H Z ι M (if is c = true then (if i < Γ.length then allA fun a dx => ((gA c a dx (Γ.set i (some (.exv a dx (nms c) d))) M).noExc).unset i else .bad) else pickH2 nms hs c d Γ M) Dd := h
        rw [if_neg (by rw [hb]; decide)] at h2
        exact hw Wo Dd H Z ι Γ M σ cls dd c d hcm x sl hr h2
/-! defs that call what they get, in a try at their head -/
/-- the def at f calls its only parameter a: computed by Fr from the meaning of that call -/
structure AskQ (P : Program) (w : World) (K : PySem.W.Frag) (mg : Str → Option Value) (base : Heap) (C : CT) (k : Nat) (f : Addr) (N : List Str) (qual : Str) (sc : Scope) (a : Str) (Fr : (List MO → R D) → List MO → R D) : Prop where
  run : ∀ (A : Around) (outer : List PySem.Env) (s : Shared) (H : Hp) (u : Addr) (Q : VK) (E : XK) (Z : Hp) (ι : Nat → Addr) (M : List MO) (t : List MO → R D), Room k A → A.guards = some [] → Env0 P w K mg base A outer s H → HR K H Z ι M →
    (∀ (cdv : Value) (V : WX) (pn : List (Addr × Obj)) (xe : Value → Shared → Prop) (p1 p2 : Pos), Takes ((cxOf (L2.CX P w) P w K mg base N qual sc f cdv A outer s H E).tr pn xe) V →
      PE ((cxOf (L2.CX P w) P w K mg base N qual sc f cdv A outer s H E).tr pn xe) (.Call (.Name a p1) [] [] p2) (fun σ H' Q' => σ[0]? = some (some (.ref u)) ∧ H' = H ∧ Post (cxOf (L2.CX P w) P w K mg base N qual sc f cdv A outer s H E) C V (rpE K) σ H Z ι M (t M) Q')) →
    PostF K C E H Z ι M (Fr t M) Q → codeAny (model P w) A (.call (.ref f) ⟨[.ref u], []⟩) (CR (L2.CX P w) outer P w H s Q E) s
section
variable {P : Program} {w : World} {K : PySem.W.Frag} {mg : Str → Option Value} {base : Heap} {C : CT}
end
end Bk

set_option Elab.async false
set_option linter.all false
set_option maxRecDepth 100000
set_option maxHeartbeats 4000000
namespace Bk
open PySem PySem.Spec PyProof.Rows L2
/-! ### a lambda handed to a def that calls it; lists of lambdas walked -/
/-- the words of a lambda, and what its body computes in the maker's names -/
abbrev LTab := List (LSy × GE)
noncomputable def askOf (tb : LTab) (cl : List (Str × Addr)) : D → Option GE
  | .lam l cl' => match tb[l.ix]? with
    | some (l', g) => open Classical in if l = l' ∧ cl' = cl then some g else none
    | none => none
  | _ => none
noncomputable def gAsk (tb : LTab) (cl : List (Str × Addr)) (Fr : (List MO → R D) → List MO → R D) (ga : GE) : GE := fun Γ M => (ga Γ M).bind fun x M1 => match askOf tb cl x with
  | some g => Fr (fun M2 => g Γ M2) M1
  | none => .bad
section
variable {X : Cx} {C : CT} {W : WX} {pins : List (Addr × Obj)} {σ : L2.St} {H : Hp} {s : Shared} {k k' : Nat} {f : Addr} {N : List Str} {qual : Str} {sc : Scope} {a : Str} {Fr : (List MO → R D) → List MO → R D}
end
@[simp] theorem u_gAsk (tb : LTab) (cl : List (Str × Addr)) (Fr : (List MO → R D) → List MO → R D) (ga : GE) (Γ : Bk.Env) (M : List MO) : gAsk tb cl Fr ga Γ M = ((ga Γ M).bind fun x M1 => match askOf tb cl x with
  | some g => Fr (fun M2 => g Γ M2) M1
  | none => .bad) := Eq.trans rfl rfl
end Bk

set_option Elab.async false
set_option linter.all false
set_option maxRecDepth 100000
set_option maxHeartbeats 2000000
namespace Bk
open PySem PySem.Spec PyProof.Rows L2
/-! ### the law's own call, where defs make lambdas -/
end Bk

set_option Elab.async false
set_option linter.all false
set_option maxRecDepth 100000
set_option maxHeartbeats 2000000
namespace Bk
open PySem PySem.Spec PyProof.Rows L2
/-! ### makers of lambdas: defs whose body is read with its own cells; words for the printed part -/
section
variable {P : Program} {w : World} {K : PySem.W.Frag} {mg : Str → Option Value} {base : Heap} {C : CT}
theorem AskQ.mono {j k : Nat} {f : Addr} {N : List Str} {qual : Str} {sc : Scope} {a : Str} {Fr : (List MO → R D) → List MO → R D} (x : AskQ P w K mg base C j f N qual sc a Fr) (h : j ≤ k) : AskQ P w K mg base C k f N qual sc a Fr :=
  ⟨fun A outer s H u Q E Z ι M t hr => x.run A outer s H u Q E Z ι M t (hr.mono h)⟩
end
/-! isinstance of classes, from the except clauses' facts -/
section
variable {K : PySem.W.Frag}
end
/-! a piece of syntax by its place -/
end Bk

set_option Elab.async false
set_option linter.all false
set_option maxRecDepth 100000
set_option maxHeartbeats 2000000
namespace Bk
open PySem PySem.Spec PyProof.Rows L2
/-! ### l.count(x) of data of any kind -/
section
variable {X : Cx} {C : CT} {W : WX}
end
end Bk

set_option Elab.async false
set_option linter.all false
set_option maxRecDepth 100000
set_option maxHeartbeats 2000000
namespace Bk
open PySem PySem.Spec PyProof.Rows L2
/-! ### a text times a number -/
section
variable {X : Cx}
end
end Bk

set_option Elab.async false
set_option linter.all false
set_option maxRecDepth 100000
set_option maxHeartbeats 2000000
namespace Bk
open PySem PySem.Spec PyProof.Rows L2
/-! ### a dict of one entry, its key an int or a text: data that is not looked into -/
def gDcx (k : Key) (gb : GE) : GE := fun Γ M => (gb Γ M).bind fun v M2 => .ok (.dcx k v) M2
section
variable {X : Cx} {C : CT} {W : WX} {pos : Pos}
end
@[simp] theorem u_gDcx (k : Key) (gb : GE) (Γ : Env) (M : List MO) : gDcx k gb Γ M = (gb Γ M).bind fun v M2 => .ok (.dcx k v) M2 := Eq.trans rfl rfl
end Bk

set_option Elab.async false
set_option linter.all false
set_option maxRecDepth 100000
namespace Bk
open PySem PySem.Spec PyProof.Rows L2
/-! ### an object that will not be looked at any more (ahead of a raise in its making) -/
def gDie (i : Nat) : GS := fun Γ M => match Γ[i]? with
  | some (some (.ref k)) => match M[k]? with
    | some (.obj _ _) => .nx Γ (M.set k .dead)
    | _ => .bad
  | _ => .bad
@[simp] theorem u_gDie (i : Nat) (Γ : Env) (M : List MO) : gDie i Γ M = (match Γ[i]? with
  | some (some (.ref k)) => match M[k]? with
    | some (.obj _ _) => .nx Γ (M.set k .dead)
    | _ => .bad
  | _ => .bad) := Eq.trans rfl rfl
section
variable {X : Cx} {C : CT} {W : WX} {st : Stmt} {g : GS}
end
end Bk

set_option Elab.async false
set_option linter.all false
set_option maxRecDepth 100000
namespace Bk
open PySem PySem.Spec PyProof.Rows L2
/-! ### repr of a whole number -/
end Bk

set_option Elab.async false
set_option linter.all false
set_option maxRecDepth 100000
namespace Bk
open PySem PySem.Spec PyProof.Rows L2
/-! ### repr of None, and of lists in which empty dicts may stand -/
def EmD (H : Hp) (a : Addr) : Prop := ∃ ep, H a = some (dnO a #[] ep) ∧ (a == sysModules) = false
inductive ItX (K : PySem.W.Frag) (H : Hp) : V → PyData → Prop
  | dp {v : V} {p : PyData} : Dp K H v p → p.hasDict = false → ItX K H v p
  | emp {a : Addr} : EmD H a → ItX K H (.ref a) (.dict [])
section
variable {X : Cx} {pins : List (Addr × Obj)} {σ : St} {H : Hp} {s : Shared}
theorem EmD.obj (I : Inv X pins σ H s) {a : Addr} (h : EmD H a) : ∃ o ep, s.heap.get? a = some o ∧ o.cls = .type "dict" ∧ o.data = .dict #[] ep := by
  obtain ⟨ep, e, _⟩ := h
  obtain ⟨⟨o, e1, e2, e3⟩, _⟩ := I.hok a _ e
  exact ⟨o, ep, e1, e2.1, e3⟩
theorem ItX.reads (I : Inv X pins σ H s) {v : V} {p : PyData} {u : Value} (h : ItX X.K H v p) (r : RelV v u) : ∃ as, Reads s.heap u p as ∧ (p.hasDict = true → sysModules ∉ as) := by
  cases h with
  | dp h e =>
    obtain ⟨as, q⟩ := Dp.reads I _ _ _ h r
    exact ⟨as, q, fun z => by rw [e] at z; cases z⟩
  | emp h =>
    cases r
    obtain ⟨o, ep, e1, e2, e3⟩ := h.obj I
    obtain ⟨_, _, hs⟩ := h
    refine ⟨_, Reads.dict (kvs := []) e1 e2 e3 .nil .nil, fun _ hm => ?_⟩
    simp only [List.append_nil, List.mem_singleton] at hm
    rw [← hm] at hs
    simp at hs
end
section
variable {X : Cx}
end
section
variable {X : Cx} {K : PySem.W.Frag} {H Z : Hp} {ι : Nat → Addr} {n : Nat} {M : List MO}
end
end Bk

set_option Elab.async false
set_option linter.all false
set_option maxRecDepth 100000
namespace Bk
open PySem PySem.Spec PyProof.Rows L2
/-! ### list.insert -/
abbrev MF2 := List MO → List D → D → D → Option (List D × D)
def gMeth2 (f : MF2) (go ge gx : GE) : GE := fun Γ M => (go Γ M).bind fun x M1 => if isListD M1 x = true then (ge Γ M1).bind fun y M2 => (gx Γ M2).bind fun z M3 => mutR M3 x fun ds => f M3 ds y z else .bad
@[simp] theorem u_gMeth2 (f : MF2) (go ge gx : GE) (Γ : Env) (M : List MO) : gMeth2 f go ge gx Γ M = (go Γ M).bind fun x M1 => if isListD M1 x = true then (ge Γ M1).bind fun y M2 => (gx Γ M2).bind fun z M3 => mutR M3 x fun ds => f M3 ds y z else .bad := rfl
section
variable {X : Cx} {C : CT} {W : WX}
end
end Bk

set_option Elab.async false
set_option linter.all false
set_option maxRecDepth 100000
set_option maxHeartbeats 4000000
namespace Bk
open PySem PySem.Spec PyProof.Rows L2
/-! ### tuples known to have no dict: t * k of two and more, t + u with t empty too -/
section
variable {X : Cx} {C : CT} {W : WX} {pos : Pos}
def dMulP (M : List MO) (x y : D) : Option D := match x, y with
  | .tup ds, .int k => if (decide (ds ≠ []) && decide (2 ≤ k) && decide (k ≤ 100) && decide (ds.length ≤ 100)) = true then some (.ptu (List.replicate k.toNat ds).flatten) else none
  | _, _ => none
/-! t + u -/
end
@[simp] theorem e_mulP (M : List MO) (d : D) (ds : List D) (k : Int) (h1 : 2 ≤ k) (h2 : k ≤ 100) (h3 : ds.length < 100) : dMulP M (.tup (d :: ds)) (.int k) = some (.ptu (List.replicate k.toNat (d :: ds)).flatten) := by
  have c : (decide (d :: ds ≠ []) && decide (2 ≤ k) && decide (k ≤ 100) && decide ((d :: ds).length ≤ 100)) = true := by
    simp [h1, h2]
    omega
  simp only [dMulP, c, if_true]
end Bk

set_option Elab.async false
set_option linter.all false
set_option maxRecDepth 100000
set_option maxHeartbeats 4000000
namespace Bk
open PySem PySem.HandSPX PySem.Builtin PySem.Builtin.ObjectAttr
section
variable {M : Model} {A : Around} {E : Value → Shared → Prop} {h : Heap} {g : Array GenState} {d : Drawn} {t : Nat} {os : OsState}
variable {nm q : Str} {C N : Addr} {bs bm bmB : List Value} {hdct : Bool} {sn : List Str} {sub : List Value} {ab : Bool} {col : Option Bool} {dd : Option Addr} {k0 k1 k2 k3 k5 : Option Value} {B newId initId : String}
end
section
variable {prog : Program} {w : World} {A : Around} {E : Value → Shared → Prop} {R : Result → Shared → Prop} {h : Heap} {g : Array GenState} {d : Drawn} {t : Nat} {os : OsState}
variable {nm q : Str} {C N : Addr} {bs bm bmB : List Value} {hdct : Bool} {sn : List Str} {sub : List Value} {ab : Bool} {col : Option Bool} {dd : Option Addr} {k0 k1 k2 k3 k5 : Option Value} {B newId initId : String} {kw : List (Str × Value)}
end
end Bk
namespace Bk
open PySem PySem.Spec PyProof.Rows L2
/-! ### errors made as values -/
section
variable {X : Cx}
end
section
variable {X : Cx} {C : CT} {W : WX} {B fI : Addr} {f x qual nm : Str} {fd : FuncData} {st : Stmt} {e : Expr} {ge : GE} {p pos pos1 : Pos}
end
end Bk
namespace Bk
open PySem PySem.Spec PyProof.Rows L2
section
variable {X : Cx} {C : CT} {W : WX} {B fI : Addr} {f x qual nm : Str} {fd : FuncData} {st : Stmt} {e : Expr} {ge : GE} {p pos pos1 : Pos}
/-- an error of the class named nm, its attribute f -/
def gNewX (nm f : Str) (ge : GE) : GE := fun Γ M => (ge Γ M).bind fun d M1 => .ok (.exn nm f d) M1
@[simp] theorem u_gNewX (nm f : Str) (ge : GE) (Γ : Env) (M : List MO) : gNewX nm f ge Γ M = (ge Γ M).bind fun d M1 => .ok (.exn nm f d) M1 := Eq.trans rfl rfl
end
end Bk

set_option Elab.async false
set_option linter.all false
set_option maxRecDepth 100000
set_option maxHeartbeats 4000000
namespace Bk
open PySem PySem.Spec PySem.Calls PyProof.Rows L2
/-! ### errors as values: isinstance, the attribute; repr and == of data with small dicts -/
section
variable {X : Cx}
end
/-- isinstance(e, K) of an error made as a value; num gives its class's number, b what that class is -/
def gIsX (num : Str → Option Nat) (b : Nat → Bool) (ge : GE) : GE := fun Γ M => (ge Γ M).bind fun d M1 => match d with
  | .exn nm _ _ => match num nm with
    | some j => .ok (.bl (b j)) M1
    | none => .bad
  | _ => .bad
def gAtX (num : Str → Option Nat) (nms : Nat → Str) (f : Str) (ge : GE) : GE := fun Γ M => (ge Γ M).bind fun d M1 => match d with
  | .exn nm f' x => match num nm with
    | some j => if f' = f ∧ nms j = f then .ok x M1 else .bad
    | none => .bad
  | _ => .bad
section
variable {X : Cx} {C : CT} {W : WX} {e : Expr} {ge : GE} {p pos q : Pos} {m : Nat} {num : Str → Option Nat} {b : Nat → Bool}
end
@[simp] theorem u_gIsX (num : Str → Option Nat) (b : Nat → Bool) (ge : GE) (Γ : Env) (M : List MO) : gIsX num b ge Γ M = (ge Γ M).bind fun d M1 => match d with
  | .exn nm _ _ => match num nm with
    | some j => .ok (.bl (b j)) M1
    | none => .bad
  | _ => .bad := Eq.trans rfl rfl
@[simp] theorem u_gAtX (num : Str → Option Nat) (nms : Nat → Str) (f : Str) (ge : GE) (Γ : Env) (M : List MO) : gAtX num nms f ge Γ M = (ge Γ M).bind fun d M1 => match d with
  | .exn nm f' x => match num nm with
    | some j => if f' = f ∧ nms j = f then .ok x M1 else .bad
    | none => .bad
  | _ => .bad := Eq.trans rfl rfl
end Bk

set_option Elab.async false
set_option linter.all false
set_option maxRecDepth 100000
set_option maxHeartbeats 4000000
namespace Bk
open PySem PySem.Spec PySem.Calls PyProof.Rows L2
/-! ### repr and == of data with small dicts -/
section
variable {X : Cx} {pins : List (Addr × Obj)} {σ : L2.St} {H Z : Hp} {s : Shared} {ι : Nat → Addr} {n : Nat}
/-- a dict with one entry or none stands there -/
def DkQ (H : Hp) (a : Addr) (kvs : List (Key × V)) : Prop := H a = some (.dK kvs) ∨ (kvs = [] ∧ EmD H a)
theorem DkQ.of {kvs : List (Key × V)} {a : Addr} (I : Inv X pins σ H s) (h : DkQ H a kvs) : (a == sysModules) = false ∧ ∃ vs, KV kvs vs ∧ s.heap.DictOf (mixKind X.prog X.w) a vs := by
  rcases h with h | ⟨rfl, ep, h, hs⟩
  · obtain ⟨_, y, vs, r, dd⟩ := (show ObjOk X.prog X.w H s.heap a (.dK kvs) from I.hok a _ h)
    exact ⟨y, vs, r, dd⟩
  · obtain ⟨⟨o, e1, e2, e3⟩, _⟩ := I.hok a _ h
    exact ⟨hs, [], .nil, o, #[], ep, e1, e2, e3, fun e he => by simp at he, .nil, List.nodup_nil⟩
end
end Bk

set_option Elab.async false
set_option linter.all false
set_option maxRecDepth 100000
set_option maxHeartbeats 4000000
namespace Bk
open PySem PySem.Spec PySem.Calls PyProof.Rows L2
/-! ### list(d), sorted(d) of dicts with tuple keys; sorted of nested data, reverse= too -/
section
variable {prog : Program} {w : World} {A : Around} {E : Value → Shared → Prop} {s : Shared}
theorem kdl_raw {d : Addr} {es : Array DictEntry} {ep : Nat} (lo : (d == sysModules) = false) : PySem.W.KdlSrc prog w "dict" d d es.size (fun i v => ∃ hi : i < es.size, v = es[i].key) (fun h => h.DictRaw d es ep) where
  type := fun _ hm => hm.typeIs
  there := fun _ hm => ⟨hm.lt_size, hm.lt_size⟩
  keep := fun _ _ hm hk => hm.at fun o e => hk d (.inl rfl) o e
  notList := by decide
  notTuple := by decide
  hint := fun _ _ _ _ hm hq => PySem.W.kdl_hint_dict hm.typeIs hq
  iter := fun _ _ hh hm => ⟨_, _, (fun _ _ hq => wpAny_pyIter_dict_raw lo hm hq), Walks.rawKeys hh _ d (Nat.ne_of_lt hm.lt_size) es ep, ⟨⟨_, Heap.get?_push_size _ rfl, rfl, rfl⟩, hm.push _⟩⟩
/-- sorted(d, ..): the keys gathered, then sorted -/
theorem sorted_srcK {T : String} {r d : Addr} {n : Nat} {P : Nat → Value → Prop} {OK : Heap → Prop} {β : Type} {bs : List β} {enc : β → PyData} {R : Value → β → Prop} {b : Bool} {kw : List (Str × Value)} {Q : Value → Shared → Prop}
    (K : PySem.W.KdlSrc prog w T r d n P OK) (hh : A.handled = none) (hok : OK s.heap) (hn : n ≤ sizeLine) (ha1 : argsOk "sorted" ⟨[.ref r], kw⟩) (ha2 : ∀ x, argsOk "list.sort" ⟨[.ref x], kw⟩)
    (hb : ∀ x : Addr, Builtin.«list.sort» ⟨[.ref x], kw⟩ = Builtin.«list.sort» ⟨[.ref x], [(Str.ofString "reverse", .bool b)]⟩)
    (hR : ∀ (h' : Heap) (acc : Array Value), (∀ x o, s.heap.get? x = some o → h'.get? x = some o) → ItemsOf P acc n → PySem.W.EachIs R acc.toList bs ∧ PySem.W.EachIs (fun v b => ∃ as, Reads h' v (enc b) as) acc.toList bs)
    (hal : PySem.W.AllAlike (bs.map enc)) (hk : PySem.W.Sortable (bs.map enc)) (hu : ∀ b, b ∈ bs → A.units + 2 + (enc b).depth < cLine)
    (h : ∀ (h' : Heap) (tk : Nat) (p : Addr) (out : List Value) (c : Nat), (∀ x o, s.heap.get? x = some o → h'.get? x = some o) → s.heap.get? p = none → h'.get? p = some (seqObj "list" out.toArray c) → out.length = bs.length → PySem.W.EachIs R out (bs.mergeSort (PySem.W.dataLe b enc)) →
      Q (.ref p) { s with heap := h', toks := tk }) :
    wpAny (model prog w) A (call (.builtin "sorted") [.ref r] kw) Q E s := by
  refine call_function_entry_kw kind_sorted plain_sorted entry_sorted ha1 ?_
  unfold Builtin.«sorted»
  refine wpAny_bind (m := checkCount "sorted" 1 1 _) (wpAny_pure ?_)
  refine wpAny_bind (PySem.W.kdu_collect (A := A.in1) K hh hok hn fun h1 tk acc keep hacc => ?_)
  obtain ⟨e1, e2⟩ := hR h1 acc keep hacc
  have hl : acc.toList.length = n := by rw [Array.length_toList]; exact hacc.1
  refine wpAny_bind (wpAny_newList ?_ (by rw [hl]; exact hn))
  have hS : (h1.push (seqObj "list" acc.toList.toArray 0)).get? h1.objs.size = some (seqObj "list" acc.toList.toArray 0) := Heap.get?_push_size _ rfl
  have e3 : PySem.W.EachIs (fun v b => ∃ as, Reads (PySem.W.sortingHeap (h1.push (seqObj "list" acc.toList.toArray 0)) h1.objs.size acc.toList) v (enc b) as) acc.toList bs := e2.mono fun _ _ ⟨as, q⟩ => ⟨as, PyProof.Rows.Reads.keeps (fun x o e => PySem.W.sortingHeap_old (Nat.ne_of_lt (Heap.lt_size e)) (Heap.get?_push_of_some _ e)) q⟩
  have S := PySem.W.SortsAt.data (prog := prog) (w := w) (A := A.in1.in1) (s := { s with heap := PySem.W.sortingHeap (h1.push (seqObj "list" acc.toList.toArray 0)) h1.objs.size acc.toList, toks := tk }) (PySem.W.each_map (R := fun v d => ∃ as, Reads (PySem.W.sortingHeap (h1.push (seqObj "list" acc.toList.toArray 0)) h1.objs.size acc.toList) v d as) enc e3) hal hk (PySem.W.bound_map hu)
  refine wpAny_bind (wpAny_holding (wpAny_call_entry_kw slot_list_sort ⟨_, hS, rfl⟩ entry_list_sort ?body (ha2 _)))
  case body =>
    show wpAny (model prog w) A.in1.in1 (Builtin.«list.sort» ⟨[.ref h1.objs.size], kw⟩) _ _ _
    rw [hb]
    have gs := PySem.W.list_sort_rev_vals (prog := prog) (w := w) (A := A.in1.in1) (E := E) (b := b) (s := { s with heap := h1.push (seqObj "list" acc.toList.toArray 0), toks := tk }) (a := h1.objs.size) (vs := acc.toList) (n := 0)
      (P := fun f s' => f = .done (.ret .none) ∧ Q (.ref h1.objs.size) s') hS S (by rw [hl]; exact hn) ⟨rfl, by
        have eo := PySem.W.sortVals_data b e1 e3 hal
        have lo : (PySem.W.sortVals (PySem.W.dataKind (PySem.W.sortingHeap (h1.push (seqObj "list" acc.toList.toArray 0)) h1.objs.size acc.toList) (bs.map enc)) b acc.toList acc.toList).length = bs.length := by
          rw [PySem.W.sortVals_length b rfl]; exact e1.length
        obtain ⟨c, hc⟩ := sortedHeap_at (h := h1.push (seqObj "list" acc.toList.toArray 0)) (a := h1.objs.size) hS
        refine h _ tk h1.objs.size _ c (fun x o e => (sortedHeap_old (Nat.ne_of_lt (Heap.lt_size (keep x o e))) (by rw [size_push']; exact Nat.lt_succ_of_lt (Heap.lt_size (keep x o e)))).trans (Heap.get?_push_of_some _ (keep x o e))) (by
          cases q : s.heap.get? h1.objs.size with
          | none => rfl
          | some o => exact absurd (Heap.lt_size (keep _ _ q)) (Nat.lt_irrefl _)) hc lo eo⟩
    refine wpAny_mono gs (fun f s' hf => ?_) fun _ _ e => e
    obtain ⟨rfl, hq⟩ := hf
    exact ⟨_, rfl, wpAny_pure ⟨_, rfl, hq⟩⟩
end
/-! the function -/
def isTupP : PyData → Bool
  | .tuple (_ :: _) => true
  | _ => false
def okS (ps : List PyData) : Bool := decide (ps.length ≤ sizeLine) && ps.all fun p => isTupP p && decide (p.depth ≤ 60) && ps.all fun q => PySem.W.alike p q
def srtZ (rev : Bool) (ds : List D) (ps : List PyData) : List (D × PyData) := (ds.zip ps).mergeSort (PySem.W.dataLe rev Prod.snd)
def sortDs (rev : Bool) (ds : List D) : Option D := (toPs ds).bind fun ps => if okS ps = true then some (.lst ((srtZ rev ds ps).map Prod.fst)) else none
def itemsS (M : List MO) (x : D) : Option (List D) := match dctD M x with
  | some p => some p.1
  | none => listD M x
def dSortN (rev : Bool) (M : List MO) (x : D) : Option D := (itemsS M x).bind (sortDs rev)
section
variable {X : Cx} {H Z : Hp} {ι : Nat → Addr} {n : Nat}
abbrev RS2 (K : PySem.W.Frag) (Z : Hp) (ι : Nat → Addr) (n : Nat) : Value → D × PyData → Prop := fun v b => Rp K Z ι n b.1 (backV v) ∧ ∃ a, v = Value.ref a
theorem toPs_cons {d : D} {ds : List D} {ps : List PyData} (h : toPs (d :: ds) = some ps) : ∃ p qs, toP d = some p ∧ toPs ds = some qs ∧ ps = p :: qs := by
  have h' : (match toP d, toPs ds with
    | some p, some ps => some (p :: ps)
    | _, _ => none) = some ps := h
  cases e1 : toP d with
  | none => rw [e1] at h'; cases h'
  | some p =>
    cases e2 : toPs ds with
    | none => rw [e1, e2] at h'; cases h'
    | some qs =>
      rw [e1, e2] at h'
      cases h'
      exact ⟨p, qs, rfl, rfl, rfl⟩
theorem isTup_ref {d : D} {v : V} {p : PyData} (r : Rp X.K Z ι n d v) (e : toP d = some p) (h : isTupP p = true) : ∃ a, v = .ref a := by
  cases r with
  | tup s r => exact ⟨_, rfl⟩
  | ptu s r => exact ⟨_, rfl⟩
  | lst s r =>
    rename_i ds a xs
    have e' : (toPs ds).map PyData.list = some p := e
    obtain ⟨qs, _, rfl⟩ := Option.map_eq_some_iff.mp e'
    cases h
  | non => cases e; cases h
  | bl b => cases e; cases h
  | int b => cases e; cases h
  | str b => cases e; cases h
  | _ => cases e
theorem there_N {pins : List (Addr × Obj)} {σ : L2.St} {s : Shared} (I : Inv X pins σ H s) (hz : Sub Z H) : ∀ {ds : List D} {ps : List PyData} {xs : List V} {us : List Value}, Rps X.K Z ι n ds xs → Vals xs us → toPs ds = some ps → (∀ p ∈ ps, isTupP p = true) →
    PySem.W.EachIs (RS2 X.K Z ι n) us (ds.zip ps) ∧ PySem.W.EachIs (fun v b => ∃ as, Reads s.heap v b.2 as) us (ds.zip ps) ∧ (ds.zip ps).map Prod.snd = ps
  | [], ps, _, _, h, r, e, _ => by
    cases h
    cases r
    cases e
    exact ⟨.nil, .nil, rfl⟩
  | d :: ds, ps, _, _, h, r, e, hp => by
    obtain ⟨p, qs, e1, e2, rfl⟩ := toPs_cons e
    cases h with
    | cons h1 h2 =>
      cases r with
      | cons r1 r2 =>
        obtain ⟨a1, a2, a3⟩ := there_N I hz h2 r2 e2 fun q hq => hp q (List.mem_cons_of_mem _ hq)
        obtain ⟨as, rd⟩ := Dp.reads I _ _ _ (toP_dp hz _ _ _ h1 e1) r1
        obtain ⟨a, rfl⟩ := isTup_ref h1 e1 (hp p List.mem_cons_self)
        cases (show _ = Value.ref a from r1)
        refine ⟨.cons ⟨h1, a, rfl⟩ a1, .cons ⟨as, rd⟩ a2, ?_⟩
        show p :: (ds.zip qs).map Prod.snd = p :: qs
        rw [a3]
theorem back_N : ∀ {us : List Value} {bs : List (D × PyData)}, PySem.W.EachIs (RS2 X.K Z ι n) us bs → Rps X.K Z ι n (bs.map Prod.fst) (us.map backV) ∧ ∀ u ∈ us, ∃ a, u = Value.ref a
  | _, _, .nil => ⟨.nil, fun u h => by cases h⟩
  | _, _, .cons ⟨h1, h2⟩ t => by
    obtain ⟨a, b⟩ := back_N t
    exact ⟨.cons h1 a, fun u hu => by
      rcases List.mem_cons.mp hu with rfl | hu
      · exact h2
      · exact b u hu⟩
structure OkS (ps : List PyData) : Prop where
  z : ps.length ≤ sizeLine
  t : ∀ p ∈ ps, isTupP p = true
  d : ∀ p ∈ ps, p.depth ≤ 60
  a : ∀ p ∈ ps, ∀ q ∈ ps, PySem.W.alike p q = true
theorem okS_iff {ps : List PyData} : okS ps = true ↔ OkS ps := by
  unfold okS
  rw [Bool.and_eq_true, decide_eq_true_eq, List.all_eq_true]
  constructor
  · intro h
    have g : ∀ p ∈ ps, isTupP p = true ∧ p.depth ≤ 60 ∧ ∀ q ∈ ps, PySem.W.alike p q = true := fun p hp => by
      have := h.2 p hp
      rw [Bool.and_eq_true, Bool.and_eq_true, decide_eq_true_eq, List.all_eq_true] at this
      exact ⟨this.1.1, this.1.2, this.2⟩
    exact ⟨h.1, fun p hp => (g p hp).1, fun p hp => (g p hp).2.1, fun p hp => (g p hp).2.2⟩
  · intro h
    refine ⟨h.z, fun p hp => ?_⟩
    rw [Bool.and_eq_true, Bool.and_eq_true, decide_eq_true_eq, List.all_eq_true]
    exact ⟨⟨h.t p hp, h.d p hp⟩, h.a p hp⟩
theorem OkS.sortable {ps : List PyData} (h : OkS ps) : PySem.W.Sortable ps := .inl fun d hd => by
  have := h.t d hd
  unfold isTupP at this
  split at this
  · exact ⟨_, _, rfl⟩
  · cases this
/-- what is sorted: a list, or the keys of a dict -/
def SrcS (K : PySem.W.Frag) (H : Hp) (a : Addr) (xs : List V) : Prop := SqL K H a xs ∨ ∃ (es : Array DictEntry) (ep : Nat), H a = some (dnO a es ep) ∧ (a == sysModules) = false ∧ KeyAt es xs ∧ es.size ≤ sizeLine
def rSrtN (K : PySem.W.Frag) (rev : Bool) : List V → Hp → VK → Prop := fun vs H Q => ∃ (a : Addr) (Z : Hp) (ι : Nat → Addr) (n : Nat) (ds : List D) (ps : List PyData) (xs : List V), vs = [.ref a] ∧ SrcS K H a xs ∧ Sub Z H ∧ Rps K Z ι n ds xs ∧ toPs ds = some ps ∧ OkS ps ∧
  ∀ ys p, Rps K Z ι n ((srtZ rev ds ps).map Prod.fst) ys → H p = none → Q (.ref p) (upd H p (.lst ys))
theorem vals_keyAt {es : Array DictEntry} {xs : List V} (h : KeyAt es xs) {acc : Array Value} (q : ItemsOf (fun i v => ∃ hi : i < es.size, v = es[i].key) acc es.size) : Vals xs acc.toList := by
  obtain ⟨h1, h2⟩ := h
  obtain ⟨q1, q2⟩ := q
  refine vals_of_at (by have := @Array.length_toList _ acc; omega) fun i x u hx hu => ?_
  obtain ⟨en, e1, e2⟩ := h2 i x hx
  obtain ⟨hi3, e3⟩ := q2 i u (by rw [← Array.getElem?_toList]; exact hu)
  rw [e3]
  have : es[i] = en := Option.some.inj ((Array.getElem?_eq_getElem hi3).symm.trans e1)
  rw [this]
  exact e2
theorem srtN_core {rev : Bool} {kw : List (Str × Value)} {pins : List (Addr × Obj)} {σ : L2.St} {s : Shared} {a : Addr} {Q : VK} (hc : X.calm = true) (hu : X.A.units + 70 < cLine) (I : Inv X pins σ H s)
    (ha1 : argsOk "sorted" ⟨[.ref a], kw⟩) (ha2 : ∀ x, argsOk "list.sort" ⟨[.ref x], kw⟩) (hb : ∀ x : Addr, Builtin.«list.sort» ⟨[.ref x], kw⟩ = Builtin.«list.sort» ⟨[.ref x], [(Str.ofString "reverse", .bool rev)]⟩)
    (hlst : ∀ (vs : List Value) (bs : List (D × PyData)) (R : Value → D × PyData → Prop) (P : Value → Shared → Prop), s.heap.IsList a vs.toArray → PySem.W.EachIs R vs bs → PySem.W.EachIs (fun v b => ∃ as, Reads s.heap v b.2 as) vs bs → PySem.W.AllAlike (bs.map Prod.snd) → PySem.W.Sortable (bs.map Prod.snd) → bs.length ≤ sizeLine →
      (∀ b, b ∈ bs → X.A.units + 2 + (b.2 : PyData).depth < cLine) → (∀ out : List Value, out.length = bs.length → PySem.W.EachIs R out (bs.mergeSort (PySem.W.dataLe rev Prod.snd)) → P (.ref (s.heap.objs.size + 1)) { s with heap := sortedAll s.heap vs (List.toArray out) }) → wpAny (model X.prog X.w) X.A (call (.builtin "sorted") [.ref a] kw) P X.xe s)
    {ds : List D} {ps : List PyData} {xs : List V} (src : SrcS X.K H a xs) (hz : Sub Z H) (r : Rps X.K Z ι n ds xs) (e : toPs ds = some ps) (ok : OkS ps) (q : ∀ ys p, Rps X.K Z ι n ((srtZ rev ds ps).map Prod.fst) ys → H p = none → Q (.ref p) (upd H p (.lst ys))) :
    wpAny (model X.prog X.w) X.A (call (.builtin "sorted") [.ref a] kw) (EP X pins σ Q) X.xe s := by
  have al : ∀ bs : List (D × PyData), bs.map Prod.snd = ps → PySem.W.AllAlike (bs.map Prod.snd) := fun bs h => by
    rw [h]
    exact fun p hp q hq => ok.a p hp q hq
  have so : ∀ bs : List (D × PyData), bs.map Prod.snd = ps → PySem.W.Sortable (bs.map Prod.snd) := fun bs h => by
    rw [h]
    exact ok.sortable
  have de : ∀ bs : List (D × PyData), bs.map Prod.snd = ps → ∀ b, b ∈ bs → X.A.units + 2 + (b.2 : PyData).depth < cLine := fun bs h b hb => by
    have := ok.d b.2 (by rw [← h]; exact List.mem_map_of_mem hb)
    omega
  rcases src with hl | ⟨es, ep, h1, h2, h3, h4⟩
  · obtain ⟨its, rv, pl, hsz⟩ := I.list hl
    obtain ⟨e1, e2, e3⟩ := there_N I hz r rv e ok.t
    have hlen : (ds.zip ps).length ≤ sizeLine := by
      have : (ds.zip ps).length = ps.length := by have := congrArg List.length e3; rwa [List.length_map] at this
      rw [this]
      exact ok.z
    refine hlst its (ds.zip ps) _ _ pl.isList e1 e2 (al _ e3) (so _ e3) hlen (de _ e3) fun out ho eo => ?_
    obtain ⟨ry, g3⟩ := back_N eo
    obtain ⟨m, hn⟩ := sortedAll_at s.heap its out.toArray
    refine ⟨.ref (s.heap.objs.size + 1), upd H (s.heap.objs.size + 1) (.lst (out.map backV)), I.laid (t' := s.toks) (fun b o e => sortedAll_old e) (Nat.le_succ _) ⟨?_, out, m, vals_back g3, hn⟩, rfl, q _ _ ry (I.hok.fresh (Nat.le_succ _))⟩
    rw [List.length_map, ho]
    exact hlen
  · obtain ⟨hm, _, _⟩ := I.hok a _ h1
    have hm' : s.heap.DictRaw a es ep := hm
    have vals : ∀ (h' : Heap) (acc : Array Value), (∀ x o, s.heap.get? x = some o → h'.get? x = some o) → ItemsOf (fun i v => ∃ hi : i < es.size, v = es[i].key) acc es.size → PySem.W.EachIs (RS2 X.K Z ι n) acc.toList (ds.zip ps) ∧ PySem.W.EachIs (fun v b => ∃ as, Reads h' v b.2 as) acc.toList (ds.zip ps) := fun h' acc k qa => by
      obtain ⟨e1, e2, _⟩ := there_N I hz r (vals_keyAt h3 qa) e ok.t
      exact ⟨e1, e2.mono fun _ _ ⟨as, z⟩ => ⟨as, PyProof.Rows.Reads.keeps k z⟩⟩
    have e3 : (ds.zip ps).map Prod.snd = ps := by
      have : ∀ {ds : List D} {ps : List PyData}, toPs ds = some ps → (ds.zip ps).map Prod.snd = ps := by
        intro ds
        induction ds with
        | nil => intro ps h; cases h; rfl
        | cons d ds ih =>
          intro ps h
          obtain ⟨p, qs, _, e2, rfl⟩ := toPs_cons h
          show p :: (ds.zip qs).map Prod.snd = p :: qs
          rw [ih e2]
      exact this e
    have hlen : (ds.zip ps).length ≤ sizeLine := by
      have : (ds.zip ps).length = ps.length := by have := congrArg List.length e3; rwa [List.length_map] at this
      rw [this]
      exact ok.z
    refine sorted_srcK (kdl_raw h2) (I.ok.hd hc) hm' h4 ha1 ha2 hb vals (al _ e3) (so _ e3) (de _ e3) fun h' tk p out c keep hnew hp ho eo => ?_
    obtain ⟨ry, g3⟩ := back_N eo
    have hnp : H p = none := by
      cases z : H p with
      | none => rfl
      | some o =>
        obtain ⟨o', ho'⟩ := objOk_get (I.hok p o z)
        rw [hnew] at ho'
        cases ho'
    refine ⟨.ref p, upd H p (.lst (out.map backV)), I.laidN (t' := tk) keep hnew hnp ⟨?_, out, c, vals_back g3, hp⟩, rfl, q _ _ ry hnp⟩
    rw [List.length_map, ho]
    exact hlen
theorem cr_srtNR (hc : X.calm = true) (hu : X.A.units + 70 < cLine) : CallRK X (.builtin "sorted") [Str.ofString "reverse"] (fun vs zs H Q => zs = [.bl true] ∧ rSrtN X.K true vs H Q) := by
  intro pins s σ H vs zs us ws Q I r rz h
  obtain ⟨rfl, a, Z, ι, n, ds, ps, xs, rfl, src, hz, rp, e, ok, q⟩ := h
  obtain rfl := Vals.ref1 r
  obtain ⟨w1, rfl, e1⟩ := vals1 rz
  obtain rfl : w1 = Value.bool true := e1
  exact srtN_core (rev := true) (kw := [(Str.ofString "reverse", .bool true)]) hc hu I (args_sorted_rev _ _) (fun _ => args_list_sort_rev _ _) (fun _ => rfl) (fun vs bs R P hl e er hal hk hL hd h => PySem.W.sorted_rev_data hl e er hal hk hL hd h) src hz rp e ok q
theorem items_run {M : List MO} {d : D} {v : V} {ds : List D} (hr : HR X.K H Z ι M) (r : Rp X.K Z ι M.length d v) (e : itemsS M d = some ds) : ∃ (a : Addr) (xs : List V), v = .ref a ∧ SrcS X.K H a xs ∧ Rps X.K Z ι M.length ds xs := by
  unfold itemsS at e
  cases e1 : dctD M d with
  | some p =>
    rw [e1] at e
    cases e
    obtain ⟨a, nks, kx, xs, rfl, ex, rk, rv⟩ := dctD_run hr r e1
    obtain ⟨es, ep, h1, h2, h3, _, h5⟩ := ex
    have ka := Ents.keyAt h5
    have sz : es.size = kx.length := by have := ka.1; simpa using this
    exact ⟨a, kx, rfl, .inr ⟨es, ep, h1, h2, ⟨sz, fun i x hx => by
      obtain ⟨en, q1, q2⟩ := ka.2 i x hx
      exact ⟨en, by rw [← Array.getElem?_toList]; exact q1, q2⟩⟩, by rw [sz]; exact h3⟩, rk⟩
  | none =>
    rw [e1] at e
    obtain ⟨a, xs, rfl, s, r2⟩ := listD_run hr r e
    exact ⟨a, xs, rfl, .inl s.sq, r2⟩
theorem srtN_ok {rev : Bool} {M : List MO} {dx d : D} {x : V} {Q : VK} (hr : HR X.K H Z ι M) (rx : Rp X.K Z ι M.length dx x) (e : dSortN rev M dx = some d) (q : After X H Z ι M d Q) : rSrtN X.K rev [x] H Q := by
  unfold dSortN at e
  cases e1 : itemsS M dx with
  | none => rw [e1] at e; cases e
  | some ds =>
    rw [e1, Option.bind_some] at e
    unfold sortDs at e
    cases e2 : toPs ds with
    | none => rw [e2] at e; cases e
    | some ps =>
      rw [e2, Option.bind_some] at e
      by_cases c : okS ps = true
      · rw [if_pos c] at e
        cases e
        obtain ⟨a, xs, rfl, src, r⟩ := items_run hr rx e1
        exact ⟨a, Z, ι, M.length, ds, ps, xs, rfl, src, hr.sub, r, e2, okS_iff.mp c, fun ys p ry hp => q.lst hr ry p hp⟩
      · rw [if_neg c] at e
        cases e
def dListN (M : List MO) (x : D) : Option D := (dctD M x).map fun p => .lst p.1
end
/-- sorted(e, reverse=True) -/
def gSortNR (ge : GE) : GE := fun Γ M => (ge Γ M).bind fun x M1 => opR (dSortN true M1 x) M1
section
variable {X : Cx} {C : CT} {W : WX} {e : Expr} {g : GE}
theorem qe_sortNR {p cp pos kp : Pos} (hc : X.calm = true) (hu : X.A.units + 70 < cLine) (hg : Gl X "sorted") (hm : X.mg "sorted" = none) (hv : bootBuiltins "sorted" = some (.builtin "sorted")) (he : QE X C W e g) (hs : starEach [e] X.env = (false, eval e X.env) :: starEach [] X.env := by rfl)
    (h1 : backTo pos (starEach [e] X.env) = (false, eval e X.env) :: backTo pos (starEach [] X.env) := by rfl) (h2 : (backTo pos (starEach [e] X.env)).any (·.1) = false := by rfl)
    (h3 : (backToKw pos (keywordEach [⟨some "reverse", .Constant (.bool true) 0 cp, kp⟩] X.env)).all (·.1.isSome) = true := by rfl) (h4 : (backToKw pos (keywordEach [⟨some "reverse", .Constant (.bool true) 0 cp, kp⟩] X.env)).any (·.1.isNone) = false := by rfl)
    (h5 : (backToKw pos (keywordEach [⟨some "reverse", .Constant (.bool true) 0 cp, kp⟩] X.env)).filterMap (·.1) = [Str.ofString "reverse"] := by rfl) :
    QE X C W (.Call (.Name "sorted" p) [e] [⟨some "reverse", .Constant (.bool true) 0 cp, kp⟩] pos) (gSortNR g) := by
  obtain ⟨te, pe, qe⟩ := he
  refine ⟨_, pe_callBK (cr_srtNR hc hu) hg hm hv (pa_cons pe pa_nil hs) (pk_cons pe_bl pk_nil) (by decide) (by decide) h1 h2 h3 h4 h5, fun σ H Z ι Γ M Q sl hr h => qe σ H Z ι Γ M _ sl hr (h.bind fun x M1 v H1 Z1 ι1 e1 hr1 r1 h1 => ?_)⟩
  obtain ⟨d, hd, h2⟩ := Post.of_opR (γ := D) (δ := V) h1
  exact ⟨rfl, srtN_ok hr1 r1 hd h2.after⟩
end
@[simp] theorem u_gSortNR (ge : GE) (Γ : Env) (M : List MO) : gSortNR ge Γ M = (ge Γ M).bind fun x M1 => opR (dSortN true M1 x) M1 := Eq.trans rfl rfl
@[simp] theorem e_listN (M : List MO) (ks vs : List D) : dListN M (.dct ks vs) = some (.lst ks) := Eq.trans rfl rfl
end Bk

set_option Elab.async false
set_option linter.all false
set_option maxRecDepth 100000
set_option maxHeartbeats 4000000
namespace Bk
open PySem PySem.Spec PyProof.Rows L2
/-! ### sets of some thousand tuples of ints: the walk 5 i + 1 meets each slot of a table with 2 ^ k slots -/
def quin : Nat → Nat
  | 0 => 0
  | n + 1 => quin n * 5 + 1
theorem lcg_quin (m : Nat) : ∀ n, lcgN m n = quin n % (m + 1)
  | 0 => (Nat.zero_mod _).symm
  | n + 1 => by
    show (lcgN m n * 5 + 1) % (m + 1) = (quin n * 5 + 1) % (m + 1)
    rw [lcg_quin m n]
    simp [Nat.add_mod, Nat.mul_mod]
theorem quin_add (a : Nat) : ∀ n, quin (n + a) = quin n * (4 * quin a + 1) + quin a
  | 0 => by rw [Nat.zero_add]; simp [quin]
  | n + 1 => by
    have e : n + 1 + a = (n + a) + 1 := by omega
    have ih := quin_add a n
    rw [e]
    show quin (n + a) * 5 + 1 = (quin n * 5 + 1) * (4 * quin a + 1) + quin a
    rw [ih, Nat.add_mul, Nat.add_mul, Nat.one_mul, Nat.mul_assoc, Nat.mul_comm (4 * quin a + 1) 5, ← Nat.mul_assoc]
    omega
theorem quin_pow : ∀ k, ∃ c, quin (2 ^ k) = 2 ^ k * (2 * c + 1)
  | 0 => ⟨0, rfl⟩
  | k + 1 => by
    obtain ⟨c, hc⟩ := quin_pow k
    refine ⟨2 * (2 ^ k * (2 * c + 1)) * c + c + 2 ^ k * (2 * c + 1), ?_⟩
    have e : 2 ^ (k + 1) = 2 ^ k + 2 ^ k := by rw [Nat.pow_succ]; omega
    rw [e, quin_add, hc]
    generalize 2 ^ k = p
    have e2 : (p + p) * (2 * (2 * (p * (2 * c + 1)) * c + c + p * (2 * c + 1)) + 1) = p * (2 * c + 1) * (4 * (p * (2 * c + 1)) + 1) + p * (2 * c + 1) := by
      grind
    exact e2.symm
theorem quin_hit : ∀ (k j : Nat), j < 2 ^ k → ∃ b, b < 2 ^ k ∧ quin b % 2 ^ k = j
  | 0, j, h => ⟨0, by decide, by
    have : j = 0 := by simpa using h
    rw [this]
    rfl⟩
  | k + 1, j, h => by
    have hp : 0 < 2 ^ k := Nat.pow_pos (by decide)
    have e : 2 ^ (k + 1) = 2 * 2 ^ k := by rw [Nat.pow_succ]; omega
    obtain ⟨b, hb, eb⟩ := quin_hit k (j % 2 ^ k) (Nat.mod_lt _ hp)
    obtain ⟨c, hc⟩ := quin_pow k
    have s1 : quin (b + 2 ^ k) = quin b + 2 ^ k + 2 * 2 ^ k * (2 * quin b * (2 * c + 1) + c) := by
      rw [quin_add, hc]
      generalize 2 ^ k = p
      grind
    have s2 : quin (b + 2 ^ k) % (2 * 2 ^ k) = (quin b + 2 ^ k) % (2 * 2 ^ k) := by rw [s1, Nat.add_mul_mod_self_left]
    rw [e] at h ⊢
    generalize hq : quin b = q at *
    generalize 2 ^ k = p at *
    have d1 := Nat.div_add_mod q p
    have d2 := Nat.div_add_mod j p
    have hj : j / p = 0 ∨ j / p = 1 := by
      have : j / p < 2 := Nat.div_lt_of_lt_mul (by rw [Nat.mul_comm]; exact h)
      generalize j / p = z at this
      omega
    have val : ∀ r t, t < p → (p * r + t) % (2 * p) = p * (r % 2) + t := fun r t ht => by
      have dr := Nat.div_add_mod r 2
      have e3 : p * r + t = (p * (r % 2) + t) + 2 * p * (r / 2) := by
        have : p * r = p * (2 * (r / 2)) + p * (r % 2) := by rw [← Nat.mul_add, dr]
        rw [this, ← Nat.mul_assoc, Nat.mul_comm p 2]
        omega
      rw [e3, Nat.add_mul_mod_self_left]
      refine Nat.mod_eq_of_lt ?_
      have : r % 2 = 0 ∨ r % 2 = 1 := by omega
      rcases this with z | z <;> rw [z] <;> omega
    have ht : j % p < p := Nat.mod_lt _ hp
    have v0 : q % (2 * p) = p * (q / p % 2) + j % p := by
      rw [← eb]
      conv => lhs; rw [← d1]
      exact val _ _ (Nat.mod_lt _ hp)
    have v1 : (q + p) % (2 * p) = p * ((q / p + 1) % 2) + j % p := by
      rw [← eb]
      have : q + p = p * (q / p + 1) + q % p := by rw [Nat.mul_add, Nat.mul_one]; omega
      rw [this]
      exact val _ _ (Nat.mod_lt _ hp)
    by_cases c1 : q / p % 2 = j / p
    · refine ⟨b, by omega, ?_⟩
      rw [hq, v0, c1]
      exact d2
    · refine ⟨b + p, by omega, ?_⟩
      have : (q / p + 1) % 2 = j / p := by omega
      rw [s2, v1, this]
      exact d2
/-- a mask that a table may have -/
structure Fm (m : Nat) : Prop where
  pw : ∃ k, 1 ≤ k ∧ k ≤ 13 ∧ m + 1 = 2 ^ k
theorem Fm.odd {m : Nat} (h : Fm m) : m % 2 = 1 := by
  obtain ⟨k, h1, _, e⟩ := h.pw
  obtain ⟨i, rfl⟩ : ∃ i, k = i + 1 := ⟨k - 1, by omega⟩
  rw [Nat.pow_succ] at e
  omega
theorem Fm.le {m : Nat} (h : Fm m) : m ≤ 8191 := by
  obtain ⟨k, _, h2, e⟩ := h.pw
  have : 2 ^ k ≤ 2 ^ 13 := Nat.pow_le_pow_right (by decide) h2
  omega
theorem Fm.hit {m : Nat} (h : Fm m) {j : Nat} (hj : j ≤ m) : ∃ b, b ≤ m ∧ lcgN m b = j := by
  obtain ⟨k, _, _, e⟩ := h.pw
  obtain ⟨b, hb, eb⟩ := quin_hit k j (by omega)
  exact ⟨b, by omega, by rw [lcg_quin, e]; exact eb⟩
theorem Fm.turn {m : Nat} (h : Fm m) : ∀ n, lcgN m (m + 1 + n) = lcgN m n := fun n => by
  obtain ⟨k, _, _, e⟩ := h.pw
  obtain ⟨c, hc⟩ := quin_pow k
  rw [lcg_quin, lcg_quin, e, Nat.add_comm, quin_add, hc]
  have : quin n * (4 * (2 ^ k * (2 * c + 1)) + 1) + 2 ^ k * (2 * c + 1) = quin n + 2 ^ k * (quin n * 4 * (2 * c + 1) + (2 * c + 1)) := by
    generalize 2 ^ k = p
    grind
  rw [this, Nat.add_mul_mod_self_left]
theorem Fm.from {m : Nat} (h : Fm m) {i j : Nat} (hi : i ≤ m) (hj : j ≤ m) : ∃ k, k ≤ m ∧ lcgI m i k = j := by
  obtain ⟨a, ha, rfl⟩ := h.hit hi
  obtain ⟨b, hb, rfl⟩ := h.hit hj
  by_cases c : a ≤ b
  · exact ⟨b - a, by omega, by rw [lcgN_add]; congr 1; omega⟩
  · refine ⟨m + 1 + b - a, by omega, ?_⟩
    rw [lcgN_add, show a + (m + 1 + b - a) = m + 1 + b by omega, h.turn]
/-- the runs meet each slot -/
theorem Fm.runs {m : Nat} (h : Fm m) (x : Int) {j : Nat} (hj : j ≤ m) : ∃ n, n ≤ m + 12 ∧ runI m (SetTable.bits x) n = j := by
  obtain ⟨k, hk, e⟩ := h.from (runI_le m (SetTable.bits x) 12) hj
  refine ⟨12 + k, by omega, ?_⟩
  rw [runI_tail (bits_lt x), e]
theorem Fm.meets {m : Nat} (h : Fm m) (x : Int) {j : Nat} (hj : j ≤ m) : ∃ k, k < 10 * SetTable.turns m ∧ way m x k = j := by
  obtain ⟨n, hn, e⟩ := h.runs x hj
  obtain ⟨k, hk, e2⟩ := run_nth m (SetTable.bits x) n
  exact ⟨k, by unfold SetTable.turns; omega, by show (nth _ _ _).j = j; rw [e2]; exact e⟩
theorem way_in {m : Nat} (x : Int) (k : Nat) : way m x k ≤ m := by
  have hi : SetTable.bits x % (m + 1) ≤ m := Nat.le_of_lt_succ (Nat.mod_lt _ (Nat.succ_pos _))
  have b := runEnd_bd hi
  have g := nth_in k (runAt m (SetTable.bits x % (m + 1)) (SetTable.bits x)) (m := m) (by
    simp only [runAt]
    omega)
  show (nth m (runAt m (SetTable.bits x % (m + 1)) (SetTable.bits x)) k).j ≤ m
  exact Nat.le_trans (Nat.le_add_right _ _) g
end Bk

set_option Elab.async false
set_option linter.all false
set_option maxRecDepth 100000
set_option maxHeartbeats 4000000
namespace Bk
open PySem PySem.Spec PyProof.Rows L2
/-! ### the table of a set, of any size up to some thousand -/
structure TabG (t : SetTable) (xs : List Int) : Prop where
  ris : Ris t.place.toList
  dum : t.dummies = #[]
  num : t.place.size = xs.length
  fm : Fm t.mask
  top : ∀ j ∈ t.place.toList, j ≤ t.mask
  back : ∀ (i : Nat) (x : Int) (j : Nat), xs[i]? = some x → t.place.toList[i]? = some j → ∃ k, way t.mask x k = j ∧ ∀ l, l < k → way t.mask x l ∈ t.place.toList
theorem TabG.len {t : SetTable} {xs : List Int} (T : TabG t xs) : t.place.toList.length = xs.length := (Array.length_toList).trans T.num
theorem TabG.free {t : SetTable} {xs : List Int} (T : TabG t xs) (hl : xs.length ≤ t.mask) (x : Int) : ∃ K, K < 10 * SetTable.turns t.mask ∧ way t.mask x K ∉ t.place.toList ∧ ∀ k, k < K → way t.mask x k ∈ t.place.toList := by
  obtain ⟨j, j1, j2⟩ := st_missing t.place.toList (t.mask + 1) (by rw [T.len]; omega)
  obtain ⟨k, k1, k2⟩ := T.fm.meets x (Nat.le_of_lt_succ j1)
  obtain ⟨K, a, b, c⟩ := st_least (p := fun n => way t.mask x n ∉ t.place.toList) k (by rw [k2]; exact j2)
  exact ⟨K, Nat.lt_of_le_of_lt a k1, b, fun n hn => Classical.not_not.mp (c n hn)⟩
theorem TabG.ahead {t : SetTable} {xs : List Int} (T : TabG t xs) {x : Int} {K i j : Nat} (hK : way t.mask x K ∉ t.place.toList) (h1 : xs[i]? = some x) (h2 : t.place.toList[i]? = some j) : ∃ k, k < K ∧ way t.mask x k = j := by
  obtain ⟨k, e, q⟩ := T.back i x j h1 h2
  refine ⟨k, Nat.lt_of_not_le fun hle => hK ?_, e⟩
  by_cases c : K = k
  · rw [c, e]
    exact List.mem_of_getElem? h2
  · exact q K (by omega)
/-- one put in -/
theorem TabG.add {t : SetTable} {xs : List Int} (T : TabG t xs) {x : Int} {K : Nat} (hK : way t.mask x K ∉ t.place.toList) (hb : ∀ k, k < K → way t.mask x k ∈ t.place.toList) {p : Nat} (hp : SetTable.below t.place (way t.mask x K) = p) :
    (t.put (way t.mask x K)).2 = p ∧ p ≤ xs.length ∧ TabG (t.put (way t.mask x K)).1 (xs.take p ++ x :: xs.drop p) ∧ (t.put (way t.mask x K)).1.mask = t.mask ∧ (t.put (way t.mask x K)).1.led = t.led ∧ (t.put (way t.mask x K)).1.plain = t.plain ∧ (t.put (way t.mask x K)).1.fill = xs.length + 1 := by
  have lj : way t.mask x K ≤ t.mask := way_in x K
  generalize hj : way t.mask x K = j at *
  obtain ⟨c1, _, _⟩ := below_cut T.ris j
  rw [hp] at c1
  have hpx : p ≤ xs.length := by rw [← T.num]; exact c1
  have hpl : p ≤ t.place.toList.length := by rw [T.len]; exact hpx
  have pl : (t.put j).1.place.toList = t.place.toList.take p ++ j :: t.place.toList.drop p := by rw [put_place, hp]
  have sz : (t.put j).1.place.size = xs.length + 1 := by rw [← Array.length_toList, pl, len_ins _ hpl, T.len]
  have sub : ∀ {y : Nat}, y ∈ t.place.toList → y ∈ (t.put j).1.place.toList := fun hy => by
    rw [pl]
    exact mem_ins.mpr (Or.inr hy)
  refine ⟨hp, hpx, ?_, rfl, rfl, rfl, ?_⟩
  · constructor
    · refine ris_insert T.ris fun e => hK ?_
      exact List.mem_of_getElem? (i := SetTable.below t.place j) (by rw [Array.getElem?_toList]; exact e)
    · exact put_dm T.dum j
    · rw [len_ins _ hpx, sz]
    · exact T.fm
    · intro y hy
      rw [pl] at hy
      rcases mem_ins.mp hy with rfl | hy
      · exact lj
      · exact T.top y hy
    · intro i x' j' e1 e2
      rw [tins_get xs hpx] at e1
      rw [pl, tins_get _ hpl] at e2
      have old : ∀ i, xs[i]? = some x' → t.place.toList[i]? = some j' → ∃ k, way t.mask x' k = j' ∧ ∀ l, l < k → way t.mask x' l ∈ (t.put j).1.place.toList := fun i a b => by
        obtain ⟨k, q1, q2⟩ := T.back i x' j' a b
        exact ⟨k, q1, fun l hl => sub (q2 l hl)⟩
      by_cases c : i < p
      · rw [if_pos c] at e1 e2
        exact old i e1 e2
      · rw [if_neg c] at e1 e2
        by_cases d : i = p
        · rw [if_pos d] at e1 e2
          cases e1
          cases e2
          exact ⟨K, hj, fun l hl => sub (hb l hl)⟩
        · rw [if_neg d] at e1 e2
          exact old (i - 1) e1 e2
  · show (t.put j).1.place.size + (t.put j).1.dummies.size = xs.length + 1
    rw [sz, put_dm T.dum j]
    rfl
/-! laying anew -/
theorem free_at {m : Nat} (hm : Fm m) (ow : Array (Option Nat)) (x : Int) {j : Nat} (hj : j ≤ m) (hf : oAt ow j = none) :
    ∃ K, SetTable.layClean.free m ow (SetTable.turns m) (SetTable.bits x % (m + 1)) (SetTable.bits x) = some (way m x K) ∧ oAt ow (way m x K) = none ∧ ∀ k, k < K → oAt ow (way m x k) ≠ none := by
  obtain ⟨n, n1, n2⟩ := hm.runs x hj
  have at_ : way m x (off m (SetTable.bits x % (m + 1)) (SetTable.bits x) n) = j := by
    show (nth m (runAt m _ _) (off m _ _ n)).j = j
    rw [nth_off, itL_run]
    exact n2
  obtain ⟨K, k1, k2, k3⟩ := st_least (p := fun k => oAt ow (way m x k) = none) _ (by rw [at_]; exact hf)
  refine ⟨K, free_spec m ow _ n _ _ K (by unfold SetTable.turns; omega) k1 (fun k hk => ?_) ?_, k2, k3⟩
  · have q := k3 k hk
    exact Option.isNone_eq_false_iff.mpr (Option.ne_none_iff_isSome.mp q)
  · have q : oAt ow (nth m (runAt m (SetTable.bits x % (m + 1)) (SetTable.bits x)) K).j = none := k2
    simp only [q, Option.isNone_none]
theorem own_more {m : Nat} (hm : Fm m) {dn : List Int} {ow : Array (Option Nat)} (W : Own m dn ow) (hl : dn.length ≤ m) (x : Int) :
    ∃ j, SetTable.layClean.free m ow (SetTable.turns m) (SetTable.bits x % (m + 1)) (SetTable.bits x) = some j ∧ Own m (dn ++ [x]) (ow.setIfInBounds j (some dn.length)) := by
  obtain ⟨ps, p1, p2⟩ := W.ps
  obtain ⟨i, i1, i2⟩ := st_missing ps (m + 1) (by omega)
  have iN : oAt ow i = none := Classical.not_not.mp fun h => i2 (p2 i (Nat.le_of_lt_succ i1) h)
  obtain ⟨K, e1, e2, e3⟩ := free_at hm ow x (Nat.le_of_lt_succ i1) iN
  have lj : way m x K ≤ m := way_in x K
  refine ⟨way m x K, e1, ?_⟩
  generalize hj : way m x K = j at *
  have me := oAt_set_self (some dn.length) (show j < ow.size by rw [W.sz]; omega)
  have ne : ∀ {i : Nat}, i ≠ j → oAt (ow.setIfInBounds j (some dn.length)) i = oAt ow i := fun c => oAt_set_ne _ c
  have up : ∀ {i : Nat}, oAt ow i ≠ none → oAt (ow.setIfInBounds j (some dn.length)) i ≠ none := fun {i} h => by
    by_cases c : i = j
    · subst c
      rw [me]
      simp
    · rw [ne c]
      exact h
  constructor
  · rw [Array.size_setIfInBounds]
    exact W.sz
  · intro i k li e
    by_cases c : i = j
    · subst c
      rw [me] at e
      cases e
      exact ⟨x, K, by simp, hj, fun l hl => up (e3 l hl)⟩
    · rw [ne c] at e
      obtain ⟨y, L, a, b, d⟩ := W.at_ i k li e
      refine ⟨y, L, ?_, b, fun l hl => up (d l hl)⟩
      have := (List.getElem?_eq_some_iff.mp a).1
      rw [List.getElem?_append_left this]
      exact a
  · intro k hk
    rw [List.length_append, List.length_singleton] at hk
    by_cases c : k = dn.length
    · exact ⟨j, lj, by rw [c]; exact me⟩
    · obtain ⟨i, li, e⟩ := W.all k (by omega)
      exact ⟨i, li, by rw [ne (fun z => by rw [z, e2] at e; cases e)]; exact e⟩
  · refine ⟨j :: ps, by simp [p1], fun i li h => ?_⟩
    by_cases c : i = j
    · rw [c]
      exact List.mem_cons_self
    · rw [ne c] at h
      exact List.mem_cons_of_mem _ (p2 i li h)
theorem own_all {m : Nat} (hm : Fm m) : ∀ (xs dn : List Int) (ow : Array (Option Nat)), Own m dn ow → dn.length + xs.length ≤ m → ∃ ow', xs.foldl (stepF m) (some (ow, dn.length)) = some (ow', (dn ++ xs).length) ∧ Own m (dn ++ xs) ow'
  | [], dn, ow, W, _ => ⟨ow, by simp, by simpa using W⟩
  | x :: xs, dn, ow, W, h => by
    simp only [List.length_cons] at h
    obtain ⟨j, e, W1⟩ := own_more hm W (by omega) x
    obtain ⟨ow', f, W2⟩ := own_all hm xs (dn ++ [x]) _ W1 (by simp; omega)
    have e2 : dn ++ [x] ++ xs = dn ++ x :: xs := by simp
    rw [e2] at f W2
    refine ⟨ow', ?_, W2⟩
    rw [List.foldl_cons, stepF_some e]
    simpa using f
theorem lay_all {m : Nat} (hm : Fm m) {xs : Array Int} (hn : xs.size ≤ m) : ∃ ow, SetTable.layClean m xs = some ow ∧ Own m xs.toList ow := by
  obtain ⟨ow, f, W⟩ := own_all hm xs.toList [] _ (Own.init m) (by simpa using hn)
  refine ⟨ow, ?_, by simpa using W⟩
  have f' : xs.toList.foldl (stepF m) (some (Array.replicate (m + 1) none, 0)) = some (ow, ([] ++ xs.toList).length) := f
  rw [layClean_eq, f']
  rfl
end Bk

set_option Elab.async false
set_option linter.all false
set_option maxRecDepth 100000
set_option maxHeartbeats 4000000
namespace Bk
open PySem PySem.Spec PyProof.Rows L2
/-! ### the set itself: laid anew, searched, added to -/
theorem again_ok (t : SetTable) {xs : Array Int} {wanted m : Nat} (hw : SetTable.sizeAbove wanted - 1 = m) (hm : Fm m) (hn : xs.size ≤ m) :
    ∃ t' od, t.relaid xs wanted = some (t', od) ∧ od.toList.Perm (List.range xs.size) ∧ TabG t' (od.toList.map fun i => xs.getD i 0) ∧ t'.mask = m ∧ t'.led = t.led ∧ t'.plain = t.plain := by
  obtain ⟨ow, e, W⟩ := lay_all hm hn
  have live : ∀ {j k : Nat}, (j, k) ∈ liveOf m ow ↔ j ≤ m ∧ oAt ow j = some k := mem_live W.sz
  obtain ⟨r1, r2⟩ := ris_live (fun j => ow.getD j none) (List.range (m + 1)) List.pairwise_lt_range
  have r1 : Ris ((liveOf m ow).map (·.1)) := r1
  have r2 : ∀ x ∈ (liveOf m ow).map (·.1), x ∈ List.range (m + 1) := r2
  have cnt : (liveOf m ow).length = xs.size := by
    obtain ⟨ps, p1, p2⟩ := W.ps
    refine Nat.le_antisymm ?_ ?_
    · have nd : ((liveOf m ow).map (·.1)).Nodup := r1.imp fun h => Nat.ne_of_lt h
      have a := nat_nodup_len _ ps nd fun x hx => by
        obtain ⟨⟨y, k⟩, hq, rfl⟩ := List.mem_map.mp hx
        obtain ⟨b1, b2⟩ := live.mp hq
        exact p2 y b1 (by simp [b2])
      simpa [p1] using a
    · have b := nat_nodup_len (List.range xs.size) ((liveOf m ow).map (·.2)) List.nodup_range fun k hk => by
        obtain ⟨j, b1, b2⟩ := W.all k (by simpa using List.mem_range.mp hk)
        exact List.mem_map.mpr ⟨(j, k), live.mpr ⟨b1, b2⟩, rfl⟩
      simpa using b
  refine ⟨tabOf t m ow, ((liveOf m ow).map (·.2)).toArray, by rw [relaid_eq, hw, e]; rfl, ?_, ?_, rfl, rfl, rfl⟩
  · refine perm_range xs.size _ (by simpa using cnt) fun k hk => ?_
    obtain ⟨j, b1, b2⟩ := W.all k (by simpa using hk)
    simp only
    exact List.mem_map.mpr ⟨(j, k), live.mpr ⟨b1, b2⟩, rfl⟩
  · constructor
    · exact r1
    · rfl
    · simp [tabOf]
    · exact hm
    · intro j hj
      exact Nat.le_of_lt_succ (List.mem_range.mp (r2 j hj))
    · intro i x j h1 h2
      have h1 : (((liveOf m ow).map (·.2)).map fun i => xs.getD i 0)[i]? = some x := h1
      have h2 : ((liveOf m ow).map (·.1))[i]? = some j := h2
      simp only [List.getElem?_map, Option.map_map, Option.map_eq_some_iff] at h1 h2
      obtain ⟨⟨j', k⟩, q1, rfl⟩ := h2
      obtain ⟨q', q2, rfl⟩ := h1
      rw [q1] at q2
      cases q2
      obtain ⟨b1, b2⟩ := live.mp (List.mem_of_getElem? q1)
      obtain ⟨y, K, a1, a2, a3⟩ := W.at_ j' k b1 b2
      have ey : xs.getD k 0 = y := by
        rw [Array.getD_eq_getD_getElem?, ← Array.getElem?_toList, a1]
        rfl
      refine ⟨K, ?_, fun l hl => ?_⟩
      · show way m (xs.getD k 0) K = j'
        rw [ey]
        exact a2
      · show way m (xs.getD k 0) l ∈ (liveOf m ow).map (·.1)
        rw [ey]
        obtain ⟨z, hz⟩ := Option.ne_none_iff_exists'.mp (a3 l hl)
        exact List.mem_map.mpr ⟨(way m y l, z), live.mpr ⟨way_in y l, hz⟩, rfl⟩
section
variable {P : Program} {w : World} {A : Around} {E : Value → Shared → Prop} {s : Shared}
/-- the set at a holds the tuples L -/
structure SetG (P : Program) (w : World) (h : Heap) (a : Addr) (L : List (Addr × List Int)) (es : Array (Int × Value)) (ep : Nat) (t : SetTable) : Prop where
  obj : ∃ o, h.get? a = some o ∧ o.ExactSet ∧ o.data = .set es ep t
  row : es.toList = rowsOf P w L
  tab : TabG t (L.map fun p => thash P w p.2)
  one : (L.map (·.2)).Nodup
  tup : ∀ p ∈ L, IsT P w h p.2 p.1
  pln : t.plain = true
  led : w.params.followText "set-order" = true ∨ t.led = true
  rm : L.length * 5 < t.mask * 3
variable {a : Addr} {L : List (Addr × List Int)} {es : Array (Int × Value)} {ep : Nat} {t : SetTable}
theorem rows_size {es : Array (Int × Value)} {L : List (Addr × List Int)} (h : es.toList = rowsOf P w L) : es.size = L.length := by
  have := congrArg List.length h
  simpa [rowsOf] using this
theorem fits_of {n : Nat} (h1 : t.place.size = n) (h2 : t.dummies = #[]) (h3 : n ≤ t.mask) : t.fits n = true := by
  have : t.fill = n := by
    show t.place.size + t.dummies.size = n
    rw [h1, h2]
    rfl
  simp [SetTable.fits, this, h1, h3]
theorem SetG.sz (R : SetG P w s.heap a L es ep t) : es.size = L.length := rows_size R.row
theorem SetG.fit (R : SetG P w s.heap a L es ep t) : t.fits es.size = true := by
  have h := R.tab.num
  have q := R.rm
  rw [List.length_map] at h
  rw [R.sz]
  exact fits_of h R.tab.dum (by omega)
theorem SetG.at_ (R : SetG P w s.heap a L es ep t) {i : Nat} {p : Addr × List Int} (h : L[i]? = some p) : es[i]? = some (thash P w p.2, Value.ref p.1) := by
  have : es.toList[i]? = some (thash P w p.2, Value.ref p.1) := by rw [R.row]; simp [rowsOf, h]
  rwa [Array.getElem?_toList] at this
theorem SetG.gw (R : SetG P w s.heap a L es ep t) : ¬ t.gaveWay = true := by
  have := R.tab.fm.odd
  simp [SetTable.gaveWay, this]
/-- the c-th step of the search for x -/
abbrev stp (m : Nat) (x : Int) (c : Nat) : SetTable.Probe := nth m (runAt m (SetTable.bits x % (m + 1)) (SetTable.bits x)) c
theorem stp_dummy (m : Nat) (x : Int) (c : Nat) : (stp m x c).dummy = none := by
  have go : ∀ (n : Nat) (p : SetTable.Probe), p.dummy = none → (nth m p n).dummy = none := by
    intro n
    induction n with
    | zero => exact fun p h => h
    | succ n ih =>
      intro p h
      refine ih (adv m p) ?_
      unfold adv
      split <;> exact h
  exact go c _ rfl
theorem stp_add (m : Nat) (x : Int) (c q : Nat) : nth m (stp m x c) q = stp m x (c + q) := (nth_add m c _ q).symm
/-- from the c-th step on -/
theorem SetG.look (R : SetG P w s.heap a L es ep t) {x : Addr} {k : List Int} (hx : IsT P w s.heap k x) (hu : A.units < cLine) {K : Nat} (hKf : K < 10 * SetTable.turns t.mask)
    (hK : way t.mask (thash P w k) K ∉ t.place.toList) (hKb : ∀ c, c < K → way t.mask (thash P w k) c ∈ t.place.toList) {Q : SetFound → Shared → Prop}
    (yes : k ∈ L.map (·.2) → Q (.there none) s) (no : k ∉ L.map (·.2) → Q (.free (way t.mask (thash P w k) K) false) s) :
    ∀ (f c : Nat) (st : Option SetTable.Probe), st.getD (t.probeStart (thash P w k)) = stp t.mask (thash P w k) c → c ≤ K → K < c + f →
      (∀ (i : Nat) p, L[i]? = some p → p.2 = k → ∃ c', c ≤ c' ∧ c' < K ∧ t.place.toList[i]? = some (way t.mask (thash P w k) c')) →
      wpAny (model P w) A (setSearchFrom a (.ref x) (thash P w k) true f st) Q E s
  | 0, c, st, _, h1, h2, _ => absurd h2 (by omega)
  | f + 1, c, st, hst, h1, h2, hre => by
    obtain ⟨o, ho, hex, hd⟩ := R.obj
    generalize hh : thash P w k = x0 at *
    rw [setSearchFrom_succ]
    refine wpAny_bind (wpAny_setState_of ho hd R.fit ?_)
    dsimp only
    refine wp_if_neg R.gw ?_
    try refine wpAny_bind (wpAny_pure ?_)
    have wy : ∀ q, (nth t.mask (stp t.mask x0 c) q).j = way t.mask x0 (c + q) := fun q => congrArg SetTable.Probe.j (stp_add t.mask x0 c q)
    have spec := go_spec t R.tab.ris R.tab.dum (fun i => (es[i]?.map (·.1)).getD 0) x0 (10 * SetTable.turns t.mask) (K - c) (stp t.mask x0 c) (stp_dummy _ _ _) (by omega) (fun q hq => by rw [wy]; exact hKb _ (by omega)) (by rw [wy, show c + (K - c) = K by omega]; exact hK)
    have hat : ∀ (i : Nat) p, L[i]? = some p → ((es[i]?.map (·.1)).getD 0) = thash P w p.2 := fun i p hp => by simp [R.at_ hp]
    rcases spec with ⟨q, i, hq, hi, _, hno, hpr⟩ | ⟨hno, hpr⟩
    · rw [wy, stp_add] at hpr
      rw [wy] at hi
      have hpr : t.probe (fun i => (es[i]?.map (·.1)).getD 0) x0 (st.getD (t.probeStart x0)) = some (.candidate (way t.mask x0 (c + q)) i (stp t.mask x0 (c + (q + 1)))) := by rw [hst]; exact hpr
      rw [hpr]
      dsimp only
      have il : i < L.length := by
        have e1 := (List.getElem?_eq_some_iff.mp hi).1
        have e2 := R.tab.len
        rw [List.length_map] at e2
        omega
      obtain ⟨p, hp⟩ : ∃ p, L[i]? = some p := ⟨_, List.getElem?_eq_getElem il⟩
      have hm : p ∈ L := List.mem_of_getElem? hp
      have pt := R.tup p hm
      have rest : wpAny (model P w) A (searchRest a (.ref x) x0 true f es t (way t.mask x0 (c + q)) i (stp t.mask x0 (c + (q + 1)))) Q E s := by
        unfold searchRest
        rw [R.at_ hp]
        dsimp only
        refine wpAny_bind (wpAny_holding (wpAny_eqBool_tuple hu pt hx ?_))
        refine wpAny_bind (wpAny_setState_of ho hd R.fit ?_)
        dsimp only
        by_cases c1 : p.2 = k
        · refine wp_if_pos (by simp [c1]) (wpAny_pure (yes ?_))
          exact List.mem_map.mpr ⟨p, hm, c1⟩
        · refine wp_if_neg (by simp [c1]) ?_
          try refine wpAny_bind (wpAny_pure ?_)
          rw [sameMem]
          dsimp only
          have live := slot_live R.tab.ris hi
          simp only [if_true, live, R.at_ hp]
          refine wpAny_bind (wpAny_isSame_ref_self (wpAny_bind (wpAny_pure ?_)))
          simp only [if_true]
          refine wp_if_neg (by simp [c1]) ?_
          subst hh
          refine SetG.look R hx hu hKf hK hKb yes no f (c + (q + 1)) _ rfl (by omega) (by omega) fun i0 p0 h0 hk0 => ?_
          obtain ⟨c', a1, a2, a3⟩ := hre i0 p0 h0 hk0
          refine ⟨c', ?_, a2, a3⟩
          refine Classical.byContradiction fun hle => ?_
          by_cases z : c' = c + q
          · rw [z] at a3
            have s0 := slot_live R.tab.ris a3
            rw [live] at s0
            injection s0 with s0
            rw [← s0, hp] at h0
            cases h0
            exact c1 hk0
          · refine hno (c' - c) i0 (by omega) (by rw [wy, show c + (c' - c) = c' by omega]; exact a3) ?_
            exact (hat i0 p0 h0).trans (by rw [hk0])
      by_cases hl : t.led = true
      · refine wp_if_neg (by simp [hl]) ?_
        try refine wpAny_bind (wpAny_pure ?_)
        exact rest
      · refine wp_if_pos (by simp [hl]) ?_
        refine wpAny_bind (seen_tup hx (fun y hy => ?_) ?_)
        · obtain ⟨e, he, rfl⟩ := List.mem_map.mp hy
          have he : e ∈ es.toList := by
            have : e ∈ es ∧ e.1 = x0 := by simpa using he
            simpa using this.1
          rw [R.row] at he
          obtain ⟨p2, hp2, rfl⟩ := List.mem_map.mp he
          exact ⟨p2.2, p2.1, rfl, R.tup p2 hp2⟩
        · refine wp_if_neg (by decide) ?_
          try refine wpAny_bind (wpAny_pure ?_)
          exact rest
    · rw [wy, show c + (K - c) = K by omega] at hpr
      have hpr : t.probe (fun i => (es[i]?.map (·.1)).getD 0) x0 (st.getD (t.probeStart x0)) = some (.empty (way t.mask x0 K) none) := by rw [hst]; exact hpr
      rw [hpr]
      dsimp only
      refine wpAny_pure (no fun hm => ?_)
      obtain ⟨p0, h0, hk0⟩ := List.mem_map.mp hm
      obtain ⟨i0, hi0, e0⟩ := List.getElem_of_mem h0
      have h00 : L[i0]? = some p0 := by rw [List.getElem?_eq_getElem hi0, e0]
      obtain ⟨c', a1, a2, a3⟩ := hre i0 p0 h00 hk0
      exact hno (c' - c) i0 (by omega) (by rw [wy, show c + (c' - c) = c' by omega]; exact a3) ((hat i0 p0 h00).trans (by rw [hk0, hh]))
theorem SetG.find (R : SetG P w s.heap a L es ep t) {x : Addr} {k : List Int} (hx : IsT P w s.heap k x) (hu : A.units < cLine) {Q : SetFound → Shared → Prop} (yes : k ∈ L.map (·.2) → Q (.there none) s)
    (no : ∀ K, k ∉ L.map (·.2) → way t.mask (thash P w k) K ∉ t.place.toList → (∀ c, c < K → way t.mask (thash P w k) c ∈ t.place.toList) → Q (.free (way t.mask (thash P w k) K) false) s) :
    wpAny (model P w) A (setSearch a (.ref x) (thash P w k) true) Q E s := by
  have q := R.rm
  obtain ⟨K, k1, k2, k3⟩ := R.tab.free (by rw [List.length_map]; omega) (thash P w k)
  have lm := R.tab.fm.le
  have k4 : K < 100000 := by unfold SetTable.turns at k1; omega
  unfold setSearch
  refine R.look hx hu k1 k2 k3 yes (fun h => no K h k2 k3) 100000 0 none rfl (Nat.zero_le _) (by omega) fun i p hp hk => ?_
  have h1 : (L.map fun p => thash P w p.2)[i]? = some (thash P w k) := by simp [hp, hk]
  have il : i < t.place.toList.length := by
    rw [R.tab.len]
    exact (List.getElem?_eq_some_iff.mp h1).1
  obtain ⟨c, c1, c2⟩ := R.tab.ahead k2 h1 (List.getElem?_eq_getElem il)
  exact ⟨c, Nat.zero_le _, c1, by rw [c2]; exact List.getElem?_eq_getElem il⟩
end
end Bk

set_option Elab.async false
set_option linter.all false
set_option maxRecDepth 100000
set_option maxHeartbeats 4000000
namespace Bk
open PySem PySem.Spec PyProof.Rows L2
/-! ### the set of up to two thousand tuples: added to, made of a list -/
theorem above_pow (n : Nat) : ∀ (f i : Nat), n < 2 ^ (i + f) → ∃ j, i ≤ j ∧ SetTable.sizeAbove.go n f (2 ^ i) = 2 ^ j ∧ n < 2 ^ j ∧ (j = i ∨ 2 ^ j ≤ 2 * n)
  | 0, i, h => ⟨i, Nat.le_refl _, rfl, h, .inl rfl⟩
  | f + 1, i, h => by
    unfold SetTable.sizeAbove.go
    by_cases c : 2 ^ i ≤ n
    · rw [if_pos c]
      have e : 2 ^ i * 2 = 2 ^ (i + 1) := (Nat.pow_succ ..).symm
      rw [e]
      obtain ⟨j, a, b, d, g⟩ := above_pow n f (i + 1) (by rw [show i + 1 + f = i + (f + 1) by omega]; exact h)
      refine ⟨j, by omega, b, d, .inr ?_⟩
      rcases g with rfl | g
      · omega
      · exact g
    · rw [if_neg c]
      exact ⟨i, Nat.le_refl _, rfl, by omega, .inl rfl⟩
theorem above_ok {n : Nat} (h : n < 8192) : ∃ m, SetTable.sizeAbove n - 1 = m ∧ Fm m ∧ SetTable.sizeAbove n ≤ 8192 ∧ n ≤ m := by
  obtain ⟨j, a, b, c, d⟩ := above_pow n 64 3 (Nat.lt_of_lt_of_le h (by decide))
  have e : SetTable.sizeAbove n = 2 ^ j := b
  have u : j ≤ 13 := by
    rcases d with rfl | d
    · decide
    · refine Classical.byContradiction fun q => ?_
      have : 2 ^ 14 ≤ 2 ^ j := Nat.pow_le_pow_right (by decide) (by omega)
      omega
  have p : 2 ^ j ≤ 2 ^ 13 := Nat.pow_le_pow_right (by decide) u
  exact ⟨2 ^ j - 1, by rw [e], ⟨j, by omega, u, by omega⟩, by rw [e]; omega, by omega⟩
section
variable {P : Program} {w : World} {A : Around} {E : Value → Shared → Prop} {s : Shared}
variable {a : Addr} {L : List (Addr × List Int)} {es : Array (Int × Value)} {ep : Nat} {t : SetTable}
theorem relayG {o : Obj} (ho : s.heap.get? a = some o) (hex : o.ExactSet) (hd : o.data = .set es ep t) (row : es.toList = rowsOf P w L) (num : t.place.size = es.size) (dum : t.dummies = #[]) (lm : es.size ≤ t.mask)
    (one : (L.map (·.2)).Nodup) (tup : ∀ p ∈ L, IsT P w s.heap p.2 p.1) (pln : t.plain = true) (led : w.params.followText "set-order" = true ∨ t.led = true) {wanted m : Nat}
    (hw : SetTable.sizeAbove wanted - 1 = m) (hm : Fm m) (hz : SetTable.sizeAbove wanted ≤ 8192) (hn : L.length * 5 < m * 3) {Q : Unit → Shared → Prop}
    (go : ∀ h' L' es' ep' t', Heap.SameBut a s.heap h' → SetG P w h' a L' es' ep' t' → L'.Perm L → Q () { s with heap := h' }) : wpAny (model P w) A (setRelay a wanted) Q E s := by
  have sz := rows_size row
  obtain ⟨t', od, e, pm, T, e1, e2, e3⟩ := again_ok t (xs := es.map (·.1)) hw hm (by rw [Array.size_map, sz]; omega)
  rw [Array.size_map, sz] at pm
  obtain ⟨L2, r1, r2, r3⟩ := order_rows L es od row pm
  rw [← r3] at T
  have s2 : (od.filterMap (es[·]?)).size = es.size := by rw [rows_size r1, r2.length_eq, sz]
  rw [setRelay_eq]
  refine wpAny_bind (wpAny_setState_of ho hd (fits_of num dum lm) ?_)
  dsimp only
  refine wp_if_neg (by rw [sizeLine_eq]; omega) ?_
  try refine wpAny_bind (wpAny_pure ?_)
  rw [e]
  dsimp only
  refine wpAny_bind ?_
  refine wp_if_neg (by rw [s2]; simp) ?_
  try refine wpAny_bind (wpAny_pure ?_)
  refine wpAny_pure ?_
  dsimp only
  refine wpAny_storeSet_of ho hd ?_ (by rw [s2, sz, sizeLine_eq]; have := hm.le; omega)
  have sb : Heap.SameBut a s.heap (s.heap.update a (Obj.putSet (od.filterMap (es[·]?)) t')) := Heap.SameBut.update ..
  refine go _ L2 (od.filterMap (es[·]?)) (ep + 1) t' sb ?_ r2
  constructor
  · exact ⟨_, store_at ho hd, ⟨hex.1, hex.2.1, hex.2.2⟩, rfl⟩
  · exact r1
  · exact T
  · exact (r2.map (·.2)).nodup_iff.mpr one
  · exact fun p hp => isT_same (tup p (r2.mem_iff.mp hp)) ho hd sb
  · rw [e3]; exact pln
  · rw [e2]; exact led
  · rw [r2.length_eq, e1]; exact hn
theorem SetG.put (R : SetG P w s.heap a L es ep t) {x : Addr} {k : List Int} (hx : IsT P w s.heap k x) (hu : A.units < cLine) (few : L.length < 2000) {Q : Bool → Shared → Prop}
    (go : ∀ b h' L' es' ep' t', Heap.SameBut a s.heap h' → SetG P w h' a L' es' ep' t' → (k ∈ L.map (·.2) → L' = L) → (k ∉ L.map (·.2) → L'.Perm ((x, k) :: L)) → Q b { s with heap := h' }) :
    wpAny (model P w) A (setAddHashed a (.ref x) (thash P w k)) Q E s := by
  have rm := R.rm
  have sz := R.sz
  obtain ⟨o, ho, hex, hd⟩ := R.obj
  unfold setAddHashed
  refine wpAny_holding ?_
  show wpAny _ _ (setAddHashedIn a (.ref x) (thash P w k) (99999 + 1)) _ _ _
  rw [setAddHashedIn_succ]
  refine wpAny_bind (wpAny_setState_of ho hd R.fit ?_)
  dsimp only
  have nosc : ¬ byScan (.ref x) es = true := by simp [byScan, Value.scannable]
  refine wp_if_neg nosc ?_
  try refine wpAny_bind (wpAny_pure ?_)
  refine wpAny_bind (R.find hx hu (fun hm => ?_) fun K hm hK hb => ?_)
  · dsimp only
    exact wpAny_pure (go false s.heap L es ep t (Heap.SameBut.refl a s.heap) R (fun _ => rfl) (fun z => absurd hm z))
  · dsimp only
    refine wpAny_bind (wpAny_setState_of ho hd R.fit ?_)
    dsimp only
    obtain ⟨p, hp⟩ : ∃ p, SetTable.below t.place (way t.mask (thash P w k) K) = p := ⟨_, rfl⟩
    obtain ⟨q1, q2, q3, q4, q5, q6, q7⟩ := R.tab.add hK hb hp
    have pl1 : (t.put (way t.mask (thash P w k) K)).1.plain = true := q6.trans R.pln
    have ld1 : w.params.followText "set-order" = true ∨ (t.put (way t.mask (thash P w k) K)).1.led = true := by rw [q5]; exact R.led
    generalize ept : t.put (way t.mask (thash P w k) K) = pt at *
    obtain ⟨t1, p1⟩ := pt
    dsimp only at q1 q3 q4 q5 q6 q7 pl1 ld1 ⊢
    subst q1
    first
      | (refine wpAny_bind ?_; refine wp_if_pos pl1 ?_; refine hashBy_tup hx ?_)
      | refine wp_if_pos pl1 (wpAny_bind (hashBy_tup hx ?_))
    simp only [if_true]
    rw [List.length_map] at q2 q7
    have in1 : (SetTable.insertAt es p1 (thash P w k, Value.ref x)).toList = rowsOf P w (L.take p1 ++ (x, k) :: L.drop p1) := by rw [SetTable.toList_insertAt, rows_put, R.row]
    have pm := put_perm L p1 (x, k)
    have T1 : TabG t1 ((L.take p1 ++ (x, k) :: L.drop p1).map fun p => thash P w p.2) := by
      have : (L.take p1 ++ (x, k) :: L.drop p1).map (fun p => thash P w p.2) = (L.map fun p => thash P w p.2).take p1 ++ thash P w k :: (L.map fun p => thash P w p.2).drop p1 := by simp [List.map_take, List.map_drop]
      rw [this]
      exact q3
    generalize SetTable.insertAt es p1 (thash P w k, Value.ref x) = es1 at *
    generalize L.take p1 ++ (x, k) :: L.drop p1 = L1 at *
    have s1 := rows_size in1
    have ln : L1.length = L.length + 1 := by simpa using pm.length_eq
    have nd1 : (L1.map (·.2)).Nodup := by
      rw [(pm.map (·.2)).nodup_iff]
      simp only [List.map_cons]
      exact List.nodup_cons.mpr ⟨hm, R.one⟩
    refine wpAny_bind (wpAny_storeSet_of ho hd ?_ (by rw [s1, ln, sizeLine_eq]; omega))
    have sb : Heap.SameBut a s.heap (s.heap.update a (Obj.putSet es1 t1)) := Heap.SameBut.update ..
    have ho1 := store_at (es' := es1) (t' := t1) ho hd
    generalize s.heap.update a (Obj.putSet es1 t1) = h1 at *
    have tup1 : ∀ p ∈ L1, IsT P w h1 p.2 p.1 := fun p hp => by
      rcases List.mem_cons.mp (pm.mem_iff.mp hp) with rfl | hp
      · exact isT_same hx ho hd sb
      · exact isT_same (R.tup p hp) ho hd sb
    have fl : t1.fill * 5 = (L.length + 1) * 5 := by rw [q7]
    by_cases hf : t1.tooFull = true
    · first
        | (refine wpAny_bind ?_; refine wp_if_pos (by simp [hf]) ?_)
        | (refine wp_if_pos (by simp [hf]) ?_; refine wpAny_bind ?_)
      have gr : SetTable.grown (es.size + 1) = 4 * (L.length + 1) := by
        unfold SetTable.grown
        rw [sz, if_neg (by omega)]
        omega
      rw [gr]
      obtain ⟨m, m1, m2, m3, m4⟩ := above_ok (n := 4 * (L.length + 1)) (by omega)
      have n1 := T1.num
      rw [List.length_map] at n1
      refine relayG (s := { s with heap := h1 }) ho1 ⟨hex.1, hex.2.1, hex.2.2⟩ rfl in1 (by rw [n1, s1]) T1.dum (by rw [s1, ln, q4]; omega) nd1 tup1 pl1 ld1 m1 m2 m3 (by omega) fun h2 L2 es2 ep2 t2 sb2 R2 pm2 => ?_
      exact wpAny_pure (go true h2 L2 es2 ep2 t2 (sb.trans sb2) R2 (fun z => absurd z hm) fun _ => pm2.trans pm)
    · first
        | refine wp_if_neg (by simp [hf]) ?_
        | (refine wpAny_bind ?_; refine wp_if_neg (by simp [hf]) ?_; refine wpAny_pure ?_)
      refine wpAny_pure (go true h1 L1 es1 (ep + 1) t1 sb ⟨⟨_, ho1, ⟨hex.1, hex.2.1, hex.2.2⟩, rfl⟩, in1, T1, nd1, tup1, pl1, ld1, ?_⟩ (fun z => absurd z hm) fun _ => pm)
      unfold SetTable.tooFull at hf
      rw [decide_eq_true_eq] at hf
      omega
end
end Bk

set_option Elab.async false
set_option linter.all false
set_option maxRecDepth 100000
set_option maxHeartbeats 4000000
namespace Bk
open PySem PySem.Spec PyProof.Rows L2
/-! ### set(xs) of up to two thousand tuples -/
section
variable {P : Program} {w : World} {A : Around} {E : Value → Shared → Prop} {s : Shared}
theorem SetG.stay {h h' : Heap} {a : Addr} {L : List (Addr × List Int)} {es : Array (Int × Value)} {ep : Nat} {t : SetTable} (R : SetG P w h a L es ep t) (ha : ∀ o, h.get? a = some o → h'.get? a = some o) (ht : ∀ p ∈ L, IsT P w h' p.2 p.1) : SetG P w h' a L es ep t := by
  obtain ⟨o, ho, r⟩ := R.obj
  exact ⟨⟨o, ha o ho, r⟩, R.row, R.tab, R.one, ht, R.pln, R.led, R.rm⟩
abbrev newSet (w : World) : Obj := { cls := .type "set", dict := none, data := .set #[] 0 (.fresh 0 0 (!w.params.followText "set-order")) }
theorem setG_new {h : Heap} {a : Addr} (ho : h.get? a = some (newSet w)) : SetG P w h a [] #[] 0 (.fresh 0 0 (!w.params.followText "set-order")) := by
  constructor
  · exact ⟨_, ho, ⟨rfl, rfl, rfl⟩, rfl⟩
  · rfl
  · exact ⟨List.Pairwise.nil, rfl, rfl, ⟨⟨3, by decide, by decide, rfl⟩⟩, (fun j hj => by cases hj), fun i x j hi => by simp at hi⟩
  · exact List.nodup_nil
  · exact fun p hp => by cases hp
  · rfl
  · show _ ∨ (!w.params.followText "set-order") = true
    cases w.params.followText "set-order" <;> simp
  · show 0 * 5 < 7 * 3
    decide
/-- the loop of set.update -/
theorem loopG {I : Addr} {fp wr : List Addr} {G : Array GenState → Array GenState → Prop} {n : Nat} {Pv : Nat → Value → Prop} {St : Nat → Shared → Prop} {R : Result → Shared → Prop} (W : WalksS P w A.in1 I fp wr G n Pv St) (S : Addr) (nS : S ∉ fp) (ks : List (Addr × List Int)) (hn : n = ks.length) (few : ks.length ≤ 2000)
    (val : ∀ i v, Pv i v → ∃ p, ks[i]? = some p ∧ v = .ref p.1) (h0 : Heap) (hk : ∀ p ∈ ks, IsT P w h0 p.2 p.1) (s0 : h0.get? S = none) (w0 : ∀ b ∈ wr, h0.get? b = none) (hu : A.in1.units < cLine) :
    ∀ (m i : Nat) (s : Shared), n = i + m → St i s → (∀ b o, h0.get? b = some o → s.heap.get? b = some o) → (∃ L es ep t, SetG P w s.heap S L es ep t ∧ Got ks i L) →
      (∀ s' L es ep t, Moved (S :: wr) G s s' → SetG P w s'.heap S L es ep t → Got ks n L → (∀ b o, h0.get? b = some o → s'.heap.get? b = some o) → R (.ok (.ret .none)) s') →
      codeAny (model P w) A (.builtin "set.update.loop" ⟨[.ref S, .ref I], []⟩) R s := by
  have nw : S ∉ wr := fun h => nS (W.sub _ h)
  have up : ∀ b ∈ wr, b ∈ S :: wr := fun b hb => List.mem_cons_of_mem _ hb
  have keep : ∀ {s s' : Shared}, Moved wr G s s' → (∀ b o, h0.get? b = some o → s.heap.get? b = some o) → ∀ b o, h0.get? b = some o → s'.heap.get? b = some o := fun hm hkp b o e =>
    hm.heap b o (fun hb => by rw [w0 b hb] at e; cases e) (hkp b o e)
  intro m
  induction m with
  | zero =>
    intro i s hi hst hkp ⟨L, es, ep, t, hS, g⟩ hR
    have : n = i := by omega
    subst this
    refine codeAny_builtin F.entry_set_update_loop ?_
    rw [Around.under_plainId F.plain_set_update_loop _]
    show wpAny _ A.in1 (pyNext (.ref I) >>= _) _ _ s
    refine wpAny_bind (W.done s _ _ hst fun s' hm => ?_)
    have kp := keep hm hkp
    refine wpAny_pure (hR s' L es ep t (hm.mono up) (hS.stay (fun o e => hm.heap S o nw e) fun p hp => ?_) g kp)
    exact isT_keep (hk p (List.mem_of_mem_take (g.sub p hp))) kp
  | succ m ih =>
    intro i s hi hst hkp ⟨L, es, ep, t, hS, g⟩ hR
    refine codeAny_builtin F.entry_set_update_loop ?_
    rw [Around.under_plainId F.plain_set_update_loop _]
    show wpAny _ A.in1 (pyNext (.ref I) >>= _) _ _ s
    refine wpAny_bind (W.item i s _ _ (by omega) hst fun v s' hP hst' hm => ?_)
    obtain ⟨p, hp, rfl⟩ := val i v hP
    have kp := keep hm hkp
    have S' : SetG P w s'.heap S L es ep t := hS.stay (fun o e => hm.heap S o nw e) fun q hq => isT_keep (hk q (List.mem_of_mem_take (g.sub q hq))) kp
    have px : IsT P w s'.heap p.2 p.1 := isT_keep (hk p (List.mem_of_getElem? hp)) kp
    have il := (List.getElem?_eq_some_iff.mp hp).1
    show wpAny _ A.in1 (holding [Value.ref p.1] (setAdd S (.ref p.1)) >>= _) _ _ s'
    refine wpAny_bind (wpAny_holding ?_)
    unfold setAdd
    refine wpAny_holding (wpAny_bind (wpAny_pyHash_tuple hu px ?_))
    refine SetG.put (s := { s' with toks := s'.toks + (p.2.length + 1) }) S' px hu (by have := g.len; omega) fun b h' L' es' ep' t' sb S2 c1 c2 => ?_
    have g' : Got ks (i + 1) L' := by
      by_cases c : p.2 ∈ L.map (·.2)
      · rw [c1 c]
        exact g.same hp c
      · exact g.more hp (c2 c)
    have kp2 : ∀ b o, h0.get? b = some o → h'.get? b = some o := fun b o e => (sb.2 b (fun z => by rw [z, s0] at e; cases e)).trans (kp b o e)
    refine wpAny_pure ⟨plainId_quiet F.plain_set_update_loop _, ih (i + 1) _ (by omega) (W.frame _ s' _ _ hst' (Nat.le_add_right _ _) fun b hb o e => ?_) kp2 ⟨L', es', ep', t', S2, g'⟩ fun s'' L2 es2 ep2 t2 hm2 S3 g2 kp3 => ?_⟩
    · exact (sb.2 b (fun z => nS (z ▸ hb))).trans e
    · refine hR s'' L2 es2 ep2 t2 (Moved.trans W.gtrans ((hm.mono up).then_heap (Nat.le_add_right _ _) fun b o hb e => ?_) hm2) S3 g2 kp3
      exact (sb.2 b (fun z => hb (z ▸ List.mem_cons_self))).trans e
set_option maxHeartbeats 8000000 in
theorem call_setG {l : Addr} {items : Array Value} (ks : List (Addr × List Int)) {Q : Value → Shared → Prop} (hh : A.handled = none) (hl : s.heap.IsList l items) (hit : items.toList = ks.map fun p => Value.ref p.1)
    (hk : ∀ p ∈ ks, IsT P w s.heap p.2 p.1) (few : ks.length ≤ 2000) (hu : A.units + 3 < cLine)
    (go : ∀ (h' : Heap) (tk : Nat) L es ep t, SetG P w h' s.heap.objs.size L es ep t → Got ks ks.length L → (∀ b o, s.heap.get? b = some o → h'.get? b = some o) → Q (.ref s.heap.objs.size) { s with heap := h', toks := tk }) :
    wpAny (model P w) A (call (.type "set") [.ref l]) Q E s := by
  have isz : items.size = ks.length := by
    have q := congrArg List.length hit
    simpa using q
  obtain ⟨c, tl, hmro⟩ := F.called_set.mro
  have hmade := F.called_set.made
  have hsub := F.called_set.sub
  have f1 := F.called_set.notType
  have f2 := F.called_set.canCreate
  have hct := F.typeCall_set_1 (.ref l)
  refine wpAny_call (codeAny_of_tree ?_)
  show wpAny _ _ (callAny (.type "set") _) _ _ _
  refine wpAny_pure ⟨Code.quiet_builtin _ (by decide +kernel), codeAny_builtin F.entry_type_call ?_⟩
  rw [Around.under_plain (weight_type_call_type "set" [.ref l] []) rfl]
  repeat (any_goals (first | assumption | wp_step))
  have hS : (s.heap.push (newSet w)).get? s.heap.objs.size = some (newSet w) := Heap.get?_push_size _ rfl
  refine codeAny_mono (code_set_led1 (.ref l) (E := E) (Q₁ := fun obj s₁ => obj = .ref s.heap.objs.size ∧ s₁ = { s with heap := s.heap.push (newSet w) }) ⟨rfl, rfl⟩) fun r s₁ hr => ?_
  rcases r with e | fl
  · exact hr
  · cases fl with
    | ret obj =>
      obtain ⟨rfl, rfl⟩ := hr
      have hT : Shared.TypeIs { s with heap := s.heap.push (newSet w) } (.ref s.heap.objs.size) "set" := ⟨_, hS, rfl⟩
      have hli := F.called_set.init.lookup
      have hbi := F.called_set.init.bind (.ref s.heap.objs.size)
      repeat (any_goals (first | assumption | wp_step))
      refine codeAny_mono (codeAny_call_builtin (R := wants (fun r s₂ => r = .none ∧ ∃ h' tk L es ep t, s₂ = { s with heap := h', toks := tk } ∧ SetG P w h' s.heap.objs.size L es ep t ∧ Got ks ks.length L ∧ (∀ b o, s.heap.get? b = some o → h'.get? b = some o)) E) F.called_set.init.plain F.entry_set_init (check_set_init_1 hT ?_)) fun r₂ s₂ hr₂ => ?_
      · obtain ⟨⟨ocls, odict, odata, oslots⟩, hol, hcl, nl, hdl⟩ := hl
        simp only at hcl hdl
        subst hcl hdl
        have hol' := Heap.get?_push_of_some (newSet w) hol
        have hsls := F.sub_list_set
        have hslf := F.sub_list_frozenset
        have hne : (Value.type "list" == Value.type "dict") = false := by decide
        have l1 : (s.heap.push (newSet w)).IsList l items := ⟨_, hol', rfl, nl, rfl⟩
        unfold Builtin.«set.__init__» noKeywords Builtin.Frozenset.updateFrom
        generalize hPI : pyIter = PI
        wp_walk
        subst hPI
        refine wpAny_pyIter_list l1 ?_
        refine wpAny_bind (wpAny_runValue ?_)
        have lS : l < s.heap.objs.size := Heap.lt_size hol
        have z1 : (s.heap.push (newSet w)).objs.size = s.heap.objs.size + 1 := Heap.size_push ..
        have nI : l ≠ (s.heap.push (newSet w)).objs.size := by rw [z1]; exact Nat.ne_of_lt (Nat.lt_succ_of_lt lS)
        have nn : ∀ b, s.heap.objs.size ≤ b → s.heap.get? b = none := fun b hb => by
          cases q : s.heap.get? b with
          | none => rfl
          | some o => exact absurd (Heap.lt_size q) (Nat.not_lt.mpr hb)
        have val : ∀ (i : Nat) (v : Value), items[i]? = some v → ∃ p, ks[i]? = some p ∧ v = .ref p.1 := fun i v hv => by
          rw [← Array.getElem?_toList, hit, List.getElem?_map] at hv
          obtain ⟨p, hp, e⟩ := Option.map_eq_some_iff.mp hv
          exact ⟨p, hp, e.symm⟩
        have nf : s.heap.objs.size ∉ [(s.heap.push (newSet w)).objs.size, l] := by
          simp only [List.mem_cons, List.not_mem_nil, or_false, not_or]
          exact ⟨by rw [z1]; exact Nat.ne_of_lt (Nat.lt_succ_self _), Nat.ne_of_gt lS⟩
        refine loopG ((Walks.list (by simp [hh]) _ l nI items).toS) s.heap.objs.size nf ks isz few val s.heap hk (nn _ (Nat.le_refl _)) (fun b hb => nn b (by rw [List.mem_singleton.mp hb, z1]; exact Nat.le_succ _)) hu items.size 0 _ (by omega)
          ⟨⟨_, Heap.get?_push_size _ rfl, rfl, rfl⟩, (l1.push _)⟩ (fun b o e => Heap.get?_push_of_some _ (Heap.get?_push_of_some _ e)) ⟨[], #[], 0, _, setG_new (Heap.get?_push_of_some _ hS), Got.zero ks⟩ ?_
        intro s' L es ep t hm S' g' kp
        obtain ⟨h', g2, d', tk', os'⟩ := s'
        obtain rfl : g2 = s.gens := hm.gens
        obtain rfl : d' = s.drawn := hm.drawn
        obtain rfl : os' = s.os := hm.os
        rw [isz] at g'
        show wpAny _ _ _ _ _ _
        refine wpAny_pure ?_
        show wpAny _ _ (ret Value.none) _ _ _
        exact wpAny_pure ⟨rfl, h', tk', L, es, ep, t, rfl, S', g', kp⟩
      · rcases r₂ with e | fl₂
        · exact hr₂
        · cases fl₂ with
          | ret r =>
            obtain ⟨rfl, h', tk, L, es, ep, t, rfl, S', g', k'⟩ := hr₂
            repeat (any_goals (first | assumption | wp_step))
            exact go _ _ _ _ _ _ S' g' k'
          | next => exact hr₂.elim
          | brk => exact hr₂.elim
          | cont => exact hr₂.elim
    | next => exact hr.elim
    | brk => exact hr.elim
    | cont => exact hr.elim
end
end Bk

set_option Elab.async false
set_option linter.all false
set_option maxRecDepth 100000
set_option maxHeartbeats 4000000
namespace Bk
open PySem PySem.Spec PyProof.Rows L2
/-! ### len(set(xs)), sorted(set(xs)) of up to two thousand tuples -/
/-- the set at a, without its tuples -/
structure SetG0 (P : Program) (w : World) (h : Heap) (a : Addr) (L : List (Addr × List Int)) : Prop where
  all : (∃ (es : Array (Int × Value)) (ep : Nat) (t : SetTable), (∃ o, h.get? a = some o ∧ o.ExactSet ∧ o.data = .set es ep t) ∧ es.toList = rowsOf P w L ∧ TabG t (L.map fun p => thash P w p.2) ∧ (L.map (·.2)).Nodup ∧ t.plain = true ∧ (w.params.followText "set-order" = true ∨ t.led = true) ∧ L.length * 5 < t.mask * 3)
  few : L.length ≤ 2000
def SetGO (P : Program) (w : World) (a : Addr) (L : List (Addr × List Int)) : HO := .ext fun h => SetG0 P w h a L
theorem SetG.g0 {P : Program} {w : World} {h : Heap} {a : Addr} {L : List (Addr × List Int)} {es : Array (Int × Value)} {ep : Nat} {t : SetTable} (R : SetG P w h a L es ep t) (few : L.length ≤ 2000) : SetG0 P w h a L :=
  ⟨⟨es, ep, t, R.obj, R.row, R.tab, R.one, R.pln, R.led, R.rm⟩, few⟩
theorem SetG0.full {P : Program} {w : World} {h : Heap} {a : Addr} {L : List (Addr × List Int)} (R : SetG0 P w h a L) (ht : ∀ p ∈ L, IsT P w h p.2 p.1) : ∃ es ep t, SetG P w h a L es ep t := by
  obtain ⟨es, ep, t, g1, g2, g3, g4, g5, g6, g7⟩ := R.all
  exact ⟨es, ep, t, ⟨g1, g2, g3, g4, ht, g5, g6, g7⟩⟩
theorem setGO_new {P : Program} {w : World} {H : Hp} {h : Heap} {a : Addr} {L : List (Addr × List Int)} (R : SetG0 P w h a L) : ObjOk P w H h a (SetGO P w a L) := by
  obtain ⟨es, ep, t, ⟨o, ho, _⟩, _⟩ := R.all
  refine ⟨R, ⟨o, ho⟩, fun h1 h2 p k => ?_⟩
  obtain ⟨⟨es', ep', t', ⟨o', ho', r'⟩, q'⟩, f⟩ := p
  exact ⟨⟨es', ep', t', ⟨o', k o' ho', r'⟩, q'⟩, f⟩
section
variable {prog : Program} {w : World} {A : Around} {E : Value → Shared → Prop} {s : Shared}
variable {a : Addr} {L : List (Addr × List Int)} {es : Array (Int × Value)} {ep : Nat} {t : SetTable}
theorem sorted_setG {Q : Value → Shared → Prop} (R : SetG prog w s.heap a L es ep t) (hh : A.handled = none) (hk : srtOk (L.map (·.2)) = true) (few : L.length ≤ 2000) (hu : A.units + 70 < cLine) (hrd : ∀ q ∈ L, ∃ as, Reads s.heap (.ref q.1) (.tuple (q.2.map .int)) as)
    (hQ : ∀ s' p (out : List Value) (c : Nat) (L1 : List (Addr × List Int)), (∀ b o, s.heap.get? b = some o → s'.heap.get? b = some o) → s'.gens = s.gens → s'.os = s.os → s.heap.objs.size ≤ p →
      s'.heap.get? p = some (seqObj "list" out.toArray c) → L1.Perm L → PySem.W.EachIs (fun v (b : List Int) => ∃ q ∈ L, v = Value.ref q.1 ∧ q.2 = b) out (srtR (L1.map (·.2))) → Q (.ref p) s') :
    wpAny (model prog w) A (call (.builtin "sorted") [.ref a]) Q E s := by
  obtain ⟨o, ho, hex, hd⟩ := R.obj
  have hsz := R.sz
  have hfew := few
  refine Calls.call_function_entry kind_sorted plain_sorted entry_sorted (args_sorted1 _) ?_
  unfold Builtin.«sorted»
  refine wpAny_bind (m := checkCount "sorted" 1 1 _) (wpAny_pure ?_)
  refine wpAny_bind (collect_set (A := A.in1) hh ⟨o, ho, hex.1, hd⟩ R.fit (by unfold scanBound; omega) R.tab.ris R.led fun s1 vs k1 hz g1 o1 pm => ?_)
  have hes : es.toList.map (·.2) = L.map fun q => Value.ref q.1 := by
    rw [R.row]
    unfold rowsOf
    rw [List.map_map] <;> rfl
  rw [hes] at pm
  have ord : ∀ vs : List Value, (∀ v ∈ vs, ∃ q ∈ L, v = Value.ref q.1) → ∃ L1 : List (Addr × List Int), vs = L1.map (fun q => Value.ref q.1) ∧ ∀ q ∈ L1, q ∈ L := by
    intro vs
    induction vs with
    | nil => intro _; exact ⟨[], rfl, fun q hq => (by cases hq)⟩
    | cons v vs ih =>
      intro hv
      obtain ⟨q, hq, e⟩ := hv v List.mem_cons_self
      obtain ⟨L1, e1, hs⟩ := ih fun u hu => hv u (List.mem_cons_of_mem _ hu)
      refine ⟨q :: L1, by rw [List.map_cons, e, e1], fun r hr => ?_⟩
      rcases List.mem_cons.mp hr with z | z
      · rw [z]; exact hq
      · exact hs r z
  have one : ∀ q ∈ L, ∀ r ∈ L, q.1 = r.1 → q = r := fun q hq r hr e => by
    have a1 := R.tup q hq
    have a2 := R.tup r hr
    rw [e] at a1
    have e2 : q.2 = r.2 := a1.inj a2
    exact Prod.ext e e2
  have perm_of : ∀ L1 : List (Addr × List Int), (∀ q ∈ L1, q ∈ L) → (L1.map (fun q => Value.ref q.1)).Perm (L.map fun q => Value.ref q.1) → L1.Perm L := by
    intro L1 hs pm1
    have nL : L.Nodup := nodup_of_map R.one
    have nref : (L.map fun q => Value.ref q.1).Nodup := by
      refine List.pairwise_map.mpr (List.Pairwise.imp_of_mem (fun {q r} hq hr hne e => ?_) nL)
      injection e with e
      exact hne (one q hq r hr e)
    have n1 : L1.Nodup := nodup_of_map (pm1.nodup_iff.mpr nref)
    refine (List.perm_ext_iff_of_nodup n1 nL).mpr fun q => ⟨hs q, fun hq => ?_⟩
    have hm : Value.ref q.1 ∈ L1.map (fun q => Value.ref q.1) := pm1.mem_iff.mpr (List.mem_map.mpr ⟨q, hq, rfl⟩)
    obtain ⟨r, hr, e⟩ := List.mem_map.mp hm
    injection e with e
    rw [← one r (hs r hr) q hq e]
    exact hr
  have hvl : vs.length ≤ 2000 := by rw [pm.length_eq, List.length_map]; exact hfew
  obtain ⟨L1, e1, hs1⟩ := ord vs fun v hv => by
    obtain ⟨q, hq, e⟩ := List.mem_map.mp (pm.mem_iff.mp hv)
    exact ⟨q, hq, e.symm⟩
  have p1 : L1.Perm L := perm_of L1 hs1 (by rw [← e1]; exact pm)
  refine wpAny_bind (wpAny_newList ?_ (by rw [sizeLine_eq]; omega))
  have hoL : (s1.heap.push (seqObj "list" vs.toArray 0)).get? s1.heap.objs.size = some (seqObj "list" vs.toArray 0) := Heap.get?_push_size _ rfl
  have each : ∀ {Rr : Value → List Int → Prop} (L2 : List (Addr × List Int)), (∀ q ∈ L2, Rr (.ref q.1) q.2) → PySem.W.EachIs Rr (L2.map fun q => Value.ref q.1) (L2.map (·.2)) := by
    intro Rr L2
    induction L2 with
    | nil => intro _; exact .nil
    | cons q L2 ih => intro h; exact .cons (h q List.mem_cons_self) (ih fun r hr => h r (List.mem_cons_of_mem _ hr))
  have er : PySem.W.EachIs (fun v (b : List Int) => ∃ as, Reads (PySem.W.sortingHeap (s1.heap.push (seqObj "list" vs.toArray 0)) s1.heap.objs.size vs) v (.tuple (b.map .int)) as) vs (L1.map (·.2)) := by
    rw [e1]
    refine each L1 fun q hq => ?_
    obtain ⟨as, rd⟩ := hrd q (hs1 q hq)
    exact ⟨as, PyProof.Rows.Reads.keeps (fun b u e => by
      have e2 := k1 b u e
      exact PySem.W.sortingHeap_old (Nat.ne_of_lt (Heap.lt_size e2)) (Heap.get?_push_of_some _ e2)) rd⟩
  have en : PySem.W.EachIs (fun v (b : List Int) => ∃ q ∈ L, v = Value.ref q.1 ∧ q.2 = b) vs (L1.map (·.2)) := by
    rw [e1]
    exact each L1 fun q hq => ⟨q, hs1 q hq, rfl, rfl⟩
  have hal : PySem.W.AllAlike ((L1.map (·.2)).map fun b => PyData.tuple (b.map .int)) := PySem.W.AllAlike.of fun b b' => alike_tups b b'
  have S := sorts_tups (prog := prog) (w := w) (A := A.in1.in1) (s := { s1 with heap := PySem.W.sortingHeap (s1.heap.push (seqObj "list" vs.toArray 0)) s1.heap.objs.size vs }) er (srtOk_perm (p1.map _) hk) (by show A.units + 2 + 65 < cLine; omega)
  have sv := PySem.W.sortVals_data (h' := PySem.W.sortingHeap (s1.heap.push (seqObj "list" vs.toArray 0)) s1.heap.objs.size vs) (enc := fun b : List Int => PyData.tuple (b.map .int)) false en er hal
  rw [leR_data] at sv
  refine wpAny_bind (wpAny_holding (wpAny_call_entry (s := { s1 with heap := s1.heap.push (seqObj "list" vs.toArray 0) }) slot_list_sort ⟨_, hoL, rfl⟩ entry_list_sort (PySem.W.list_sort_vals hoL S (by rw [sizeLine_eq]; omega) ⟨.none, rfl, ?_⟩) (args_list_sort _)))
  generalize ho2 : PySem.W.sortVals (PySem.W.dataKind (PySem.W.sortingHeap (s1.heap.push (seqObj "list" vs.toArray 0)) s1.heap.objs.size vs) ((L1.map (·.2)).map fun b : List Int => PyData.tuple (b.map .int))) false vs vs = out at sv ⊢
  obtain ⟨c, hc⟩ := sortedHeap_at (vs := vs) (out := out.toArray) hoL
  refine wpAny_pure ⟨_, rfl, hQ _ s1.heap.objs.size out c L1 (fun b u e => ?_) g1 o1 hz hc p1 sv⟩
  have q := k1 b u e
  have hlt := Heap.lt_size q
  show (sortedHeap (s1.heap.push (seqObj "list" vs.toArray 0)) s1.heap.objs.size vs out.toArray).get? b = some u
  rw [sortedHeap_old (Nat.ne_of_lt hlt) (by rw [size_push']; exact Nat.lt_succ_of_lt hlt)]
  exact Heap.get?_push_of_some _ q
end
section
variable {X : Cx}
def rSetOfG (K : PySem.W.Frag) (P : Program) (w : World) : List V → Hp → VK → Prop := fun xs H Q => ∃ (l : Addr) (ks : List (Addr × List Int)), xs = [V.ref l] ∧ SqL K H l (ks.map fun p => V.ref p.1) ∧ (∀ p ∈ ks, SqT K H p.1 (p.2.map V.int)) ∧ ks.length ≤ 2000 ∧
  ∀ a L, H a = none → (∀ p ∈ L, p ∈ ks) → (∀ p ∈ ks, p.2 ∈ L.map (·.2)) → Q (.ref a) (upd H a (SetGO P w a L))
theorem cr_setOfG (hc : X.calm = true) (hu : X.A.units + 64 < cLine) : CallR X (.type "set") (rSetOfG X.K X.prog X.w) := by
  intro pins s σ H xs us Q I r h
  obtain ⟨l, ks, rfl, hl, hk, hf, q⟩ := h
  rw [Vals.ref1 r]
  obtain ⟨its, rv, pl, hz⟩ := I.list hl
  refine call_setG (P := X.prog) (w := X.w) ks (I.ok.hd hc) pl.isList (by simpa using refs_of_vals rv) (fun p hp => I.isT (hk p hp)) hf (by omega) fun h' tk L es ep t R g k => ?_
  refine ⟨.ref s.heap.objs.size, upd H s.heap.objs.size (SetGO X.prog X.w s.heap.objs.size L), I.laid (t' := tk) k (Nat.le_refl _) (setGO_new (R.g0 (Nat.le_trans g.len hf))), rfl, q _ L (I.hok.fresh (Nat.le_refl _)) (fun p hp => List.mem_of_mem_take (g.sub p hp)) fun p hp => g.all p (by rw [List.take_length]; exact hp)⟩
end
def rSortSG (K : PySem.W.Frag) (P : Program) (w : World) : List V → Hp → VK → Prop := fun vs H Q => ∃ (a : Addr) (L : List (Addr × List Int)), vs = [V.ref a] ∧ H a = some (SetGO P w a L) ∧ (∀ p ∈ L, SqT K H p.1 (p.2.map V.int)) ∧
  ((L.map (·.2)).Nodup → srtOk (L.map (·.2)) = true ∧ ∀ (L' : List (Addr × List Int)) (p : Addr), (∀ q ∈ L', q ∈ L) → L'.map (·.2) = srtR (L.map (·.2)) → H p = none → Q (.ref p) (upd H p (.lst (L'.map fun q => V.ref q.1))))
section
variable {X : Cx}
theorem cr_sortSG (hc : X.calm = true) (hu : X.A.units + 70 < cLine) : CallR X (.builtin "sorted") (rSortSG X.K X.prog X.w) := by
  intro pins s σ H vs us Q I r h
  obtain ⟨a, L, rfl, ha, hk, q⟩ := h
  have R0 : SetG0 X.prog X.w s.heap a L := (I.hok a _ ha).1
  have few := R0.few
  obtain ⟨es, ep, t, R⟩ := R0.full fun p hp => I.isT (hk p hp)
  obtain ⟨hok, q⟩ := q R.one
  rw [Vals.ref1 r]
  refine sorted_setG R (I.ok.hd hc) hok few hu (fun p hp => ?_) fun s' p out c L1 k g o hp hg pm eo => ?_
  · exact Dp.reads I _ _ _ (Dp.tup (hk p hp) (dpAll_ints p.2)) (show RelV (V.ref p.1) (Value.ref p.1) from rfl)
  obtain ⟨L', e1, e2, e3⟩ := each_ex eo
  have hfew := few
  have hlen : (L'.map fun q => V.ref q.1).length ≤ sizeLine := by
    have e4 := congrArg List.length e2
    rw [List.length_map] at e4
    rw [List.length_map, e4, sizeLine_eq]
    unfold srtR
    rw [List.length_mergeSort, List.length_map, pm.length_eq]
    omega
  have hn : H p = none := I.hok.fresh hp
  have hv : Vals (L'.map fun q => V.ref q.1) out := by rw [e1]; exact vals_of_refs L'
  have J : Inv X pins σ (upd H p (.lst (L'.map fun q => V.ref q.1))) { s with heap := s'.heap, gens := s'.gens, drawn := s'.drawn, toks := s'.toks } :=
    I.call (ch := []) (Un.laid k hp hn) (I.hok.laid k hp ⟨hlen, out, c, hv, hg⟩) (by rw [g]; exact I.bare) (fun _ z => nomatch z)
  have e : s' = { s with heap := s'.heap, gens := s'.gens, drawn := s'.drawn, toks := s'.toks } := by
    cases s'
    cases s
    cases o
    rfl
  rw [e]
  exact ⟨.ref p, _, J, rfl, q L' p e3 (e2.trans (srtR_perm (pm.map _))) hn⟩
end
section
variable {X : Cx}
end
def dSortSG (M : List MO) (d : D) : Option D := ((listD M d).bind rowsL).bind fun rs => if (decide (rs.length ≤ 2000) && srtOk (uniqR rs)) = true then some (.lst ((srtR (uniqR rs)).map tupI)) else none
def gSortSG (ge : GE) : GE := fun Γ M => (ge Γ M).bind fun d M1 => opR (dSortSG M1 d) M1
@[simp] theorem u_gSortSG (ge : GE) (Γ : Env) (M : List MO) : gSortSG ge Γ M = ((ge Γ M).bind fun d M1 => opR (dSortSG M1 d) M1) := Eq.trans rfl rfl
theorem e_sortSG (M : List MO) {rs : List (List Int)} (hl : rs.length ≤ 2000) (hk : srtOk (uniqR rs) = true) : dSortSG M (.lst (rs.map fun is => D.tup (is.map D.int))) = some (.lst ((srtR (uniqR rs)).map tupI)) := by
  have : rowsL (rs.map fun is => D.tup (is.map D.int)) = some rs := rowsL_map rs
  simp [dSortSG, listD, this, hl, hk]
def dLenSetG (M : List MO) (d : D) : Option D := ((listD M d).bind rowsL).bind fun rs => if rs.length ≤ 2000 then some (.int ((uniqR rs).length : Nat)) else none
def gLenSetG (ge : GE) : GE := fun Γ M => (ge Γ M).bind fun d M1 => opR (dLenSetG M1 d) M1
@[simp] theorem u_gLenSetG (ge : GE) (Γ : Env) (M : List MO) : gLenSetG ge Γ M = ((ge Γ M).bind fun d M1 => opR (dLenSetG M1 d) M1) := Eq.trans rfl rfl
section
variable {X : Cx} {C : CT} {W : WX} {a : Expr} {ge : GE} {p p2 pos q : Pos}
theorem qe_sortSG (hc : X.calm = true) (hu : X.A.units + 70 < cLine) (hg : Gl X "sorted") (hm : X.mg "sorted" = none) (hg2 : Gl X "set") (hm2 : X.mg "set" = none) (ha : QE X C W a ge)
    (na : starEach [a] X.env = (false, eval a X.env) :: starEach [] X.env := by rfl) (nb : starEach [Expr.Call (.Name "set" p2) [a] [] q] X.env = (false, eval (.Call (.Name "set" p2) [a] [] q) X.env) :: starEach [] X.env := by rfl) :
    QE X C W (.Call (.Name "sorted" p) [.Call (.Name "set" p2) [a] [] q] [] pos) (gSortSG ge) := by
  obtain ⟨ta, pa, qa⟩ := ha
  have ps := pe_callTy (p := p2) (pos := q) (cr_setOfG hc (by omega)) hg2 hm2 (by decide +kernel) (pa_cons pa pa_nil na) (by decide) (by decide) na
  refine ⟨_, pe_callB (cr_sortSG hc hu) hg hm (by decide +kernel) (pa_cons ps pa_nil nb) (by decide) (by decide) nb, fun σ H Z ι Γ M Q sl hr h => ?_⟩
  refine qa σ H Z ι Γ M _ sl hr (Post.bind h fun x M1 v H1 Z1 ι1 e1 hr1 r1 h1 => ?_)
  obtain ⟨d, hd, h2⟩ := Post.of_opR (γ := D) (δ := V) h1
  unfold dSortSG at hd
  cases el : listD M1 x with
  | none => rw [el] at hd; cases hd
  | some ds =>
    rw [el, Option.bind_some] at hd
    cases er : rowsL ds with
    | none => rw [er] at hd; cases hd
    | some rs =>
      rw [er, Option.bind_some] at hd
      by_cases c : (decide (rs.length ≤ 2000) && srtOk (uniqR rs)) = true
      · rw [if_pos c] at hd
        cases hd
        simp only [Bool.and_eq_true, decide_eq_true_eq] at c
        obtain ⟨l, xs, rfl, ex, rp⟩ := listD_run hr1 r1 el
        have eds := rowsL_is er
        subst eds
        obtain ⟨ks, rfl, e2, e3⟩ := rows_ks rp
        have hks : ks.length = rs.length := by rw [← e2, List.length_map]
        refine ⟨l, ks, rfl, ex.sq, fun p hp => tupI_sq hr1.sub (e3 p hp), by rw [hks]; exact c.1, fun b L hb hs1 hs2 => ?_⟩
        have od : Odd Z1 ι1 M1.length b := .new hr1 hb
        have hrb : HR X.K (upd H1 b (SetGO X.prog X.w b L)) Z1 ι1 M1 := hr1.odd od
        have xb : Ext H1 Z1 ι1 M1.length (upd H1 b (SetGO X.prog X.w b L)) Z1 ι1 M1.length := (Ext.refl).touch hb
        refine ⟨b, L, rfl, upd_same, fun p hp => tupI_sq hrb.sub (e3 p (hs1 p hp)), fun nd => ?_⟩
        have pm : (L.map (·.2)).Perm (uniqR rs) := by
          refine (List.perm_ext_iff_of_nodup nd (uniqR_nodup rs)).mpr fun r => ?_
          rw [mem_uniqR, ← e2]
          constructor
          · intro hr
            obtain ⟨p, hp, rfl⟩ := List.mem_map.mp hr
            exact List.mem_map.mpr ⟨p, hs1 p hp, rfl⟩
          · intro hr
            obtain ⟨p, hp, rfl⟩ := List.mem_map.mp hr
            exact hs2 p hp
        refine ⟨srtOk_perm pm c.2, fun L' p' hL' eL' hp' => ?_⟩
        obtain ⟨hr3, x3⟩ := hrb.frozen (o := .lst (L'.map fun q => V.ref q.1)) hp'
        have rp' : Rps X.K Z1 ι1 M1.length ((srtR (uniqR rs)).map tupI) (L'.map fun p => V.ref p.1) := by
          rw [← srtR_perm pm, ← eL']
          exact rps_rows fun q hq => e3 q (hs1 q (hL' q hq))
        exact h2 _ _ _ _ (xb.trans x3 hrb.ali) hr3 (.lst (.inl (.inl upd_same)) (rp'.ext x3))
      · rw [if_neg c] at hd
        cases hd
end
end Bk

set_option Elab.async false
set_option linter.all false
set_option maxRecDepth 100000
set_option maxHeartbeats 4000000
namespace Bk
open PySem PySem.Spec PyProof.Rows L2
/-! ### repr of nested data, with lists of ours and empty dicts anywhere -/
section
variable (K : PySem.W.Frag) (H : Hp)
mutual
inductive Dz : V → PyData → Prop
  | dp {v : V} {p : PyData} : Dp K H v p → p.hasDict = false → Dz v p
  | emp {a : Addr} : EmD H a → Dz (.ref a) (.dict [])
  | lst {a : Addr} {xs : List V} {ps : List PyData} : SqL K H a xs → Dzs xs ps → Dz (.ref a) (.list ps)
  | tup {a : Addr} {xs : List V} {ps : List PyData} : SqT K H a xs → Dzs xs ps → Dz (.ref a) (.tuple ps)
inductive Dzs : List V → List PyData → Prop
  | nil : Dzs [] []
  | cons {v : V} {p : PyData} {xs : List V} {ps : List PyData} : Dz v p → Dzs xs ps → Dzs (v :: xs) (p :: ps)
end
end
section
variable {X : Cx} {pins : List (Addr × Obj)} {σ : L2.St} {H : Hp} {s : Shared}
/-- what writing it asks -/
abbrev Wr (X : Cx) (h : Heap) (u : Value) (p : PyData) : Prop := ∃ as bs, Reads h u p as ∧ ReadAtMost h p.depth bs ∧ ReprK X.prog X.w bs h p.depth u p.shown
mutual
theorem Dz.wr (I : Inv X pins σ H s) : ∀ {v : V} {p : PyData} {u : Value}, Dz X.K H v p → RelV v u → p.showable = true → p.shown.length ≤ sizeLine → Wr X s.heap u p
  | v, p, u, .dp h e, r, hs, hz => by
    obtain ⟨as, q⟩ := Dp.reads I _ _ _ h r
    obtain ⟨bs, b1, b2⟩ := ReprK.of_reads (prog := X.prog) (w := X.w) q hs (fun z => by rw [e] at z; cases z) hz
    exact ⟨as, bs, q, b1, b2⟩
  | _, _, u, .emp h, r, hs, hz => by
    obtain ⟨as, q, m⟩ := (ItX.emp h : ItX X.K H _ _).reads I r
    obtain ⟨bs, b1, b2⟩ := ReprK.of_reads (prog := X.prog) (w := X.w) q hs m hz
    exact ⟨as, bs, q, b1, b2⟩
  | _, _, u, .lst (a := a) (ps := ps) hl hi, r, hs, hz => by
    cases (show u = Value.ref a from r)
    have hz' : (listText (PyData.shownAll ps)).length ≤ sizeLine := by simpa only [PyData.shown] using hz
    obtain ⟨its, rv, ⟨o, n, h1, h2, _, h3⟩, _⟩ := I.list hl
    obtain ⟨as, bs, h4, hb, hk⟩ := Dzs.wr I hi rv (by simpa [PyData.showable] using hs) (fun t ht => Nat.le_trans (listText_mem_le ht) hz')
    have hr : Reads s.heap (.ref a) (.list ps) (a :: as) := .list h1 h2 h3 h4
    have hna : a ∉ bs := not_mem_of_deeper hr (by simp only [PyData.depth]; omega) hb
    refine ⟨a :: as, a :: bs, hr, ?_, ?_⟩
    · intro b hm
      rcases List.mem_cons.mp hm with rfl | hm
      · exact ⟨_, _, hr, Nat.le_refl _⟩
      · obtain ⟨d', as', q1, q2⟩ := hb b hm
        exact ⟨d', as', q1, by simp only [PyData.depth]; omega⟩
    · simp only [PyData.depth, PyData.shown]
      cases its with
      | nil =>
        cases h4
        simp only [PyData.shownAll, listText_nil]
        exact fun base hbz A g E s' Q a1 a2 a3 a4 a5 => (ReprK.listEmpty (as := a :: bs) (d := PyData.depthAll [] + 1) h1 h2 h3) base hbz A g E s' Q a1 a2 (by omega) a4 a5
      | cons x l => exact ReprK.list h1 h2 h3 hna (by simpa using hk.length_eq) (fun i y e => hk.item i y (by simpa using e))
  | _, _, u, .tup (a := a) (ps := ps) hl hi, r, hs, hz => by
    cases (show u = Value.ref a from r)
    have hz' : (tupleText (PyData.shownAll ps)).length ≤ sizeLine := by simpa only [PyData.shown] using hz
    obtain ⟨its, rv, ⟨o, h1, h2, n, h3⟩, _⟩ := I.tuple hl
    obtain ⟨as, bs, h4, hb, hk⟩ := Dzs.wr I hi rv (by simpa [PyData.showable] using hs) (fun t ht => Nat.le_trans (tupleText_mem_le ht) hz')
    have hr : Reads s.heap (.ref a) (.tuple ps) as := .tuple h1 h2 h3 h4
    have hna : a ∉ bs := not_mem_of_deeper hr (by simp only [PyData.depth]; omega) hb
    refine ⟨as, a :: bs, hr, ?_, ?_⟩
    · intro b hm
      rcases List.mem_cons.mp hm with rfl | hm
      · exact ⟨_, _, hr, Nat.le_refl _⟩
      · obtain ⟨d', as', q1, q2⟩ := hb b hm
        exact ⟨d', as', q1, by simp only [PyData.depth]; omega⟩
    · simp only [PyData.depth, PyData.shown]
      exact ReprK.tuple h1 h2 h3 hna (by simpa using hk)
theorem Dzs.wr (I : Inv X pins σ H s) : ∀ {vs : List V} {ps : List PyData} {us : List Value}, Dzs X.K H vs ps → Vals vs us → PyData.showableAll ps = true → (∀ t ∈ PyData.shownAll ps, t.length ≤ sizeLine) →
    ∃ as bs, ReadsAll s.heap us ps as ∧ ReadAtMost s.heap (PyData.depthAll ps) bs ∧ ReprAllK X.prog X.w bs s.heap (PyData.depthAll ps) us (PyData.shownAll ps)
  | _, _, _, .nil, .nil, _, _ => ⟨[], [], .nil, (fun _ h => nomatch h), by simp only [PyData.shownAll]; exact .nil⟩
  | _, _, _, .cons (p := d) (ps := ds) h hs, .cons r rs, hw, hz => by
    have hw' : d.showable = true ∧ PyData.showableAll ds = true := by simpa [PyData.showableAll] using hw
    obtain ⟨a1, b1, q1, hb1, k1⟩ := Dz.wr I h r hw'.1 (hz _ (by simp only [PyData.shownAll]; exact List.mem_cons_self ..))
    obtain ⟨a2, b2, q2, hb2, k2⟩ := Dzs.wr I hs rs hw'.2 (fun t ht => hz t (by simp only [PyData.shownAll]; exact List.mem_cons_of_mem _ ht))
    refine ⟨a1 ++ a2, b1 ++ b2, .cons q1 q2, ?_, ?_⟩
    · intro b hm
      simp only [PyData.depthAll]
      rcases List.mem_append.mp hm with hm | hm
      · obtain ⟨d', as', r', hd'⟩ := hb1 b hm
        exact ⟨d', as', r', Nat.le_trans hd' (Nat.le_max_left _ _)⟩
      · obtain ⟨d', as', r', hd'⟩ := hb2 b hm
        exact ⟨d', as', r', Nat.le_trans hd' (Nat.le_max_right _ _)⟩
    · simp only [PyData.depthAll, PyData.shownAll]
      exact .cons ((k1.more fun b hb => List.mem_append_left _ hb).level_le (Nat.le_max_left _ _)) (k2.more_le (fun b hb => List.mem_append_right _ hb) (Nat.le_max_right _ _))
end
end
end Bk

set_option Elab.async false
set_option linter.all false
set_option maxRecDepth 100000
set_option maxHeartbeats 4000000
namespace Bk
open PySem PySem.Spec PyProof.Rows L2
/-! ### repr of any nested data: the call -/
section
variable {X : Cx} {pins : List (Addr × Obj)} {σ : L2.St} {H : Hp} {s : Shared}
end
section
variable {X : Cx}
end
section
variable {K : PySem.W.Frag} {H Z : Hp} {ι : Nat → Addr} {M : List MO}
end
end Bk

set_option Elab.async false
set_option linter.all false
set_option maxRecDepth 100000
set_option maxHeartbeats 4000000
namespace Bk
open PySem PySem.Spec PyProof.Rows L2
/-! ### ==, of data with lists of ours, and of texts of any kind as well -/
def dEqS (M : List MO) (x y : D) : Option D := match x, y with
  | .str a, .str b => some (.bl (decide (a = b)))
  | x, y => dEqF M x y
def dNeS (M : List MO) (x y : D) : Option D := match x, y with
  | .str a, .str b => some (.bl (!decide (a = b)))
  | x, y => dNeF M x y
section
variable {X : Cx}
theorem ok_eqS : Ok2 X (fun x y H Q => rEqD X.K x y H Q ∨ rEq x y H Q) dEqS := fun x y H Z ι M dx dy d Q hr rx ry e q => by
  unfold dEqS at e
  split at e
  · cases e
    cases rx
    cases ry
    exact .inr ⟨rfl, q.now hr (by rw [str_dec]; exact .bl _)⟩
  · exact .inl (ok_eqF x y H Z ι M dx dy d Q hr rx ry e q)
theorem ok_neS : Ok2 X (fun x y H Q => rNeD X.K x y H Q ∨ rNe x y H Q) dNeS := fun x y H Z ι M dx dy d Q hr rx ry e q => by
  unfold dNeS at e
  split at e
  · cases e
    cases rx
    cases ry
    exact .inr ⟨rfl, q.now hr (by rw [str_dec]; exact .bl _)⟩
  · exact .inl (ok_neF x y H Z ι M dx dy d Q hr rx ry e q)
end
@[simp] theorem e_eqSS (M : List MO) (a b : Str) : dEqS M (.str a) (.str b) = some (.bl (decide (a = b))) := Eq.trans rfl rfl
@[simp] theorem e_neSS (M : List MO) (a b : Str) : dNeS M (.str a) (.str b) = some (.bl (!decide (a = b))) := Eq.trans rfl rfl
end Bk

set_option Elab.async false
set_option linter.all false
set_option maxRecDepth 100000
set_option maxHeartbeats 4000000
namespace Bk
open PySem PySem.Spec PyProof.Rows L2
/-! ### xs[::-1] as a list of ours -/
def gRevO (ge : GE) : GE := fun Γ M => (ge Γ M).bind fun x M1 => match listD M1 x with
  | some a => .ok (.ref M1.length) (M1 ++ [.lst a.reverse])
  | none => .bad
@[simp] theorem u_gRevO (ge : GE) (Γ : Env) (M : List MO) : gRevO ge Γ M = ((ge Γ M).bind fun x M1 => match listD M1 x with
  | some a => .ok (.ref M1.length) (M1 ++ [.lst a.reverse])
  | none => .bad) := Eq.trans rfl rfl
section
variable {X : Cx} {C : CT} {W : WX} {e : Expr} {g : GE} {p3 pos : Pos}
theorem qe_revO {k : Nat} {p1 p2 p3 pos : Pos} (he : QE X C W e g) : QE X C W (.Subscript e (.Slice none none (some (.UnaryOp .USub (.Constant (.int 1) k p1) p2)) p3) pos) (gRevO g) := by
  obtain ⟨te, pe, qe⟩ := he
  refine ⟨_, pe_revA2 pe, fun σ H Z ι Γ M Q sl hr h => qe σ H Z ι Γ M _ sl hr (Post.bind h fun x M1 v H1 Z1 ι1 e1 hr1 r1 h1 => ?_)⟩
  cases el : listD M1 x with
  | none => rw [el] at h1; exact h1.elim
  | some ds =>
    rw [el] at h1
    simp only at h1
    obtain ⟨a, xs, rfl, s, rs⟩ := listD_run hr1 r1 el
    refine ⟨a, xs, rfl, .inl ⟨s.sq, fun p hp => ?_⟩⟩
    obtain ⟨hr3, e3⟩ := hr1.owned hp rs.rev
    refine h1 _ _ _ _ e3 hr3 ?_
    have q : Rp X.K Z1 (put ι1 M1.length p) (M1 ++ [MO.lst ds.reverse]).length (.ref M1.length) (.ref (put ι1 M1.length p M1.length)) := .ref (by simp)
    rw [put_at] at q
    exact q
end
end Bk

set_option Elab.async false
set_option linter.all false
set_option maxRecDepth 100000
namespace My
open PySem PySem.Spec PyProof.Rows L2 Bk
noncomputable section
/-! ### the text -/
def topS (i : Nat) : Stmt := PySem.Challenge.pw_breakrows_k25_whole_plans_thinned_and_me.main.body.getD i (.Pass ⟨0, 0, 0, 0⟩)
abbrev s_is_integer : Stmt := topS 11
theorem sc_is_integer : FnScope ["value"] ["value"] (defScope s_is_integer) := ⟨rfl, rfl, rfl, by decide +kernel, rfl, by decide +kernel, by decide +kernel⟩
abbrev s_is_at_least : Stmt := topS 12
theorem sc_is_at_least : FnScope ["value", "low"] ["value", "low"] (defScope s_is_at_least) := ⟨rfl, rfl, rfl, by decide +kernel, rfl, by decide +kernel, by decide +kernel⟩
abbrev s_is_between : Stmt := topS 13
theorem sc_is_between : FnScope ["value", "low", "high"] ["value", "low", "high"] (defScope s_is_between) := ⟨rfl, rfl, rfl, by decide +kernel, rfl, by decide +kernel, by decide +kernel⟩
abbrev s_are_numbers : Stmt := topS 14
theorem sc_are_numbers : FnScope ["value", "entry"] ["value"] (defScope s_are_numbers) := ⟨rfl, rfl, rfl, by decide +kernel, rfl, by decide +kernel, by decide +kernel⟩
abbrev s_is_entries : Stmt := topS 17
theorem sc_is_entries : FnScope ["value"] ["value"] (defScope s_is_entries) := ⟨rfl, rfl, rfl, by decide +kernel, rfl, by decide +kernel, by decide +kernel⟩
abbrev s_is_row_of : Stmt := topS 18
theorem sc_is_row_of : FnScope ["value", "days", "entry"] ["value", "days"] (defScope s_is_row_of) := ⟨rfl, rfl, rfl, by decide +kernel, rfl, by decide +kernel, by decide +kernel⟩
abbrev s_require_rows : Stmt := topS 19
theorem sc_require_rows : FnScope ["plan", "days", "index", "row"] ["plan"] (defScope s_require_rows) := ⟨rfl, rfl, rfl, by decide +kernel, rfl, by decide +kernel, by decide +kernel⟩
abbrev s_require_beginning : Stmt := topS 20
theorem sc_require_beginning : FnScope ["plan", "past"] ["plan", "past"] (defScope s_require_beginning) := ⟨rfl, rfl, rfl, by decide +kernel, rfl, by decide +kernel, by decide +kernel⟩
abbrev s_levels_behind : Stmt := topS 21
theorem sc_levels_behind : FnScope ["plan", "past", "level", "row"] ["plan", "past"] (defScope s_levels_behind) := ⟨rfl, rfl, rfl, by decide +kernel, rfl, by decide +kernel, by decide +kernel⟩
abbrev s_tests_behind : Stmt := topS 22
theorem sc_tests_behind : FnScope ["plan", "past", "found", "numbers", "level", "least", "number"] ["plan", "past"] (defScope s_tests_behind) := ⟨rfl, rfl, rfl, by decide +kernel, rfl, by decide +kernel, by decide +kernel⟩
abbrev s_tests : Stmt := topS 23
theorem sc_tests : FnScope ["plan", "past"] ["plan", "past"] (defScope s_tests) := ⟨rfl, rfl, rfl, by decide +kernel, rfl, by decide +kernel, by decide +kernel⟩
abbrev s_level_of : Stmt := topS 24
theorem sc_level_of : FnScope ["plan", "row", "level", "one"] ["plan", "row"] (defScope s_level_of) := ⟨rfl, rfl, rfl, by decide +kernel, rfl, by decide +kernel, by decide +kernel⟩
abbrev s_thinned : Stmt := topS 25
theorem sc_thinned : FnScope ["plan", "levels", "index", "level"] ["plan", "levels"] (defScope s_thinned) := ⟨rfl, rfl, rfl, by decide +kernel, rfl, by decide +kernel, by decide +kernel⟩
abbrev s_merged : Stmt := topS 26
theorem sc_merged : FnScope ["one", "other", "found"] ["one", "other"] (defScope s_merged) := ⟨rfl, rfl, rfl, by decide +kernel, rfl, by decide +kernel, by decide +kernel⟩
abbrev s_law_mix : Stmt := topS 28
theorem sc_law_mix : FnScope ["_law_cell", "_law_turn", "_law_low"] ["_law_cell", "_law_turn"] (defScope s_law_mix) := ⟨rfl, rfl, rfl, by decide +kernel, rfl, by decide +kernel, by decide +kernel⟩
abbrev s_law_source : Stmt := topS 29
theorem sc_law_source : FnScope ["_law_cell"] ["_law_cell"] (defScope s_law_source) := ⟨rfl, rfl, rfl, by decide +kernel, rfl, by decide +kernel, by decide +kernel⟩
abbrev s_law_draw : Stmt := topS 30
theorem sc_law_draw : FnScope ["_law_source_here", "_law_limit", "_law_digit"] ["_law_source_here", "_law_limit"] (defScope s_law_draw) := ⟨rfl, rfl, rfl, by decide +kernel, rfl, by decide +kernel, by decide +kernel⟩
abbrev s_law_rows : Stmt := topS 31
theorem sc_law_rows : FnScope ["_law_source_here", "_law_days", "_law_many", "_law_found", "_law_level", "_law_top", "_law_row", "_law_shared", "_law_day"] ["_law_source_here", "_law_days", "_law_many"] (defScope s_law_rows) := ⟨rfl, rfl, rfl, by decide +kernel, rfl, by decide +kernel, by decide +kernel⟩
abbrev s_law_levels : Stmt := topS 32
theorem sc_law_levels : FnScope ["_law_plan", "_law_past", "_law_level", "_law_row"] ["_law_plan", "_law_past"] (defScope s_law_levels) := ⟨rfl, rfl, rfl, by decide +kernel, rfl, by decide +kernel, by decide +kernel⟩
abbrev s_law_thinned_right : Stmt := topS 33
theorem sc_law_thinned_right : FnScope ["_law_source_here", "_law_plan", "_law_levels_in", "_law_told", "_law_turn", "_law_past", "_law_inside", "_law_due", "_law_whole", "_law_number", "_law_level", "_law_one"] ["_law_source_here", "_law_plan"] (defScope s_law_thinned_right) := ⟨rfl, rfl, rfl, by decide +kernel, rfl, by decide +kernel, by decide +kernel⟩
abbrev s_law_merged_right : Stmt := topS 34
theorem sc_law_merged_right : FnScope ["_law_source_here", "_law_plan", "_law_other", "_law_told", "_law_levels_in", "_law_row"] ["_law_source_here", "_law_plan"] (defScope s_law_merged_right) := ⟨rfl, rfl, rfl, by decide +kernel, rfl, by decide +kernel, by decide +kernel⟩
abbrev s_law_said : Stmt := topS 35
theorem sc_law_said : FnScope ["_law_one", "_law_other", "e"] ["_law_one", "_law_other"] (defScope s_law_said) := ⟨rfl, rfl, rfl, by decide +kernel, rfl, by decide +kernel, by decide +kernel⟩
abbrev s_law : Stmt := topS 36
theorem sc_law : FnScope ["_law_script", "_law_cell", "_law_rows_here", "_law_some", "_law_source_here", "_law_plan", "_law_one"] ["_law_script"] (defScope s_law) := ⟨rfl, rfl, rfl, by decide +kernel, rfl, by decide +kernel, by decide +kernel⟩
abbrev s_InvalidPlan_init : Stmt := inClass (topS 5) 0
theorem sc_InvalidPlan_init : FnScope ["self", "index"] ["self", "index"] (defScope s_InvalidPlan_init) := ⟨rfl, rfl, rfl, by decide +kernel, rfl, by decide +kernel, by decide +kernel⟩
abbrev s_InvalidPast_init : Stmt := inClass (topS 4) 0
theorem sc_InvalidPast_init : FnScope ["self", "day"] ["self", "day"] (defScope s_InvalidPast_init) := ⟨rfl, rfl, rfl, by decide +kernel, rfl, by decide +kernel, by decide +kernel⟩
abbrev s_InvalidRow_init : Stmt := inClass (topS 3) 0
theorem sc_InvalidRow_init : FnScope ["self", "index"] ["self", "index"] (defScope s_InvalidRow_init) := ⟨rfl, rfl, rfl, by decide +kernel, rfl, by decide +kernel, by decide +kernel⟩
abbrev s_InvalidNumber_init : Stmt := inClass (topS 2) 0
theorem sc_InvalidNumber_init : FnScope ["self", "name"] ["self", "name"] (defScope s_InvalidNumber_init) := ⟨rfl, rfl, rfl, by decide +kernel, rfl, by decide +kernel, by decide +kernel⟩
abbrev s_Mismatch_init : Stmt := inClass (topS 6) 0
theorem sc_Mismatch_init : FnScope ["self", "name"] ["self", "name"] (defScope s_Mismatch_init) := ⟨rfl, rfl, rfl, by decide +kernel, rfl, by decide +kernel, by decide +kernel⟩
abbrev s_TooMany_init : Stmt := inClass (topS 7) 0
theorem sc_TooMany_init : FnScope ["self", "count"] ["self", "count"] (defScope s_TooMany_init) := ⟨rfl, rfl, rfl, by decide +kernel, rfl, by decide +kernel, by decide +kernel⟩
/-! ### what the bodies compute -/
def b_is_integer : GS := gRet (gAndV (gOp1 (dIsi "int") (gV 0)) (gOp1 dNot (gOp1 (dIsi "bool") (gV 0))))
def F_is_integer : List D → List MO → R D := runF 1 b_is_integer
def b_is_at_least : GS := gRet (gAndV (gCallF 1 F_is_integer (gCons (gV 0) (gNil))) (gOp2 dGe (gV 0) (gV 1)))
def F_is_at_least : List D → List MO → R D := runF 2 b_is_at_least
def b_is_between : GS := gRet (gAndV (gCallF 1 F_is_integer (gCons (gV 0) (gNil))) (gChain dLe dLe (gV 1) (gV 0) (gV 2)))
def F_is_between : List D → List MO → R D := runF 3 b_is_between
def le_are_numbers_1 : GE := gCallF 2 F_is_at_least (gCons (gV 1) (gCons (gC (.int 0)) (gNil)))
def b_are_numbers : GS := gRet (gAndV (gOp1 (dIsi "tuple") (gV 0)) (gCall (fn1 dAll) (gCons (gLc (gSeqI (gV 0)) (gTo 1) (gYes) (le_are_numbers_1) [1]) (gNil))))
def F_are_numbers : List D → List MO → R D := runF 2 b_are_numbers
def b_is_entries : GS := gRet (gAndV (gOp1 (dIsiT ["list", "tuple"]) (gV 0)) (gChain dLe dLe (gC (.int 1)) (gCall (fn1 dLen) (gCons (gV 0) (gNil))) (gC (.int 1000))))
def F_is_entries : List D → List MO → R D := runF 1 b_is_entries
def le_is_row_of_1 : GE := gCallF 3 F_is_between (gCons (gV 2) (gCons (gC (.int 0)) (gCons (gC (.int 12)) (gNil))))
def b_is_row_of : GS := gSeq (gIf (gOrT (gNotT (gVal (gOp1 (dIsi "tuple") (gV 0)))) (gVal (gOp2 dNeA (gCall (fn1 dLen) (gCons (gV 0) (gNil))) (gV 1)))) (gRet (gC (.bl false))) (gPass)) (gRet (gCall (fn1 dAll) (gCons (gLc (gSeqI (gV 0)) (gTo 2) (gYes) (le_is_row_of_1) [2]) (gNil))))
def F_is_row_of : List D → List MO → R D := runF 3 b_is_row_of
def lb_require_rows_1 : GS := gSeq (gIf (gOrT (gNotT (gVal (gCallF 2 F_is_row_of (gCons (gV 3) (gCons (gV 1) (gNil)))))) (gAndT (gVal (gOp2 dGtA (gV 2) (gC (.int 0)))) (gVal (gOp2 dGeA (gV 3) (gOp2 dIx (gV 0) (gOp2 dSub (gV 2) (gC (.int 1)))))))) (gRaise 0 (gV 2)) (gPass)) (gForget [2, 3])
def b_require_rows : GS := gSeq (gIf (gNotT (gVal (gCallF 1 F_is_entries (gCons (gV 0) (gNil))))) (gRaise 0 (gOp1 dNeg (gC (.int 1)))) (gPass)) (gSeq (gAsg (gIfE (gAndT (gVal (gOp1 (dIsi "tuple") (gOp2 dIx (gV 0) (gC (.int 0))))) (gVal (gOp2 dLe (gCall (fn1 dLen) (gCons (gOp2 dIx (gV 0) (gC (.int 0))) (gNil))) (gC (.int 100))))) (gCall (fn1 dLen) (gCons (gOp2 dIx (gV 0) (gC (.int 0))) (gNil))) (gOp1 dNeg (gC (.int 1)))) (gTo 1)) (gSeq (gSeq (gForget [2, 3]) (gForJ (gEnumJ (gV 0)) (gToT (gToCons (gTo 2) (gToCons (gTo 3) (gToNil)))) (lb_require_rows_1))) (gForget [2, 3])))
def F_require_rows : List D → List MO → R D := runF 4 b_require_rows
def b_require_beginning : GS := gIf (gOrT (gNotT (gVal (gCallF 1 F_are_numbers (gCons (gV 1) (gNil))))) (gVal (gOp2 dGt (gCall (fn1 dLen) (gCons (gV 1) (gNil))) (gCall (fn1 dLen) (gCons (gOp2 dIx (gV 0) (gC (.int 0))) (gNil)))))) (gRaise 1 (gOp1 dNeg (gC (.int 1)))) (gPass)
def F_require_beginning : List D → List MO → R D := runF 2 b_require_beginning
def b_levels_behind : GS := gRet (gLcK (gEnumJ (gV 0)) (gToT (gToCons (gTo 2) (gToCons (gTo 3) (gToNil)))) (gVal (gOp2 dEqA (gSl (gV 3) (gNoO) (gO (gCall (fn1 dLen) (gCons (gV 1) (gNil))))) (gV 1))) (gV 2) [2, 3])
def F_levels_behind : List D → List MO → R D := runF 4 b_levels_behind
def le_tests_behind_1 : GE := gOp2 dIx (gOp2 dIx (gV 0) (gV 4)) (gCall (fn1 dLen) (gCons (gV 1) (gNil)))
def le_tests_behind_3 : GE := gOp2 dAdd (gOp2 dIx (gV 2) (gC (.int 0))) (gCall (fn1 dLen) (gCons (gLc (gSeqI (gV 3)) (gTo 6) (gVal (gOp2 dGe (gV 6) (gV 5))) (gV 6) [6]) (gNil)))
def b_tests_behind : GS := gSeq (gAsg (gCallF 2 F_levels_behind (gCons (gV 0) (gCons (gV 1) (gNil)))) (gTo 2)) (gSeq (gIf (gVal (gOp2 dEqA (gV 2) (gLst (gNil)))) (gRet (gLst (gNil))) (gPass)) (gSeq (gAsg (gLc (gSeqI (gV 2)) (gTo 4) (gYes) (le_tests_behind_1) [4]) (gTo 3)) (gRet (gLc (gRng2 (gCons (gC (.int 1)) (gCons (gOp2 dAdd (gOp2 dIx (gV 3) (gC (.int 0))) (gC (.int 1))) (gNil)))) (gTo 5) (gYes) (le_tests_behind_3) [5]))))
def F_tests_behind : List D → List MO → R D := runF 7 b_tests_behind
def b_tests : GS := gSeq (gExpr (gCallF 1 F_require_rows (gCons (gV 0) (gNil)))) (gSeq (gExpr (gCallF 2 F_require_beginning (gCons (gV 0) (gCons (gV 1) (gNil))))) (gRet (gIfE (gVal (gOp2 dLt (gCall (fn1 dLen) (gCons (gV 1) (gNil))) (gCall (fn1 dLen) (gCons (gOp2 dIx (gV 0) (gC (.int 0))) (gNil))))) (gCallF 2 F_tests_behind (gCons (gV 0) (gCons (gV 1) (gNil)))) (gLst (gNil)))))
def F_tests : List D → List MO → R D := runF 2 b_tests
def b_level_of : GS := gSeq (gExpr (gCallF 1 F_require_rows (gCons (gV 0) (gNil)))) (gSeq (gIf (gOrT (gNotT (gVal (gCallF 1 F_are_numbers (gCons (gV 1) (gNil))))) (gVal (gOp2 dNeA (gCall (fn1 dLen) (gCons (gV 1) (gNil))) (gCall (fn1 dLen) (gCons (gOp2 dIx (gV 0) (gC (.int 0))) (gNil)))))) (gRaise 2 (gOp1 dNeg (gC (.int 1)))) (gPass)) (gRet (gOp2 dIx (gOp2 dAdd (gLcJ (gEnumJ (gV 0)) (gToT (gToCons (gTo 2) (gToCons (gTo 3) (gToNil)))) (gVal (gOp2 dEqA (gV 3) (gV 1))) (gV 2) [2, 3]) (gLst (gCons (gC .non) (gNil)))) (gC (.int 0)))))
def F_level_of : List D → List MO → R D := runF 4 b_level_of
def lb_thinned_1 : GS := gSeq (gIf (gOrT (gNotT (gVal (gCallF 3 F_is_between (gCons (gV 3) (gCons (gC (.int 0)) (gCons (gOp2 dSub (gCall (fn1 dLen) (gCons (gV 0) (gNil))) (gC (.int 1))) (gNil))))))) (gAndT (gVal (gOp2 dGt (gV 2) (gC (.int 0)))) (gVal (gOp2 dLe (gV 3) (gOp2 dIx (gV 1) (gOp2 dSub (gV 2) (gC (.int 1)))))))) (gRaise 3 (gC (.str (Str.ofString "levels")))) (gPass)) (gForget [2, 3])
def le_thinned_1 : GE := gOp2 dIx (gV 0) (gV 3)
def b_thinned : GS := gSeq (gExpr (gCallF 1 F_require_rows (gCons (gV 0) (gNil)))) (gSeq (gIf (gOrT (gNotT (gVal (gOp1 (dIsiT ["list", "tuple"]) (gV 1)))) (gVal (gOp2 dEqA (gCall (fn1 dLen) (gCons (gV 1) (gNil))) (gC (.int 0))))) (gRaise 3 (gC (.str (Str.ofString "levels")))) (gPass)) (gSeq (gSeq (gSeq (gForget [2, 3]) (gForJ (gEnumJ (gV 1)) (gToT (gToCons (gTo 2) (gToCons (gTo 3) (gToNil)))) (lb_thinned_1))) (gForget [2, 3])) (gRet (gLcO (gSeqI (gV 1)) (gTo 3) (gYes) (le_thinned_1) [3]))))
def F_thinned : List D → List MO → R D := runF 4 b_thinned
def b_merged : GS := gSeq (gExpr (gCallF 1 F_require_rows (gCons (gV 0) (gNil)))) (gSeq (gExpr (gCallF 1 F_require_rows (gCons (gV 1) (gNil)))) (gSeq (gIf (gVal (gOp2 dNeA (gCall (fn1 dLen) (gCons (gOp2 dIx (gV 0) (gC (.int 0))) (gNil))) (gCall (fn1 dLen) (gCons (gOp2 dIx (gV 1) (gC (.int 0))) (gNil))))) (gRaise 4 (gC (.str (Str.ofString "other")))) (gPass)) (gSeq (gAsg (gRevO (gSortSG (gOp2 dAdd (gCall (fn1 dList) (gCons (gV 0) (gNil))) (gCall (fn1 dList) (gCons (gV 1) (gNil)))))) (gTo 2)) (gSeq (gIf (gVal (gOp2 dGt (gCall (fn1 dLen) (gCons (gV 2) (gNil))) (gC (.int 1000)))) (gRaise 5 (gCall (fn1 dLen) (gCons (gV 2) (gNil)))) (gPass)) (gRet (gV 2))))))
def F_merged : List D → List MO → R D := runF 3 b_merged
def b_law_mix : GS := gSeq (gAsg (gOp2 dAdd (gOp2 dMod (gV 0) (gC (.int 2147483647))) (gOp2 dMulT (gOp2 dMod (gOp2 dFdiv (gV 0) (gC (.int 2147483647))) (gC (.int 1000003))) (gC (.int 7919)))) (gTo 2)) (gSeq (gAsg (gOp2 dMod (gOp2 dMulT (gOp2 dAdd (gOp2 dAdd (gV 2) (gOp2 dMulT (gC (.int 15485863)) (gV 1))) (gC (.int 104729))) (gC (.int 48271))) (gC (.int 2147483629))) (gTo 2)) (gSeq (gAsg (gOp2 dMod (gOp2 dMulT (gV 2) (gOp2 dAdd (gOp2 dAdd (gOp2 dFdiv (gV 2) (gC (.int 1009))) (gC (.int 69621))) (gV 1))) (gC (.int 2147483587))) (gTo 2)) (gRet (gOp2 dMod (gOp2 dMulT (gV 2) (gOp2 dAdd (gOp2 dFdiv (gV 2) (gC (.int 2003))) (gC (.int 40692)))) (gC (.int 2147483563))))))
def F_law_mix : List D → List MO → R D := runF 3 b_law_mix
def b_law_source : GS := gRet (gLstO (gCons (gOp2 dMulT (gCall (fn1 dAbs) (gCons (gV 0) (gNil))) (gCall (fn1 dInt) (gCons (gOp2 dGe (gCall (fn1 dAbs) (gCons (gV 0) (gNil))) (gOp2 dPow (gC (.int 10)) (gC (.int 18)))) (gNil)))) (gCons (gCall (fn1 dAbs) (gCons (gV 0) (gNil))) (gCons (gC (.int 0)) (gNil)))))
def F_law_source : List D → List MO → R D := runF 1 b_law_source
def b_law_draw : GS := gSeq (gIf (gVal (gOp2 dGt (gOp2 dIx (gV 0) (gC (.int 0))) (gC (.int 0)))) (gSeq (gAsg (gOp2 dMod (gOp2 dIx (gV 0) (gC (.int 0))) (gV 1)) (gTo 2)) (gSeq (gSetI (gOp2 dFdiv (gOp2 dIx (gV 0) (gC (.int 0))) (gV 1)) (gV 0) (gC (.int 0))) (gRet (gV 2)))) (gPass)) (gSeq (gSetI (gOp2 dAdd (gOp2 dIx (gV 0) (gC (.int 2))) (gC (.int 1))) (gV 0) (gC (.int 2))) (gRet (gOp2 dMod (gCallF 2 F_law_mix (gCons (gOp2 dIx (gV 0) (gC (.int 1))) (gCons (gOp2 dIx (gV 0) (gC (.int 2))) (gNil)))) (gV 1))))
def F_law_draw : List D → List MO → R D := runF 3 b_law_draw
def le_law_rows_1 : GE := gCallF 2 F_law_draw (gCons (gV 0) (gCons (gV 5) (gNil)))
def lb_law_rows_1 : GS := gSeq (gAsg (gOp2 dIx (gLst (gCons (gC (.int 1)) (gCons (gC (.int 2)) (gCons (gC (.int 4)) (gCons (gC (.int 13)) (gNil)))))) (gCallF 2 F_law_draw (gCons (gV 0) (gCons (gC (.int 4)) (gNil))))) (gTo 5)) (gSeq (gAsg (gLc (gRng1 (gCons (gV 1) (gNil))) (gTo 8) (gYes) (le_law_rows_1) [8]) (gTo 6)) (gSeq (gIf (gVal (gOp2 dNeA (gV 3) (gLst (gNil)))) (gSeq (gAsg (gCallF 2 F_law_draw (gCons (gV 0) (gCons (gOp2 dAdd (gV 1) (gC (.int 1))) (gNil)))) (gTo 7)) (gAsg (gOp2 dAdd (gCall (fn1 dList) (gCons (gSl (gOp2 dIx (gV 3) (gCallF 2 F_law_draw (gCons (gV 0) (gCons (gCall (fn1 dLen) (gCons (gV 3) (gNil))) (gNil))))) (gNoO) (gO (gV 7))) (gNil))) (gSl (gV 6) (gO (gV 7)) (gNoO))) (gTo 6))) (gPass)) (gSeq (gExpr (gMeth1 mAppend (gV 3) (gCall (fn1 dTuple) (gCons (gV 6) (gNil))))) (gForget [4, 5, 6, 7]))))
def b_law_rows : GS := gSeq (gAsg (gLstO (gNil)) (gTo 3)) (gSeq (gSeq (gSeq (gSeq (gForget [4, 5, 6, 7]) (gFor (gRng1 (gCons (gV 2) (gNil))) (gTo 4) (lb_law_rows_1))) (gForget [4, 5, 6, 7])) (gFz 3)) (gRet (gRevA (gSortS (gV 3)))))
def F_law_rows : List D → List MO → R D := runF 9 b_law_rows
def b_law_levels : GS := gRet (gLc (gEnum (gV 0)) (gToT (gToCons (gTo 2) (gToCons (gTo 3) (gToNil)))) (gVal (gOp2 dEqA (gSl (gV 3) (gNoO) (gO (gCall (fn1 dLen) (gCons (gV 1) (gNil))))) (gV 1))) (gV 2) [2, 3])
def F_law_levels : List D → List MO → R D := runF 4 b_law_levels
def le_law_thinned_right_2 : GE := gOp2 dIx (gV 1) (gV 10)
def le_law_thinned_right_5 : GE := gCall (fn1 dLen) (gCons (gLc (gSeqI (gV 2)) (gTo 10) (gVal (gOp2 dLtA (gV 10) (gV 11))) (gV 10) [10]) (gNil))
def lb_law_thinned_right_1 : GS := gSeq (gAsg (gSl (gOp2 dIx (gV 1) (gCallF 2 F_law_draw (gCons (gV 0) (gCons (gCall (fn1 dLen) (gCons (gV 1) (gNil))) (gNil))))) (gNoO) (gO (gCallF 2 F_law_draw (gCons (gV 0) (gCons (gOp2 dAdd (gCall (fn1 dLen) (gCons (gOp2 dIx (gV 1) (gC (.int 0))) (gNil))) (gC (.int 1))) (gNil)))))) (gTo 5)) (gSeq (gAsg (gLc (gSeqI (gV 2)) (gTo 10) (gVal (gOp2 dInA (gV 10) (gCallF 2 F_law_levels (gCons (gV 1) (gCons (gV 5) (gNil)))))) (gV 10) [10]) (gTo 6)) (gSeq (gAsg (gLst (gNil)) (gTo 7)) (gSeq (gIf (gAndT (gVal (gOp2 dNeS (gV 6) (gLst (gNil)))) (gVal (gOp2 dLtA (gCall (fn1 dLen) (gCons (gV 5) (gNil))) (gCall (fn1 dLen) (gCons (gOp2 dIx (gV 1) (gC (.int 0))) (gNil)))))) (gSeq (gAsg (gCallF 2 F_tests (gCons (gV 1) (gCons (gV 5) (gNil)))) (gTo 8)) (gSeq (gAsg (gOp2 dIx (gOp2 dIx (gV 1) (gOp2 dIx (gV 6) (gC (.int 0)))) (gCall (fn1 dLen) (gCons (gV 5) (gNil)))) (gTo 9)) (gAsg (gLc (gSeqI (gSl (gV 8) (gNoO) (gO (gV 9)))) (gTo 11) (gYes) (le_law_thinned_right_5) [11]) (gTo 7)))) (gPass)) (gSeq (gIf (gVal (gOp2 dNeS (gCallF 2 F_tests (gCons (gV 3) (gCons (gV 5) (gNil)))) (gV 7))) (gRet (gC (.bl false))) (gPass)) (gForget [4, 5, 6, 7, 8, 9])))))
def b_law_thinned_right : GS := gSeq (gAsg (gLc (gRng1 (gCons (gCall (fn1 dLen) (gCons (gV 1) (gNil))) (gNil))) (gTo 10) (gVal (gOp2 dEqS (gCallF 2 F_law_draw (gCons (gV 0) (gCons (gC (.int 3)) (gNil)))) (gC (.int 0)))) (gV 10) [10]) (gTo 2)) (gSeq (gIf (gVal (gOp2 dEqS (gV 2) (gLst (gNil)))) (gAsg (gLst (gCons (gCallF 2 F_law_draw (gCons (gV 0) (gCons (gCall (fn1 dLen) (gCons (gV 1) (gNil))) (gNil)))) (gNil))) (gTo 2)) (gPass)) (gSeq (gAsg (gCallF 2 F_thinned (gCons (gV 1) (gCons (gV 2) (gNil)))) (gTo 3)) (gSeq (gIf (gOrT (gVal (gOp2 dNeS (gV 3) (gLc (gSeqI (gV 2)) (gTo 10) (gYes) (le_law_thinned_right_2) [10]))) (gNotT (gVal (gOp1 (dIsi "list") (gV 3))))) (gRet (gC (.bl false))) (gPass)) (gSeq (gSeq (gSeq (gForget [4, 5, 6, 7, 8, 9]) (gFor (gRng1 (gCons (gC (.int 5)) (gNil))) (gTo 4) (lb_law_thinned_right_1))) (gForget [4, 5, 6, 7, 8, 9])) (gSeq (gSeq (gExpr (gMeth1 mAppend (gV 3) (gC .non))) (gFz 3)) (gRet (gOp2 dEqS (gCallF 2 F_thinned (gCons (gCall (fn1 dTuple) (gCons (gV 1) (gNil))) (gCons (gCall (fn1 dTuple) (gCons (gV 2) (gNil))) (gNil)))) (gSl (gV 3) (gNoO) (gO (gOp1 dNeg (gC (.int 1))))))))))))
def F_law_thinned_right : List D → List MO → R D := runF 12 b_law_thinned_right
def le_law_merged_right_2 : GE := gCallF 2 F_level_of (gCons (gV 3) (gCons (gV 5) (gNil)))
def b_law_merged_right : GS := gSeq (gAsg (gCallF 3 F_law_rows (gCons (gV 0) (gCons (gCall (fn1 dLen) (gCons (gOp2 dIx (gV 1) (gC (.int 0))) (gNil))) (gCons (gOp2 dAdd (gC (.int 1)) (gCallF 2 F_law_draw (gCons (gV 0) (gCons (gC (.int 40)) (gNil))))) (gNil))))) (gTo 2)) (gSeq (gAsg (gRevA (gSortSG (gOp2 dAdd (gV 2) (gLc (gSeqI (gV 1)) (gTo 5) (gVal (gOp2 dEqS (gCallF 2 F_law_draw (gCons (gV 0) (gCons (gC (.int 4)) (gNil)))) (gC (.int 0)))) (gV 5) [5])))) (gTo 2)) (gSeq (gAsg (gCallF 2 F_merged (gCons (gV 1) (gCons (gV 2) (gNil)))) (gTo 3)) (gSeq (gIf (gOrT (gVal (gOp2 dNeS (gV 3) (gRevA (gSortSG (gOp2 dAdd (gV 1) (gV 2)))))) (gVal (gOp2 dNeS (gCallF 2 F_merged (gCons (gCall (fn1 dTuple) (gCons (gV 2) (gNil))) (gCons (gV 1) (gNil)))) (gV 3)))) (gRet (gC (.bl false))) (gPass)) (gSeq (gIf (gVal (gOp2 dNeS (gCallF 2 F_merged (gCons (gV 1) (gCons (gV 1) (gNil)))) (gV 1))) (gRet (gC (.bl false))) (gPass)) (gSeq (gAsg (gLc (gSeqI (gV 2)) (gTo 5) (gYes) (le_law_merged_right_2) [5]) (gTo 4)) (gSeq (gIf (gVal (gOp2 dNeS (gCallF 2 F_thinned (gCons (gV 3) (gCons (gV 4) (gNil)))) (gV 2))) (gRet (gC (.bl false))) (gPass)) (gSeq (gExpr (gMeth0 mClear (gV 3))) (gRet (gOp2 dNeS (gCallF 2 F_merged (gCons (gV 1) (gCons (gV 2) (gNil)))) (gLst (gNil)))))))))))
def F_law_merged_right : List D → List MO → R D := runF 6 b_law_merged_right
def b_law_said : GS := gTry 6 (gRet (gTup (gCons (gC (.str (Str.ofString "rows"))) (gCons (gCall (fn1 dLen) (gCons (gCallF 2 F_merged (gCons (gV 0) (gCons (gV 1) (gNil)))) (gNil))) (gNil))))) [⟨fun j => decide (j = 5), some 2, fun d => gRet (gTup (gCons (gC (.str (Str.ofString "many"))) (gCons (gC d) (gNil))))⟩]
def F_law_said : List D → List MO → R D := runF 3 b_law_said
def lb_law_1 : GS := gScope (gSeq (gAsg (gCallF 1 F_law_source (gCons (gV 1) (gNil))) (gTo 4)) (gSeq (gAsg (gCallF 3 F_law_rows (gCons (gV 4) (gCons (gOp2 dAdd (gC (.int 1)) (gCallF 2 F_law_draw (gCons (gV 4) (gCons (gC (.int 8)) (gNil))))) (gCons (gOp2 dAdd (gC (.int 1)) (gCallF 2 F_law_draw (gCons (gV 4) (gCons (gC (.int 40)) (gNil))))) (gNil))))) (gTo 5)) (gSeq (gIf (gOrT (gNotT (gVal (gCallF 2 F_law_thinned_right (gCons (gV 4) (gCons (gV 5) (gNil)))))) (gNotT (gVal (gCallF 2 F_law_merged_right (gCons (gV 4) (gCons (gV 5) (gNil))))))) (gRet (gC (.bl false))) (gPass)) (gForget [1, 4, 5]))))
def le_law_1 : GE := gTup (gCons (gOp2 dFdiv (gV 6) (gC (.int 169))) (gCons (gOp2 dMod (gOp2 dFdiv (gV 6) (gC (.int 13))) (gC (.int 13))) (gCons (gOp2 dMod (gV 6) (gC (.int 13))) (gNil))))
def b_law : GS := gSeq (gSeq (gSeq (gForget [1, 4, 5]) (gFor (gSeqI (gOp2 dAdd (gLst (gCons (gC (.int 0)) (gNil))) (gSl (gV 0) (gNoO) (gO (gC (.int 4)))))) (gTo 1) (lb_law_1))) (gForget [1, 4, 5])) (gSeq (gAsg (gSortNR (gLc (gRng1 (gCons (gC (.int 1800)) (gNil))) (gTo 6) (gYes) (le_law_1) [6])) (gTo 2)) (gSeq (gAsg (gLstO (gCons (gCallF 2 F_law_said (gCons (gSl (gV 2) (gNoO) (gO (gC (.int 600)))) (gCons (gSl (gV 2) (gO (gC (.int 400))) (gO (gC (.int 1000)))) (gNil)))) (gCons (gCallF 2 F_law_said (gCons (gSl (gV 2) (gNoO) (gO (gC (.int 600)))) (gCons (gSl (gV 2) (gO (gC (.int 599))) (gO (gC (.int 1001)))) (gNil)))) (gNil)))) (gTo 3)) (gSeq (gSeq (gExpr (gMeth1 mAppend (gV 3) (gCallF 2 F_law_said (gCons (gSl (gV 2) (gNoO) (gO (gC (.int 1000)))) (gCons (gSl (gV 2) (gO (gC (.int 800))) (gO (gC (.int 1800)))) (gNil)))))) (gFz 3)) (gRet (gOp2 dEqA (gV 3) (gLst (gCons (gTup (gCons (gC (.str (Str.ofString "rows"))) (gCons (gC (.int 1000)) (gNil)))) (gCons (gTup (gCons (gC (.str (Str.ofString "many"))) (gCons (gC (.int 1001)) (gNil)))) (gCons (gTup (gCons (gC (.str (Str.ofString "many"))) (gCons (gC (.int 1800)) (gNil)))) (gNil))))))))))
def F_law : List D → List MO → R D := runF 7 b_law
/-! ### where everything stands -/
structure Ad where
  f_is_integer : Addr
  fd_is_integer : FuncData
  f_is_at_least : Addr
  fd_is_at_least : FuncData
  f_is_between : Addr
  fd_is_between : FuncData
  f_are_numbers : Addr
  fd_are_numbers : FuncData
  f_is_entries : Addr
  fd_is_entries : FuncData
  f_is_row_of : Addr
  fd_is_row_of : FuncData
  f_require_rows : Addr
  fd_require_rows : FuncData
  f_require_beginning : Addr
  fd_require_beginning : FuncData
  f_levels_behind : Addr
  fd_levels_behind : FuncData
  f_tests_behind : Addr
  fd_tests_behind : FuncData
  f_tests : Addr
  fd_tests : FuncData
  f_level_of : Addr
  fd_level_of : FuncData
  f_thinned : Addr
  fd_thinned : FuncData
  f_merged : Addr
  fd_merged : FuncData
  f_law_mix : Addr
  fd_law_mix : FuncData
  f_law_source : Addr
  fd_law_source : FuncData
  f_law_draw : Addr
  fd_law_draw : FuncData
  f_law_rows : Addr
  fd_law_rows : FuncData
  f_law_levels : Addr
  fd_law_levels : FuncData
  f_law_thinned_right : Addr
  fd_law_thinned_right : FuncData
  f_law_merged_right : Addr
  fd_law_merged_right : FuncData
  f_law_said : Addr
  fd_law_said : FuncData
  f_law : Addr
  fd_law : FuncData
  xf_InvalidPlan : Addr
  xd_InvalidPlan : FuncData
  xf_InvalidPast : Addr
  xd_InvalidPast : FuncData
  xf_InvalidRow : Addr
  xd_InvalidRow : FuncData
  xf_InvalidNumber : Addr
  xd_InvalidNumber : FuncData
  xf_Mismatch : Addr
  xd_Mismatch : FuncData
  xf_TooMany : Addr
  xd_TooMany : FuncData
  x_InvalidPlan : Addr
  x_InvalidPast : Addr
  x_InvalidRow : Addr
  x_InvalidNumber : Addr
  x_Mismatch : Addr
  x_TooMany : Addr
  t_MAX_DAYS : Tok
  t_MAX_LEVELS : Tok
  t_MAX_OWNED : Tok
def errC (A : Ad) : CT := ⟨fun n => match n with | 0 => A.x_InvalidPlan | 1 => A.x_InvalidPast | 2 => A.x_InvalidRow | 3 => A.x_InvalidNumber | 4 => A.x_Mismatch | 5 => A.x_TooMany | _ => A.x_InvalidPlan, fun n => match n with | 0 => "index" | 1 => "day" | 2 => "index" | 3 => "name" | 4 => "name" | 5 => "count" | _ => ""⟩
structure Tx (K : PySem.W.Frag) (mg : Str → Option Value) (A : Ad) : Prop where
  F_is_integer : Fun K "is_integer" "is_integer" s_is_integer A.f_is_integer A.fd_is_integer
  b_is_integer : Binds K A.fd_is_integer ["value"] []
  g_is_integer : mg "is_integer" = some (.ref A.f_is_integer)
  F_is_at_least : Fun K "is_at_least" "is_at_least" s_is_at_least A.f_is_at_least A.fd_is_at_least
  b_is_at_least : Binds K A.fd_is_at_least ["value", "low"] []
  g_is_at_least : mg "is_at_least" = some (.ref A.f_is_at_least)
  F_is_between : Fun K "is_between" "is_between" s_is_between A.f_is_between A.fd_is_between
  b_is_between : Binds K A.fd_is_between ["value", "low", "high"] []
  g_is_between : mg "is_between" = some (.ref A.f_is_between)
  F_are_numbers : Fun K "are_numbers" "are_numbers" s_are_numbers A.f_are_numbers A.fd_are_numbers
  b_are_numbers : Binds K A.fd_are_numbers ["value"] []
  g_are_numbers : mg "are_numbers" = some (.ref A.f_are_numbers)
  F_is_entries : Fun K "is_entries" "is_entries" s_is_entries A.f_is_entries A.fd_is_entries
  b_is_entries : Binds K A.fd_is_entries ["value"] []
  g_is_entries : mg "is_entries" = some (.ref A.f_is_entries)
  F_is_row_of : Fun K "is_row_of" "is_row_of" s_is_row_of A.f_is_row_of A.fd_is_row_of
  b_is_row_of : Binds K A.fd_is_row_of ["value", "days"] []
  g_is_row_of : mg "is_row_of" = some (.ref A.f_is_row_of)
  F_require_rows : Fun K "require_rows" "require_rows" s_require_rows A.f_require_rows A.fd_require_rows
  b_require_rows : Binds K A.fd_require_rows ["plan"] []
  g_require_rows : mg "require_rows" = some (.ref A.f_require_rows)
  F_require_beginning : Fun K "require_beginning" "require_beginning" s_require_beginning A.f_require_beginning A.fd_require_beginning
  b_require_beginning : Binds K A.fd_require_beginning ["plan", "past"] []
  g_require_beginning : mg "require_beginning" = some (.ref A.f_require_beginning)
  F_levels_behind : Fun K "levels_behind" "levels_behind" s_levels_behind A.f_levels_behind A.fd_levels_behind
  b_levels_behind : Binds K A.fd_levels_behind ["plan", "past"] []
  g_levels_behind : mg "levels_behind" = some (.ref A.f_levels_behind)
  F_tests_behind : Fun K "tests_behind" "tests_behind" s_tests_behind A.f_tests_behind A.fd_tests_behind
  b_tests_behind : Binds K A.fd_tests_behind ["plan", "past"] []
  g_tests_behind : mg "tests_behind" = some (.ref A.f_tests_behind)
  F_tests : Fun K "tests" "tests" s_tests A.f_tests A.fd_tests
  b_tests : Binds K A.fd_tests ["plan", "past"] []
  g_tests : mg "tests" = some (.ref A.f_tests)
  F_level_of : Fun K "level_of" "level_of" s_level_of A.f_level_of A.fd_level_of
  b_level_of : Binds K A.fd_level_of ["plan", "row"] []
  g_level_of : mg "level_of" = some (.ref A.f_level_of)
  F_thinned : Fun K "thinned" "thinned" s_thinned A.f_thinned A.fd_thinned
  b_thinned : Binds K A.fd_thinned ["plan", "levels"] []
  g_thinned : mg "thinned" = some (.ref A.f_thinned)
  F_merged : Fun K "merged" "merged" s_merged A.f_merged A.fd_merged
  b_merged : Binds K A.fd_merged ["one", "other"] []
  g_merged : mg "merged" = some (.ref A.f_merged)
  F_law_mix : Fun K "_law_mix" "_law_mix" s_law_mix A.f_law_mix A.fd_law_mix
  b_law_mix : Binds K A.fd_law_mix ["_law_cell", "_law_turn"] []
  g_law_mix : mg "_law_mix" = some (.ref A.f_law_mix)
  F_law_source : Fun K "_law_source" "_law_source" s_law_source A.f_law_source A.fd_law_source
  b_law_source : Binds K A.fd_law_source ["_law_cell"] []
  g_law_source : mg "_law_source" = some (.ref A.f_law_source)
  F_law_draw : Fun K "_law_draw" "_law_draw" s_law_draw A.f_law_draw A.fd_law_draw
  b_law_draw : Binds K A.fd_law_draw ["_law_source_here", "_law_limit"] []
  g_law_draw : mg "_law_draw" = some (.ref A.f_law_draw)
  F_law_rows : Fun K "_law_rows" "_law_rows" s_law_rows A.f_law_rows A.fd_law_rows
  b_law_rows : Binds K A.fd_law_rows ["_law_source_here", "_law_days", "_law_many"] []
  g_law_rows : mg "_law_rows" = some (.ref A.f_law_rows)
  F_law_levels : Fun K "_law_levels" "_law_levels" s_law_levels A.f_law_levels A.fd_law_levels
  b_law_levels : Binds K A.fd_law_levels ["_law_plan", "_law_past"] []
  g_law_levels : mg "_law_levels" = some (.ref A.f_law_levels)
  F_law_thinned_right : Fun K "_law_thinned_right" "_law_thinned_right" s_law_thinned_right A.f_law_thinned_right A.fd_law_thinned_right
  b_law_thinned_right : Binds K A.fd_law_thinned_right ["_law_source_here", "_law_plan"] []
  g_law_thinned_right : mg "_law_thinned_right" = some (.ref A.f_law_thinned_right)
  F_law_merged_right : Fun K "_law_merged_right" "_law_merged_right" s_law_merged_right A.f_law_merged_right A.fd_law_merged_right
  b_law_merged_right : Binds K A.fd_law_merged_right ["_law_source_here", "_law_plan"] []
  g_law_merged_right : mg "_law_merged_right" = some (.ref A.f_law_merged_right)
  F_law_said : Fun K "_law_said" "_law_said" s_law_said A.f_law_said A.fd_law_said
  b_law_said : Binds K A.fd_law_said ["_law_one", "_law_other"] []
  g_law_said : mg "_law_said" = some (.ref A.f_law_said)
  F_law : Fun K "law" "law" s_law A.f_law A.fd_law
  b_law : Binds K A.fd_law ["_law_script"] []
  g_law : mg "law" = some (.ref A.f_law)
  x_InvalidPlan : XC K A.x_InvalidPlan A.xf_InvalidPlan "index" A.xd_InvalidPlan s_InvalidPlan_init "InvalidPlan.__init__"
  x_InvalidPast : XC K A.x_InvalidPast A.xf_InvalidPast "day" A.xd_InvalidPast s_InvalidPast_init "InvalidPast.__init__"
  x_InvalidRow : XC K A.x_InvalidRow A.xf_InvalidRow "index" A.xd_InvalidRow s_InvalidRow_init "InvalidRow.__init__"
  x_InvalidNumber : XC K A.x_InvalidNumber A.xf_InvalidNumber "name" A.xd_InvalidNumber s_InvalidNumber_init "InvalidNumber.__init__"
  x_Mismatch : XC K A.x_Mismatch A.xf_Mismatch "name" A.xd_Mismatch s_Mismatch_init "Mismatch.__init__"
  x_TooMany : XC K A.x_TooMany A.xf_TooMany "count" A.xd_TooMany s_TooMany_init "TooMany.__init__"
  gx_InvalidPlan : mg "InvalidPlan" = some (.ref A.x_InvalidPlan)
  gx_InvalidPast : mg "InvalidPast" = some (.ref A.x_InvalidPast)
  gx_InvalidRow : mg "InvalidRow" = some (.ref A.x_InvalidRow)
  gx_InvalidNumber : mg "InvalidNumber" = some (.ref A.x_InvalidNumber)
  gx_Mismatch : mg "Mismatch" = some (.ref A.x_Mismatch)
  gx_TooMany : mg "TooMany" = some (.ref A.x_TooMany)
  e_TooMany : ∀ j, j < 6 → PySem.W.exmOne K (.ref ((errC A).at_ j)) (.ref A.x_TooMany) = some (decide (j = 5))
  m_abs : mg "abs" = none
  m_all : mg "all" = none
  m_bool : mg "bool" = none
  m_enumerate : mg "enumerate" = none
  m_int : mg "int" = none
  m_isinstance : mg "isinstance" = none
  m_len : mg "len" = none
  m_list : mg "list" = none
  m_range : mg "range" = none
  m_set : mg "set" = none
  m_sorted : mg "sorted" = none
  m_tuple : mg "tuple" = none
  c_MAX_DAYS : mg "MAX_DAYS" = some (.int 100 A.t_MAX_DAYS)
  c_MAX_LEVELS : mg "MAX_LEVELS" = some (.int 1000 A.t_MAX_LEVELS)
  c_MAX_OWNED : mg "MAX_OWNED" = some (.int 12 A.t_MAX_OWNED)
/-! ### each def computes its function -/
section
variable {P : Program} {w : World} {K : PySem.W.Frag} {mg : Str → Option Value} {base : Heap} {A : Ad}
theorem mkX_InvalidPlan (T : Tx K mg A) : FnOk P w K mg base CX0 1 A.xf_InvalidPlan A.xd_InvalidPlan ["self", "index"] (spI A.x_InvalidPlan "index") := maker_ok T.x_InvalidPlan sc_InvalidPlan_init rfl (by decide) (by decide) (by first | exact Or.inl rfl | exact Or.inr (Or.inl rfl) | exact Or.inr (Or.inr rfl)) (by first | exact Or.inl rfl | exact Or.inr (Or.inl rfl) | exact Or.inr (Or.inr rfl)) (fun _ => rfl)
theorem mkX_InvalidPast (T : Tx K mg A) : FnOk P w K mg base CX0 1 A.xf_InvalidPast A.xd_InvalidPast ["self", "day"] (spI A.x_InvalidPast "day") := maker_ok T.x_InvalidPast sc_InvalidPast_init rfl (by decide) (by decide) (by first | exact Or.inl rfl | exact Or.inr (Or.inl rfl) | exact Or.inr (Or.inr rfl)) (by first | exact Or.inl rfl | exact Or.inr (Or.inl rfl) | exact Or.inr (Or.inr rfl)) (fun _ => rfl)
theorem mkX_InvalidRow (T : Tx K mg A) : FnOk P w K mg base CX0 1 A.xf_InvalidRow A.xd_InvalidRow ["self", "index"] (spI A.x_InvalidRow "index") := maker_ok T.x_InvalidRow sc_InvalidRow_init rfl (by decide) (by decide) (by first | exact Or.inl rfl | exact Or.inr (Or.inl rfl) | exact Or.inr (Or.inr rfl)) (by first | exact Or.inl rfl | exact Or.inr (Or.inl rfl) | exact Or.inr (Or.inr rfl)) (fun _ => rfl)
theorem mkX_InvalidNumber (T : Tx K mg A) : FnOk P w K mg base CX0 1 A.xf_InvalidNumber A.xd_InvalidNumber ["self", "name"] (spI A.x_InvalidNumber "name") := maker_ok T.x_InvalidNumber sc_InvalidNumber_init rfl (by decide) (by decide) (by first | exact Or.inl rfl | exact Or.inr (Or.inl rfl) | exact Or.inr (Or.inr rfl)) (by first | exact Or.inl rfl | exact Or.inr (Or.inl rfl) | exact Or.inr (Or.inr rfl)) (fun _ => rfl)
theorem mkX_Mismatch (T : Tx K mg A) : FnOk P w K mg base CX0 1 A.xf_Mismatch A.xd_Mismatch ["self", "name"] (spI A.x_Mismatch "name") := maker_ok T.x_Mismatch sc_Mismatch_init rfl (by decide) (by decide) (by first | exact Or.inl rfl | exact Or.inr (Or.inl rfl) | exact Or.inr (Or.inr rfl)) (by first | exact Or.inl rfl | exact Or.inr (Or.inl rfl) | exact Or.inr (Or.inr rfl)) (fun _ => rfl)
theorem mkX_TooMany (T : Tx K mg A) : FnOk P w K mg base CX0 1 A.xf_TooMany A.xd_TooMany ["self", "count"] (spI A.x_TooMany "count") := maker_ok T.x_TooMany sc_TooMany_init rfl (by decide) (by decide) (by first | exact Or.inl rfl | exact Or.inr (Or.inl rfl) | exact Or.inr (Or.inr rfl)) (by first | exact Or.inl rfl | exact Or.inr (Or.inl rfl) | exact Or.inr (Or.inr rfl)) (fun _ => rfl)
set_option maxHeartbeats 4000000 in
theorem ok_is_integer (T : Tx K mg A) : FnQ P w K mg base (errC A) 2 A.f_is_integer A.fd_is_integer ["value"] F_is_integer := by
  refine fq_of T.F_is_integer sc_is_integer fun cdv A' outer s H E hr hgu => ?_
  exact qss_one (qs_ret (qe_and (qe_isi rfl T.m_isinstance rfl T.m_int (by decide +kernel) (qe_v 0)) (qe_one (qe_not (qe_isi rfl T.m_isinstance rfl T.m_bool (by decide +kernel) (qe_v 0))))))
set_option maxHeartbeats 4000000 in
theorem ok_is_at_least (T : Tx K mg A) : FnQ P w K mg base (errC A) 3 A.f_is_at_least A.fd_is_at_least ["value", "low"] F_is_at_least := by
  have c_is_integer := ok_is_integer (P := P) (w := w) (base := base) T
  refine fq_of T.F_is_at_least sc_is_at_least fun cdv A' outer s H E hr hgu => ?_
  exact qss_one (qs_ret (qe_and (qe_call c_is_integer (hr.mono (by decide)) hgu (takes_of rfl rfl rfl rfl) rfl T.g_is_integer T.F_is_integer.kp T.b_is_integer (qa_cons (qe_v 0) (qa_nil))) (qe_one (qe_cmp op_ge ok_ge (qe_v 0) (qe_v 1) rfl))))
set_option maxHeartbeats 4000000 in
theorem ok_is_between (T : Tx K mg A) : FnQ P w K mg base (errC A) 3 A.f_is_between A.fd_is_between ["value", "low", "high"] F_is_between := by
  have c_is_integer := ok_is_integer (P := P) (w := w) (base := base) T
  refine fq_of T.F_is_between sc_is_between fun cdv A' outer s H E hr hgu => ?_
  exact qss_one (qs_ret (qe_and (qe_call c_is_integer (hr.mono (by decide)) hgu (takes_of rfl rfl rfl rfl) rfl T.g_is_integer T.F_is_integer.kp T.b_is_integer (qa_cons (qe_v 0) (qa_nil))) (qe_one (qe_chain op_le ok_le op_le ok_le (qe_v 1) (qe_v 0) (qe_v 2)))))
set_option maxHeartbeats 4000000 in
theorem ok_are_numbers (T : Tx K mg A) : FnQ P w K mg base (errC A) 4 A.f_are_numbers A.fd_are_numbers ["value"] F_are_numbers := by
  have c_is_at_least := ok_is_at_least (P := P) (w := w) (base := base) T
  refine fq_of T.F_are_numbers sc_are_numbers fun cdv A' outer s H E hr hgu => ?_
  exact qss_one (qs_ret (qe_and (qe_isi rfl T.m_isinstance rfl T.m_tuple (by decide +kernel) (qe_v 0)) (qe_one (qe_callB (cr_all rfl) (.of1 ok_all) rfl T.m_all (by decide +kernel) (qa_cons (qe_lc rfl sc_are_numbers.nd (qi_seq (qe_v 0)) (blkOk_by (N := ["value", "entry"]) (sc := defScope s_are_numbers) (own := [("entry", 1)]) (by decide +kernel)) (fun _ _ _ _ _ => qg_name 1 sc_are_numbers.nd) (fun _ _ _ _ _ => qts_nil) (fun _ _ _ _ _ => qe_call c_is_at_least (hr.mono (by decide)) hgu takes_no rfl T.g_is_at_least T.F_is_at_least.kp T.b_is_at_least (qa_cons (qe_v 1) (qa_cons (qe_int) (qa_nil))))) (qa_nil))))))
set_option maxHeartbeats 4000000 in
theorem ok_is_entries (T : Tx K mg A) : FnQ P w K mg base (errC A) 2 A.f_is_entries A.fd_is_entries ["value"] F_is_entries := by
  refine fq_of T.F_is_entries sc_is_entries fun cdv A' outer s H E hr hgu => ?_
  exact qss_one (qs_ret (qe_and (qe_isi2 rfl T.m_isinstance rfl T.m_list (by decide +kernel) rfl T.m_tuple (by decide +kernel) (qe_v 0)) (qe_one (qe_chain op_le ok_le op_le ok_le (qe_int) (qe_callB call_len (.of1 ok_len) rfl T.m_len (by decide +kernel) (qa_cons (qe_v 0) (qa_nil))) (qe_gint rfl T.c_MAX_LEVELS)))))
set_option maxHeartbeats 4000000 in
theorem ok_is_row_of (T : Tx K mg A) : FnQ P w K mg base (errC A) 4 A.f_is_row_of A.fd_is_row_of ["value", "days"] F_is_row_of := by
  have c_is_between := ok_is_between (P := P) (w := w) (base := base) T
  refine fq_of T.F_is_row_of sc_is_row_of fun cdv A' outer s H E hr hgu => ?_
  exact qss_cons (qs_if (qt_of (qw_or (qt_not (qt_val (qe_isi rfl T.m_isinstance rfl T.m_tuple (by decide +kernel) (qe_v 0)))) (qw_or1 (qt_cmp (op_neA hr.units) ok_neA (qe_callB call_len (.of1 ok_len) rfl T.m_len (by decide +kernel) (qa_cons (qe_v 0) (qa_nil))) (qe_v 1) rfl)))) (qss_one (qs_ret (qe_bl))) (qss_nil)) (qss_one (qs_ret (qe_callB (cr_all rfl) (.of1 ok_all) rfl T.m_all (by decide +kernel) (qa_cons (qe_lc rfl sc_is_row_of.nd (qi_seq (qe_v 0)) (blkOk_by (N := ["value", "days", "entry"]) (sc := defScope s_is_row_of) (own := [("entry", 2)]) (by decide +kernel)) (fun _ _ _ _ _ => qg_name 2 sc_is_row_of.nd) (fun _ _ _ _ _ => qts_nil) (fun _ _ _ _ _ => qe_call c_is_between (hr.mono (by decide)) hgu takes_no rfl T.g_is_between T.F_is_between.kp T.b_is_between (qa_cons (qe_v 2) (qa_cons (qe_int) (qa_cons (qe_gint rfl T.c_MAX_OWNED) (qa_nil)))))) (qa_nil)))))
set_option maxHeartbeats 4000000 in
theorem ok_require_rows (T : Tx K mg A) : FnQ P w K mg base (errC A) 5 A.f_require_rows A.fd_require_rows ["plan"] F_require_rows := by
  have c_is_entries := ok_is_entries (P := P) (w := w) (base := base) T
  have c_is_row_of := ok_is_row_of (P := P) (w := w) (base := base) T
  refine fq_of T.F_require_rows sc_require_rows fun cdv A' outer s H E hr hgu => ?_
  exact qss_cons (qs_if (qt_not (qt_val (qe_call c_is_entries (hr.mono (by decide)) hgu (takes_of rfl rfl rfl rfl) rfl T.g_is_entries T.F_is_entries.kp T.b_is_entries (qa_cons (qe_v 0) (qa_nil))))) (qss_one (qs_raise T.x_InvalidPlan (mkX_InvalidPlan T) (hr.mono (by decide)) rfl (takes_of rfl rfl rfl rfl) rfl T.gx_InvalidPlan rfl rfl (qe_un un_neg ok_neg (qe_int)))) (qss_nil)) (qss_cons (qs_asg (qe_if (qt_of (qw_and (qt_val (qe_isi rfl T.m_isinstance rfl T.m_tuple (by decide +kernel) (qe_ix ix_A ok_ix (qe_v 0) (qe_int)))) (qw_and1 (qt_cmp op_le ok_le (qe_callB call_len (.of1 ok_len) rfl T.m_len (by decide +kernel) (qa_cons (qe_ix ix_A ok_ix (qe_v 0) (qe_int)) (qa_nil))) (qe_gint rfl T.c_MAX_DAYS) rfl)))) (qe_callB call_len (.of1 ok_len) rfl T.m_len (by decide +kernel) (qa_cons (qe_ix ix_A ok_ix (qe_v 0) (qe_int)) (qa_nil))) (qe_un un_neg ok_neg (qe_int))) (qg_name 1 sc_require_rows.nd)) (qss_one (qs_forget [2, 3] (qs_pre [2, 3] (qs_forJ (passes_of rfl) rfl (qj_enum rfl T.m_enumerate (qe_v 0)) (qg_tup rfl (qgs_cons (qg_name 2 sc_require_rows.nd) (qgs_cons (qg_name 3 sc_require_rows.nd) (qgs_nil))) (hlen := len_cons (len_cons (len_nil)))) (qss_one (qs_forget [2, 3] (qs_if (qt_of (qw_or (qt_not (qt_val (qe_call c_is_row_of (hr.mono (by decide)) hgu (takes_of rfl rfl rfl rfl) rfl T.g_is_row_of T.F_is_row_of.kp T.b_is_row_of (qa_cons (qe_v 3) (qa_cons (qe_v 1) (qa_nil)))))) (qw_or1 (qt_of (qw_and (qt_cmp (op_gtA (units65 hr)) ok_gtA (qe_v 2) (qe_int) rfl) (qw_and1 (qt_cmp (op_geA hr.units0) ok_geA (qe_v 3) (qe_ix ix_A ok_ix (qe_v 0) (qe_bin op_sub ok_sub (qe_v 2) (qe_int))) rfl))))))) (qss_one (qs_raise T.x_InvalidPlan (mkX_InvalidPlan T) (hr.mono (by decide)) rfl (takes_of rfl rfl rfl rfl) rfl T.gx_InvalidPlan rfl rfl (qe_v 2))) (qss_nil)))))))))
set_option maxHeartbeats 4000000 in
theorem ok_require_beginning (T : Tx K mg A) : FnQ P w K mg base (errC A) 5 A.f_require_beginning A.fd_require_beginning ["plan", "past"] F_require_beginning := by
  have c_are_numbers := ok_are_numbers (P := P) (w := w) (base := base) T
  refine fq_of T.F_require_beginning sc_require_beginning fun cdv A' outer s H E hr hgu => ?_
  exact qss_one (qs_if (qt_of (qw_or (qt_not (qt_val (qe_call c_are_numbers (hr.mono (by decide)) hgu (takes_of rfl rfl rfl rfl) rfl T.g_are_numbers T.F_are_numbers.kp T.b_are_numbers (qa_cons (qe_v 1) (qa_nil))))) (qw_or1 (qt_cmp op_gt ok_gt (qe_callB call_len (.of1 ok_len) rfl T.m_len (by decide +kernel) (qa_cons (qe_v 1) (qa_nil))) (qe_callB call_len (.of1 ok_len) rfl T.m_len (by decide +kernel) (qa_cons (qe_ix ix_A ok_ix (qe_v 0) (qe_int)) (qa_nil))) rfl)))) (qss_one (qs_raise T.x_InvalidPast (mkX_InvalidPast T) (hr.mono (by decide)) rfl (takes_of rfl rfl rfl rfl) rfl T.gx_InvalidPast rfl rfl (qe_un un_neg ok_neg (qe_int)))) (qss_nil))
set_option maxHeartbeats 4000000 in
theorem ok_levels_behind (T : Tx K mg A) : FnQ P w K mg base (errC A) 2 A.f_levels_behind A.fd_levels_behind ["plan", "past"] F_levels_behind := by
  refine fq_of T.F_levels_behind sc_levels_behind fun cdv A' outer s H E hr hgu => ?_
  exact qss_one (qs_ret (qe_lcK rfl sc_levels_behind.nd (qj_enum rfl T.m_enumerate (qe_v 0)) (blkOk_by (N := ["plan", "past", "level", "row"]) (sc := defScope s_levels_behind) (own := [("level", 2), ("row", 3)]) (by decide +kernel)) (fun _ _ _ _ _ => qg_tup rfl (qgs_cons (qg_name 2 sc_levels_behind.nd) (qgs_cons (qg_name 3 sc_levels_behind.nd) (qgs_nil))) (hlen := len_cons (len_cons (len_nil)))) (fun _ _ _ _ _ => qts_one (qt_cmp (op_eqA hr.units) ok_eqA (qe_slice (qe_v 3) (qo_none) (qo_some (qe_callB call_len (.of1 ok_len) rfl T.m_len (by decide +kernel) (qa_cons (qe_v 1) (qa_nil))))) (qe_v 1) rfl)) (fun _ _ _ _ _ => qe_v 2)))
set_option maxHeartbeats 4000000 in
theorem ok_tests_behind (T : Tx K mg A) : FnQ P w K mg base (errC A) 3 A.f_tests_behind A.fd_tests_behind ["plan", "past"] F_tests_behind := by
  have c_levels_behind := ok_levels_behind (P := P) (w := w) (base := base) T
  refine fq_of T.F_tests_behind sc_tests_behind fun cdv A' outer s H E hr hgu => ?_
  exact qss_cons (qs_asg (qe_call c_levels_behind (hr.mono (by decide)) hgu (takes_of rfl rfl rfl rfl) rfl T.g_levels_behind T.F_levels_behind.kp T.b_levels_behind (qa_cons (qe_v 0) (qa_cons (qe_v 1) (qa_nil)))) (qg_name 2 sc_tests_behind.nd)) (qss_cons (qs_if (qt_cmp (op_eqA hr.units) ok_eqA (qe_v 2) (qe_lst (qa_nil)) rfl) (qss_one (qs_ret (qe_lst (qa_nil)))) (qss_nil)) (qss_cons (qs_asg (qe_lc rfl sc_tests_behind.nd (qi_seq (qe_v 2)) (blkOk_by (N := ["plan", "past", "found", "numbers", "level", "least", "number"]) (sc := defScope s_tests_behind) (own := [("level", 4)]) (by decide +kernel)) (fun _ _ _ _ _ => qg_name 4 sc_tests_behind.nd) (fun _ _ _ _ _ => qts_nil) (fun _ _ _ _ _ => qe_ix ix_A ok_ix (qe_ix ix_A ok_ix (qe_v 0) (qe_v 4)) (qe_callB call_len (.of1 ok_len) rfl T.m_len (by decide +kernel) (qa_cons (qe_v 1) (qa_nil))))) (qg_name 3 sc_tests_behind.nd)) (qss_one (qs_ret (qe_lc rfl sc_tests_behind.nd (qi_rng2 rfl T.m_range (qa_cons (qe_int) (qa_cons (qe_bin op_addA ok_add (qe_ix ix_A ok_ix (qe_v 3) (qe_int)) (qe_int)) (qa_nil)))) (blkOk_by (N := ["plan", "past", "found", "numbers", "level", "least", "number"]) (sc := defScope s_tests_behind) (own := [("least", 5)]) (by decide +kernel)) (fun _ _ _ _ _ => qg_name 5 sc_tests_behind.nd) (fun _ _ _ _ _ => qts_nil) (fun _ _ _ _ _ => qe_bin op_addA ok_add (qe_ix ix_A ok_ix (qe_v 2) (qe_int)) (qe_callB call_len (.of1 ok_len) rfl T.m_len (by decide +kernel) (qa_cons (qe_lc rfl sc_tests_behind.nd (qi_seq (qe_v 3)) (blkOk_by (N := ["plan", "past", "found", "numbers", "level", "least", "number"]) (sc := relS _ (defScope s_tests_behind)) (own := [("number", 6)]) (by decide +kernel)) (fun _ _ _ _ _ => qg_name 6 sc_tests_behind.nd) (fun _ _ _ _ _ => qts_one (qt_cmp op_ge ok_ge (qe_v 6) (qe_v 5) rfl)) (fun _ _ _ _ _ => qe_v 6)) (qa_nil)))))))))
set_option maxHeartbeats 4000000 in
theorem ok_tests (T : Tx K mg A) : FnQ P w K mg base (errC A) 6 A.f_tests A.fd_tests ["plan", "past"] F_tests := by
  have c_require_beginning := ok_require_beginning (P := P) (w := w) (base := base) T
  have c_require_rows := ok_require_rows (P := P) (w := w) (base := base) T
  have c_tests_behind := ok_tests_behind (P := P) (w := w) (base := base) T
  refine fq_of T.F_tests sc_tests fun cdv A' outer s H E hr hgu => ?_
  exact qss_cons (qs_expr (qe_call c_require_rows (hr.mono (by decide)) hgu (takes_of rfl rfl rfl rfl) rfl T.g_require_rows T.F_require_rows.kp T.b_require_rows (qa_cons (qe_v 0) (qa_nil)))) (qss_cons (qs_expr (qe_call c_require_beginning (hr.mono (by decide)) hgu (takes_of rfl rfl rfl rfl) rfl T.g_require_beginning T.F_require_beginning.kp T.b_require_beginning (qa_cons (qe_v 0) (qa_cons (qe_v 1) (qa_nil))))) (qss_one (qs_ret (qe_if (qt_cmp op_lt ok_lt (qe_callB call_len (.of1 ok_len) rfl T.m_len (by decide +kernel) (qa_cons (qe_v 1) (qa_nil))) (qe_callB call_len (.of1 ok_len) rfl T.m_len (by decide +kernel) (qa_cons (qe_ix ix_A ok_ix (qe_v 0) (qe_int)) (qa_nil))) rfl) (qe_call c_tests_behind (hr.mono (by decide)) hgu (takes_of rfl rfl rfl rfl) rfl T.g_tests_behind T.F_tests_behind.kp T.b_tests_behind (qa_cons (qe_v 0) (qa_cons (qe_v 1) (qa_nil)))) (qe_lst (qa_nil))))))
set_option maxHeartbeats 4000000 in
theorem ok_level_of (T : Tx K mg A) : FnQ P w K mg base (errC A) 6 A.f_level_of A.fd_level_of ["plan", "row"] F_level_of := by
  have c_are_numbers := ok_are_numbers (P := P) (w := w) (base := base) T
  have c_require_rows := ok_require_rows (P := P) (w := w) (base := base) T
  refine fq_of T.F_level_of sc_level_of fun cdv A' outer s H E hr hgu => ?_
  exact qss_cons (qs_expr (qe_call c_require_rows (hr.mono (by decide)) hgu (takes_of rfl rfl rfl rfl) rfl T.g_require_rows T.F_require_rows.kp T.b_require_rows (qa_cons (qe_v 0) (qa_nil)))) (qss_cons (qs_if (qt_of (qw_or (qt_not (qt_val (qe_call c_are_numbers (hr.mono (by decide)) hgu (takes_of rfl rfl rfl rfl) rfl T.g_are_numbers T.F_are_numbers.kp T.b_are_numbers (qa_cons (qe_v 1) (qa_nil))))) (qw_or1 (qt_cmp (op_neA hr.units) ok_neA (qe_callB call_len (.of1 ok_len) rfl T.m_len (by decide +kernel) (qa_cons (qe_v 1) (qa_nil))) (qe_callB call_len (.of1 ok_len) rfl T.m_len (by decide +kernel) (qa_cons (qe_ix ix_A ok_ix (qe_v 0) (qe_int)) (qa_nil))) rfl)))) (qss_one (qs_raise T.x_InvalidRow (mkX_InvalidRow T) (hr.mono (by decide)) rfl (takes_of rfl rfl rfl rfl) rfl T.gx_InvalidRow rfl rfl (qe_un un_neg ok_neg (qe_int)))) (qss_nil)) (qss_one (qs_ret (qe_ix ix_A ok_ix (qe_bin op_addA ok_add (qe_lcJ rfl sc_level_of.nd (qj_enum rfl T.m_enumerate (qe_v 0)) jok_enum (blkOk_by (N := ["plan", "row", "level", "one"]) (sc := defScope s_level_of) (own := [("level", 2), ("one", 3)]) (by decide +kernel)) (fun _ _ _ _ _ => qg_tup rfl (qgs_cons (qg_name 2 sc_level_of.nd) (qgs_cons (qg_name 3 sc_level_of.nd) (qgs_nil))) (hlen := len_cons (len_cons (len_nil)))) (fun _ _ _ _ _ => qts_one (qt_cmp (op_eqA hr.units) ok_eqA (qe_v 3) (qe_v 1) rfl)) (fun _ _ _ _ _ => qe_v 2) (pure_val (pure_op2 (pure_v _) (pure_v _))) (pure_v _)) (qe_lst (qa_cons (qe_non) (qa_nil)))) (qe_int)))))
set_option maxHeartbeats 4000000 in
theorem ok_thinned (T : Tx K mg A) : FnQ P w K mg base (errC A) 6 A.f_thinned A.fd_thinned ["plan", "levels"] F_thinned := by
  have c_is_between := ok_is_between (P := P) (w := w) (base := base) T
  have c_require_rows := ok_require_rows (P := P) (w := w) (base := base) T
  refine fq_of T.F_thinned sc_thinned fun cdv A' outer s H E hr hgu => ?_
  exact qss_cons (qs_expr (qe_call c_require_rows (hr.mono (by decide)) hgu (takes_of rfl rfl rfl rfl) rfl T.g_require_rows T.F_require_rows.kp T.b_require_rows (qa_cons (qe_v 0) (qa_nil)))) (qss_cons (qs_if (qt_of (qw_or (qt_not (qt_val (qe_isi2 rfl T.m_isinstance rfl T.m_list (by decide +kernel) rfl T.m_tuple (by decide +kernel) (qe_v 1)))) (qw_or1 (qt_cmp (op_eqA hr.units) ok_eqA (qe_callB call_len (.of1 ok_len) rfl T.m_len (by decide +kernel) (qa_cons (qe_v 1) (qa_nil))) (qe_int) rfl)))) (qss_one (qs_raise T.x_InvalidNumber (mkX_InvalidNumber T) (hr.mono (by decide)) rfl (takes_of rfl rfl rfl rfl) rfl T.gx_InvalidNumber rfl rfl (qe_str))) (qss_nil)) (qss_cons (qs_forget [2, 3] (qs_pre [2, 3] (qs_forJ (passes_of rfl) rfl (qj_enum rfl T.m_enumerate (qe_v 1)) (qg_tup rfl (qgs_cons (qg_name 2 sc_thinned.nd) (qgs_cons (qg_name 3 sc_thinned.nd) (qgs_nil))) (hlen := len_cons (len_cons (len_nil)))) (qss_one (qs_forget [2, 3] (qs_if (qt_of (qw_or (qt_not (qt_val (qe_call c_is_between (hr.mono (by decide)) hgu (takes_of rfl rfl rfl rfl) rfl T.g_is_between T.F_is_between.kp T.b_is_between (qa_cons (qe_v 3) (qa_cons (qe_int) (qa_cons (qe_bin op_sub ok_sub (qe_callB call_len (.of1 ok_len) rfl T.m_len (by decide +kernel) (qa_cons (qe_v 0) (qa_nil))) (qe_int)) (qa_nil))))))) (qw_or1 (qt_of (qw_and (qt_cmp op_gt ok_gt (qe_v 2) (qe_int) rfl) (qw_and1 (qt_cmp op_le ok_le (qe_v 3) (qe_ix ix_A ok_ix (qe_v 1) (qe_bin op_sub ok_sub (qe_v 2) (qe_int))) rfl))))))) (qss_one (qs_raise T.x_InvalidNumber (mkX_InvalidNumber T) (hr.mono (by decide)) rfl (takes_of rfl rfl rfl rfl) rfl T.gx_InvalidNumber rfl rfl (qe_str))) (qss_nil))))))) (qss_one (qs_ret (qe_lcO rfl sc_thinned.nd (qi_seq (qe_v 1)) (blkOk_by (N := ["plan", "levels", "index", "level"]) (sc := defScope s_thinned) (own := [("level", 3)]) (by decide +kernel)) (fun _ _ _ _ _ => qg_name 3 sc_thinned.nd) (fun _ _ _ _ _ => qts_nil) (fun _ _ _ _ _ => qe_ix ix_A ok_ix (qe_v 0) (qe_v 3)))))))
set_option maxHeartbeats 4000000 in
theorem ok_merged (T : Tx K mg A) : FnQ P w K mg base (errC A) 6 A.f_merged A.fd_merged ["one", "other"] F_merged := by
  have c_require_rows := ok_require_rows (P := P) (w := w) (base := base) T
  refine fq_of T.F_merged sc_merged fun cdv A' outer s H E hr hgu => ?_
  exact qss_cons (qs_expr (qe_call c_require_rows (hr.mono (by decide)) hgu (takes_of rfl rfl rfl rfl) rfl T.g_require_rows T.F_require_rows.kp T.b_require_rows (qa_cons (qe_v 0) (qa_nil)))) (qss_cons (qs_expr (qe_call c_require_rows (hr.mono (by decide)) hgu (takes_of rfl rfl rfl rfl) rfl T.g_require_rows T.F_require_rows.kp T.b_require_rows (qa_cons (qe_v 1) (qa_nil)))) (qss_cons (qs_if (qt_cmp (op_neA hr.units) ok_neA (qe_callB call_len (.of1 ok_len) rfl T.m_len (by decide +kernel) (qa_cons (qe_ix ix_A ok_ix (qe_v 0) (qe_int)) (qa_nil))) (qe_callB call_len (.of1 ok_len) rfl T.m_len (by decide +kernel) (qa_cons (qe_ix ix_A ok_ix (qe_v 1) (qe_int)) (qa_nil))) rfl) (qss_one (qs_raise T.x_Mismatch (mkX_Mismatch T) (hr.mono (by decide)) rfl (takes_of rfl rfl rfl rfl) rfl T.gx_Mismatch rfl rfl (qe_str))) (qss_nil)) (qss_cons (qs_asg (qe_revO (qe_sortSG rfl (room70 hr) rfl T.m_sorted rfl T.m_set (qe_bin op_addA ok_add (qe_callTy (T := "") call_list_of (.of1 ok_list) rfl T.m_list (by decide +kernel) (qa_cons (qe_v 0) (qa_nil))) (qe_callTy (T := "") call_list_of (.of1 ok_list) rfl T.m_list (by decide +kernel) (qa_cons (qe_v 1) (qa_nil)))))) (qg_name 2 sc_merged.nd)) (qss_cons (qs_if (qt_cmp op_gt ok_gt (qe_callB call_len (.of1 ok_len) rfl T.m_len (by decide +kernel) (qa_cons (qe_v 2) (qa_nil))) (qe_gint rfl T.c_MAX_LEVELS) rfl) (qss_one (qs_raise T.x_TooMany (mkX_TooMany T) (hr.mono (by decide)) rfl (takes_of rfl rfl rfl rfl) rfl T.gx_TooMany rfl rfl (qe_callB call_len (.of1 ok_len) rfl T.m_len (by decide +kernel) (qa_cons (qe_v 2) (qa_nil))))) (qss_nil)) (qss_one (qs_ret (qe_v 2)))))))
set_option maxHeartbeats 4000000 in
theorem ok_law_mix (T : Tx K mg A) : FnQ P w K mg base (errC A) 2 A.f_law_mix A.fd_law_mix ["_law_cell", "_law_turn"] F_law_mix := by
  refine fq_of T.F_law_mix sc_law_mix fun cdv A' outer s H E hr hgu => ?_
  exact qss_cons (qs_asg (qe_bin op_addA ok_add (qe_bin op_modP ok_mod (qe_v 0) (qe_int)) (qe_bin op_mulT ok_mulT (qe_bin op_modP ok_mod (qe_bin op_fdivW ok_fdiv (qe_v 0) (qe_int)) (qe_int)) (qe_int))) (qg_name 2 sc_law_mix.nd)) (qss_cons (qs_asg (qe_bin op_modP ok_mod (qe_bin op_mulT ok_mulT (qe_bin op_addA ok_add (qe_bin op_addA ok_add (qe_v 2) (qe_bin op_mulT ok_mulT (qe_int) (qe_v 1))) (qe_int)) (qe_int)) (qe_int)) (qg_name 2 sc_law_mix.nd)) (qss_cons (qs_asg (qe_bin op_modP ok_mod (qe_bin op_mulT ok_mulT (qe_v 2) (qe_bin op_addA ok_add (qe_bin op_addA ok_add (qe_bin op_fdivW ok_fdiv (qe_v 2) (qe_int)) (qe_int)) (qe_v 1))) (qe_int)) (qg_name 2 sc_law_mix.nd)) (qss_one (qs_ret (qe_bin op_modP ok_mod (qe_bin op_mulT ok_mulT (qe_v 2) (qe_bin op_addA ok_add (qe_bin op_fdivW ok_fdiv (qe_v 2) (qe_int)) (qe_int))) (qe_int))))))
set_option maxHeartbeats 4000000 in
theorem ok_law_source (T : Tx K mg A) : FnQ P w K mg base (errC A) 2 A.f_law_source A.fd_law_source ["_law_cell"] F_law_source := by
  refine fq_of T.F_law_source sc_law_source fun cdv A' outer s H E hr hgu => ?_
  exact qss_one (qs_ret (qe_lstO (qa_cons (qe_bin op_mulT ok_mulT (qe_callB call_abs (.of1 ok_abs) rfl T.m_abs (by decide +kernel) (qa_cons (qe_v 0) (qa_nil))) (qe_callTy (T := "") call_int1 (.of1 ok_int) rfl T.m_int (by decide +kernel) (qa_cons (qe_cmp op_ge ok_ge (qe_callB call_abs (.of1 ok_abs) rfl T.m_abs (by decide +kernel) (qa_cons (qe_v 0) (qa_nil))) (qe_bin op_pow ok_pow (qe_int) (qe_int)) rfl) (qa_nil)))) (qa_cons (qe_callB call_abs (.of1 ok_abs) rfl T.m_abs (by decide +kernel) (qa_cons (qe_v 0) (qa_nil))) (qa_cons (qe_int) (qa_nil))))))
set_option maxHeartbeats 4000000 in
theorem ok_law_draw (T : Tx K mg A) : FnQ P w K mg base (errC A) 3 A.f_law_draw A.fd_law_draw ["_law_source_here", "_law_limit"] F_law_draw := by
  have c_law_mix := ok_law_mix (P := P) (w := w) (base := base) T
  refine fq_of T.F_law_draw sc_law_draw fun cdv A' outer s H E hr hgu => ?_
  exact qss_cons (qs_if (qt_cmp op_gt ok_gt (qe_ix ix_A ok_ix (qe_v 0) (qe_int)) (qe_int) rfl) (qss_cons (qs_asg (qe_bin op_modP ok_mod (qe_ix ix_A ok_ix (qe_v 0) (qe_int)) (qe_v 1)) (qg_name 2 sc_law_draw.nd)) (qss_cons (qs_setI (qe_bin op_fdivW ok_fdiv (qe_ix ix_A ok_ix (qe_v 0) (qe_int)) (qe_v 1)) (qe_v 0) (qe_int)) (qss_one (qs_ret (qe_v 2))))) (qss_nil)) (qss_cons (qs_setI (qe_bin op_addA ok_add (qe_ix ix_A ok_ix (qe_v 0) (qe_int)) (qe_int)) (qe_v 0) (qe_int)) (qss_one (qs_ret (qe_bin op_modP ok_mod (qe_call c_law_mix (hr.mono (by decide)) hgu (takes_of rfl rfl rfl rfl) rfl T.g_law_mix T.F_law_mix.kp T.b_law_mix (qa_cons (qe_ix ix_A ok_ix (qe_v 0) (qe_int)) (qa_cons (qe_ix ix_A ok_ix (qe_v 0) (qe_int)) (qa_nil)))) (qe_v 1)))))
set_option maxHeartbeats 4000000 in
theorem ok_law_rows (T : Tx K mg A) : FnQ P w K mg base (errC A) 4 A.f_law_rows A.fd_law_rows ["_law_source_here", "_law_days", "_law_many"] F_law_rows := by
  have c_law_draw := ok_law_draw (P := P) (w := w) (base := base) T
  refine fq_of T.F_law_rows sc_law_rows fun cdv A' outer s H E hr hgu => ?_
  exact qss_cons (qs_asg (qe_lstO (qa_nil)) (qg_name 3 sc_law_rows.nd)) (qss_cons (qs_fz 3 (qs_forget [4, 5, 6, 7] (qs_pre [4, 5, 6, 7] (qs_for (passes_of rfl) rfl (qi_rng1 rfl T.m_range (qa_cons (qe_v 2) (qa_nil))) (qg_name 4 sc_law_rows.nd) (qss_cons (qs_asg (qe_ix ix_A ok_ix (qe_lst (qa_cons (qe_int) (qa_cons (qe_int) (qa_cons (qe_int) (qa_cons (qe_int) (qa_nil)))))) (qe_call c_law_draw (hr.mono (by decide)) hgu (takes_of rfl rfl rfl rfl) rfl T.g_law_draw T.F_law_draw.kp T.b_law_draw (qa_cons (qe_v 0) (qa_cons (qe_int) (qa_nil))))) (qg_name 5 sc_law_rows.nd)) (qss_cons (qs_lc (i := 6) rfl sc_law_rows.nd rfl rfl (sw_true rfl rfl rfl (by decide +kernel)) (qi_rng1 rfl T.m_range (qa_cons (qe_v 1) (qa_nil))) (blkOk_by (N := ["_law_source_here", "_law_days", "_law_many", "_law_found", "_law_level", "_law_top", "_law_row", "_law_shared", "_law_day"]) (sc := defScope s_law_rows) (own := [("_law_day", 8)]) (by decide +kernel)) (fun _ _ _ _ _ => qg_name 8 sc_law_rows.nd) (fun _ _ _ _ _ => qts_nil) (fun _ _ _ _ _ => qe_call c_law_draw (hr.mono (by decide)) hgu takes_no rfl T.g_law_draw T.F_law_draw.kp T.b_law_draw (qa_cons (qe_v 0) (qa_cons (qe_v 5) (qa_nil))))) (qss_cons (qs_if (qt_cmp (op_neA hr.units) ok_neA (qe_v 3) (qe_lst (qa_nil)) rfl) (qss_cons (qs_asg (qe_call c_law_draw (hr.mono (by decide)) hgu (takes_of rfl rfl rfl rfl) rfl T.g_law_draw T.F_law_draw.kp T.b_law_draw (qa_cons (qe_v 0) (qa_cons (qe_bin op_addA ok_add (qe_v 1) (qe_int)) (qa_nil)))) (qg_name 7 sc_law_rows.nd)) (qss_one (qs_asg (qe_bin op_addA ok_add (qe_callTy (T := "") call_list_of (.of1 ok_list) rfl T.m_list (by decide +kernel) (qa_cons (qe_slice (qe_ix ix_A ok_ix (qe_v 3) (qe_call c_law_draw (hr.mono (by decide)) hgu (takes_of rfl rfl rfl rfl) rfl T.g_law_draw T.F_law_draw.kp T.b_law_draw (qa_cons (qe_v 0) (qa_cons (qe_callB call_len (.of1 ok_len) rfl T.m_len (by decide +kernel) (qa_cons (qe_v 3) (qa_nil))) (qa_nil))))) (qo_none) (qo_some (qe_v 7))) (qa_nil))) (qe_slice (qe_v 6) (qo_some (qe_v 7)) (qo_none))) (qg_name 6 sc_law_rows.nd)))) (qss_nil)) (qss_one (qs_forget [4, 5, 6, 7] (qs_expr (qe_meth1 PySem.F.slot_list_append PySem.F.type_list_append mt_append ok_append (qe_v 3) (qe_callTy (T := "") call_tuple_of (.of1 ok_tuple) rfl T.m_tuple (by decide +kernel) (qa_cons (qe_v 6) (qa_nil)))))))))))))) (qss_one (qs_ret (qe_revA (qe_sortS rfl (room70 hr) rfl T.m_sorted rfl T.m_set (qe_v 3))))))
set_option maxHeartbeats 4000000 in
theorem ok_law_levels (T : Tx K mg A) : FnQ P w K mg base (errC A) 2 A.f_law_levels A.fd_law_levels ["_law_plan", "_law_past"] F_law_levels := by
  refine fq_of T.F_law_levels sc_law_levels fun cdv A' outer s H E hr hgu => ?_
  exact qss_one (qs_ret (qe_lc rfl sc_law_levels.nd (qi_enum rfl T.m_enumerate (qe_v 0)) (blkOk_by (N := ["_law_plan", "_law_past", "_law_level", "_law_row"]) (sc := defScope s_law_levels) (own := [("_law_level", 2), ("_law_row", 3)]) (by decide +kernel)) (fun _ _ _ _ _ => qg_tup rfl (qgs_cons (qg_name 2 sc_law_levels.nd) (qgs_cons (qg_name 3 sc_law_levels.nd) (qgs_nil))) (hlen := len_cons (len_cons (len_nil)))) (fun _ _ _ _ _ => qts_one (qt_cmp (op_eqA hr.units) ok_eqA (qe_slice (qe_v 3) (qo_none) (qo_some (qe_callB call_len (.of1 ok_len) rfl T.m_len (by decide +kernel) (qa_cons (qe_v 1) (qa_nil))))) (qe_v 1) rfl)) (fun _ _ _ _ _ => qe_v 2)))
set_option maxHeartbeats 4000000 in
theorem ok_law_thinned_right (T : Tx K mg A) : FnQ P w K mg base (errC A) 7 A.f_law_thinned_right A.fd_law_thinned_right ["_law_source_here", "_law_plan"] F_law_thinned_right := by
  have c_law_draw := ok_law_draw (P := P) (w := w) (base := base) T
  have c_law_levels := ok_law_levels (P := P) (w := w) (base := base) T
  have c_tests := ok_tests (P := P) (w := w) (base := base) T
  have c_thinned := ok_thinned (P := P) (w := w) (base := base) T
  refine fq_of T.F_law_thinned_right sc_law_thinned_right fun cdv A' outer s H E hr hgu => ?_
  exact qss_cons (qs_asg (qe_lc rfl sc_law_thinned_right.nd (qi_rng1 rfl T.m_range (qa_cons (qe_callB call_len (.of1 ok_len) rfl T.m_len (by decide +kernel) (qa_cons (qe_v 1) (qa_nil))) (qa_nil))) (blkOk_by (N := ["_law_source_here", "_law_plan", "_law_levels_in", "_law_told", "_law_turn", "_law_past", "_law_inside", "_law_due", "_law_whole", "_law_number", "_law_level", "_law_one"]) (sc := defScope s_law_thinned_right) (own := [("_law_level", 10)]) (by decide +kernel)) (fun _ _ _ _ _ => qg_name 10 sc_law_thinned_right.nd) (fun _ _ _ _ _ => qts_one (qt_cmp (op_eqA hr.units) ok_eqS (qe_call c_law_draw (hr.mono (by decide)) hgu takes_no rfl T.g_law_draw T.F_law_draw.kp T.b_law_draw (qa_cons (qe_v 0) (qa_cons (qe_int) (qa_nil)))) (qe_int) rfl)) (fun _ _ _ _ _ => qe_v 10)) (qg_name 2 sc_law_thinned_right.nd)) (qss_cons (qs_if (qt_cmp (op_eqA hr.units) ok_eqS (qe_v 2) (qe_lst (qa_nil)) rfl) (qss_one (qs_asg (qe_lst (qa_cons (qe_call c_law_draw (hr.mono (by decide)) hgu (takes_of rfl rfl rfl rfl) rfl T.g_law_draw T.F_law_draw.kp T.b_law_draw (qa_cons (qe_v 0) (qa_cons (qe_callB call_len (.of1 ok_len) rfl T.m_len (by decide +kernel) (qa_cons (qe_v 1) (qa_nil))) (qa_nil)))) (qa_nil))) (qg_name 2 sc_law_thinned_right.nd))) (qss_nil)) (qss_cons (qs_asg (qe_call c_thinned (hr.mono (by decide)) hgu (takes_of rfl rfl rfl rfl) rfl T.g_thinned T.F_thinned.kp T.b_thinned (qa_cons (qe_v 1) (qa_cons (qe_v 2) (qa_nil)))) (qg_name 3 sc_law_thinned_right.nd)) (qss_cons (qs_if (qt_of (qw_or (qt_cmp (op_neA hr.units) ok_neS (qe_v 3) (qe_lc rfl sc_law_thinned_right.nd (qi_seq (qe_v 2)) (blkOk_by (N := ["_law_source_here", "_law_plan", "_law_levels_in", "_law_told", "_law_turn", "_law_past", "_law_inside", "_law_due", "_law_whole", "_law_number", "_law_level", "_law_one"]) (sc := defScope s_law_thinned_right) (own := [("_law_level", 10)]) (by decide +kernel)) (fun _ _ _ _ _ => qg_name 10 sc_law_thinned_right.nd) (fun _ _ _ _ _ => qts_nil) (fun _ _ _ _ _ => qe_ix ix_A ok_ix (qe_v 1) (qe_v 10))) rfl) (qw_or1 (qt_not (qt_val (qe_isi rfl T.m_isinstance rfl T.m_list (by decide +kernel) (qe_v 3))))))) (qss_one (qs_ret (qe_bl))) (qss_nil)) (qss_cons (qs_forget [4, 5, 6, 7, 8, 9] (qs_pre [4, 5, 6, 7, 8, 9] (qs_for (passes_of rfl) rfl (qi_rng1 rfl T.m_range (qa_cons (qe_int) (qa_nil))) (qg_name 4 sc_law_thinned_right.nd) (qss_cons (qs_asg (qe_slice (qe_ix ix_A ok_ix (qe_v 1) (qe_call c_law_draw (hr.mono (by decide)) hgu (takes_of rfl rfl rfl rfl) rfl T.g_law_draw T.F_law_draw.kp T.b_law_draw (qa_cons (qe_v 0) (qa_cons (qe_callB call_len (.of1 ok_len) rfl T.m_len (by decide +kernel) (qa_cons (qe_v 1) (qa_nil))) (qa_nil))))) (qo_none) (qo_some (qe_call c_law_draw (hr.mono (by decide)) hgu (takes_of rfl rfl rfl rfl) rfl T.g_law_draw T.F_law_draw.kp T.b_law_draw (qa_cons (qe_v 0) (qa_cons (qe_bin op_addA ok_add (qe_callB call_len (.of1 ok_len) rfl T.m_len (by decide +kernel) (qa_cons (qe_ix ix_A ok_ix (qe_v 1) (qe_int)) (qa_nil))) (qe_int)) (qa_nil)))))) (qg_name 5 sc_law_thinned_right.nd)) (qss_cons (qs_lc (i := 6) rfl sc_law_thinned_right.nd rfl rfl (sw_true rfl rfl rfl (by decide +kernel)) (qi_seq (qe_v 2)) (blkOk_by (N := ["_law_source_here", "_law_plan", "_law_levels_in", "_law_told", "_law_turn", "_law_past", "_law_inside", "_law_due", "_law_whole", "_law_number", "_law_level", "_law_one"]) (sc := defScope s_law_thinned_right) (own := [("_law_level", 10)]) (by decide +kernel)) (fun _ _ _ _ _ => qg_name 10 sc_law_thinned_right.nd) (fun _ _ _ _ _ => qts_one (qt_cmp (op_inA (units65 hr)) ok_inA (qe_v 10) (qe_call c_law_levels (hr.mono (by decide)) hgu takes_no rfl T.g_law_levels T.F_law_levels.kp T.b_law_levels (qa_cons (qe_v 1) (qa_cons (qe_v 5) (qa_nil)))) rfl)) (fun _ _ _ _ _ => qe_v 10)) (qss_cons (qs_asg (qe_lst (qa_nil)) (qg_name 7 sc_law_thinned_right.nd)) (qss_cons (qs_if (qt_of (qw_and (qt_cmp (op_neA hr.units) ok_neS (qe_v 6) (qe_lst (qa_nil)) rfl) (qw_and1 (qt_cmp (op_ltA (units65 hr)) ok_ltA (qe_callB call_len (.of1 ok_len) rfl T.m_len (by decide +kernel) (qa_cons (qe_v 5) (qa_nil))) (qe_callB call_len (.of1 ok_len) rfl T.m_len (by decide +kernel) (qa_cons (qe_ix ix_A ok_ix (qe_v 1) (qe_int)) (qa_nil))) rfl)))) (qss_cons (qs_asg (qe_call c_tests (hr.mono (by decide)) hgu (takes_of rfl rfl rfl rfl) rfl T.g_tests T.F_tests.kp T.b_tests (qa_cons (qe_v 1) (qa_cons (qe_v 5) (qa_nil)))) (qg_name 8 sc_law_thinned_right.nd)) (qss_cons (qs_asg (qe_ix ix_A ok_ix (qe_ix ix_A ok_ix (qe_v 1) (qe_ix ix_A ok_ix (qe_v 6) (qe_int))) (qe_callB call_len (.of1 ok_len) rfl T.m_len (by decide +kernel) (qa_cons (qe_v 5) (qa_nil)))) (qg_name 9 sc_law_thinned_right.nd)) (qss_one (qs_lc (i := 7) rfl sc_law_thinned_right.nd rfl rfl (sw_true rfl rfl rfl (by decide +kernel)) (qi_seq (qe_slice (qe_v 8) (qo_none) (qo_some (qe_v 9)))) (blkOk_by (N := ["_law_source_here", "_law_plan", "_law_levels_in", "_law_told", "_law_turn", "_law_past", "_law_inside", "_law_due", "_law_whole", "_law_number", "_law_level", "_law_one"]) (sc := defScope s_law_thinned_right) (own := [("_law_one", 11)]) (by decide +kernel)) (fun _ _ _ _ _ => qg_name 11 sc_law_thinned_right.nd) (fun _ _ _ _ _ => qts_nil) (fun _ _ _ _ _ => qe_callB call_len (.of1 ok_len) rfl T.m_len (by decide +kernel) (qa_cons (qe_lc rfl sc_law_thinned_right.nd (qi_seq (qe_v 2)) (blkOk_by (N := ["_law_source_here", "_law_plan", "_law_levels_in", "_law_told", "_law_turn", "_law_past", "_law_inside", "_law_due", "_law_whole", "_law_number", "_law_level", "_law_one"]) (sc := relS _ (defScope s_law_thinned_right)) (own := [("_law_level", 10)]) (by decide +kernel)) (fun _ _ _ _ _ => qg_name 10 sc_law_thinned_right.nd) (fun _ _ _ _ _ => qts_one (qt_cmp (op_ltA (units65 hr)) ok_ltA (qe_v 10) (qe_v 11) rfl)) (fun _ _ _ _ _ => qe_v 10)) (qa_nil))))))) (qss_nil)) (qss_one (qs_forget [4, 5, 6, 7, 8, 9] (qs_if (qt_cmp (op_neA hr.units) ok_neS (qe_call c_tests (hr.mono (by decide)) hgu (takes_of rfl rfl rfl rfl) rfl T.g_tests T.F_tests.kp T.b_tests (qa_cons (qe_v 3) (qa_cons (qe_v 5) (qa_nil)))) (qe_v 7) rfl) (qss_one (qs_ret (qe_bl))) (qss_nil))))))))))) (qss_cons (qs_fz 3 (qs_expr (qe_meth1 PySem.F.slot_list_append PySem.F.type_list_append mt_append ok_append (qe_v 3) (qe_non)))) (qss_one (qs_ret (qe_cmp (op_eqA hr.units) ok_eqS (qe_call c_thinned (hr.mono (by decide)) hgu (takes_of rfl rfl rfl rfl) rfl T.g_thinned T.F_thinned.kp T.b_thinned (qa_cons (qe_callTy (T := "") call_tuple_of (.of1 ok_tuple) rfl T.m_tuple (by decide +kernel) (qa_cons (qe_v 1) (qa_nil))) (qa_cons (qe_callTy (T := "") call_tuple_of (.of1 ok_tuple) rfl T.m_tuple (by decide +kernel) (qa_cons (qe_v 2) (qa_nil))) (qa_nil)))) (qe_slice (qe_v 3) (qo_none) (qo_some (qe_un un_neg ok_neg (qe_int)))) rfl))))))))
set_option maxHeartbeats 4000000 in
theorem ok_law_merged_right (T : Tx K mg A) : FnQ P w K mg base (errC A) 7 A.f_law_merged_right A.fd_law_merged_right ["_law_source_here", "_law_plan"] F_law_merged_right := by
  have c_law_draw := ok_law_draw (P := P) (w := w) (base := base) T
  have c_law_rows := ok_law_rows (P := P) (w := w) (base := base) T
  have c_level_of := ok_level_of (P := P) (w := w) (base := base) T
  have c_merged := ok_merged (P := P) (w := w) (base := base) T
  have c_thinned := ok_thinned (P := P) (w := w) (base := base) T
  refine fq_of T.F_law_merged_right sc_law_merged_right fun cdv A' outer s H E hr hgu => ?_
  exact qss_cons (qs_asg (qe_call c_law_rows (hr.mono (by decide)) hgu (takes_of rfl rfl rfl rfl) rfl T.g_law_rows T.F_law_rows.kp T.b_law_rows (qa_cons (qe_v 0) (qa_cons (qe_callB call_len (.of1 ok_len) rfl T.m_len (by decide +kernel) (qa_cons (qe_ix ix_A ok_ix (qe_v 1) (qe_int)) (qa_nil))) (qa_cons (qe_bin op_addA ok_add (qe_int) (qe_call c_law_draw (hr.mono (by decide)) hgu (takes_of rfl rfl rfl rfl) rfl T.g_law_draw T.F_law_draw.kp T.b_law_draw (qa_cons (qe_v 0) (qa_cons (qe_int) (qa_nil))))) (qa_nil))))) (qg_name 2 sc_law_merged_right.nd)) (qss_cons (qs_asg (qe_revA (qe_sortSG rfl (room70 hr) rfl T.m_sorted rfl T.m_set (qe_bin op_addA ok_add (qe_v 2) (qe_lc rfl sc_law_merged_right.nd (qi_seq (qe_v 1)) (blkOk_by (N := ["_law_source_here", "_law_plan", "_law_other", "_law_told", "_law_levels_in", "_law_row"]) (sc := defScope s_law_merged_right) (own := [("_law_row", 5)]) (by decide +kernel)) (fun _ _ _ _ _ => qg_name 5 sc_law_merged_right.nd) (fun _ _ _ _ _ => qts_one (qt_cmp (op_eqA hr.units) ok_eqS (qe_call c_law_draw (hr.mono (by decide)) hgu takes_no rfl T.g_law_draw T.F_law_draw.kp T.b_law_draw (qa_cons (qe_v 0) (qa_cons (qe_int) (qa_nil)))) (qe_int) rfl)) (fun _ _ _ _ _ => qe_v 5))))) (qg_name 2 sc_law_merged_right.nd)) (qss_cons (qs_asg (qe_call c_merged (hr.mono (by decide)) hgu (takes_of rfl rfl rfl rfl) rfl T.g_merged T.F_merged.kp T.b_merged (qa_cons (qe_v 1) (qa_cons (qe_v 2) (qa_nil)))) (qg_name 3 sc_law_merged_right.nd)) (qss_cons (qs_if (qt_of (qw_or (qt_cmp (op_neA hr.units) ok_neS (qe_v 3) (qe_revA (qe_sortSG rfl (room70 hr) rfl T.m_sorted rfl T.m_set (qe_bin op_addA ok_add (qe_v 1) (qe_v 2)))) rfl) (qw_or1 (qt_cmp (op_neA hr.units) ok_neS (qe_call c_merged (hr.mono (by decide)) hgu (takes_of rfl rfl rfl rfl) rfl T.g_merged T.F_merged.kp T.b_merged (qa_cons (qe_callTy (T := "") call_tuple_of (.of1 ok_tuple) rfl T.m_tuple (by decide +kernel) (qa_cons (qe_v 2) (qa_nil))) (qa_cons (qe_v 1) (qa_nil)))) (qe_v 3) rfl)))) (qss_one (qs_ret (qe_bl))) (qss_nil)) (qss_cons (qs_if (qt_cmp (op_neA hr.units) ok_neS (qe_call c_merged (hr.mono (by decide)) hgu (takes_of rfl rfl rfl rfl) rfl T.g_merged T.F_merged.kp T.b_merged (qa_cons (qe_v 1) (qa_cons (qe_v 1) (qa_nil)))) (qe_v 1) rfl) (qss_one (qs_ret (qe_bl))) (qss_nil)) (qss_cons (qs_lc (i := 4) rfl sc_law_merged_right.nd rfl rfl (sw_true rfl rfl rfl (by decide +kernel)) (qi_seq (qe_v 2)) (blkOk_by (N := ["_law_source_here", "_law_plan", "_law_other", "_law_told", "_law_levels_in", "_law_row"]) (sc := defScope s_law_merged_right) (own := [("_law_row", 5)]) (by decide +kernel)) (fun _ _ _ _ _ => qg_name 5 sc_law_merged_right.nd) (fun _ _ _ _ _ => qts_nil) (fun _ _ _ _ _ => qe_call c_level_of (hr.mono (by decide)) hgu takes_no rfl T.g_level_of T.F_level_of.kp T.b_level_of (qa_cons (qe_v 3) (qa_cons (qe_v 5) (qa_nil))))) (qss_cons (qs_if (qt_cmp (op_neA hr.units) ok_neS (qe_call c_thinned (hr.mono (by decide)) hgu (takes_of rfl rfl rfl rfl) rfl T.g_thinned T.F_thinned.kp T.b_thinned (qa_cons (qe_v 3) (qa_cons (qe_v 4) (qa_nil)))) (qe_v 2) rfl) (qss_one (qs_ret (qe_bl))) (qss_nil)) (qss_cons (qs_expr (qe_meth0 PySem.F.slot_list_clear PySem.F.type_list_clear mt_clear ok_clear (qe_v 3))) (qss_one (qs_ret (qe_cmp (op_neA hr.units) ok_neS (qe_call c_merged (hr.mono (by decide)) hgu (takes_of rfl rfl rfl rfl) rfl T.g_merged T.F_merged.kp T.b_merged (qa_cons (qe_v 1) (qa_cons (qe_v 2) (qa_nil)))) (qe_lst (qa_nil)) rfl))))))))))
set_option maxHeartbeats 4000000 in
theorem ok_law_said (T : Tx K mg A) : FnQ P w K mg base (errC A) 7 A.f_law_said A.fd_law_said ["_law_one", "_law_other"] F_law_said := by
  have c_merged := ok_merged (P := P) (w := w) (base := base) T
  refine fq_of T.F_law_said sc_law_said fun cdv A' outer s H E hr hgu => ?_
  exact qss_one (qs_try (m := 6) rfl rfl (takes_of rfl rfl rfl rfl) (fun W1 pn xe tk po => qss_one (qs_ret (qe_tup (qa_cons (qe_str) (qa_cons (qe_callB call_len (.of1 ok_len) rfl T.m_len (by decide +kernel) (qa_cons (qe_call c_merged (hr.mono (by decide)) hgu tk rfl T.g_merged T.F_merged.kp T.b_merged (qa_cons (qe_v 0) (qa_cons (qe_v 1) (qa_nil)))) (qa_nil))) (qa_nil)))))) (HdQ.as (k := 5) (⟨rfl, by decide, .inl T.gx_TooMany⟩) sc_law_said.nd rfl rfl T.e_TooMany (qas_ret (qx_tup (qax_cons (qx_lift (fun _ _ _ => qe_str)) (qax_cons (qx_at rfl (by first | exact Or.inl rfl | exact Or.inr (Or.inl rfl) | exact Or.inr (Or.inr rfl)) rfl rfl T.x_TooMany.xf T.x_TooMany.no) (qax_nil))))) (HdQ.nil)))
set_option maxHeartbeats 4000000 in
theorem ok_law (T : Tx K mg A) : FnQ P w K mg base (errC A) 8 A.f_law A.fd_law ["_law_script"] F_law := by
  have c_law_draw := ok_law_draw (P := P) (w := w) (base := base) T
  have c_law_merged_right := ok_law_merged_right (P := P) (w := w) (base := base) T
  have c_law_rows := ok_law_rows (P := P) (w := w) (base := base) T
  have c_law_said := ok_law_said (P := P) (w := w) (base := base) T
  have c_law_source := ok_law_source (P := P) (w := w) (base := base) T
  have c_law_thinned_right := ok_law_thinned_right (P := P) (w := w) (base := base) T
  refine fq_of T.F_law sc_law fun cdv A' outer s H E hr hgu => ?_
  exact qss_cons (qs_forget [1, 4, 5] (qs_pre [1, 4, 5] (qs_for (passes_of rfl) rfl (qi_seq (qe_bin op_addA ok_add (qe_lst (qa_cons (qe_int) (qa_nil))) (qe_slice (qe_v 0) (qo_none) (qo_some (qe_int))))) (qg_name 1 sc_law.nd) (qss_scope (qss_cons (qs_asg (qe_call c_law_source (hr.mono (by decide)) hgu (takes_of rfl rfl rfl rfl) rfl T.g_law_source T.F_law_source.kp T.b_law_source (qa_cons (qe_v 1) (qa_nil))) (qg_name 4 sc_law.nd)) (qss_cons (qs_asg (qe_call c_law_rows (hr.mono (by decide)) hgu (takes_of rfl rfl rfl rfl) rfl T.g_law_rows T.F_law_rows.kp T.b_law_rows (qa_cons (qe_v 4) (qa_cons (qe_bin op_addA ok_add (qe_int) (qe_call c_law_draw (hr.mono (by decide)) hgu (takes_of rfl rfl rfl rfl) rfl T.g_law_draw T.F_law_draw.kp T.b_law_draw (qa_cons (qe_v 4) (qa_cons (qe_int) (qa_nil))))) (qa_cons (qe_bin op_addA ok_add (qe_int) (qe_call c_law_draw (hr.mono (by decide)) hgu (takes_of rfl rfl rfl rfl) rfl T.g_law_draw T.F_law_draw.kp T.b_law_draw (qa_cons (qe_v 4) (qa_cons (qe_int) (qa_nil))))) (qa_nil))))) (qg_name 5 sc_law.nd)) (qss_one (qs_forget [1, 4, 5] (qs_if (qt_of (qw_or (qt_not (qt_val (qe_call c_law_thinned_right (hr.mono (by decide)) hgu (takes_of rfl rfl rfl rfl) rfl T.g_law_thinned_right T.F_law_thinned_right.kp T.b_law_thinned_right (qa_cons (qe_v 4) (qa_cons (qe_v 5) (qa_nil)))))) (qw_or1 (qt_not (qt_val (qe_call c_law_merged_right (hr.mono (by decide)) hgu (takes_of rfl rfl rfl rfl) rfl T.g_law_merged_right T.F_law_merged_right.kp T.b_law_merged_right (qa_cons (qe_v 4) (qa_cons (qe_v 5) (qa_nil))))))))) (qss_one (qs_ret (qe_bl))) (qss_nil)))))))))) (qss_cons (qs_asg (qe_sortNR rfl (room70 hr) rfl T.m_sorted (by decide +kernel) (qe_lc rfl sc_law.nd (qi_rng1 rfl T.m_range (qa_cons (qe_int) (qa_nil))) (blkOk_by (N := ["_law_script", "_law_cell", "_law_rows_here", "_law_some", "_law_source_here", "_law_plan", "_law_one"]) (sc := defScope s_law) (own := [("_law_one", 6)]) (by decide +kernel)) (fun _ _ _ _ _ => qg_name 6 sc_law.nd) (fun _ _ _ _ _ => qts_nil) (fun _ _ _ _ _ => qe_tup (qa_cons (qe_bin op_fdivW ok_fdiv (qe_v 6) (qe_int)) (qa_cons (qe_bin op_modP ok_mod (qe_bin op_fdivW ok_fdiv (qe_v 6) (qe_int)) (qe_int)) (qa_cons (qe_bin op_modP ok_mod (qe_v 6) (qe_int)) (qa_nil))))))) (qg_name 2 sc_law.nd)) (qss_cons (qs_asg (qe_lstO (qa_cons (qe_call c_law_said (hr.mono (by decide)) hgu (takes_of rfl rfl rfl rfl) rfl T.g_law_said T.F_law_said.kp T.b_law_said (qa_cons (qe_slice (qe_v 2) (qo_none) (qo_some (qe_int))) (qa_cons (qe_slice (qe_v 2) (qo_some (qe_int)) (qo_some (qe_int))) (qa_nil)))) (qa_cons (qe_call c_law_said (hr.mono (by decide)) hgu (takes_of rfl rfl rfl rfl) rfl T.g_law_said T.F_law_said.kp T.b_law_said (qa_cons (qe_slice (qe_v 2) (qo_none) (qo_some (qe_int))) (qa_cons (qe_slice (qe_v 2) (qo_some (qe_int)) (qo_some (qe_int))) (qa_nil)))) (qa_nil)))) (qg_name 3 sc_law.nd)) (qss_cons (qs_fz 3 (qs_expr (qe_meth1 PySem.F.slot_list_append PySem.F.type_list_append mt_append ok_append (qe_v 3) (qe_call c_law_said (hr.mono (by decide)) hgu (takes_of rfl rfl rfl rfl) rfl T.g_law_said T.F_law_said.kp T.b_law_said (qa_cons (qe_slice (qe_v 2) (qo_none) (qo_some (qe_int))) (qa_cons (qe_slice (qe_v 2) (qo_some (qe_int)) (qo_some (qe_int))) (qa_nil))))))) (qss_one (qs_ret (qe_cmp (op_eqA hr.units) ok_eqA (qe_v 3) (qe_lst (qa_cons (qe_tup (qa_cons (qe_str) (qa_cons (qe_int) (qa_nil)))) (qa_cons (qe_tup (qa_cons (qe_str) (qa_cons (qe_int) (qa_nil)))) (qa_cons (qe_tup (qa_cons (qe_str) (qa_cons (qe_int) (qa_nil)))) (qa_nil))))) rfl))))))
end
end
end My

set_option Elab.async false
set_option linter.all false
set_option maxRecDepth 100000
set_option maxHeartbeats 4000000
namespace My
open PySem PySem.Spec PyProof.Rows L2 Bk
/-! ### the law's draws -/
theorem fd_small {i j : Int} (h0 : 0 < j) (h : j < 2 ^ 62) : fdivOk i j = true := by
  have a : j.natAbs < 2 ^ 62 := by omega
  have b : j.natAbs.log2 < 62 := by
    by_cases z : j.natAbs = 0
    · omega
    · exact (Nat.log2_lt z).mpr a
  simp [fdivOk, h0]
  omega
def mixD (b c : Int) : Int :=
  let f := b % 2147483647 + b / 2147483647 % 1000003 * 7919
  let f := (f + 15485863 * c + 104729) * 48271 % 2147483629
  let f := f * (f / 1009 + 69621 + c) % 2147483587
  f * (f / 2003 + 40692) % 2147483563
theorem m_mix (b c : Int) : F_law_mix [.int b, .int c] [] = .ok (.int (mixD b c)) [] := by
  have r1 : ∀ x : Int, mulOk x 7919 = true := fun x => mulOk_r x (by decide) (by decide)
  have r2 : ∀ x : Int, mulOk x 48271 = true := fun x => mulOk_r x (by decide) (by decide)
  have r3 : ∀ x : Int, mulOk 15485863 x = true := fun x => mulOk_l x (by decide) (by decide)
  have r5 : ∀ x y : Int, mulOk (x % 2147483629) y = true := fun x y => mulOk_m x y (by decide) (by decide)
  have r6 : ∀ x y : Int, mulOk (x % 2147483587) y = true := fun x y => mulOk_m x y (by decide) (by decide)
  have d1 : ∀ x : Int, fdivOk x 2147483647 = true := fun x => fd_small (by decide) (by decide)
  have d2 : ∀ x : Int, fdivOk x 1009 = true := fun x => fd_small (by decide) (by decide)
  have d3 : ∀ x : Int, fdivOk x 2003 = true := fun x => fd_small (by decide) (by decide)
  simp [F_law_mix, b_law_mix, runF, e_mul, r1, r2, r3, r5, r6, d1, d2, d3, fin, cutOk, retR, below]
  rfl
abbrev Src3 := Int × Int × Int
def srcO (s : Src3) : MO := .lst [.int s.1, .int s.2.1, .int s.2.2]
@[simp] theorem srcO_bl (m : Nat) (s : Src3) : belowO m (srcO s) = true := rfl
def tk (s : Src3) (n : Int) : Int := if 0 < s.1 then s.1 % n else mixD s.2.1 (s.2.2 + 1) % n
def tn (s : Src3) (n : Int) : Src3 := if 0 < s.1 then (s.1 / n, s.2.1, s.2.2) else (s.1, s.2.1, s.2.2 + 1)
theorem m_draw (s : Src3) {n : Int} (h0 : 0 < n) (h : n < 4611686018427387904) : F_law_draw [.ref 0, .int n] [srcO s] = .ok (.int (tk s n)) [srcO (tn s n)] := by
  have dn : ∀ i : Int, fdivOk i n = true := fun i => fd_small h0 (by omega)
  have c := fun M => c_flat (m_mix s.2.1 (s.2.2 + 1)) M (by simp) (by simp)
  simp only [tk, tn]
  by_cases q : 0 < s.1
  · simp [F_law_draw, b_law_draw, runF, srcO, listD, setR, ixN, dn, h0, q]
  · simp [F_law_draw, b_law_draw, runF, srcO, listD, setR, ixN, dn, h0, q, c]
theorem tk_lo (s : Src3) {n : Int} (h : 0 < n) : 0 ≤ tk s n := by
  unfold tk
  split <;> exact Int.emod_nonneg _ (by omega)
theorem tk_hi (s : Src3) {n : Int} (h : 0 < n) : tk s n < n := by
  unfold tk
  split <;> exact Int.emod_lt_of_pos _ h
theorem t_0 (s : Src3) (n : Int) (R : List MO) (h0 : 0 < n) (h : n < 4611686018427387904) : callF F_law_draw [.ref 0, .int n] (srcO s :: R) = .ok (.int (tk s n)) (srcO (tn s n) :: R) := by
  have e : lentOk [srcO s] = true := rfl
  have e2 : ∀ t : Src3, belowO 0 (srcO t) = true := fun t => rfl
  simp [callF, lendK, getAll, flatArgs, below, e, e2, lendA, m_draw s h0 h, backD, setAll]
def src0 (v : Int) : Src3 := ((v.natAbs : Int) * (if 1000000000000000000 ≤ (v.natAbs : Int) then 1 else 0), (v.natAbs : Int), 0)
theorem m_source (v : Int) : F_law_source [.int v] [] = .ok (.ref 0) [srcO (src0 v)] := by
  have p : powOk 10 18 = true := by decide
  have e : (10 : Int) ^ (18 : Int).toNat = 1000000000000000000 := rfl
  have m0 : mulOk (v.natAbs : Int) 0 = true := mulOk_r _ (by decide) (by decide)
  have m1 : mulOk (v.natAbs : Int) 1 = true := mulOk_r _ (by decide) (by decide)
  have ab : ∀ M, dAbs M (.int v) = some (.int (v.natAbs : Int)) := fun M => by
    simp
    split <;> omega
  unfold src0
  generalize (v.natAbs : Int) = z at *
  by_cases q : (1000000000000000000 : Int) ≤ z
  · simp [F_law_source, b_law_source, runF, ab, p, e, q, e_mul, m1, srcO]
  · simp [F_law_source, b_law_source, runF, ab, p, e, q, e_mul, m0, srcO]
theorem c_source (v : Int) (M : List MO) : callF F_law_source [.int v] M = .ok (.ref M.length) (M ++ [srcO (src0 v)]) := by
  simp [callF, lendK, getAll, flatArgs, below, lentOk, lendA, m_source, backD, setAll, srcO, belowO, belows]
end My

set_option Elab.async false
set_option linter.all false
set_option maxRecDepth 100000
set_option maxHeartbeats 4000000
namespace My
open PySem PySem.Spec PyProof.Rows L2 Bk
/-! ### numbers -/
theorem m_isint (i : Int) : F_is_integer [.int i] [] = .ok (.bl true) [] := by
  simp [F_is_integer, b_is_integer, runF]
theorem m_atleast (i lo : Int) : F_is_at_least [.int i, .int lo] [] = .ok (.bl (decide (lo ≤ i))) [] := by
  have c := fun M => c_flat (m_isint i) M (by simp) (by simp)
  simp [F_is_at_least, b_is_at_least, runF, c]
theorem m_between (i lo hi : Int) : F_is_between [.int i, .int lo, .int hi] [] = .ok (.bl (decide (lo ≤ i ∧ i ≤ hi))) [] := by
  have c := fun M => c_flat (m_isint i) M (by simp) (by simp)
  by_cases h : lo ≤ i
  · by_cases h' : i ≤ hi <;> simp [F_is_between, b_is_between, runF, c, h, h']
  · simp [F_is_between, b_is_between, runF, c, h]
theorem c_between (i lo hi : Int) (M : List MO) : callF F_is_between [.int i, .int lo, .int hi] M = .ok (.bl (decide (lo ≤ i ∧ i ≤ hi))) M := c_flat (m_between i lo hi) M (by simp) (by simp)
theorem c_atleast (i lo : Int) (M : List MO) : callF F_is_at_least [.int i, .int lo] M = .ok (.bl (decide (lo ≤ i))) M := c_flat (m_atleast i lo) M (by simp) (by simp)
end My

set_option Elab.async false
set_option linter.all false
set_option maxRecDepth 100000
set_option maxHeartbeats 4000000
namespace My
open PySem PySem.Spec PyProof.Rows L2 Bk
def nth (ns : List Int) (i : Nat) : Int := ns.getD i 0
theorem nth_in {ns es : List Int} {j : Nat} (h : j < ns.length) : nth (ns ++ es) j = nth ns j := by
  unfold nth
  rw [List.getD_eq_getElem?_getD, List.getD_eq_getElem?_getD, List.getElem?_append_left h]
theorem nth_off {ns : List Int} {j : Nat} (h : ns.length ≤ j) : nth ns j = 0 := by
  unfold nth
  rw [List.getD_eq_getElem?_getD, List.getElem?_eq_none h]
  rfl
end My

set_option Elab.async false
set_option linter.all false
set_option maxRecDepth 100000
set_option maxHeartbeats 4000000
namespace My
open PySem PySem.Spec PyProof.Rows L2 Bk
theorem backD_any {ks : List Nat} {n : Nat} {d : D} (h : below 0 d = true) : backD ks n d = some d := by
  cases d with
  | ref k => simp [below] at h
  | _ => simp [backD, h]
theorem c_lend1 {F : List D → List MO → Bk.R D} {ds : List D} {d : D} {o o' : MO} {k : Nat} {M : List MO} (h : F (.ref 0 :: ds) [o] = .ok d [o']) (hk : M[k]? = some o) (ho : isDead o = false) (hb : belowO 0 o = true) (hb' : belowO 0 o' = true) (ha : belows 0 ds = true) (hd : below 0 d = true) : callF F (.ref k :: ds) M = .ok d (M.set k o') := by
  have l1 := lendK_nil ha
  have l2 : lendA 1 ds = ds := lendA_nil ha
  have l3 := flatArgs_of ha
  simp [callF, lendK, l1, l2, l3, getAll, hk, flatArgs, lentOk, ho, hb, lendA, h, hb', backD_any hd, setAll]
theorem inR_i {i : Int} (h0 : 0 ≤ i) (h : i ≤ 100000) : Bk.inR i = true := inR_of (by omega) (by omega)
theorem cutD_from {ds : List D} {n : Nat} : Bk.cutD ds (some (n : Int)) none = ds.drop n := by
  unfold Bk.cutD
  rw [HT.sIx_none, HT.sIx_nat]
  by_cases h : n ≤ ds.length
  · rw [Nat.min_eq_left h, List.take_of_length_le (by simp)]
  · rw [Nat.min_eq_right (by omega), List.drop_eq_nil_of_le (by omega), List.drop_eq_nil_of_le (by omega)]
    simp
/-! ### one number more -/
end My

set_option Elab.async false
set_option linter.all false
set_option maxRecDepth 100000
set_option maxHeartbeats 4000000
namespace My
open PySem PySem.Spec PyProof.Rows L2 Bk
/-! ### calendars -/
abbrev Cal := List (Int × Option Int)
def optD : Option Int → D
  | none => .non
  | some r => .int r
@[simp] theorem optD_below (m : Nat) (o : Option Int) : below m (optD o) = true := by cases o <;> rfl
def entD (p : Int × Option Int) : D := .tup [.int p.1, optD p.2]
def calD (t : Bool) (c : Cal) : D := if t = true then .tup (c.map entD) else .lst (c.map entD)
theorem ent_below (m : Nat) (p : Int × Option Int) : below m (entD p) = true := by simp [entD]
@[simp] theorem ents_below (m : Nat) (c : Cal) : belows m (c.map entD) = true := by
  rw [belows_all, List.all_map, List.all_eq_true]
  exact fun p _ => ent_below m p
@[simp] theorem calD_below (m : Nat) (t : Bool) (c : Cal) : below m (calD t c) = true := by cases t <;> simp [calD]
@[simp] theorem calD_items (M : List MO) (t : Bool) (c : Cal) : itemsD M (calD t c) = some (c.map entD) := by cases t <;> rfl
@[simp] theorem calD_seq (t : Bool) (c : Cal) : seqD (calD t c) = some (c.map entD) := by cases t <;> rfl
@[simp] theorem calD_len (M : List MO) (t : Bool) (c : Cal) : dLen M (calD t c) = some (.int c.length) := by cases t <;> simp [calD]
@[simp] theorem calD_isi (M : List MO) (t : Bool) (c : Cal) : dIsiT ["list", "tuple"] M (calD t c) = some (.bl true) := by cases t <;> rfl
/-- how many of those that broke on one day are away on a day -/
def gone1 (day : Int) (e : Option Int) (n : Int) : Int := match e with
  | none => n
  | some b => if day < b then n else 0
def awayZ (day : Int) (zs : List ((Int × Option Int) × Int)) : Int := (zs.map fun z => gone1 day z.1.2 z.2).sum
def awayV (c : Cal) (ns : List Int) (day : Int) : Int := awayZ day ((c.take (day.toNat - 1)).zip ns)
end My

set_option Elab.async false
set_option linter.all false
set_option maxRecDepth 100000
set_option maxHeartbeats 4000000
namespace My
open PySem PySem.Spec PyProof.Rows L2 Bk
end My

set_option Elab.async false
set_option linter.all false
set_option maxRecDepth 100000
set_option maxHeartbeats 4000000
namespace My
open PySem PySem.Spec PyProof.Rows L2 Bk
theorem m_nums (ns : List Int) (hl : ns.length ≤ 1000) (h : ∀ n ∈ ns, 0 ≤ n) : F_are_numbers [.tup (ns.map D.int)] [] = .ok (.bl true) [] := by
  have key := lcL_map (gg := gTo 1) (ge := le_are_numbers_1) (Γ := [some (.tup (ns.map D.int)), none]) (M := []) (f := fun _ => .bl true) (ns.map D.int) [] (by rw [List.length_map]; exact Nat.le_trans (by simpa using hl) (by decide)) fun d hd => by
    obtain ⟨i, hi, rfl⟩ := List.mem_map.mp hd
    exact ⟨_, rfl, by simp [le_are_numbers_1, c_atleast, h i hi]⟩
  have e : (ns.map D.int).map (fun _ => D.bl true) = (ns.map fun _ => true).map D.bl := by simp
  have q : ((ns.map fun _ => true).all id) = true := by simp
  rw [e, List.nil_append] at key
  simp [F_are_numbers, b_are_numbers, runF, key, dAll, ofBls, blsD_map, -List.map_map]
end My

set_option Elab.async false
set_option linter.all false
set_option maxRecDepth 100000
set_option maxHeartbeats 4000000
namespace My
open PySem PySem.Spec PyProof.Rows L2 Bk
end My

set_option Elab.async false
set_option linter.all false
set_option maxRecDepth 100000
set_option maxHeartbeats 4000000
namespace My
open PySem PySem.Spec PyProof.Rows L2 Bk
end My

set_option Elab.async false
set_option linter.all false
set_option maxRecDepth 100000
set_option maxHeartbeats 4000000
namespace My
open PySem PySem.Spec PyProof.Rows L2 Bk
end My

set_option Elab.async false
set_option linter.all false
set_option maxRecDepth 100000
set_option maxHeartbeats 4000000
namespace My
open PySem PySem.Spec PyProof.Rows L2 Bk
/-- the first day with too many pieces away or broken -/
def fo (c : Cal) (ns : List Int) : Nat → Cal → Option Int
  | _, [] => none
  | i, p :: r => if p.1 < awayV c ns ((i : Int) + 1) + nth ns i then some ((i : Int) + 1) else fo c ns (i + 1) r
/-- numbers of broken pieces that may have been -/
structure OkP (c : Cal) (ns : List Int) : Prop where
  l : ns.length ≤ c.length
  p : ∀ n ∈ ns, 0 ≤ n
  f : fo c ns 0 c = none
end My

set_option Elab.async false
set_option linter.all false
set_option maxRecDepth 100000
set_option maxHeartbeats 8000000
namespace My
open PySem PySem.Spec PyProof.Rows L2 Bk
/-- a store without references to what lies behind it -/
def StB (M : List MO) : Prop := ∀ o ∈ M, ∀ m, M.length ≤ m → belowO m o = true
theorem StB.cut {M : List MO} (h : StB M) (X : List MO) : cutOk M.length (M ++ X) = true := by
  unfold cutOk
  rw [List.take_left, List.all_eq_true]
  exact fun o ho => h o ho _ (Nat.le_refl _)
theorem StB.cut0 {M : List MO} (h : StB M) : cutOk M.length M = true := by
  have := h.cut []
  rwa [List.append_nil] at this
theorem StB.add {M : List MO} (h : StB M) {o : MO} (ho : ∀ m, belowO m o = true) : StB (M ++ [o]) := fun x hx m hm => by
  rw [List.length_append, List.length_singleton] at hm
  rcases List.mem_append.mp hx with q | q
  · exact h x q m (by omega)
  · have : x = o := by simpa using q
    rw [this]
    exact ho m
theorem StB.set {M : List MO} (h : StB M) (k : Nat) {o : MO} (ho : ∀ m, M.length ≤ m → belowO m o = true) : StB (M.set k o) := fun x hx m hm => by
  rw [List.length_set] at hm
  rcases List.mem_or_eq_of_mem_set hx with q | q
  · exact h x q m hm
  · rw [q]
    exact ho m hm
theorem StB.nil : StB [] := fun x hx => absurd hx (by simp)
/-- a value that stands for a list or a tuple of things -/
def VW (M : List MO) (d : D) (L : List D) : Prop := ∃ w, srcW M d = some (L, w)
theorem VW.ref {M : List MO} {k : Nat} {L : List D} (h : M[k]? = some (.lst L)) : VW M (.ref k) L := ⟨_, srcW_ref h⟩
theorem VW.lst (M : List MO) (L : List D) : VW M (.lst L) L := ⟨_, srcW_lst M L⟩
theorem VW.tup (M : List MO) (L : List D) : VW M (.tup L) L := ⟨_, srcW_tup M L⟩
theorem VW.cal (M : List MO) (t : Bool) (c : Cal) : VW M (calD t c) (c.map entD) := by
  cases t
  · exact VW.lst M _
  · exact VW.tup M _
theorem VW.cases {M : List MO} {d : D} {L : List D} (h : VW M d L) : (∃ k, d = .ref k ∧ M[k]? = some (.lst L)) ∨ d = .lst L ∨ d = .tup L ∨ d = .ptu L := by
  obtain ⟨w, h⟩ := h
  cases d with
  | ref k =>
    simp only [srcW] at h
    split at h
    · rename_i es e
      cases h
      exact .inl ⟨k, rfl, e⟩
    · cases h
  | lst es => cases h; exact .inr (.inl rfl)
  | tup es => cases h; exact .inr (.inr (.inl rfl))
  | ptu es => cases h; exact .inr (.inr (.inr rfl))
  | _ => cases h
def noPtu : D → Bool
  | .ptu _ => false
  | _ => true
theorem VW.len {M : List MO} {d : D} {L : List D} (h : VW M d L) (hp : noPtu d = true) : dLen M d = some (.int L.length) := by
  rcases h.cases with ⟨k, rfl, e⟩ | rfl | rfl | rfl
  · simp [listD, e]
  · simp
  · simp
  · cases hp
theorem VW.isi {M : List MO} {d : D} {L : List D} (h : VW M d L) (hp : noPtu d = true) : dIsiT ["list", "tuple"] M d = some (.bl true) := by
  rcases h.cases with ⟨k, rfl, e⟩ | rfl | rfl | rfl
  · simp [dIsiT, tyName, e]
    rfl
  · rfl
  · rfl
  · cases hp
theorem VW.cut {M : List MO} {d : D} {L : List D} (h : VW M d L) (hp : noPtu d = true) (a b : Option Int) : ∃ X, dCut M a b d = some X ∧ seqD X = some (cutD L a b) ∧ VW M X (cutD L a b) := by
  rcases h.cases with ⟨k, rfl, e⟩ | rfl | rfl | rfl
  · exact ⟨.lst (cutD L a b), by simp [dCut, listD, e], rfl, VW.lst _ _⟩
  · exact ⟨.lst (cutD L a b), by simp [dCut, listD], rfl, VW.lst _ _⟩
  · exact ⟨.tup (cutD L a b), by simp [dCut, listD], rfl, VW.tup _ _⟩
  · cases hp
theorem VW.tu {M : List MO} {d : D} {L : List D} (h : VW M d L) (hp : noPtu d = true) : dTuple M d = some (.tup L) := by
  rcases h.cases with ⟨k, rfl, e⟩ | rfl | rfl | rfl
  · unfold dTuple
    rw [itemsD_r]
    simp [listD, e]
  · rfl
  · rfl
  · cases hp
theorem VW.str {M : List MO} {d : D} {L : List D} (h : VW M d L) (hp : noPtu d = true) : dIsi "str" M d = some (.bl false) := by
  rcases h.cases with ⟨k, rfl, e⟩ | rfl | rfl | rfl
  · simp [dIsi, tyName, e]
    rfl
  · rfl
  · rfl
  · cases hp
/-- a calendar that is handed in: a list of ours, or a frozen one -/
inductive CalV (M : List MO) (c : Cal) : D → Prop
  | val (t : Bool) : CalV M c (calD t c)
  | ref {k : Nat} : M[k]? = some (.lst (c.map entD)) → CalV M c (.ref k)
theorem CalV.vw {M : List MO} {c : Cal} {d : D} : CalV M c d → VW M d (c.map entD)
  | .val t => VW.cal M t c
  | .ref h => VW.ref h
theorem CalV.np {M : List MO} {c : Cal} {d : D} : CalV M c d → noPtu d = true
  | .val t => by cases t <;> rfl
  | .ref _ => rfl
end My

set_option Elab.async false
set_option linter.all false
set_option maxRecDepth 100000
set_option maxHeartbeats 4000000
namespace My.Pn
open PySem PySem.Spec PyProof.Rows L2 Bk
/-! ### plans: rows in falling order -/
structure Pl (d : Nat) (rs : List (List Int)) : Prop where
  ne : rs ≠ []
  few : rs.length ≤ 1000
  days : d ≤ 100
  len : ∀ r ∈ rs, r.length = d
  nums : ∀ r ∈ rs, ∀ n ∈ r, 0 ≤ n ∧ n ≤ 12
  fall : rs.Pairwise (fun a b => b < a)
/-- the levels whose rows begin with a past -/
def lvF (p : List Int) : Nat → List (List Int) → List Nat
  | _, [] => []
  | i, r :: rs => if r.take p.length = p then i :: lvF p (i + 1) rs else lvF p (i + 1) rs
def lv (rs : List (List Int)) (p : List Int) : List Nat := lvF p 0 rs
theorem lvF_app (p : List Int) : ∀ (a b : List (List Int)) (i : Nat), lvF p i (a ++ b) = lvF p i a ++ lvF p (i + a.length) b
  | [], b, i => rfl
  | r :: a, b, i => by
    rw [List.cons_append, lvF, lvF, lvF_app p a b (i + 1), List.length_cons, Nat.add_assoc, Nat.add_comm 1 a.length]
    split <;> rfl
theorem lvF_all (p : List Int) : ∀ (a : List (List Int)) (i : Nat), (∀ r ∈ a, r.take p.length = p) → lvF p i a = List.range' i a.length
  | [], i, _ => rfl
  | r :: a, i, h => by
    rw [lvF, if_pos (h r (by simp)), lvF_all p a (i + 1) fun r hr => h r (by simp [hr])]
    rfl
theorem lvF_none (p : List Int) : ∀ (a : List (List Int)) (i : Nat), (∀ r ∈ a, r.take p.length ≠ p) → lvF p i a = []
  | [], i, _ => rfl
  | r :: a, i, h => by rw [lvF, if_neg (h r (by simp)), lvF_none p a (i + 1) fun r hr => h r (by simp [hr])]
theorem mem_lvF (p : List Int) : ∀ (a : List (List Int)) (i j : Nat), j ∈ lvF p i a ↔ ∃ k r, a[k]? = some r ∧ j = i + k ∧ r.take p.length = p
  | [], i, j => by simp [lvF]
  | r :: a, i, j => by
    have ih := mem_lvF p a (i + 1) j
    have key : (∃ k r', (r :: a)[k]? = some r' ∧ j = i + k ∧ r'.take p.length = p) ↔ (j = i ∧ r.take p.length = p) ∨ ∃ k r', a[k]? = some r' ∧ j = i + 1 + k ∧ r'.take p.length = p := by
      constructor
      · rintro ⟨k, r', h1, h2, h3⟩
        cases k with
        | zero =>
          have : r = r' := by simpa using h1
          subst this
          exact .inl ⟨by omega, h3⟩
        | succ k => exact .inr ⟨k, r', by simpa using h1, by omega, h3⟩
      · rintro (⟨h1, h2⟩ | ⟨k, r', h1, h2, h3⟩)
        · exact ⟨0, r, rfl, by omega, h2⟩
        · exact ⟨k + 1, r', by simpa using h1, by omega, h3⟩
    rw [key, lvF]
    by_cases c : r.take p.length = p
    · rw [if_pos c, List.mem_cons, ih]
      simp [c]
    · rw [if_neg c, ih]
      simp [c]
theorem mem_lv {rs : List (List Int)} {p : List Int} {j : Nat} : j ∈ lv rs p ↔ ∃ r, rs[j]? = some r ∧ r.take p.length = p := by
  unfold lv
  rw [mem_lvF]
  constructor
  · rintro ⟨k, r, h1, h2, h3⟩
    have : j = k := by omega
    subst this
    exact ⟨r, h1, h3⟩
  · rintro ⟨r, h1, h2⟩
    exact ⟨j, r, h1, by omega, h2⟩
/-! the order of rows and their beginnings -/
theorem lt_take : ∀ (k : Nat) {a b : List Int}, a < b → a.take k = b.take k ∨ a.take k < b.take k
  | 0, a, b, _ => by simp
  | k + 1, [], [], h => absurd h (List.lt_irrefl _)
  | k + 1, [], y :: b, h => .inr (by simp)
  | k + 1, x :: a, [], h => by simp at h
  | k + 1, x :: a, y :: b, h => by
    rw [List.take_succ_cons, List.take_succ_cons]
    rw [List.cons_lt_cons_iff] at h ⊢
    rcases h with h | ⟨rfl, h⟩
    · exact .inr (.inl h)
    · rcases lt_take k h with e | e
      · exact .inl (by rw [e])
      · exact .inr (.inr ⟨rfl, e⟩)
theorem lt_anti {a b : List Int} (h1 : a < b) (h2 : b < a) : False := List.lt_irrefl a (List.lt_trans h1 h2)
/-- a row between two that begin alike begins so too -/
theorem take_between {k : Nat} {a b c : List Int} (h1 : c < b) (h2 : b < a) (e : a.take k = c.take k) : b.take k = a.take k := by
  rcases lt_take k h2 with x | x
  · exact x
  · rcases lt_take k h1 with y | y
    · rw [e, y]
    · rw [e] at x
      exact (lt_anti x y).elim
/-- of two rows that begin alike the greater one has no lesser number -/
theorem nth_fall : ∀ (k : Nat) {a b : List Int}, b < a → a.take k = b.take k → k < a.length → k < b.length → b.getD k 0 ≤ a.getD k 0
  | 0, x :: a, y :: b, h, _, _, _ => by
    rw [List.cons_lt_cons_iff] at h
    rcases h with h | ⟨rfl, h⟩
    · simp; omega
    · simp
  | k + 1, x :: a, y :: b, h, e, h1, h2 => by
    rw [List.take_succ_cons, List.take_succ_cons] at e
    injection e with e1 e2
    subst e1
    rw [List.cons_lt_cons_iff] at h
    rcases h with h | ⟨_, h⟩
    · omega
    · simpa using nth_fall k h e2 (by simpa using h1) (by simpa using h2)
  | _, [], _, _, _, h1, _ => by simp at h1
  | _, _ :: _, [], _, _, _, h2 => by simp at h2
/-- the rows that begin with a past stand side by side -/
theorem parts {rs : List (List Int)} (hf : rs.Pairwise (fun a b => b < a)) (p : List Int) : ∃ u v w : List (List Int), rs = u ++ v ++ w ∧ (∀ r ∈ u, r.take p.length ≠ p) ∧ (∀ r ∈ v, r.take p.length = p) ∧ (∀ r ∈ w, r.take p.length ≠ p) := by
  induction rs with
  | nil => exact ⟨[], [], [], rfl, by simp, by simp, by simp⟩
  | cons r rs ih =>
    obtain ⟨h1, h2⟩ := List.pairwise_cons.mp hf
    obtain ⟨u, v, w, e, hu, hv, hw⟩ := ih h2
    by_cases c : r.take p.length = p
    · cases v with
      | nil =>
        refine ⟨[], [r], u ++ w, by rw [e]; simp, by simp, by simpa using c, fun q hq => ?_⟩
        rcases List.mem_append.mp hq with z | z
        · exact hu q z
        · exact hw q z
      | cons v0 v =>
        cases u with
        | nil =>
          refine ⟨[], r :: v0 :: v, w, by rw [e]; simp, by simp, fun q hq => ?_, hw⟩
          rcases List.mem_cons.mp hq with z | z
          · rw [z]; exact c
          · exact hv q z
        | cons u0 u =>
          exfalso
          have m0 : u0 ∈ rs := by rw [e]; simp
          have l1 : u0 < r := h1 u0 m0
          have l2 : v0 < u0 := by
            rw [e] at h2
            have h3 : (u0 :: (u ++ (v0 :: v) ++ w)).Pairwise (fun a b => b < a) := h2
            exact (List.pairwise_cons.mp h3).1 v0 (by simp)
          have := take_between (k := p.length) l2 l1 (by rw [c, hv v0 (by simp)])
          exact hu u0 (by simp) (this.trans c)
    · refine ⟨r :: u, v, w, by rw [e]; simp, fun q hq => ?_, hv, hw⟩
      rcases List.mem_cons.mp hq with z | z
      · rw [z]; exact c
      · exact hu q z
theorem lv_parts {u v w : List (List Int)} {p : List Int} (hu : ∀ r ∈ u, r.take p.length ≠ p) (hv : ∀ r ∈ v, r.take p.length = p) (hw : ∀ r ∈ w, r.take p.length ≠ p) : lv (u ++ v ++ w) p = List.range' u.length v.length := by
  unfold lv
  rw [lvF_app, lvF_app, lvF_none p u 0 hu, lvF_all p v _ hv, lvF_none p w _ hw]
  simp
/-! how many numbers are at least so great -/
def cge (xs : List Int) (k : Int) : Nat := (xs.filter fun x => decide (k ≤ x)).length
end My.Pn

set_option Elab.async false
set_option linter.all false
set_option maxRecDepth 100000
set_option maxHeartbeats 4000000
namespace My.Pn
open PySem PySem.Spec PyProof.Rows L2 Bk
/-! ### tests and settled days, plainly -/
/-- the numbers behind a past, level by level -/
def nmb (rs : List (List Int)) (p : List Int) : List Int := (lv rs p).map fun l => (rs.getD l []).getD p.length 0
/-- the tests of a plan -/
def tst (rs : List (List Int)) (p : List Int) : List Int := match lv rs p with
  | [] => []
  | a :: _ => (intR 1 ((nmb rs p).getD 0 0).toNat).map fun j => (a : Int) + (cge (nmb rs p) j : Nat)
theorem lv_range {d : Nat} {rs : List (List Int)} (h : Pl d rs) (p : List Int) : ∃ a m, lv rs p = List.range' a m ∧ a + m ≤ rs.length ∧ ∀ j, a ≤ j → j < a + m → ∃ r, rs[j]? = some r ∧ r.take p.length = p := by
  obtain ⟨u, v, w, rfl, hu, hv, hw⟩ := parts h.fall p
  refine ⟨u.length, v.length, lv_parts hu hv hw, by simp only [List.length_append]; omega, fun j h1 h2 => ?_⟩
  have hj : j - u.length < v.length := by omega
  refine ⟨v[j - u.length], ?_, hv _ (List.getElem_mem hj)⟩
  rw [List.append_assoc, List.getElem?_append_right h1, List.getElem?_append_left hj, List.getElem?_eq_getElem hj]
theorem nmb_fall {d : Nat} {rs : List (List Int)} (h : Pl d rs) {p : List Int} (hp : p.length < d) : (nmb rs p).Pairwise (fun a b => b ≤ a) := by
  obtain ⟨a, m, e, hm, hr⟩ := lv_range h p
  unfold nmb
  rw [e, List.pairwise_map]
  refine List.Pairwise.imp_of_mem (fun {i j} hi hj hij => ?_) (List.pairwise_lt_range' (s := a) (n := m) (step := 1))
  have hi' := List.mem_range'_1.mp hi
  have hj' := List.mem_range'_1.mp hj
  obtain ⟨r1, e1, t1⟩ := hr i hi'.1 hi'.2
  obtain ⟨r2, e2, t2⟩ := hr j hj'.1 hj'.2
  have l1 := h.len r1 (List.mem_of_getElem? e1)
  have l2 := h.len r2 (List.mem_of_getElem? e2)
  have lt : r2 < r1 := by
    obtain ⟨b1, c1⟩ := List.getElem?_eq_some_iff.mp e1
    obtain ⟨b2, c2⟩ := List.getElem?_eq_some_iff.mp e2
    have := List.pairwise_iff_getElem.mp h.fall i j b1 b2 hij
    rw [c1, c2] at this
    exact this
  have g1 : rs.getD i [] = r1 := by rw [List.getD_eq_getElem?_getD, e1]; rfl
  have g2 : rs.getD j [] = r2 := by rw [List.getD_eq_getElem?_getD, e2]; rfl
  rw [g1, g2]
  exact nth_fall p.length lt (t1.trans t2.symm) (by omega) (by omega)
/-! settled -/
theorem uniqR_len : ∀ rs : List (List Int), (uniqR rs).length ≤ rs.length ∧ ((uniqR rs).length = rs.length ↔ rs.Nodup)
  | [] => by simp [uniqR]
  | r :: rs => by
    obtain ⟨h1, h2⟩ := uniqR_len rs
    unfold uniqR
    by_cases c : r ∈ rs
    · rw [if_pos c]
      refine ⟨by simp; omega, ?_⟩
      rw [List.nodup_cons, List.length_cons]
      constructor
      · intro z; omega
      · intro z; exact absurd c z.1
    · rw [if_neg c]
      refine ⟨by simp; omega, ?_⟩
      rw [List.nodup_cons, List.length_cons, List.length_cons]
      simp [c, ← h2]
end My.Pn

set_option Elab.async false
set_option linter.all false
set_option maxRecDepth 100000
set_option maxHeartbeats 8000000
namespace My.Pn
open PySem PySem.Spec PyProof.Rows L2 Bk
/-! ### the program's functions of plans -/
abbrev rowT (r : List Int) : D := .tup (r.map D.int)
def planD (t : Bool) (rs : List (List Int)) : D := if t = true then .tup (rs.map rowT) else .lst (rs.map rowT)
abbrev rowTP (r : List Int) : PyData := .tuple (r.map PyData.int)
theorem rowT_dt (n : Nat) (r : List Int) : Dt (n + 1) (rowT r) (rowTP r) := (Dts.ints n r).tup
theorem rowsT_dt (n : Nat) (rs : List (List Int)) : Dts (n + 1) (rs.map rowT) (rs.map rowTP) := .map _ fun r _ => rowT_dt n r
@[simp] theorem rowsT_below (m : Nat) (rs : List (List Int)) : belows m (rs.map rowT) = true := (rowsT_dt 0 rs).belows
@[simp] theorem planD_below (m : Nat) (t : Bool) (rs : List (List Int)) : below m (planD t rs) = true := by cases t <;> simp [planD]
@[simp] theorem planD_items (M : List MO) (t : Bool) (rs : List (List Int)) : itemsD M (planD t rs) = some (rs.map rowT) := by cases t <;> rfl
@[simp] theorem planD_seq (t : Bool) (rs : List (List Int)) : seqD (planD t rs) = some (rs.map rowT) := by cases t <;> rfl
@[simp] theorem planD_len (M : List MO) (t : Bool) (rs : List (List Int)) : dLen M (planD t rs) = some (.int rs.length) := by cases t <;> simp [planD]
@[simp] theorem planD_isi (M : List MO) (t : Bool) (rs : List (List Int)) : dIsiT ["list", "tuple"] M (planD t rs) = some (.bl true) := by cases t <;> rfl
theorem planD_ix (M : List MO) (t : Bool) (rs : List (List Int)) {i : Nat} {r : List Int} (h : rs[i]? = some r) : dIx M (planD t rs) (.int (i : Nat)) = some (rowT r) := by
  rw [e_ix, planD_items, Option.bind_some]
  refine (Bk.atI_nat _ _).trans ?_
  rw [List.getElem?_map, h]
  rfl
theorem rowT_ix (M : List MO) (r : List Int) {i : Nat} (h : i < r.length) : dIx M (rowT r) (.int (i : Nat)) = some (.int (r.getD i 0)) := by
  rw [e_ix, itemsD_t, Option.bind_some]
  refine (Bk.atI_nat _ _).trans ?_
  simp [h]
theorem row_eqv : ∀ a b : List Int, PyData.eqvAll (a.map PyData.int) (b.map PyData.int) = decide (a = b)
  | [], [] => by simp [PyData.eqvAll]
  | [], _ :: _ => by simp [PyData.eqvAll]
  | _ :: _, [] => by simp [PyData.eqvAll]
  | x :: a, y :: b => by
    simp only [List.map_cons, PyData.eqvAll, row_eqv a b, List.cons.injEq, Bool.decide_and]
    congr 1
theorem rowT_eqP (M : List MO) (a b : List Int) : eqP M (rowT a) (rowT b) = some (decide (a = b)) := by
  rw [eqP_of (rowT_dt 0 a) (rowT_dt 0 b) (Dt.deref (rowT_dt 0 a)) (Dt.deref (rowT_dt 0 b)) (by decide) (by decide)]
  exact congrArg some ((by simp [PyData.eqv] : PyData.eqv (rowTP a) (rowTP b) = PyData.eqvAll (a.map PyData.int) (b.map PyData.int)).trans (row_eqv a b))
theorem rowT_eq (M : List MO) (a b : List Int) : dEqA M (rowT a) (rowT b) = some (.bl (decide (a = b))) := dEqA_p (x := rowT a) (rowT_eqP M a b) (fun _ h => by cases h)
theorem rowT_cut (M : List MO) (r : List Int) (k : Nat) : dCut M none (some (k : Int)) (rowT r) = some (rowT (r.take k)) := by
  show some (D.tup (Bk.cutD (r.map D.int) none (some (k : Int)))) = _
  rw [cutD_upto, ← List.map_take]
theorem m_nums (ns : List Int) (hl : ns.length ≤ 1000) (h : ∀ n ∈ ns, 0 ≤ n) : F_are_numbers [rowT ns] [] = .ok (.bl true) [] := by
  have key := lcL_map (gg := gTo 1) (ge := le_are_numbers_1) (Γ := [some (.tup (ns.map D.int)), none]) (M := []) (f := fun _ => .bl true) (ns.map D.int) [] (by rw [List.length_map]; exact Nat.le_trans (by simpa using hl) (by decide)) fun d hd => by
    obtain ⟨i, hi, rfl⟩ := List.mem_map.mp hd
    exact ⟨_, rfl, by simp [le_are_numbers_1, c_atleast, h i hi]⟩
  have e : (ns.map D.int).map (fun _ => D.bl true) = (ns.map fun _ => true).map D.bl := by simp
  have q : ((ns.map fun _ => true).all id) = true := by simp
  rw [e, List.nil_append] at key
  simp [F_are_numbers, b_are_numbers, runF, key, dAll, ofBls, blsD_map, -List.map_map]
theorem m_rowof {r : List Int} {d : Nat} (hl : r.length = d) (hd : d ≤ 100) (h : ∀ n ∈ r, 0 ≤ n ∧ n ≤ 12) : F_is_row_of [rowT r, .int (d : Nat)] [] = .ok (.bl true) [] := by
  have key := lcL_map (gg := gTo 2) (ge := le_is_row_of_1) (Γ := [some (.tup (r.map D.int)), some (.int (d : Nat)), none]) (M := []) (f := fun _ => .bl true) (r.map D.int) [] (by rw [List.length_map]; exact Nat.le_trans (by simpa using (show r.length ≤ 1000 by omega)) (by decide)) fun x hx => by
    obtain ⟨i, hi, rfl⟩ := List.mem_map.mp hx
    exact ⟨_, rfl, by simp [le_is_row_of_1, c_between, h i hi]⟩
  have e : (r.map D.int).map (fun _ => D.bl true) = (r.map fun _ => true).map D.bl := by simp
  have q : ((r.map fun _ => true).all id) = true := by simp
  rw [e, List.nil_append] at key
  have ln : ∀ M, dLen M (rowT r) = some (.int d) := fun M => by rw [e_lenT, List.length_map, hl]
  simp [-e_lenT, F_is_row_of, b_is_row_of, runF, ln, key, dAll, ofBls, blsD_map, -List.map_map]
theorem lt_split : ∀ {a b : List Int}, a.length = b.length → b < a → ∃ j, j < b.length ∧ (∀ m, m < j → b.getD m 0 = a.getD m 0) ∧ b.getD j 0 < a.getD j 0
  | [], [], _, h => absurd h (List.lt_irrefl _)
  | [], _ :: _, e, _ => by simp at e
  | _ :: _, [], e, _ => by simp at e
  | x :: a, y :: b, e, h => by
    rw [List.cons_lt_cons_iff] at h
    rcases h with h | ⟨rfl, h⟩
    · exact ⟨0, by simp, fun m hm => absurd hm (Nat.not_lt_zero _), by simpa using h⟩
    · obtain ⟨j, h1, h2, h3⟩ := lt_split (by simpa using e) h
      refine ⟨j + 1, by simpa using h1, fun m hm => ?_, by simpa using h3⟩
      cases m with
      | zero => simp
      | succ m => simpa using h2 m (by omega)
/-- a past of a plan -/
structure OkP (d : Nat) (p : List Int) : Prop where
  l : p.length ≤ d
  p : ∀ n ∈ p, 0 ≤ n
theorem Pl.row0 {d : Nat} {rs : List (List Int)} (h : Pl d rs) : ∃ r0, rs[0]? = some r0 ∧ r0.length = d := by
  obtain ⟨r0, rs', e0⟩ := List.exists_cons_of_ne_nil h.ne
  exact ⟨r0, by rw [e0]; rfl, h.len r0 (by rw [e0]; simp)⟩
abbrev natD (ls : List Nat) : List D := ls.map fun (l : Nat) => D.int (l : Int)
@[simp] theorem natD_below (m : Nat) (ls : List Nat) : belows m (natD ls) = true := by
  rw [belows_all, List.all_map, List.all_eq_true]
  intro x _
  simp
theorem lev_loop {q : D} {p : List Int} {gt : GT} (hgt : ∀ (i : Nat) (r : List Int) (M : List MO), gt [some q, some (rowT p), some (.int i), some (rowT r)] M = .ok (decide (r.take p.length = p)) M) (M : List MO) : ∀ (rs : List (List Int)) (i : Nat) (acc : List D), acc.length + rs.length ≤ 1900 →
    gLcL (gToT (gToCons (gTo 2) (gToCons (gTo 3) (gToNil)))) gt (gV 2) [some q, some (rowT p), none, none] (enumL (i : Int) (rs.map rowT)) acc M = .ok (acc ++ natD (lvF p i rs)) M
  | [], i, acc, _ => by simp [enumL, lvF, gLcL]
  | r :: rs, i, acc, h => by
    have sz : 2000 ≤ sizeLine := by rw [sizeLine_eq]; omega
    simp only [List.length_cons] at h
    have e3 : ((i + 1 : Nat) : Int) = (i : Int) + 1 := by omega
    rw [List.map_cons, enumL]
    by_cases c : r.take p.length = p
    · have ih := lev_loop hgt M rs (i + 1) (acc ++ [.int i]) (by simp; omega)
      rw [e3] at ih
      refine (lcL_take (Γ1 := [some q, some (rowT p), some (.int i), some (rowT r)]) (y := .int i) (M1 := M) (M2 := M) (by simp) (by rw [hgt]; simp [c]) (by simp) (by omega)).trans (ih.trans ?_)
      rw [lvF, if_pos c]
      simp
    · have ih := lev_loop hgt M rs (i + 1) acc (by omega)
      rw [e3] at ih
      refine (lcL_skip (Γ1 := [some q, some (rowT p), some (.int i), some (rowT r)]) (M1 := M) (by simp) (by rw [hgt]; simp [c])).trans (ih.trans ?_)
      rw [lvF, if_neg c]
theorem lev_test {q : D} {p : List Int} (i : Nat) (r : List Int) (M : List MO) : (gVal (gOp2 dEqA (gSl (gV 3) (gNoO) (gO (gCall (fn1 dLen) (gCons (gV 1) (gNil))))) (gV 1))) [some q, some (rowT p), some (.int i), some (rowT r)] M = .ok (decide (r.take p.length = p)) M := by
  have lq : ∀ M, dLen M (rowT p) = some (.int p.length) := fun M => by rw [e_lenT, List.length_map]
  have ct := fun M => rowT_cut M r p.length
  have eq := fun M => rowT_eq M (r.take p.length) p
  generalize rowT (r.take p.length) = A at *
  generalize rowT p = B at *
  generalize rowT r = C at *
  simp [-e_lenT, lq, ct, eq]
end My.Pn

set_option Elab.async false
set_option linter.all false
set_option maxRecDepth 100000
set_option maxHeartbeats 8000000
namespace My.Pn
open PySem PySem.Spec PyProof.Rows L2 Bk
/-! ### group, tests, level_of, settled -/
theorem natD_dts (n : Nat) (ls : List Nat) : Dts n (natD ls) (ls.map fun (l : Nat) => PyData.int (l : Int)) := .map _ fun l _ => .int n _
theorem natD_eqP (M : List MO) (ls : List Nat) : eqP M (.lst (natD ls)) (.lst []) = some (decide (ls = [])) := by
  rw [eqP_of (natD_dts 0 ls).lst (Dts.nil 0).lst (Dt.deref (natD_dts 0 ls).lst) (Dt.deref (Dts.nil 0).lst) (by decide) (by decide)]
  cases ls with
  | nil => rfl
  | cons x ls => rfl
theorem natD_eq (M : List MO) (ls : List Nat) : dEqA M (.lst (natD ls)) (.lst []) = some (.bl (decide (ls = []))) := dEqA_p (x := .lst (natD ls)) (natD_eqP M ls) (fun _ h => by cases h)
theorem natD_first (M : List MO) (a m : Nat) : dIx M (.lst (natD (List.range' a (m + 1)))) (.int 0) = some (.int (a : Nat)) := by
  rw [e_ix, itemsD_l, Option.bind_some]
  refine (Bk.atI_nat _ 0).trans ?_
  rw [List.range'_succ]
  rfl
theorem intR_lenN : ∀ (n : Nat) (lo : Int), (intR lo n).length = n
  | 0, _ => rfl
  | n + 1, lo => by simp [intR, intR_lenN n]
def grpD : List Nat → D
  | [] => .non
  | a :: ls => .tup [.int (a : Nat), .int ((a + ls.length : Nat))]
@[simp] theorem grpD_below (m : Nat) (ls : List Nat) : below m (grpD ls) = true := by cases ls <;> simp [grpD]
def tstD (d : Nat) (rs : List (List Int)) (p : List Int) : List Int := if p.length < d then tst rs p else []
end My.Pn

set_option Elab.async false
set_option linter.all false
set_option maxRecDepth 100000
set_option maxHeartbeats 8000000
namespace My.Pn
open PySem PySem.Spec PyProof.Rows L2 Bk
/-! ### the program's functions of plans that are lists of ours or frozen ones -/
theorem set_same9 {M : List MO} {k : Nat} {o : MO} (h : M[k]? = some o) : M.set k o = M := by
  obtain ⟨a, b⟩ := List.getElem?_eq_some_iff.mp h
  rw [← b]
  exact List.set_getElem_self a
theorem ix9 {M : List MO} {d : D} {L : List D} (h : VW M d L) (hp : noPtu d = true) {i : Nat} {x : D} (e : L[i]? = some x) : dIx M d (.int (i : Nat)) = some x := by
  rcases h.cases with ⟨k, rfl, e1⟩ | rfl | rfl | rfl
  · rw [e_ix, itemsD_r]
    simp only [listD, e1, Option.bind_some]
    exact (Bk.atI_nat _ _).trans e
  · rw [e_ix, itemsD_l, Option.bind_some]
    exact (Bk.atI_nat _ _).trans e
  · rw [e_ix, itemsD_t, Option.bind_some]
    exact (Bk.atI_nat _ _).trans e
  · cases hp
theorem stB1 {L : List D} (b : ∀ m, belows m L = true) : StB [MO.lst L] := fun o ho m _ => by
  have : o = .lst L := by simpa using ho
  rw [this]
  exact b m
theorem c_view {F : List D → List MO → R D} {L ds : List D} {r : D} (bL : ∀ m, belows m L = true) (bd : belows 0 ds = true) (br : below 0 r = true) (h : ∀ (M : List MO) (q : D), StB M → VW M q L → noPtu q = true → F (q :: ds) M = .ok r M) {M : List MO} {q : D} (hv : VW M q L) (hp : noPtu q = true) : callF F (q :: ds) M = .ok r M := by
  rcases hv.cases with ⟨k, rfl, e⟩ | rfl | rfl | rfl
  · have m := h [.lst L] (.ref 0) (stB1 bL) (VW.ref rfl) rfl
    have c := c_lend1 (k := k) (M := M) m e rfl (bL 0) (bL 0) bd br
    rw [set_same9 e] at c
    exact c
  · exact c_flat (h [] (.lst L) StB.nil (VW.lst _ _) rfl) M (by simp [belows, below, bL 0, bd]) br
  · exact c_flat (h [] (.tup L) StB.nil (VW.tup _ _) rfl) M (by simp [belows, below, bL 0, bd]) br
  · cases hp
theorem lcLW_pure {gg : GG} {gt : GT} {ge : GE} {Γ : Bk.Env} {w : Wt} {M : List MO} (hw : wOk w M) : ∀ (ds acc : List D), (∀ d ∈ ds, ∃ Γ1 k, gg d Γ = some Γ1 ∧ gt Γ1 M = .ok k M ∧ (k = true → ∃ y, ge Γ1 M = .ok y M)) → gLcLW gg gt ge Γ w ds acc M = gLcL gg gt ge Γ ds acc M
  | [], acc, _ => (chkR_t hw).trans (by conv => rhs; unfold gLcL)
  | d :: ds, acc, h => by
    obtain ⟨Γ1, k, h1, h2, h3⟩ := h d (by simp)
    have ih := fun acc => lcLW_pure (gg := gg) (gt := gt) (ge := ge) (Γ := Γ) hw ds acc fun x hx => h x (by simp [hx])
    refine (chkR_t hw).trans ?_
    conv => rhs; unfold gLcL
    cases k with
    | false => simp only [h1, h2, R.only, Bool.false_eq_true, if_false, ih]
    | true =>
      obtain ⟨y, hy⟩ := h3 rfl
      simp only [h1, h2, R.only, if_true, hy, ih]
section
variable {M : List MO} {q : D} {d : Nat} {rs : List (List Int)}
theorem v_entries {L : List D} (hB : StB M) (hv : VW M q L) (hq : noPtu q = true) (l1 : 1 ≤ L.length) (l2 : L.length ≤ 1000) : F_is_entries [q] M = .ok (.bl true) M := by
  have ln := hv.len hq
  have iz := hv.isi hq
  have hM := hB.cut0
  have a1 : (1 : Int) ≤ L.length := by omega
  have a2 : (L.length : Int) ≤ 1000 := by omega
  generalize (L.length : Int) = n at *
  simp [F_is_entries, b_is_entries, runF, iz, ln, a1, a2, hM, retR]
theorem vc_entries (h1 : rs ≠ []) (h2 : rs.length ≤ 1000) (hv : VW M q (rs.map rowT)) (hq : noPtu q = true) : callF F_is_entries [q] M = .ok (.bl true) M := by
  have l1 : 1 ≤ rs.length := List.length_pos_iff.mpr h1
  exact c_view (fun m => rowsT_below m rs) rfl rfl (fun M q hB hv hq => v_entries hB hv hq (by rw [List.length_map]; exact l1) (by rw [List.length_map]; exact h2)) hv hq
theorem v_reqrows (h : Pl d rs) (hB : StB M) (hv : VW M q (rs.map rowT)) (hq : noPtu q = true) : F_require_rows [q] M = .ok .non M := by
  have hf := h.few
  have hd := h.days
  have ce := vc_entries h.ne (by omega) hv hq
  obtain ⟨r0, rs', e0⟩ := List.exists_cons_of_ne_nil h.ne
  have i0 : dIx M q (.int 0) = some (rowT r0) := ix9 hv hq (i := 0) (by rw [e0]; rfl)
  have l0 : r0.length = d := h.len r0 (by rw [e0]; simp)
  have ln : ∀ M, dLen M (rowT r0) = some (.int d) := fun M => by rw [e_lenT, List.length_map, l0]
  have hd' : (d : Int) ≤ 100 := by omega
  have ixq : ∀ {i : Nat} {r : List Int}, rs[i]? = some r → dIx M q (.int (i : Nat)) = some (rowT r) := fun {i r} e => ix9 hv hq (by rw [List.getElem?_map, e]; rfl)
  obtain ⟨w, hw⟩ := hv
  have wk := srcW_ok hw
  have lp : ∀ (post pre : List (List Int)), pre ++ post = rs → gForW (gToT (gToCons (gTo 2) (gToCons (gTo 3) (gToNil)))) lb_require_rows_1 w (enumL ((pre.length : Nat) : Int) (post.map rowT)) [some q, some (.int d), none, none] M = .nx [some q, some (.int d), none, none] M := by
    intro post
    induction post with
    | nil => intro pre _; exact forW_end wk
    | cons r post ih =>
      intro pre e
      have hr : r ∈ rs := by rw [← e]; simp
      have ih' := ih (pre ++ [r]) (by rw [← e]; simp)
      have e3 : (((pre ++ [r]).length : Nat) : Int) = (pre.length : Nat) + 1 := by simp
      rw [e3] at ih'
      have cr := fun M => c_flat (m_rowof (h.len r hr) hd (h.nums r hr)) M (by simp) (by simp)
      rw [List.map_cons, enumL]
      refine (forW_cons (Γ1 := [some q, some (.int d), some (.int (pre.length : Nat)), some (rowT r)]) wk (by simp) ?_).trans ih'
      cases pre with
      | nil =>
        simp [-e_ix, lb_require_rows_1, cr]
      | cons p0 pre =>
        obtain ⟨u, hu⟩ : ∃ u, rs[pre.length]? = some u := ⟨_, List.getElem?_eq_getElem (by rw [← e]; simp; omega)⟩
        have ix := ixq hu
        have sb : (((p0 :: pre).length : Nat) : Int) - 1 = (pre.length : Nat) := by simp
        have lt : r < u := by
          obtain ⟨b1, c1⟩ := List.getElem?_eq_some_iff.mp hu
          have b2 : pre.length + 1 < rs.length := by rw [← e]; simp
          have := List.pairwise_iff_getElem.mp h.fall pre.length (pre.length + 1) b1 b2 (by omega)
          rw [c1] at this
          have er : rs[pre.length + 1] = r := by
            have : rs[pre.length + 1]? = some r := by
              rw [← e, List.getElem?_append_right (by simp)]
              simp
            exact (List.getElem?_eq_some_iff.mp this).2
          rw [er] at this
          exact this
        obtain ⟨j, j1, j2, j3⟩ := lt_split (by rw [h.len u (List.mem_of_getElem? hu), h.len r hr]) lt
        have ge := fun M => (e_geT M r u).trans (congrArg (fun b => some (D.bl b)) (geI_less j1 (by rw [h.len u (List.mem_of_getElem? hu), ← h.len r hr]; exact j1) j2 j3))
        have p1 : (0 : Int) < (pre.length : Int) + 1 := by omega
        simp only [List.length_cons] at sb ⊢
        simp [-e_ix, lb_require_rows_1, cr, p1, ix, ge]
  have lp0 := lp rs [] rfl
  have lp1 : gForW (gToT (gToCons (gTo 2) (gToCons (gTo 3) (gToNil)))) lb_require_rows_1 w (enumL 0 (rs.map rowT)) [some q, some (.int d), none, none] M = _ := lp0
  have hM := hB.cut0
  simp [-e_ix, -e_lenT, F_require_rows, b_require_rows, runF, ce, i0, ln, hd', hw, lp1, hM, retR]
theorem vc_reqrows (h : Pl d rs) (hv : VW M q (rs.map rowT)) (hq : noPtu q = true) : callF F_require_rows [q] M = .ok .non M := c_view (fun m => rowsT_below m rs) rfl rfl (fun M q hB hv hq => v_reqrows h hB hv hq) hv hq
theorem v_reqbeg (h : Pl d rs) {p : List Int} (hp : OkP d p) (hB : StB M) (hv : VW M q (rs.map rowT)) (hq : noPtu q = true) : F_require_beginning [q, rowT p] M = .ok .non M := by
  have hd := h.days
  have hl := hp.l
  obtain ⟨r0, e0, l0⟩ := h.row0
  have i0 : dIx M q (.int 0) = some (rowT r0) := ix9 hv hq (i := 0) (by rw [List.getElem?_map, e0]; rfl)
  have ln : ∀ M, dLen M (rowT r0) = some (.int d) := fun M => by rw [e_lenT, List.length_map, l0]
  have lq : ∀ M, dLen M (rowT p) = some (.int p.length) := fun M => by rw [e_lenT, List.length_map]
  have cn := c_flat (m_nums p (by omega) hp.p) M (by simp) (by simp)
  have gt : ¬ (d : Int) < p.length := by omega
  have hM := hB.cut0
  simp [-e_ix, -e_lenT, F_require_beginning, b_require_beginning, runF, cn, lq, i0, ln, gt, hM, retR]
theorem vc_reqbeg (h : Pl d rs) {p : List Int} (hp : OkP d p) (hv : VW M q (rs.map rowT)) (hq : noPtu q = true) : callF F_require_beginning [q, rowT p] M = .ok .non M := c_view (fun m => rowsT_below m rs) (by simp) rfl (fun M q hB hv hq => v_reqbeg h hp hB hv hq) hv hq
theorem v_levels (hl : rs.length ≤ 1900) (p : List Int) (hB : StB M) (hv : VW M q (rs.map rowT)) : F_levels_behind [q, rowT p] M = .ok (.lst (natD (lv rs p))) M := by
  obtain ⟨w, hw⟩ := hv
  have wk := srcW_ok hw
  have key := lev_loop (q := q) (p := p) (fun i r M => lev_test i r M) M rs 0 [] (by simpa using hl)
  rw [List.nil_append] at key
  have key' := (lcLW_pure (gg := gToT (gToCons (gTo 2) (gToCons (gTo 3) (gToNil)))) (gt := gVal (gOp2 dEqA (gSl (gV 3) (gNoO) (gO (gCall (fn1 dLen) (gCons (gV 1) (gNil))))) (gV 1))) (ge := gV 2) (Γ := [some q, some (rowT p), none, none]) wk (enumL 0 (rs.map rowT)) [] fun x hx => by
    obtain ⟨i, hi⟩ := List.getElem?_of_mem hx
    obtain ⟨d0, e0, rfl⟩ := enumL_get _ _ _ _ hi
    rw [List.getElem?_map] at e0
    obtain ⟨r, er, rfl⟩ := Option.map_eq_some_iff.mp e0
    have z : (0 : Int) + (i : Int) = (i : Int) := Int.zero_add _
    rw [z]
    exact ⟨[some q, some (rowT p), some (.int (i : Nat)), some (rowT r)], _, by simp, lev_test i r M, fun _ => ⟨.int (i : Nat), by simp⟩⟩).trans key
  have key' : gLcLW _ _ _ _ w (enumL 0 (rs.map rowT)) [] M = .ok (natD (lv rs p)) M := key'
  have bl := natD_below M.length (lv rs p)
  have hM := hB.cut0
  generalize natD (lv rs p) = LV at *
  generalize rowT p = RP at *
  simp [F_levels_behind, b_levels_behind, runF, hw, key', bl, hM, retR, below]
theorem vc_levels (hl : rs.length ≤ 1900) (p : List Int) (hv : VW M q (rs.map rowT)) (hq : noPtu q = true) : callF F_levels_behind [q, rowT p] M = .ok (.lst (natD (lv rs p))) M := c_view (fun m => rowsT_below m rs) (by simp) (by simpa [below] using natD_below 0 (lv rs p)) (fun M q hB hv hq => v_levels hl p hB hv) hv hq
end
end My.Pn

set_option Elab.async false
set_option linter.all false
set_option maxRecDepth 100000
set_option maxHeartbeats 8000000
namespace My.Pn
open PySem PySem.Spec PyProof.Rows L2 Bk
/-! ### group and tests of such plans -/
section
variable {M : List MO} {q : D} {d : Nat} {rs : List (List Int)}
theorem nmb_ix9 (h : Pl d rs) {p : List Int} (hp : p.length < d) {l : Nat} (hl : l ∈ lv rs p) (hv : VW M q (rs.map rowT)) (hq : noPtu q = true) : (dIx M q (.int (l : Nat))).bind (fun r => dIx M r (.int (p.length : Nat))) = some (.int ((rs.getD l []).getD p.length 0)) := by
  obtain ⟨r, e, _⟩ := mem_lv.mp hl
  have hr := h.len r (List.mem_of_getElem? e)
  rw [ix9 hv hq (x := rowT r) (by rw [List.getElem?_map, e]; rfl), Option.bind_some, rowT_ix M r (by omega)]
  rw [List.getD_eq_getElem?_getD (l := rs), e]
  rfl
theorem v_testsb (h : Pl d rs) {p : List Int} (hp : p.length < d) (hB : StB M) (hv : VW M q (rs.map rowT)) (hq : noPtu q = true) : F_tests_behind [q, rowT p] M = .ok (.lst ((tst rs p).map D.int)) M := by
  have hM := hB.cut0
  have sz : 2000 ≤ sizeLine := by rw [sizeLine_eq]; omega
  have hf := h.few
  have cl := vc_levels (by omega : rs.length ≤ 1900) p hv hq
  obtain ⟨a, m, e, hm, hr⟩ := lv_range h p
  have eq := fun M => natD_eq M (lv rs p)
  cases m with
  | zero =>
    have e0 : lv rs p = [] := e
    have t0 : tst rs p = [] := by unfold tst; rw [e0]
    have eq' : ∀ M, dEqA M (.lst (natD (lv rs p))) (.lst []) = some (.bl true) := fun M => (eq M).trans (by rw [e0]; simp)
    rw [t0]
    generalize natD (lv rs p) = LV at *
    generalize rowT p = RP at *
    simp [F_tests_behind, b_tests_behind, runF, cl, eq', hM, retR, below, belows]
  | succ m =>
    have eq' : ∀ M, dEqA M (.lst (natD (lv rs p))) (.lst []) = some (.bl false) := fun M => (eq M).trans (by rw [e, List.range'_succ]; simp)
    have f0 : ∀ M, dIx M (.lst (natD (lv rs p))) (.int 0) = some (.int (a : Nat)) := fun M => by rw [e]; exact natD_first M a m
    have nl : (nmb rs p).length = m + 1 := by unfold nmb; rw [e]; simp
    have lq : ∀ M, dLen M (rowT p) = some (.int p.length) := fun M => by rw [e_lenT, List.length_map]
    have k1 := lcL_run (gg := gTo 4) (ge := le_tests_behind_1) (Γ := [some q, some (rowT p), some (.lst (natD (lv rs p))), none, none, none, none]) (M := M) (fun (l : Nat) => D.int (l : Int)) (fun l => D.int ((rs.getD l []).getD p.length 0)) (lv rs p) [] (by rw [e]; simp; omega) fun l hl => by
      refine ⟨[some q, some (rowT p), some (.lst (natD (lv rs p))), none, some (.int (l : Nat)), none, none], by simp, ?_⟩
      have ix := nmb_ix9 h hp hl hv hq
      cases e1 : dIx M q (.int (l : Nat)) with
      | none => rw [e1] at ix; cases ix
      | some r =>
        rw [e1, Option.bind_some] at ix
        generalize natD (lv rs p) = LV at *
        generalize rowT p = RP at *
        simp [-e_ix, le_tests_behind_1, e1, lq, ix]
    have n0 : (nmb rs p)[0]? = some ((nmb rs p).getD 0 0) := by
      rw [List.getD_eq_getElem?_getD, List.getElem?_eq_getElem (by omega)]
      rfl
    have ix0 : ∀ M, dIx M (.lst ((nmb rs p).map D.int)) (.int 0) = some (.int ((nmb rs p).getD 0 0)) := fun M => by
      rw [e_ix, itemsD_l, Option.bind_some]
      refine (Bk.atI_nat _ 0).trans ?_
      rw [List.getElem?_map, n0]
      rfl
    have bd : 0 ≤ (nmb rs p).getD 0 0 ∧ (nmb rs p).getD 0 0 ≤ 12 := by
      have m0 := List.mem_of_getElem? n0
      generalize (nmb rs p).getD 0 0 = z at *
      unfold nmb at m0
      obtain ⟨l, hl, rfl⟩ := List.mem_map.mp m0
      obtain ⟨r, er, _⟩ := mem_lv.mp hl
      have lr := h.len r (List.mem_of_getElem? er)
      rw [List.getD_eq_getElem?_getD (l := rs), er]
      refine h.nums r (List.mem_of_getElem? er) _ ?_
      rw [Option.getD_some, List.getD_eq_getElem?_getD, List.getElem?_eq_getElem (by omega)]
      exact List.getElem_mem _
    have nm1 : (lv rs p).map (fun l => D.int ((rs.getD l []).getD p.length 0)) = (nmb rs p).map D.int := by
      unfold nmb
      rw [List.map_map]
      rfl
    rw [nm1, List.nil_append] at k1
    have k1 : gLcL (gTo 4) gYes le_tests_behind_1 [some q, some (rowT p), some (.lst (natD (lv rs p))), none, none, none, none] (natD (lv rs p)) [] M = .ok ((nmb rs p).map D.int) M := k1
    have k2 := lcL_run (gg := gTo 5) (ge := le_tests_behind_3) (Γ := [some q, some (rowT p), some (.lst (natD (lv rs p))), some (.lst ((nmb rs p).map D.int)), none, none, none]) (M := M) D.int (fun j => D.int ((a : Int) + (cge (nmb rs p) j : Nat))) (intR 1 ((nmb rs p).getD 0 0).toNat) [] (by rw [intR_lenN, List.length_nil]; omega) fun j hj => by
      refine ⟨[some q, some (rowT p), some (.lst (natD (lv rs p))), some (.lst ((nmb rs p).map D.int)), none, some (.int j), none], by simp, ?_⟩
      have k3 := lcL_sel (gg := gTo 6) (gt := gVal (gOp2 dGe (gV 6) (gV 5))) (ge := gV 6) (Γ := [some q, some (rowT p), some (.lst (natD (lv rs p))), some (.lst ((nmb rs p).map D.int)), none, some (.int j), none]) (M := M) D.int D.int (fun x => decide (j ≤ x)) (nmb rs p) [] (by simp; omega) fun x _ => ⟨[some q, some (rowT p), some (.lst (natD (lv rs p))), some (.lst ((nmb rs p).map D.int)), none, some (.int j), some (.int x)], by simp, by simp, fun _ => by simp⟩
      have ln : ∀ M, dLen M (.lst (((nmb rs p).filter fun x => decide (j ≤ x)).map D.int)) = some (.int (cge (nmb rs p) j : Nat)) := fun M => by rw [e_lenL, List.length_map]; rfl
      rw [List.nil_append] at k3
      generalize ((nmb rs p).filter fun x => decide (j ≤ x)).map D.int = FL at *
      generalize (nmb rs p).map D.int = NB at *
      generalize natD (lv rs p) = LV at *
      generalize rowT p = RP at *
      simp [-e_ix, -e_lenL, le_tests_behind_3, f0, k3, ln]
    have tt : tst rs p = (intR 1 ((nmb rs p).getD 0 0).toNat).map fun j => (a : Int) + (cge (nmb rs p) j : Nat) := by
      unfold tst
      rw [e, List.range'_succ]
    have tm : (intR 1 ((nmb rs p).getD 0 0).toNat).map (fun j => D.int ((a : Int) + (cge (nmb rs p) j : Nat))) = (tst rs p).map D.int := by rw [tt, List.map_map]; rfl
    rw [tm, List.nil_append, ← rngL_int] at k2
    have r2 : rng2 [.int 1, .int ((nmb rs p).getD 0 0 + 1)] = some (rngL 1 ((nmb rs p).getD 0 0).toNat) := by
      have i1 : Bk.inR 1 = true := rfl
      have i2 : Bk.inR ((nmb rs p).getD 0 0 + 1) = true := inR_i (by omega) (by omega)
      have q : ((nmb rs p).getD 0 0 + 1 - 1).toNat = ((nmb rs p).getD 0 0).toNat := by congr 1; omega
      rw [u_rng2, i1, i2, q]
      rfl
    have bt : belows M.length ((tst rs p).map D.int) = true := by simp
    generalize (tst rs p).map D.int = TS at *
    generalize (nmb rs p).map D.int = NB at *
    generalize (nmb rs p).getD 0 0 = z at *
    generalize natD (lv rs p) = LV at *
    generalize rowT p = RP at *
    simp [-e_ix, -u_rng2, F_tests_behind, b_tests_behind, runF, cl, eq', k1, ix0, r2, k2, bt, hM, retR, below]
theorem v_tests (h : Pl d rs) {p : List Int} (hp : OkP d p) (hB : StB M) (hv : VW M q (rs.map rowT)) (hq : noPtu q = true) : F_tests [q, rowT p] M = .ok (.lst ((tstD d rs p).map D.int)) M := by
  have hM := hB.cut0
  have rr := vc_reqrows h hv hq
  have rb := vc_reqbeg h hp hv hq
  obtain ⟨r0, e0, l0⟩ := h.row0
  have i0 : dIx M q (.int 0) = some (rowT r0) := ix9 hv hq (i := 0) (by rw [List.getElem?_map, e0]; rfl)
  have ln : ∀ M, dLen M (rowT r0) = some (.int d) := fun M => by rw [e_lenT, List.length_map, l0]
  have lq : ∀ M, dLen M (rowT p) = some (.int p.length) := fun M => by rw [e_lenT, List.length_map]
  unfold tstD
  by_cases c : p.length < d
  · have ct : callF F_tests_behind [q, rowT p] M = .ok (.lst ((tst rs p).map D.int)) M := c_view (fun m => rowsT_below m rs) (by simp) (by simp) (fun M q hB hv hq => v_testsb h c hB hv hq) hv hq
    have c' : (p.length : Int) < d := by omega
    have bt : belows M.length ((tst rs p).map D.int) = true := by simp
    rw [if_pos c]
    generalize (tst rs p).map D.int = TS at *
    generalize rowT p = RP at *
    simp [-e_ix, -e_lenT, F_tests, b_tests, runF, rr, rb, lq, i0, ln, c', ct, bt, hM, retR, below]
  · have c' : ¬ (p.length : Int) < d := by omega
    rw [if_neg c]
    generalize rowT p = RP at *
    simp [-e_ix, -e_lenT, F_tests, b_tests, runF, rr, rb, lq, i0, ln, c', hM, retR, below, belows]
theorem vc_tests (h : Pl d rs) {p : List Int} (hp : OkP d p) (hv : VW M q (rs.map rowT)) (hq : noPtu q = true) : callF F_tests [q, rowT p] M = .ok (.lst ((tstD d rs p).map D.int)) M := c_view (fun m => rowsT_below m rs) (by simp) (by simp) (fun M q hB hv hq => v_tests h hp hB hv hq) hv hq
end
end My.Pn

set_option Elab.async false
set_option linter.all false
set_option maxRecDepth 100000
set_option maxHeartbeats 8000000
namespace My.Pn
open PySem PySem.Spec PyProof.Rows L2 Bk
/-! ### the law's functions of a plan -/
theorem m_llevels (t : Bool) {rs : List (List Int)} (hl : rs.length ≤ 1900) (p : List Int) : F_law_levels [planD t rs, rowT p] [] = .ok (.lst (natD (lv rs p))) [] := by
  have key := lev_loop (q := planD t rs) (p := p) (fun i r M => lev_test i r M) [] rs 0 [] (by simpa using hl)
  rw [List.nil_append] at key
  have key' : gLcL (gToT (gToCons (gTo 2) (gToCons (gTo 3) (gToNil)))) (gVal (gOp2 dEqA (gSl (gV 3) (gNoO) (gO (gCall (fn1 dLen) (gCons (gV 1) (gNil))))) (gV 1))) (gV 2) [some (planD t rs), some (rowT p), none, none] (enumL 0 (rs.map rowT)) [] [] = .ok (natD (lv rs p)) [] := key
  have sq := planD_seq t rs
  have bl := natD_below 0 (lv rs p)
  generalize planD t rs = PD at *
  generalize natD (lv rs p) = LV at *
  generalize rowT p = RP at *
  simp [F_law_levels, b_law_levels, runF, sq, key', bl]
theorem c_llevels (t : Bool) {rs : List (List Int)} (hl : rs.length ≤ 1900) (p : List Int) (M : List MO) : callF F_law_levels [planD t rs, rowT p] M = .ok (.lst (natD (lv rs p))) M := c_flat (m_llevels t hl p) M (by simp) (by simpa [Bk.below] using natD_below 0 (lv rs p))
end My.Pn

set_option Elab.async false
set_option linter.all false
set_option maxRecDepth 100000
set_option maxHeartbeats 8000000
namespace My.Pn
open PySem PySem.Spec PyProof.Rows L2 Bk
/-! ### drawn pasts, drawn rows -/
theorem plan_draw {rs : List (List Int)} {i : Int} (h0 : 0 ≤ i) (h1 : i < rs.length) : ∃ r, (∀ M, dIx M (.lst (rs.map rowT)) (.int i) = some (rowT r)) ∧ r ∈ rs := by
  obtain ⟨k, rfl⟩ := Int.eq_ofNat_of_zero_le h0
  have hk : k < rs.length := by omega
  exact ⟨rs[k], fun M => planD_ix M false rs (List.getElem?_eq_getElem hk), List.getElem_mem hk⟩
theorem four_ix {a b c e i : Int} (h0 : 0 ≤ i) (h1 : i < 4) : ∃ v : Int, (∀ M, dIx M (.lst [.int a, .int b, .int c, .int e]) (.int i) = some (.int v)) ∧ (v = a ∨ v = b ∨ v = c ∨ v = e) := by
  have : i = 0 ∨ i = 1 ∨ i = 2 ∨ i = 3 := by omega
  rcases this with rfl | rfl | rfl | rfl
  · exact ⟨a, fun M => by simp, .inl rfl⟩
  · exact ⟨b, fun M => by simp, .inr (.inl rfl)⟩
  · exact ⟨c, fun M => by simp, .inr (.inr (.inl rfl))⟩
  · exact ⟨e, fun M => by simp, .inr (.inr (.inr rfl))⟩
theorem rowT_list (M : List MO) (r : List Int) : dList M (rowT r) = some (.lst (r.map D.int)) := rfl
theorem lc_rowD {x1 x2 x3 x4 x6 x7 : Option D} {top : Int} (h0 : 0 < top) (h1 : top ≤ 13) (R : List MO) : ∀ (ds : List D) (acc : List D) (s : Src3), acc.length + ds.length ≤ 1900 →
    ∃ (is : List Int) (s' : Src3), gLcL (gTo 8) gYes le_law_rows_1 [some (.ref 0), x1, x2, x3, x4, some (.int top), x6, x7, none] ds acc (srcO s :: R) = .ok (acc ++ is.map D.int) (srcO s' :: R) ∧ is.length = ds.length ∧ ∀ i ∈ is, 0 ≤ i ∧ i ≤ 12
  | [], acc, s, _ => ⟨[], s, by simp [gLcL], rfl, by simp⟩
  | d :: ds, acc, s, h => by
    have sz : 2000 ≤ sizeLine := by rw [sizeLine_eq]; omega
    simp only [List.length_cons] at h
    have t1 := t_0 s top R h0 (by omega)
    have a0 := tk_lo s h0
    have a1 := tk_hi s h0
    obtain ⟨is, s', e, l, hi⟩ := lc_rowD (x1 := x1) (x2 := x2) (x3 := x3) (x4 := x4) (x6 := x6) (x7 := x7) h0 h1 R ds (acc ++ [.int (tk s top)]) (tn s top) (by simp; omega)
    refine ⟨tk s top :: is, s', ?_, by simp [l], fun i hi' => ?_⟩
    · refine (lcL_cons (Γ1 := [some (.ref 0), x1, x2, x3, x4, some (.int top), x6, x7, some d]) (y := .int (tk s top)) (M2 := srcO (tn s top) :: R) (by simp) (by simp [le_law_rows_1, t1]) (by omega)).trans (e.trans (by simp))
    · rcases List.mem_cons.mp hi' with z | z
      · rw [z]; omega
      · exact hi i z
theorem rows_loop {d : Nat} (hd : d ≤ 100) (many : D) : ∀ (n : Nat) (lo : Int) (acc : List (List Int)) (s : Src3), acc.length + n ≤ 62 → (∀ r ∈ acc, r.length = d ∧ ∀ x ∈ r, 0 ≤ x ∧ x ≤ 12) →
    ∃ (acc' : List (List Int)) (s' : Src3), gForL (gTo 4) lb_law_rows_1 (rngL lo n) [some (.ref 0), some (.int (d : Nat)), some many, some (.ref 1), none, none, none, none, none] [srcO s, .lst (acc.map rowT)]
      = .nx [some (.ref 0), some (.int (d : Nat)), some many, some (.ref 1), none, none, none, none, none] [srcO s', .lst (acc'.map rowT)] ∧ acc'.length = acc.length + n ∧ ∀ r ∈ acc', r.length = d ∧ ∀ x ∈ r, 0 ≤ x ∧ x ≤ 12
  | 0, lo, acc, s, _, h => ⟨acc, s, by simp [rngL], rfl, h⟩
  | n + 1, lo, acc, s, hn, h => by
    have sz : 2000 ≤ sizeLine := by rw [sizeLine_eq]; omega
    have t1 := t_0 s 4 [.lst (acc.map rowT)] (by decide) (by decide)
    obtain ⟨top, et, ht⟩ := four_ix (a := 1) (b := 2) (c := 4) (e := 13) (tk_lo s (n := 4) (by decide)) (tk_hi s (n := 4) (by decide))
    generalize tk s 4 = i1 at *
    generalize tn s 4 = s1 at *
    have ht2 : 0 < top ∧ top ≤ 13 := by rcases ht with z | z | z | z <;> omega
    obtain ⟨is, s2, e2, l2, h2⟩ := lc_rowD (x1 := some (.int (d : Nat))) (x2 := some many) (x3 := some (.ref 1)) (x4 := some (.int lo)) (x6 := none) (x7 := none) ht2.1 ht2.2 [.lst (acc.map rowT)] (rngL 0 d) [] s1 (by rw [rngL_length]; simp; omega)
    rw [rngL_length] at l2
    rw [List.nil_append] at e2
    have r1 : rng1 [.int (d : Nat)] = some (rngL 0 d) := by
      rw [u_rng1, if_pos (inR_i (by omega) (by omega)), Int.toNat_natCast]
    have own : ∀ (s : Src3), dNeA [srcO s, .lst (acc.map rowT)] (.ref 1) (.lst []) = some (.bl !(decide (acc = []))) := fun s => by
      refine dNeA_p (x := .ref 1) ?_ (fun _ h => by cases h)
      rw [eqP_of (rowsT_dt 0 acc).lst (Dts.nil 0).lst ((rowsT_dt 0 acc).derefR rfl) (Dt.deref (Dts.nil 0).lst) (by decide) (by decide)]
      cases acc with
      | nil => rfl
      | cons x ls => rfl
    have done : ∀ (row : List Int) (s3 : Src3) (x5 x6 x7 : Option D), row.length = d → (∀ x ∈ row, 0 ≤ x ∧ x ≤ 12) → ∃ (acc' : List (List Int)) (s' : Src3), gForL (gTo 4) lb_law_rows_1 (rngL (lo + 1) n) [some (.ref 0), some (.int (d : Nat)), some many, some (.ref 1), none, none, none, none, none] [srcO s3, .lst (acc.map rowT ++ [rowT row])]
        = .nx [some (.ref 0), some (.int (d : Nat)), some many, some (.ref 1), none, none, none, none, none] [srcO s', .lst (acc'.map rowT)] ∧ acc'.length = acc.length + (n + 1) ∧ ∀ r ∈ acc', r.length = d ∧ ∀ x ∈ r, 0 ≤ x ∧ x ≤ 12 := fun row s3 x5 x6 x7 lr hr => by
      obtain ⟨acc', s', e, l, hh⟩ := rows_loop hd many n (lo + 1) (acc ++ [row]) s3 (by simp; omega) (fun r hr' => by
        rcases List.mem_append.mp hr' with z | z
        · exact h r z
        · have : r = row := by simpa using z
          rw [this]
          exact ⟨lr, hr⟩)
      refine ⟨acc', s', ?_, by rw [l]; simp; omega, hh⟩
      rw [List.map_append] at e
      exact e
    have tu : ∀ (M : List MO) (r : List Int), dTuple M (.lst (r.map D.int)) = some (rowT r) := fun M r => rfl
    have qa : (acc.map rowT).length < sizeLine := by rw [List.length_map]; omega
    rw [rngL]
    by_cases hc : acc = []
    · obtain ⟨acc', s', e, l, hh⟩ := done is s2 none none none l2 h2
      refine ⟨acc', s', ?_, l, hh⟩
      have own' : ∀ (s : Src3), dNeA [srcO s, .lst (acc.map rowT)] (.ref 1) (.lst []) = some (.bl false) := fun s => (own s).trans (by simp [hc])
      refine (forL_cons (Γ1 := [some (.ref 0), some (.int (d : Nat)), some many, some (.ref 1), some (.int lo), none, none, none, none]) (by simp) ?_).trans e
      have tu' := fun M => tu M is
      generalize acc.map rowT = AC at *
      generalize is.map D.int = IS at *
      generalize rowT is = RI at *
      simp [-e_ix, -u_rng1, lb_law_rows_1, t1, et, r1, e2, own', tu', listD, isListD, mutR, qa]
    · have own' : ∀ (s : Src3), dNeA [srcO s, .lst (acc.map rowT)] (.ref 1) (.lst []) = some (.bl true) := fun s => (own s).trans (by simp [hc])
      have z3 : 0 < (d : Int) + 1 := by omega
      have t3 := t_0 s2 ((d : Int) + 1) [.lst (acc.map rowT)] z3 (by omega)
      have a0 := tk_lo s2 z3
      have a1 := tk_hi s2 z3
      generalize tk s2 ((d : Int) + 1) = i3 at *
      generalize tn s2 ((d : Int) + 1) = s3 at *
      obtain ⟨sh, rfl⟩ := Int.eq_ofNat_of_zero_le a0
      have hp : 0 < acc.length := List.length_pos_iff.mpr hc
      have z4 : 0 < (acc.length : Int) := by omega
      have t4 := t_0 s3 (acc.length : Int) [.lst (acc.map rowT)] z4 (by omega)
      obtain ⟨q, ix, hq⟩ := plan_draw (rs := acc) (tk_lo s3 z4) (tk_hi s3 z4)
      generalize tk s3 (acc.length : Int) = i4 at *
      generalize tn s3 (acc.length : Int) = s4 at *
      have ixr : ∀ s : Src3, dIx [srcO s, .lst (acc.map rowT)] (.ref 1) (.int i4) = some (rowT q) := fun s => by
        have := ix []
        rw [e_ix, itemsD_l, Option.bind_some] at this
        rw [e_ix, itemsD_r]
        simp only [listD, List.getElem?_cons_succ, List.getElem?_cons_zero, Option.bind_some]
        exact this
      have lr : ∀ s : Src3, dLen [srcO s, .lst (acc.map rowT)] (.ref 1) = some (.int acc.length) := fun s => by
        rw [e_lenR]
        simp [listD]
      obtain ⟨lq, nq⟩ := h q hq
      have ct := fun M => rowT_cut M q sh
      have li := fun M => rowT_list M (q.take sh)
      have cf : ∀ M, dCut M (some (sh : Int)) none (.lst (is.map D.int)) = some (.lst ((is.drop sh).map D.int)) := fun M => by
        simp only [dCut, listD, Option.map_some]
        rw [cutD_from, ← List.map_drop]
      have ad : ∀ M, dAdd M (.lst ((q.take sh).map D.int)) (.lst ((is.drop sh).map D.int)) = some (.lst ((q.take sh ++ is.drop sh).map D.int)) := fun M => by
        rw [e_addL, if_pos (by simp; omega)]
        simp
      obtain ⟨acc', s', e, l, hh⟩ := done (q.take sh ++ is.drop sh) s4 none none none (by simp; omega) (fun x hx => by
        rcases List.mem_append.mp hx with z | z
        · exact nq x (List.mem_of_mem_take z)
        · exact h2 x (List.mem_of_mem_drop z))
      refine ⟨acc', s', ?_, l, hh⟩
      refine (forL_cons (Γ1 := [some (.ref 0), some (.int (d : Nat)), some many, some (.ref 1), some (.int lo), none, none, none, none]) (by simp) ?_).trans e
      have tu' := fun M => tu M (q.take sh ++ is.drop sh)
      generalize acc.map rowT = AC at *
      generalize (q.take sh ++ is.drop sh).map D.int = W1 at *
      generalize rowT (q.take sh ++ is.drop sh) = RI at *
      generalize (q.take sh).map D.int = W2 at *
      generalize rowT (q.take sh) = W6 at *
      generalize rowT q = W7 at *
      generalize (is.drop sh).map D.int = W3 at *
      generalize is.map D.int = IS at *
      simp [-e_ix, -u_rng1, -e_lenR, -e_addL, lb_law_rows_1, t1, et, r1, e2, own', t3, lr, t4, ixr, ct, li, cf, ad, tu', listD, isListD, mutR, qa]
theorem m_lrows {d : Nat} (hd : d ≤ 100) {n : Nat} (h1 : 1 ≤ n) (h2 : n ≤ 60) (s : Src3) : ∃ (rs : List (List Int)) (s' : Src3), F_law_rows [.ref 0, .int (d : Nat), .int (n : Nat)] [srcO s] = .ok (planD false rs) [srcO s'] ∧ Pl d rs ∧ rs.length ≤ 60 := by
  obtain ⟨acc, s', e, l, hh⟩ := rows_loop hd (.int (n : Nat)) n 0 [] s (by simp; omega) (by simp)
  have e : gForL (gTo 4) lb_law_rows_1 (rngL 0 n) [some (.ref 0), some (.int (d : Nat)), some (.int (n : Nat)), some (.ref 1), none, none, none, none, none] [srcO s, .lst []] = _ := e
  rw [List.length_nil, Nat.zero_add] at l
  have r1 : rng1 [.int (n : Nat)] = some (rngL 0 n) := by
    rw [u_rng1, if_pos (inR_i (by omega) (by omega)), Int.toNat_natCast]
  have ul := (uniqR_len acc).1
  have ok : srtOk (uniqR acc) = true := by
    unfold srtOk
    rw [Bool.or_eq_true]
    by_cases hz : d = 0
    · left
      rw [decide_eq_true_eq]
      have all : ∀ r ∈ uniqR acc, r = [] := fun r hr => List.length_eq_zero_iff.mp ((hh r (mem_uniqR.mp hr)).1.trans hz)
      have nd := uniqR_nodup acc
      rcases h9 : uniqR acc with _ | ⟨a, _ | ⟨b, rs⟩⟩
      · simp
      · simp
      · rw [h9] at all nd
        have ea := all a (by simp)
        have eb := all b (by simp)
        rw [ea, eb] at nd
        simp at nd
    · right
      rw [List.all_eq_true]
      intro r hr
      have := (hh r (mem_uniqR.mp hr)).1
      rw [decide_eq_true_eq]
      intro z
      rw [z] at this
      simp at this
      omega
  have so := e_sortS [srcO s', .dead] (rs := acc) (by omega) ok
  refine ⟨(srtR (uniqR acc)).reverse, s', ?_, ?_, ?_⟩
  · have rv : (((srtR (uniqR acc)).map tupI).reverse) = ((srtR (uniqR acc)).reverse).map rowT := by rw [List.map_reverse]
    have rv2 : D.lst (((srtR (uniqR acc)).map tupI).reverse) = planD false (srtR (uniqR acc)).reverse := by rw [rv]; rfl
    have bl := rowsT_below 0 (srtR (uniqR acc)).reverse
    have rt : retR 1 [srcO s', .dead] (planD false (srtR (uniqR acc)).reverse) = .ok (planD false (srtR (uniqR acc)).reverse) [srcO s'] := by
      have := rowsT_below 1 (srtR (uniqR acc)).reverse
      show (if Bk.below 1 (planD false (srtR (uniqR acc)).reverse) = true then _ else _) = _
      rw [if_pos (planD_below 1 false _)]
      rfl
    generalize planD false (srtR (uniqR acc)).reverse = PD at *
    generalize (srtR (uniqR acc)).map tupI = SR at *
    generalize acc.map rowT = AC at *
    simp [-u_rng1, F_law_rows, b_law_rows, runF, r1, e, so, rv2, rt]
  · have pm : (srtR (uniqR acc)).Perm (uniqR acc) := List.mergeSort_perm _ _
    have mem : ∀ r, r ∈ (srtR (uniqR acc)).reverse ↔ r ∈ acc := fun r => by rw [List.mem_reverse, pm.mem_iff, mem_uniqR]
    have lp : (srtR (uniqR acc)).reverse.length ≤ 60 := by rw [List.length_reverse, pm.length_eq]; omega
    refine ⟨?_, by omega, hd, fun r hr => (hh r ((mem r).mp hr)).1, fun r hr => (hh r ((mem r).mp hr)).2, ?_⟩
    · intro z
      have : acc ≠ [] := fun w => by rw [w] at l; simp at l; omega
      obtain ⟨x, xs, hx⟩ := List.exists_cons_of_ne_nil this
      have := (mem x).mpr (by rw [hx]; simp)
      rw [z] at this
      simp at this
    · rw [List.pairwise_reverse]
      have nd : (srtR (uniqR acc)).Nodup := pm.nodup_iff.mpr (uniqR_nodup acc)
      refine List.Pairwise.imp₂ (fun a b h1 h2 => ?_) (srtR_up (uniqR acc)) nd
      unfold leR at h1
      rw [decide_eq_true_eq] at h1
      by_cases z : a < b
      · exact z
      · exact absurd (List.le_antisymm h1 (List.not_lt.mp z)) h2
  · have pm : (srtR (uniqR acc)).Perm (uniqR acc) := List.mergeSort_perm _ _
    rw [List.length_reverse, pm.length_eq]
    omega
theorem c_lrows {d : Nat} (hd : d ≤ 100) {n : Nat} (h1 : 1 ≤ n) (h2 : n ≤ 60) (s : Src3) (R : List MO) : ∃ (rs : List (List Int)) (s' : Src3), callF F_law_rows [.ref 0, .int (d : Nat), .int (n : Nat)] (srcO s :: R) = .ok (planD false rs) (srcO s' :: R) ∧ Pl d rs ∧ rs.length ≤ 60 := by
  obtain ⟨rs, s', e, h, l⟩ := m_lrows hd h1 h2 s
  exact ⟨rs, s', c_lend1 (k := 0) (M := srcO s :: R) e rfl rfl rfl rfl (by simp) (by simp), h, l⟩
end My.Pn

set_option Elab.async false
set_option linter.all false
set_option maxRecDepth 100000
set_option maxHeartbeats 4000000
namespace My.Pn
open PySem PySem.Spec PyProof.Rows L2 Bk
/-! ### plans of some levels: their tests, plainly -/
theorem lex1 (k : Int) : ∀ {p r : List Int}, r.take p.length = p → p.length < r.length → (p ++ [k] ≤ r ↔ k ≤ r.getD p.length 0)
  | [], n :: t, _, _ => by
    show [k] ≤ n :: t ↔ _
    rw [List.cons_le_cons_iff]
    simp only [List.length_nil, List.getD_cons_zero]
    constructor
    · rintro (h | ⟨h, _⟩) <;> omega
    · intro h
      rcases Int.lt_or_eq_of_le h with h | h
      · exact .inl h
      · exact .inr ⟨h, List.nil_le t⟩
  | [], [], _, h => by simp at h
  | a :: p, [], _, h => by simp at h
  | a :: p, b :: r, e, h => by
    simp only [List.length_cons, List.take_succ_cons, List.cons.injEq] at e
    obtain ⟨rfl, e⟩ := e
    have ih := lex1 k e (by simpa using h)
    show b :: (p ++ [k]) ≤ b :: r ↔ _
    rw [List.cons_le_cons_iff]
    simp only [Int.lt_irrefl, false_or, true_and]
    simpa using ih
theorem lex2 (k : Int) : ∀ {p r : List Int}, p.length ≤ r.length → p < r.take p.length → p ++ [k] ≤ r
  | [], r, _, h => by simp at h
  | a :: p, [], h, _ => by simp at h
  | a :: p, b :: r, hl, h => by
    simp only [List.length_cons, List.take_succ_cons] at h
    show a :: (p ++ [k]) ≤ b :: r
    rw [List.cons_le_cons_iff]
    rcases List.cons_lt_cons_iff.mp h with h | ⟨h1, h2⟩
    · exact .inl h
    · exact .inr ⟨h1, lex2 k (by simpa using hl) h2⟩
theorem lex3 (k : Int) : ∀ {p r : List Int}, r.take p.length < p → ¬ p ++ [k] ≤ r
  | [], r, h => by simp at h
  | a :: p, [], _ => by simp
  | a :: p, b :: r, h => by
    simp only [List.length_cons, List.take_succ_cons] at h
    show ¬ (a :: (p ++ [k]) ≤ b :: r)
    rw [List.cons_le_cons_iff]
    rcases List.cons_lt_cons_iff.mp h with h | ⟨h1, h2⟩
    · rintro (z | ⟨z, _⟩) <;> omega
    · rintro (z | ⟨z, w⟩)
      · omega
      · exact lex3 k h2 w
/-- so many rows are not less -/
def cnt (rs : List (List Int)) (x : List Int) : Nat := (rs.filter fun r => decide (x ≤ r)).length
theorem cnt_fall {rs : List (List Int)} (h : rs.Pairwise (fun a b => b < a)) (x : List Int) : ∀ l, (hl : l < rs.length) → (x ≤ rs[l] ↔ l < cnt rs x) := by
  unfold cnt
  induction rs with
  | nil => intro l hl; simp at hl
  | cons r rs ih =>
    obtain ⟨h1, h2⟩ := List.pairwise_cons.mp h
    intro l hl
    by_cases c : x ≤ r
    · rw [List.filter_cons_of_pos (by simpa using c)]
      cases l with
      | zero => simp [c]
      | succ l =>
        have := ih h2 l (by simpa using hl)
        simpa using this
    · have no : ∀ s ∈ rs, ¬ x ≤ s := fun s hs z => c (List.le_trans z (List.le_of_lt (h1 s hs)))
      have e : (r :: rs).filter (fun r => decide (x ≤ r)) = [] := by
        rw [List.filter_eq_nil_iff]
        intro s hs
        rcases List.mem_cons.mp hs with rfl | hs
        · simpa using c
        · simpa using no s hs
      rw [e]
      cases l with
      | zero => simpa using c
      | succ l =>
        have := no (rs[l]'(by simpa using hl)) (List.getElem_mem _)
        simpa using this
theorem nmb_filter (p : List Int) : ∀ (rs pre : List (List Int)), ((lvF p pre.length rs).map fun l => ((pre ++ rs).getD l []).getD p.length 0) = (rs.filter fun r => decide (r.take p.length = p)).map fun r => r.getD p.length 0
  | [], pre => rfl
  | r :: rs, pre => by
    have ih := nmb_filter p rs (pre ++ [r])
    rw [List.length_append, List.length_singleton, List.append_assoc, List.singleton_append] at ih
    rw [lvF]
    by_cases c : r.take p.length = p
    · rw [if_pos c, List.filter_cons_of_pos (by simpa using c), List.map_cons, List.map_cons, ih]
      congr 1
      simp [List.getD_eq_getElem?_getD]
    · rw [if_neg c, List.filter_cons_of_neg (by simpa using c), ih]
theorem nmb_is (rs : List (List Int)) (p : List Int) : nmb rs p = (rs.filter fun r => decide (r.take p.length = p)).map fun r => r.getD p.length 0 := by
  have := nmb_filter p rs []
  simpa [nmb, lv] using this
theorem tst_cnt {d : Nat} {rs : List (List Int)} (h : Pl d rs) {p : List Int} (hp : p.length < d) : tst rs p = (intR 1 ((nmb rs p).getD 0 0).toNat).map fun k => ((cnt rs (p ++ [k]) : Nat) : Int) := by
  have hl := h.len
  obtain ⟨u, v, w, e, hu, hv, hw⟩ := parts h.fall p
  have el : lv rs p = List.range' u.length v.length := by rw [e]; exact lv_parts hu hv hw
  have en : nmb rs p = v.map fun r => r.getD p.length 0 := by
    rw [nmb_is, e, List.filter_append, List.filter_append]
    have f1 : u.filter (fun r => decide (r.take p.length = p)) = [] := by rw [List.filter_eq_nil_iff]; intro r hr; simpa using hu r hr
    have f3 : w.filter (fun r => decide (r.take p.length = p)) = [] := by rw [List.filter_eq_nil_iff]; intro r hr; simpa using hw r hr
    have f2 : v.filter (fun r => decide (r.take p.length = p)) = v := by rw [List.filter_eq_self]; intro r hr; simpa using hv r hr
    rw [f1, f2, f3]; simp
  cases v with
  | nil =>
    rw [en]
    unfold tst
    rw [el]
    simp [intR]
  | cons v0 v =>
    have ff : ∀ r ∈ u, v0 < r := fun r hr => by
      have f := h.fall
      rw [e] at f
      rw [List.pairwise_append] at f
      have f := f.1
      rw [List.pairwise_append] at f
      exact f.2.2 r hr v0 (by simp)
    have fw : ∀ r ∈ w, r < v0 := fun r hr => by
      have f := h.fall
      rw [e] at f
      rw [List.pairwise_append] at f
      exact f.2.2 v0 (by simp) r hr
    have ev := hv v0 (by simp)
    have cu : ∀ k, ∀ r ∈ u, p ++ [k] ≤ r := fun k r hr => by
      refine lex2 k (by rw [hl r (by rw [e]; simp [hr])]; omega) ?_
      rcases lt_take p.length (ff r hr) with z | z
      · rw [ev] at z; exact absurd z.symm (hu r hr)
      · rw [ev] at z; exact z
    have cw : ∀ k, ∀ r ∈ w, ¬ p ++ [k] ≤ r := fun k r hr => by
      refine lex3 k ?_
      rcases lt_take p.length (fw r hr) with z | z
      · rw [ev] at z; exact absurd z (hw r hr)
      · rw [ev] at z; exact z
    have lr : lv rs p = u.length :: List.range' (u.length + 1) v.length := by rw [el]; rfl
    unfold tst
    rw [lr]
    refine List.map_congr_left fun k hk => ?_
    have c1 : cnt rs (p ++ [k]) = u.length + cge (nmb rs p) k := by
      unfold cnt cge
      rw [e, List.filter_append, List.filter_append, List.length_append, List.length_append]
      have f1 : u.filter (fun r => decide (p ++ [k] ≤ r)) = u := by rw [List.filter_eq_self]; intro r hr; simpa using cu k r hr
      have f3 : w.filter (fun r => decide (p ++ [k] ≤ r)) = [] := by rw [List.filter_eq_nil_iff]; intro r hr; simpa using cw k r hr
      rw [f1, f3, ← e, en, List.filter_map, List.length_map]
      have f2 : (v0 :: v).filter (fun r => decide (p ++ [k] ≤ r)) = (v0 :: v).filter ((fun x => decide (k ≤ x)) ∘ fun r => r.getD p.length 0) := List.filter_congr fun r hr => by
        have := lex1 k (hv r hr) (by rw [hl r (by rw [e]; simp only [List.mem_append]; exact .inl (.inr hr))]; exact hp)
        simp only [Function.comp, decide_eq_decide]
        exact this
      rw [f2]
      simp
    rw [c1]
    omega
end My.Pn

set_option Elab.async false
set_option linter.all false
set_option maxRecDepth 100000
set_option maxHeartbeats 4000000
namespace My.Pn
open PySem PySem.Spec PyProof.Rows L2 Bk
/-! ### plans of some levels -/
structure LvK (rs : List (List Int)) (K : List Nat) : Prop where
  ne : K ≠ []
  up : K.Pairwise (· < ·)
  lt : ∀ l ∈ K, l < rs.length
abbrev rw1 (rs : List (List Int)) (l : Nat) : List Int := rs.getD l []
def thn (rs : List (List Int)) (K : List Nat) : List (List Int) := K.map (rw1 rs)
theorem rw1_get {rs : List (List Int)} {l : Nat} (h : l < rs.length) : rs[l]? = some (rw1 rs l) := by
  simp [rw1, List.getD_eq_getElem?_getD, List.getElem?_eq_getElem h]
theorem rw1_eq {rs : List (List Int)} {l : Nat} (h : l < rs.length) : rw1 rs l = rs[l] := by
  simp [rw1, List.getD_eq_getElem?_getD, List.getElem?_eq_getElem h]
theorem up_few : ∀ {K : List Nat} {a n : Nat}, K.Pairwise (· < ·) → (∀ l ∈ K, a ≤ l ∧ l < a + n) → K.length ≤ n
  | [], _, _, _, _ => by simp
  | k :: K, a, n, h, hl => by
    obtain ⟨h1, h2⟩ := List.pairwise_cons.mp h
    have hk := hl k (by simp)
    have := up_few (K := K) (a := k + 1) (n := a + n - (k + 1)) h2 fun l hm => by
      have := h1 l hm
      have := hl l (by simp [hm])
      omega
    simp only [List.length_cons]
    omega
theorem thn_pl {d : Nat} {rs : List (List Int)} (h : Pl d rs) {K : List Nat} (hK : LvK rs K) : Pl d (thn rs K) := by
  have mem : ∀ r ∈ thn rs K, r ∈ rs := fun r hr => by
    obtain ⟨l, hl, rfl⟩ := List.mem_map.mp hr
    exact List.mem_of_getElem? (rw1_get (hK.lt l hl))
  refine ⟨by simpa [thn] using hK.ne, ?_, h.days, fun r hr => h.len r (mem r hr), fun r hr => h.nums r (mem r hr), ?_⟩
  · have := up_few (a := 0) (n := rs.length) hK.up fun l hl => ⟨by omega, by have := hK.lt l hl; omega⟩
    have := h.few
    simp [thn]; omega
  · unfold thn
    rw [List.pairwise_map]
    refine List.Pairwise.imp_of_mem (fun {a b} ha hb hab => ?_) hK.up
    have la := hK.lt a ha
    have lb := hK.lt b hb
    rw [rw1_eq la, rw1_eq lb]
    exact List.pairwise_iff_getElem.mp h.fall a b la lb hab
theorem cnt_thn {d : Nat} {rs : List (List Int)} (h : Pl d rs) {K : List Nat} (hK : LvK rs K) (x : List Int) : cnt (thn rs K) x = (K.filter fun l => decide (((l : Nat) : Int) < ((cnt rs x : Nat) : Int))).length := by
  unfold cnt
  unfold thn
  rw [List.filter_map, List.length_map]
  congr 1
  refine List.filter_congr fun l hl => ?_
  have ll := hK.lt l hl
  have := cnt_fall h.fall x l ll
  simp only [Function.comp, rw1_eq ll, decide_eq_decide]
  rw [this]
  unfold cnt
  omega
def insd (rs : List (List Int)) (K : List Nat) (p : List Int) : List Nat := K.filter fun l => decide (l ∈ lv rs p)
theorem insd_is {d : Nat} {rs : List (List Int)} {K : List Nat} (hK : LvK rs K) (p : List Int) : insd rs K p = K.filter fun l => decide ((rw1 rs l).take p.length = p) := by
  refine List.filter_congr fun l hl => ?_
  have ll := rw1_get (hK.lt l hl)
  rw [decide_eq_decide, mem_lv]
  exact ⟨fun ⟨r, e, h⟩ => by rw [ll] at e; cases e; exact h, fun h => ⟨_, ll, h⟩⟩
theorem nmb_thn {rs : List (List Int)} {K : List Nat} (hK : LvK rs K) (p : List Int) : nmb (thn rs K) p = (insd rs K p).map fun l => (rw1 rs l).getD p.length 0 := by
  rw [nmb_is, insd_is (d := 0) hK, thn, List.filter_map, List.map_map]
  rfl
theorem intR_take : ∀ (n m : Nat) (lo : Int), m ≤ n → (intR lo n).take m = intR lo m
  | _, 0, _, _ => rfl
  | 0, m + 1, _, h => by omega
  | n + 1, m + 1, lo, h => by
    rw [intR, List.take_succ_cons, intR_take n m (lo + 1) (by omega)]
    rfl
/-- the tests that the law expects -/
def due (d : Nat) (rs : List (List Int)) (K : List Nat) (p : List Int) : List Int := match insd rs K p with
  | [] => []
  | a :: _ => if p.length < d then ((tst rs p).take ((rw1 rs a).getD p.length 0).toNat).map fun T => (((K.filter fun l => decide (((l : Nat) : Int) < T)).length : Nat) : Int) else []
theorem num_in {d : Nat} {rs : List (List Int)} (h : Pl d rs) {p : List Int} {a : Nat} (ha : a ∈ lv rs p) (hp : p.length < d) : 0 ≤ (rw1 rs a).getD p.length 0 ∧ (rw1 rs a).getD p.length 0 ≤ (nmb rs p).getD 0 0 := by
  obtain ⟨r, e, _⟩ := mem_lv.mp ha
  have la := (List.getElem?_eq_some_iff.mp e).1
  have rr : rw1 rs a ∈ rs := List.mem_of_getElem? (rw1_get la)
  have lr := h.len _ rr
  constructor
  · have : (rw1 rs a).getD p.length 0 ∈ rw1 rs a := by
      rw [List.getD_eq_getElem?_getD, List.getElem?_eq_getElem (by omega)]
      exact List.getElem_mem _
    exact (h.nums _ rr _ this).1
  · have m : (rw1 rs a).getD p.length 0 ∈ nmb rs p := List.mem_map.mpr ⟨a, ha, rfl⟩
    have f := nmb_fall h hp
    cases e2 : nmb rs p with
    | nil => rw [e2] at m; cases m
    | cons x xs =>
      rw [e2] at m f
      simp only [List.getD_cons_zero]
      rcases List.mem_cons.mp m with z | z
      · omega
      · exact (List.pairwise_cons.mp f).1 _ z
theorem thin_tests {d : Nat} {rs : List (List Int)} (h : Pl d rs) {K : List Nat} (hK : LvK rs K) (p : List Int) : tstD d (thn rs K) p = due d rs K p := by
  unfold tstD due
  by_cases hp : p.length < d
  · rw [if_pos hp, tst_cnt (thn_pl h hK) hp, nmb_thn hK]
    cases e : insd rs K p with
    | nil => simp [intR]
    | cons a K' =>
      have ha : a ∈ lv rs p := by
        have : a ∈ insd rs K p := by rw [e]; simp
        simpa using (List.mem_filter.mp this).2
      obtain ⟨n1, n2⟩ := num_in h ha hp
      simp only [List.map_cons, List.getD_cons_zero, if_pos hp]
      rw [tst_cnt h hp, ← List.map_take, intR_take _ _ _ (by omega), List.map_map]
      refine List.map_congr_left fun k _ => ?_
      simp only [Function.comp, cnt_thn h hK]
  · rw [if_neg hp]
    split
    · rfl
    · rw [if_neg hp]
end My.Pn

set_option Elab.async false
set_option linter.all false
set_option maxRecDepth 100000
set_option maxHeartbeats 8000000
namespace My.Pn
open PySem PySem.Spec PyProof.Rows L2 Bk
/-! ### thinned and level_of, of plans that are lists of ours or frozen -/
def lvD (t : Bool) (K : List Nat) : D := if t = true then .tup (natD K) else .lst (natD K)
@[simp] theorem lvD_bl (m : Nat) (t : Bool) (K : List Nat) : Bk.below m (lvD t K) = true := by cases t <;> simpa [lvD, Bk.below] using natD_below m K
theorem lvD_len (t : Bool) (K : List Nat) (M : List MO) : dLen M (lvD t K) = some (.int (K.length : Nat)) := by cases t <;> simp [lvD]
theorem lvD_isi (t : Bool) (K : List Nat) (M : List MO) : dIsiT ["list", "tuple"] M (lvD t K) = some (.bl true) := by cases t <;> rfl
theorem lvD_src (t : Bool) (K : List Nat) (M : List MO) : srcW M (lvD t K) = some (natD K, []) := by cases t <;> rfl
theorem lvD_seq (t : Bool) (K : List Nat) : seqD (lvD t K) = some (natD K) := by cases t <;> rfl
theorem lvD_ix (t : Bool) (K : List Nat) (M : List MO) {i l : Nat} (h : K[i]? = some l) : dIx M (lvD t K) (.int (i : Nat)) = some (.int (l : Nat)) := by
  cases t <;> simp [lvD, Bk.atI_nat, List.getElem?_map, h]
theorem retR_new {M : List MO} {ds : List D} (bl : belows M.length ds = true) : retR M.length (M ++ [.lst ds]) (.ref M.length) = .ok (.ref M.length) (M ++ [.lst ds]) := by
  simp [retR, bl]
section
variable {M : List MO} {q : D} {d : Nat} {rs : List (List Int)}
theorem c_viewO {F : List D → List MO → R D} {L ds new : List D} (bL : ∀ m, belows m L = true) (bd : belows 0 ds = true) (bn : ∀ m, belows m new = true) (h : ∀ (M : List MO) (q : D), StB M → VW M q L → noPtu q = true → F (q :: ds) M = .ok (.ref M.length) (M ++ [.lst new])) {M : List MO} {q : D} (hv : VW M q L) (hp : noPtu q = true) :
    callF F (q :: ds) M = .ok (.ref M.length) (M ++ [.lst new]) := by
  rcases hv.cases with ⟨k, rfl, e⟩ | rfl | rfl | rfl
  · have m := h [.lst L] (.ref 0) (stB1 bL) (VW.ref rfl) rfl
    have l1 := lendK_nil bd
    have l2 : lendA 1 ds = ds := lendA_nil bd
    have l3 := flatArgs_of bd
    have sm : M.set k (.lst L) = M := set_same9 e
    have b0 : belowO 0 (.lst L) = true := bL 0
    have b1 : belowO 0 (.lst new) = true := bn 0
    simp [callF, lendK, l1, l2, l3, getAll, e, flatArgs, lentOk, isDead, b0, b1, lendA, m, backD, setAll, sm]
  · exact c_flatO (h [] (.lst L) StB.nil (VW.lst _ _) rfl) M (by simp [belows, Bk.below, bL 0, bd]) (bn 0)
  · exact c_flatO (h [] (.tup L) StB.nil (VW.tup _ _) rfl) M (by simp [belows, Bk.below, bL 0, bd]) (bn 0)
  · cases hp
theorem v_thinned (h : Pl d rs) {K : List Nat} (hK : LvK rs K) (t : Bool) (hB : StB M) (hv : VW M q (rs.map rowT)) (hq : noPtu q = true) : F_thinned [q, lvD t K] M = .ok (.ref M.length) (M ++ [.lst ((thn rs K).map rowT)]) := by
  have hf := h.few
  have sz : 20000 ≤ sizeLine := by rw [sizeLine_eq]; omega
  have kf := up_few (a := 0) (n := rs.length) hK.up fun l hl => ⟨by omega, by have := hK.lt l hl; omega⟩
  have cr := vc_reqrows h hv hq
  have ql := hv.len hq
  have kne := hK.ne
  have kn : ¬ ((K.length : Nat) : Int) = 0 := by
    have := List.length_pos_iff.mpr hK.ne
    omega
  have k1 := lvD_len t K
  have k2 := lvD_isi t K
  have k3 := lvD_src t K
  have k4 := lvD_seq t K
  have ixq : ∀ {i : Nat}, i < rs.length → dIx M q (.int (i : Nat)) = some (rowT (rw1 rs i)) := fun {i} e => ix9 hv hq (by rw [List.getElem?_map, rw1_get e]; rfl)
  have ql' : dLen M q = some (.int (rs.length : Nat)) := by rw [ql, List.length_map]
  have lp : ∀ (post pre : List Nat), pre ++ post = K → gForL (gToT (gToCons (gTo 2) (gToCons (gTo 3) (gToNil)))) lb_thinned_1 (enumL ((pre.length : Nat) : Int) (natD post)) [some q, some (lvD t K), none, none] M = .nx [some q, some (lvD t K), none, none] M := by
    intro post
    induction post with
    | nil => intro pre _; simp [enumL]
    | cons l post ih =>
      intro pre e
      have ll := hK.lt l (by rw [← e]; simp)
      have ih' := ih (pre ++ [l]) (by rw [← e]; simp)
      have e3 : (((pre ++ [l]).length : Nat) : Int) = (pre.length : Nat) + 1 := by simp
      rw [e3] at ih'
      have cb := fun M => c_between (l : Nat) 0 (((rs.length : Nat) : Int) - 1) M
      have cd : decide ((0 : Int) ≤ (l : Nat) ∧ ((l : Nat) : Int) ≤ ((rs.length : Nat) : Int) - 1) = true := by
        rw [decide_eq_true_eq]
        omega
      rw [cd] at cb
      show gForL _ _ (enumL _ (D.int (l : Nat) :: natD post)) _ _ = _
      rw [enumL]
      refine (forL_cons (Γ1 := [some q, some (lvD t K), some (.int (pre.length : Nat)), some (.int (l : Nat))]) (by simp) ?_).trans ih'
      rcases List.eq_nil_or_concat pre with rfl | ⟨pr, x, rfl⟩
      · generalize lvD t K = LD at *
        generalize ((rs.length : Nat) : Int) = N at *
        generalize ((l : Nat) : Int) = li at *
        simp [-e_ix, lb_thinned_1, cb, ql']
      · rw [List.concat_eq_append] at *
        have ix := lvD_ix t K M (i := pr.length) (l := x) (by rw [← e]; simp)
        have lt : x < l := by
          have := hK.up
          rw [← e, List.pairwise_append] at this
          exact this.2.2 x (by simp) l (by simp)
        have sb : (((pr ++ [x]).length : Nat) : Int) - 1 = (pr.length : Nat) := by simp
        have ps : (0 : Int) < (((pr ++ [x]).length : Nat) : Int) := by simp
        have nl : ¬ ((l : Nat) : Int) ≤ (x : Nat) := by omega
        generalize lvD t K = LD at *
        generalize ((rs.length : Nat) : Int) = N at *
        generalize ((l : Nat) : Int) = li at *
        generalize ((x : Nat) : Int) = xi at *
        generalize (((pr ++ [x]).length : Nat) : Int) = pl at *
        generalize ((pr.length : Nat) : Int) = pi at *
        simp [-e_ix, lb_thinned_1, cb, ql', ps, sb, ix, nl]
  have lp0 : gForL (gToT (gToCons (gTo 2) (gToCons (gTo 3) (gToNil)))) lb_thinned_1 (enumL 0 (natD K)) [some q, some (lvD t K), none, none] M = _ := lp K [] rfl
  have lc := lcL_run (gg := gTo 3) (ge := le_thinned_1) (Γ := [some q, some (lvD t K), none, none]) (M := M) (fun l : Nat => D.int (l : Int)) (fun l => rowT (rw1 rs l)) K [] (by simp; omega) fun l hl => by
    have ix := ixq (hK.lt l hl)
    refine ⟨[some q, some (lvD t K), none, some (.int (l : Nat))], by simp, ?_⟩
    generalize ((l : Nat) : Int) = li at *
    simp [-e_ix, le_thinned_1, ix]
  have et : K.map (fun l => rowT (rw1 rs l)) = (thn rs K).map rowT := by rw [thn, List.map_map]; rfl
  rw [List.nil_append, et] at lc
  have bl := rowsT_below M.length (thn rs K)
  have cutM := hB.cut [.lst ((thn rs K).map rowT)]
  have rt := retR_new bl
  have lc' : gLcL (gTo 3) gYes le_thinned_1 [some q, some (lvD t K), none, none] (natD K) [] M = _ := lc
  generalize natD K = NK at *
  generalize (thn rs K).map rowT = T at *
  generalize lvD t K = LD at *
  simp [-e_ix, F_thinned, b_thinned, runF, cr, k1, k2, k3, k4, kn, kne, lp0, lc', cutM, rt]
theorem vc_thinned (h : Pl d rs) {K : List Nat} (hK : LvK rs K) (t : Bool) (hv : VW M q (rs.map rowT)) (hq : noPtu q = true) : callF F_thinned [q, lvD t K] M = .ok (.ref M.length) (M ++ [.lst ((thn rs K).map rowT)]) :=
  c_viewO (fun m => rowsT_below m rs) (by simp) (fun m => rowsT_below m _) (fun M q hB hv hq => v_thinned h hK t hB hv hq) hv hq
end
end My.Pn

set_option Elab.async false
set_option linter.all false
set_option maxRecDepth 100000
set_option maxHeartbeats 8000000
namespace My.Pn
open PySem PySem.Spec PyProof.Rows L2 Bk
/-! ### level_of; merged plans -/
def ixs (r : List Int) : Nat → List (List Int) → List Nat
  | _, [] => []
  | i, s :: rs => if s = r then i :: ixs r (i + 1) rs else ixs r (i + 1) rs
theorem ixs_none {r : List Int} : ∀ {rs : List (List Int)} {i : Nat}, r ∉ rs → ixs r i rs = []
  | [], _, _ => rfl
  | s :: rs, i, h => by
    rw [ixs, if_neg (fun e => h (by rw [e]; simp)), ixs_none (fun m => h (by simp [m]))]
theorem ixs_one {r : List Int} : ∀ {rs : List (List Int)} {i j : Nat}, rs.Nodup → rs[j]? = some r → ixs r i rs = [i + j]
  | [], _, _, _, h => by simp at h
  | s :: rs, i, 0, nd, h => by
    have e : s = r := by simpa using h
    rw [ixs, if_pos e, ixs_none (by rw [← e]; exact (List.nodup_cons.mp nd).1)]
    rfl
  | s :: rs, i, j + 1, nd, h => by
    have h' : rs[j]? = some r := by simpa using h
    have ne : s ≠ r := fun e => (List.nodup_cons.mp nd).1 (by rw [e]; exact List.mem_of_getElem? h')
    rw [ixs, if_neg ne, ixs_one (List.nodup_cons.mp nd).2 h']
    congr 1
    omega
theorem ixs_loop {q : D} {r : List Int} (M : List MO) : ∀ (rs : List (List Int)) (i : Nat) (acc : List D), acc.length + rs.length ≤ 1900 →
    gLcL (gToT (gToCons (gTo 2) (gToCons (gTo 3) (gToNil)))) (gVal (gOp2 dEqA (gV 3) (gV 1))) (gV 2) [some q, some (rowT r), none, none] (enumL (i : Int) (rs.map rowT)) acc M = .ok (acc ++ natD (ixs r i rs)) M
  | [], i, acc, _ => by simp [enumL, ixs, gLcL]
  | s :: rs, i, acc, h => by
    have sz : 2000 ≤ sizeLine := by rw [sizeLine_eq]; omega
    simp only [List.length_cons] at h
    have e3 : ((i + 1 : Nat) : Int) = (i : Int) + 1 := by omega
    have eq := rowT_eq M s r
    rw [List.map_cons, enumL]
    by_cases c : s = r
    · have ih := ixs_loop (q := q) (r := r) M rs (i + 1) (acc ++ [.int i]) (by simp; omega)
      rw [e3] at ih
      refine (lcL_take (Γ1 := [some q, some (rowT r), some (.int i), some (rowT s)]) (y := .int i) (M1 := M) (M2 := M) (by simp) ?_ (by simp) (by omega)).trans (ih.trans ?_)
      · generalize rowT s = A at *
        generalize rowT r = B at *
        simp [eq, c]
      · rw [ixs, if_pos c]
        simp
    · have ih := ixs_loop (q := q) (r := r) M rs (i + 1) acc (by omega)
      rw [e3] at ih
      refine (lcL_skip (Γ1 := [some q, some (rowT r), some (.int i), some (rowT s)]) (M1 := M) (by simp) ?_).trans (ih.trans ?_)
      · generalize rowT s = A at *
        generalize rowT r = B at *
        simp [eq, c]
      · rw [ixs, if_neg c]
theorem pl_nd {d : Nat} {rs : List (List Int)} (h : Pl d rs) : rs.Nodup := h.fall.imp fun {a b} q e => by rw [e] at q; exact List.lt_irrefl _ q
section
variable {M : List MO} {q : D} {d : Nat} {rs : List (List Int)}
theorem v_level (h : Pl d rs) {r : List Int} {j : Nat} (hj : rs[j]? = some r) (hB : StB M) (hv : VW M q (rs.map rowT)) (hq : noPtu q = true) : F_level_of [q, rowT r] M = .ok (.int (j : Nat)) M := by
  have hf := h.few
  have hr := List.mem_of_getElem? hj
  have cr := vc_reqrows h hv hq
  have cn := fun M => c_flat (m_nums r (by rw [h.len r hr]; have := h.days; omega) fun n hn => (h.nums r hr n hn).1) M (by simp) (by simp)
  obtain ⟨r0, rs', e0⟩ := List.exists_cons_of_ne_nil h.ne
  have i0 : dIx M q (.int 0) = some (rowT r0) := ix9 hv hq (i := 0) (by rw [e0]; rfl)
  have l0 : r0.length = d := h.len r0 (by rw [e0]; simp)
  have ln0 : ∀ M, dLen M (rowT r0) = some (.int d) := fun M => by rw [e_lenT, List.length_map, l0]
  have lnr : ∀ M, dLen M (rowT r) = some (.int d) := fun M => by rw [e_lenT, List.length_map, h.len r hr]
  obtain ⟨w, hw⟩ := hv
  have key := ixs_loop (q := q) (r := r) M rs 0 [] (by simpa using (by omega : rs.length ≤ 1900))
  rw [List.nil_append, ixs_one (pl_nd h) hj, Nat.zero_add] at key
  have key' : gLcL (gToT (gToCons (gTo 2) (gToCons (gTo 3) (gToNil)))) (gVal (gOp2 dEqA (gV 3) (gV 1))) (gV 2) [some q, some (rowT r), none, none] (enumL 0 (rs.map rowT)) [] M = .ok [.int (j : Nat)] M := key
  have hM := hB.cut0
  have sz : 2 ≤ sizeLine := by rw [sizeLine_eq]; omega
  generalize rowT r = RR at *
  generalize rowT r0 = R0 at *
  generalize ((j : Nat) : Int) = ji at *
  have ix : ∀ M, dIx M (.lst [.int ji, .non]) (.int 0) = some (.int ji) := fun M => rfl
  simp [-e_ix, F_level_of, b_level_of, runF, cr, cn, i0, ln0, lnr, hw, key', hM, ix, sz, retR]
theorem vc_level (h : Pl d rs) {r : List Int} {j : Nat} (hj : rs[j]? = some r) (hv : VW M q (rs.map rowT)) (hq : noPtu q = true) : callF F_level_of [q, rowT r] M = .ok (.int (j : Nat)) M :=
  c_view (fun m => rowsT_below m rs) (by simp) (by simp) (fun M q hB hv hq => v_level h hj hB hv hq) hv hq
end
/-! merged rows, plainly -/
def frev (rs : List (List Int)) : List (List Int) := (srtR (uniqR rs)).reverse
theorem srtR_ltJ {rs : List (List Int)} (nd : rs.Nodup) : (srtR rs).Pairwise (· < ·) := by
  have s := srtR_up rs
  have nd' : (srtR rs).Nodup := (List.mergeSort_perm rs leR).nodup_iff.mpr nd
  refine (s.and nd').imp fun {a b} h => ?_
  obtain ⟨h1, h2⟩ := h
  unfold leR at h1
  rw [decide_eq_true_eq] at h1
  rcases List.le_iff_lt_or_eq.mp h1 with q | q
  · exact q
  · exact absurd q h2
theorem frev_fall (rs : List (List Int)) : (frev rs).Pairwise fun a b => b < a := by
  unfold frev
  rw [List.pairwise_reverse]
  exact srtR_ltJ (uniqR_nodup rs)
theorem mem_frev {rs : List (List Int)} {r : List Int} : r ∈ frev rs ↔ r ∈ rs := by
  unfold frev
  rw [List.mem_reverse]
  exact ((List.mergeSort_perm _ leR).mem_iff).trans mem_uniqR
theorem fall_ext {a b : List (List Int)} (ha : a.Pairwise fun a b => b < a) (hb : b.Pairwise fun a b => b < a) (h : ∀ r, r ∈ a ↔ r ∈ b) : a = b := by
  have na : a.Nodup := ha.imp fun {a b} q e => by rw [e] at q; exact List.lt_irrefl _ q
  have nb : b.Nodup := hb.imp fun {a b} q e => by rw [e] at q; exact List.lt_irrefl _ q
  refine List.Perm.eq_of_pairwise (le := fun a b => b < a) (fun a b _ _ x y => absurd x (List.lt_asymm y)) ha hb ((List.perm_ext_iff_of_nodup na nb).mpr h)
theorem frev_pl {d : Nat} {rs : List (List Int)} (hd : d ≤ 100) (ne : rs ≠ []) (hf : (frev rs).length ≤ 1000) (hl : ∀ r ∈ rs, r.length = d) (hn : ∀ r ∈ rs, ∀ n ∈ r, 0 ≤ n ∧ n ≤ 12) : Pl d (frev rs) := by
  refine ⟨fun e => ?_, hf, hd, fun r hr => hl r (mem_frev.mp hr), fun r hr => hn r (mem_frev.mp hr), frev_fall rs⟩
  obtain ⟨r, rs', e2⟩ := List.exists_cons_of_ne_nil ne
  have : r ∈ frev rs := mem_frev.mpr (by rw [e2]; simp)
  rw [e] at this
  cases this
theorem frev_comm (a b : List (List Int)) : frev (a ++ b) = frev (b ++ a) := fall_ext (frev_fall _) (frev_fall _) fun r => by rw [mem_frev, mem_frev, List.mem_append, List.mem_append, or_comm]
theorem frev_same {d : Nat} {rs : List (List Int)} (h : Pl d rs) : frev (rs ++ rs) = rs := fall_ext (frev_fall _) h.fall fun r => by rw [mem_frev, List.mem_append, or_self]
theorem frev_len (rs : List (List Int)) : (frev rs).length = (uniqR rs).length := by
  unfold frev
  rw [List.length_reverse]
  exact (List.mergeSort_perm _ leR).length_eq
theorem uniq_le : ∀ rs : List (List Int), (uniqR rs).length ≤ rs.length
  | [] => Nat.le_refl _
  | r :: rs => by
    have := uniq_le rs
    rw [uniqR]
    split <;> simp <;> omega
theorem e_frev (M : List MO) {rs : List (List Int)} (hl : rs.length ≤ 2000) (hr : ∀ r ∈ rs, r ≠ []) : dSortSG M (.lst (rs.map rowT)) = some (.lst ((frev rs).reverse.map rowT)) := by
  have ok : srtOk (uniqR rs) = true := by
    unfold srtOk
    rw [Bool.or_eq_true]
    right
    rw [List.all_eq_true]
    exact fun x hx => by simpa using hr x (mem_uniqR.mp hx)
  have := e_sortSG M hl ok
  rw [frev, List.reverse_reverse]
  exact this
theorem m_merged (t u : Bool) {d : Nat} (d1 : 1 ≤ d) {rs os : List (List Int)} (h : Pl d rs) (ho : Pl d os) : F_merged [planD t rs, planD u os] [] = if (frev (rs ++ os)).length ≤ 1000 then .ok (.ref 0) [.lst ((frev (rs ++ os)).map rowT)] else .exc 5 (.int ((frev (rs ++ os)).length : Nat)) [] := by
  have sz : 20000 ≤ sizeLine := by rw [sizeLine_eq]; omega
  have hf := h.few
  have hg := ho.few
  have vw : ∀ (t : Bool) (rs : List (List Int)), VW [] (planD t rs) (rs.map rowT) ∧ noPtu (planD t rs) = true := fun t rs => by
    cases t
    · exact ⟨VW.lst _ _, rfl⟩
    · exact ⟨VW.tup _ _, rfl⟩
  have c1 := vc_reqrows h (vw t rs).1 (vw t rs).2
  have c2 := vc_reqrows ho (vw u os).1 (vw u os).2
  obtain ⟨r0, e0, l0⟩ := h.row0
  obtain ⟨s0, f0, m0⟩ := ho.row0
  have i1 := planD_ix [] t rs e0
  have i2 := planD_ix [] u os f0
  have i1 : dIx [] (planD t rs) (.int 0) = some (rowT r0) := i1
  have i2 : dIx [] (planD u os) (.int 0) = some (rowT s0) := i2
  have n1 : dLen [] (rowT r0) = some (.int d) := by rw [e_lenT, List.length_map, l0]
  have n2 : dLen [] (rowT s0) = some (.int d) := by rw [e_lenT, List.length_map, m0]
  have k1 : dList [] (planD t rs) = some (.lst (rs.map rowT)) := by cases t <;> rfl
  have k2 : dList [] (planD u os) = some (.lst (os.map rowT)) := by cases u <;> rfl
  have k3 : dAdd [] (.lst (rs.map rowT)) (.lst (os.map rowT)) = some (.lst ((rs ++ os).map rowT)) := by
    rw [e_addL, if_pos (by simp; omega), List.map_append]
  have k4 := e_frev [] (rs := rs ++ os) (by simp; omega) (fun r hr e => by
    have : r.length = d := by
      rcases List.mem_append.mp hr with z | z
      · exact h.len r z
      · exact ho.len r z
    rw [e] at this; simp at this; omega)
  have bl := rowsT_below 0 (frev (rs ++ os))
  have er : ((frev (rs ++ os)).reverse.map rowT).reverse = (frev (rs ++ os)).map rowT := by rw [← List.map_reverse, List.reverse_reverse]
  have ln : (((frev (rs ++ os)).map rowT).length : Int) = ((frev (rs ++ os)).length : Nat) := by simp
  by_cases c : (frev (rs ++ os)).length ≤ 1000
  · rw [if_pos c]
    have c' : ¬ (1000 < (((frev (rs ++ os)).length : Nat) : Int)) := by omega
    generalize ((frev (rs ++ os)).length : Int) = N at *
    generalize (frev (rs ++ os)).reverse.map rowT = A at *
    generalize (frev (rs ++ os)).map rowT = B at *
    generalize (rs ++ os).map rowT = C at *
    generalize rs.map rowT = RA at *
    generalize os.map rowT = RB at *
    generalize rowT r0 = R0 at *
    generalize rowT s0 = S0 at *
    generalize planD t rs = PA at *
    generalize planD u os = PB at *
    have lD : listD [MO.lst B] (.ref 0) = some B := rfl
    simp [-e_ix, -e_addL, lD, F_merged, b_merged, runF, c1, c2, i1, i2, n1, n2, k1, k2, k3, k4, er, ln, c', bl]
  · rw [if_neg c]
    have c' : (1000 < (((frev (rs ++ os)).length : Nat) : Int)) := by omega
    generalize ((frev (rs ++ os)).length : Int) = N at *
    generalize (frev (rs ++ os)).reverse.map rowT = A at *
    generalize (frev (rs ++ os)).map rowT = B at *
    generalize (rs ++ os).map rowT = C at *
    generalize rs.map rowT = RA at *
    generalize os.map rowT = RB at *
    generalize rowT r0 = R0 at *
    generalize rowT s0 = S0 at *
    generalize planD t rs = PA at *
    generalize planD u os = PB at *
    have lD : listD [MO.lst B] (.ref 0) = some B := rfl
    simp [-e_ix, -e_addL, lD, F_merged, b_merged, runF, c1, c2, i1, i2, n1, n2, k1, k2, k3, k4, er, ln, c', bl]
end My.Pn

set_option Elab.async false
set_option linter.all false
set_option maxRecDepth 100000
set_option maxHeartbeats 16000000
namespace My.Pn
open PySem PySem.Spec PyProof.Rows L2 Bk
/-! ### plans of some levels: the law's look -/
theorem toPMs_ints (M : List MO) (n : Nat) : ∀ is : List Int, toPMs M n (is.map D.int) = some (is.map PyData.int)
  | [] => by rw [List.map_nil, toPMs_nil]; rfl
  | i :: is => by rw [List.map_cons, toPMs_cons, toPM_int, toPMs_ints M n is]; rfl
theorem toPMs_rows (M : List MO) (n : Nat) : ∀ rs : List (List Int), toPMs M (n + 1) (rs.map rowT) = some (rs.map rowTP)
  | [] => by rw [List.map_nil, toPMs_nil]; rfl
  | r :: rs => by
    rw [List.map_cons, toPMs_cons, toPMs_rows M n rs]
    have : toPM M (n + 1) (rowT r) = some (rowTP r) := by
      show toPM M (n + 1) (.tup (r.map D.int)) = _
      rw [toPM_tup, toPMs_ints]; rfl
    rw [this]; rfl
theorem toPM_rowsR {M : List MO} {k : Nat} {rs : List (List Int)} (h : M[k]? = some (.lst (rs.map rowT))) : toPM M 6 (.ref k) = some (.list (rs.map rowTP)) := by
  rw [toPM_ref, h]
  simp only [toPMs_rows, Option.map_some]
theorem toPM_rowsL (M : List MO) (rs : List (List Int)) : toPM M 6 (.lst (rs.map rowT)) = some (.list (rs.map rowTP)) := by
  rw [toPM_lst, toPMs_rows]; rfl
theorem rows_sh (rs : List (List Int)) : SeqAt.shaped (.list (rs.map rowTP)) = true ∧ PyData.eqv (.list (rs.map rowTP)) (.list (rs.map rowTP)) = true := by
  have h := (rowsT_dt 0 rs).lst
  exact ⟨h.shaped (by decide), eqv_same h.l⟩
theorem same_ne {M : List MO} {x y : D} {rs : List (List Int)} (h1 : toPM M 6 x = some (.list (rs.map rowTP))) (h2 : toPM M 6 y = some (.list (rs.map rowTP))) : dNeF M x y = some (.bl false) := by
  unfold dNeF
  rw [eqPF_of h1 h2 (rows_sh rs).1 (rows_sh rs).1, (rows_sh rs).2]
  rfl
theorem same_eq {M : List MO} {x y : D} {rs : List (List Int)} (h1 : toPM M 6 x = some (.list (rs.map rowTP))) (h2 : toPM M 6 y = some (.list (rs.map rowTP))) : dEqF M x y = some (.bl true) := by
  unfold dEqF
  rw [eqPF_of h1 h2 (rows_sh rs).1 (rows_sh rs).1, (rows_sh rs).2]
  rfl
theorem ref_lst_ne {M : List MO} {k : Nat} {rs : List (List Int)} (h : M[k]? = some (.lst (rs.map rowT))) : dNeS M (.ref k) (.lst (rs.map rowT)) = some (.bl false) := same_ne (toPM_rowsR h) (toPM_rowsL M rs)
theorem ref_lst_eq {M : List MO} {k : Nat} {rs : List (List Int)} (h : M[k]? = some (.lst (rs.map rowT))) : dEqS M (.ref k) (.lst (rs.map rowT)) = some (.bl true) := same_eq (toPM_rowsR h) (toPM_rowsL M rs)
theorem ref_ref_ne {M : List MO} {j k : Nat} {rs : List (List Int)} (h1 : M[j]? = some (.lst (rs.map rowT))) (h : M[k]? = some (.lst (rs.map rowT))) : dNeS M (.ref j) (.ref k) = some (.bl false) := same_ne (toPM_rowsR h1) (toPM_rowsR h)
theorem ints_shp (is : List Int) : SeqAt.shaped (.list (is.map PyData.int)) = true := ((Dts.ints 0 is).lst).shaped (by decide)
theorem toPM_intsL (M : List MO) (is : List Int) : toPM M 6 (.lst (is.map D.int)) = some (.list (is.map PyData.int)) := by rw [toPM_lst, toPMs_ints]; rfl
theorem ints_neS (M : List MO) (is : List Int) : dNeS M (.lst (is.map D.int)) (.lst (is.map D.int)) = some (.bl false) := by
  show dNeF M _ _ = _
  unfold dNeF
  rw [eqPF_of (toPM_intsL M is) (toPM_intsL M is) (ints_shp is) (ints_shp is), eqv_same ((Dts.ints 0 is).lst).l]
  rfl
theorem nil_eqv : ∀ is : List Int, PyData.eqv (.list (is.map PyData.int)) (.list []) = decide (is = [])
  | [] => by simp [PyData.eqv, PyData.eqvAll]
  | i :: is => by simp [PyData.eqv, PyData.eqvAll]
theorem nat_ints (K : List Nat) : natD K = (K.map fun l : Nat => (l : Int)).map D.int := by rw [List.map_map]; rfl
theorem natS_eq (M : List MO) (K : List Nat) : dEqS M (.lst (natD K)) (.lst []) = some (.bl (decide (K = []))) := by
  show dEqF M _ _ = _
  unfold dEqF
  rw [nat_ints, eqPF_of (toPM_intsL M _) (show toPM M 6 (.lst []) = some (.list []) from toPM_intsL M []) (ints_shp _) (ints_shp [])]
  have := nil_eqv (K.map fun l : Nat => (l : Int))
  simp only [List.map_nil, this, List.map_eq_nil_iff, Option.map_some]
theorem natS_ne (M : List MO) (K : List Nat) : dNeS M (.lst (natD K)) (.lst []) = some (.bl !(decide (K = []))) := by
  show dNeF M _ _ = _
  unfold dNeF
  rw [nat_ints, eqPF_of (toPM_intsL M _) (show toPM M 6 (.lst []) = some (.list []) from toPM_intsL M []) (ints_shp _) (ints_shp [])]
  have := nil_eqv (K.map fun l : Nat => (l : Int))
  simp only [List.map_nil, this, List.map_eq_nil_iff, Option.map_some]
theorem eqS_int (M : List MO) (a b : Int) : dEqS M (.int a) (.int b) = some (.bl (decide (a = b))) := by
  show dEqF M _ _ = _
  unfold dEqF
  rw [eqPF_of (toPM_int 6 a) (toPM_int 6 b) rfl rfl]
  simp [PyData.eqv]
  rfl
/-- drawn levels -/
theorem lev_draw {x1 x2 x3 x4 x5 x6 x7 x8 x9 x11 : Option D} : ∀ (n : Nat) (lo : Nat) (acc : List D) (s : Src3), acc.length + n ≤ 1900 →
    ∃ (K : List Nat) (s' : Src3), gLcL (gTo 10) (gVal (gOp2 dEqS (gCallF 2 F_law_draw (gCons (gV 0) (gCons (gC (.int 3)) (gNil)))) (gC (.int 0)))) (gV 10) [some (.ref 0), x1, x2, x3, x4, x5, x6, x7, x8, x9, none, x11] (rngL (lo : Int) n) acc [srcO s] = .ok (acc ++ natD K) [srcO s'] ∧ K.Pairwise (· < ·) ∧ ∀ l ∈ K, lo ≤ l ∧ l < lo + n
  | 0, lo, acc, s, _ => ⟨[], s, by simp [rngL, gLcL], .nil, by simp⟩
  | n + 1, lo, acc, s, h => by
    have sz : 2000 ≤ sizeLine := by rw [sizeLine_eq]; omega
    have t1 := t_0 s 3 [] (by decide) (by decide)
    have e3 : ((lo + 1 : Nat) : Int) = (lo : Int) + 1 := by omega
    have eq := fun M => eqS_int M (tk s 3) 0
    by_cases c : tk s 3 = 0
    · obtain ⟨K, s', e, up, hl⟩ := lev_draw (x1 := x1) (x2 := x2) (x3 := x3) (x4 := x4) (x5 := x5) (x6 := x6) (x7 := x7) (x8 := x8) (x9 := x9) (x11 := x11) n (lo + 1) (acc ++ [.int (lo : Nat)]) (tn s 3) (by simp; omega)
      rw [e3] at e
      refine ⟨lo :: K, s', ?_, List.pairwise_cons.mpr ⟨fun l hm => by have := hl l hm; omega, up⟩, fun l hm => ?_⟩
      · rw [rngL]
        refine (lcL_take (Γ1 := [some (.ref 0), x1, x2, x3, x4, x5, x6, x7, x8, x9, some (.int (lo : Nat)), x11]) (y := .int (lo : Nat)) (M1 := [srcO (tn s 3)]) (M2 := [srcO (tn s 3)]) (by simp) ?_ (by simp) (by omega)).trans (e.trans ?_)
        · rw [decide_eq_true c] at eq
          generalize tk s 3 = i at *
          simp [t1, eq]
        · simp
      · rcases List.mem_cons.mp hm with rfl | hm
        · omega
        · have := hl l hm; omega
    · obtain ⟨K, s', e, up, hl⟩ := lev_draw (x1 := x1) (x2 := x2) (x3 := x3) (x4 := x4) (x5 := x5) (x6 := x6) (x7 := x7) (x8 := x8) (x9 := x9) (x11 := x11) n (lo + 1) acc (tn s 3) (by omega)
      rw [e3] at e
      refine ⟨K, s', ?_, up, fun l hm => by have := hl l hm; omega⟩
      rw [rngL]
      refine (lcL_skip (Γ1 := [some (.ref 0), x1, x2, x3, x4, x5, x6, x7, x8, x9, some (.int (lo : Nat)), x11]) (M1 := [srcO (tn s 3)]) (by simp) ?_).trans e
      rw [decide_eq_false c] at eq
      generalize tk s 3 = i at *
      simp [t1, eq]
theorem nat_in (M : List MO) (l : Nat) (K : List Nat) : dInA M (.int (l : Nat)) (.lst (natD K)) = some (.bl (decide (l ∈ K))) := by
  have e : toVs (natD K) = some (K.map fun l : Nat => V.int (l : Int)) := by
    induction K with
    | nil => rfl
    | cons y ys ih => simp only [List.map_cons, toVs, toV, ih]
  have e2 : inP M (.int (l : Nat)) (.lst (natD K)) = some (decide (l ∈ K)) := by
    unfold inP
    rw [itemsD_l, Option.bind_some, e]
    simp only [toV]
    congr 1
    unfold inV
    rw [List.any_map, Bool.eq_iff_iff]
    simp only [List.any_eq_true, Function.comp, decide_eq_true_eq]
    constructor
    · rintro ⟨y, h1, h2⟩
      have : (y : Int) = l := by simpa [eqV] using h2
      have : y = l := by omega
      rw [← this]; exact h1
    · intro h1
      exact ⟨l, h1, by simp [eqV]⟩
  unfold dInA inAP
  rw [e2]
  rfl
/-- one turn -/
theorem thin_turn {d : Nat} {rs : List (List Int)} (h : Pl d rs) {K : List Nat} (hK : LvK rs K) (x4 : D) (s : Src3) : ∃ s', lb_law_thinned_right_1 [some (.ref 0), some (planD false rs), some (lvD false K), some (.ref 1), some x4, none, none, none, none, none, none, none] [srcO s, .lst ((thn rs K).map rowT)]
    = .nx [some (.ref 0), some (planD false rs), some (lvD false K), some (.ref 1), none, none, none, none, none, none, none, none] [srcO s', .lst ((thn rs K).map rowT)] := by
  have sz : 2000 ≤ sizeLine := by rw [sizeLine_eq]; omega
  have hf := h.few
  have hd := h.days
  have ne := List.length_pos_iff.mpr h.ne
  have n0 : (0 : Int) < (rs.length : Nat) := by omega
  have t1 := t_0 s (rs.length : Nat) [.lst ((thn rs K).map rowT)] n0 (by omega)
  have a0 := tk_lo s n0
  have a1 := tk_hi s n0
  obtain ⟨r, er, hr⟩ := plan_draw (rs := rs) a0 a1
  have lr := h.len r hr
  have er : ∀ M, dIx M (planD false rs) (.int (tk s ((rs.length : Nat) : Int))) = some (rowT r) := er
  generalize tk s ((rs.length : Nat) : Int) = i1 at *
  generalize tn s ((rs.length : Nat) : Int) = s1 at *
  have d0 : (0 : Int) < (d : Nat) + 1 := by omega
  have t2 := t_0 s1 ((d : Nat) + 1) [.lst ((thn rs K).map rowT)] d0 (by omega)
  have b0 := tk_lo s1 d0
  have b1 := tk_hi s1 d0
  obtain ⟨k, ek⟩ : ∃ k : Nat, tk s1 ((d : Nat) + 1) = (k : Int) := ⟨_, (Int.toNat_of_nonneg b0).symm⟩
  rw [ek] at t2 b0 b1
  generalize tn s1 ((d : Nat) + 1) = s2 at *
  refine ⟨s2, ?_⟩
  obtain ⟨r0, e0, l0⟩ := h.row0
  have i0 : ∀ M, dIx M (planD false rs) (.int 0) = some (rowT r0) := fun M => planD_ix M false rs e0
  have ln0 : ∀ M, dLen M (rowT r0) = some (.int d) := fun M => by rw [e_lenT, List.length_map, l0]
  have pl : ∀ M, dLen M (planD false rs) = some (.int (rs.length : Nat)) := fun M => by simp
  have ct := fun M => rowT_cut M r k
  have hk : k ≤ d := by omega
  have lp : (r.take k).length = k := by rw [List.length_take, lr]; omega
  have hp : OkP d (r.take k) := ⟨by omega, fun n hn => (h.nums r hr n (List.mem_of_mem_take hn)).1⟩
  generalize r.take k = p at *
  subst lp
  have lnp : ∀ M, dLen M (rowT p) = some (.int (p.length : Nat)) := fun M => by rw [e_lenT, List.length_map]
  have cl := fun M => c_llevels false (rs := rs) (by omega) p M
  have kf := up_few (a := 0) (n := rs.length) hK.up fun l hl => ⟨by omega, by have := hK.lt l hl; omega⟩
  have ins := fun (M : List MO) => lcL_sel (gg := gTo 10) (gt := gVal (gOp2 dInA (gV 10) (gCallF 2 F_law_levels (gCons (gV 1) (gCons (gV 5) (gNil)))))) (ge := gV 10) (Γ := [some (.ref 0), some (planD false rs), some (lvD false K), some (.ref 1), some x4, some (rowT p), none, none, none, none, none, none]) (M := M) (fun l : Nat => D.int (l : Int)) (fun l : Nat => D.int (l : Int)) (fun l => decide (l ∈ lv rs p)) K [] (by simp; omega) fun l hl => by
    have cl := cl M
    have ni := nat_in M l (lv rs p)
    refine ⟨[some (.ref 0), some (planD false rs), some (lvD false K), some (.ref 1), some x4, some (rowT p), none, none, none, none, some (.int (l : Nat)), none], by simp, ?_, fun _ => by simp⟩
    generalize natD (lv rs p) = LL at *
    generalize planD false rs = PD at *
    generalize lvD false K = LD at *
    generalize rowT p = RP at *
    generalize ((l : Nat) : Int) = li at *
    simp [cl, ni]
  have ins : ∀ M, gLcL (gTo 10) (gVal (gOp2 dInA (gV 10) (gCallF 2 F_law_levels (gCons (gV 1) (gCons (gV 5) (gNil)))))) (gV 10) [some (.ref 0), some (planD false rs), some (lvD false K), some (.ref 1), some x4, some (rowT p), none, none, none, none, none, none] (natD K) [] M = .ok (natD (insd rs K p)) M := ins
  have c1 := fun M => vc_tests h hp (M := M) (VW.lst M (rs.map rowT)) rfl
  have c1 : ∀ M, callF F_tests [planD false rs, rowT p] M = .ok (.lst ((tstD d rs p).map D.int)) M := c1
  have c2 := vc_tests (thn_pl h hK) hp (M := [srcO s2, .lst ((thn rs K).map rowT)]) (q := .ref 1) (VW.ref rfl) rfl
  rw [thin_tests h hK] at c2
  have ns := fun M => ints_neS M (due d rs K p)
  have nn := fun M => natS_ne M (insd rs K p)
  have k4 := lvD_seq false K
  have pd : (((p.length : Nat) : Int) < (d : Nat)) ↔ p.length < d := by omega
  cases e : insd rs K p with
  | nil =>
    rw [e] at ins nn
    have du : due d rs K p = [] := by unfold due; rw [e]
    rw [du] at c2 ns
    simp only [List.map_nil] at c2 ns
    generalize planD false rs = PD at *
    generalize lvD false K = LD at *
    generalize rowT p = RP at *
    generalize rowT r = RR at *
    generalize rowT r0 = R0 at *
    generalize (thn rs K).map rowT = T at *
    generalize natD K = NK at *
    generalize natD [] = N0 at *
    simp [-e_ix, lb_law_thinned_right_1, pl, t1, er, i0, ln0, t2, ct, k4, ins, nn, c2, ns, clean]
  | cons a K' =>
    rw [e] at ins nn
    have nn : ∀ M, dNeS M (.lst (natD (a :: K'))) (.lst []) = some (.bl true) := fun M => by rw [nn]; simp
    have ai : a ∈ insd rs K p := by rw [e]; simp
    have ha : a ∈ lv rs p := by simpa using (List.mem_filter.mp ai).2
    have aK : a ∈ K := (List.mem_filter.mp ai).1
    have la := hK.lt a aK
    have ia : ∀ M, dIx M (.lst (natD (a :: K'))) (.int 0) = some (.int (a : Nat)) := fun M => lvD_ix false (a :: K') M (i := 0) rfl
    have ir : ∀ M, dIx M (planD false rs) (.int (a : Nat)) = some (rowT (rw1 rs a)) := fun M => planD_ix M false rs (rw1_get la)
    have lra := h.len (rw1 rs a) (List.mem_of_getElem? (rw1_get la))
    by_cases hpd : p.length < d
    · obtain ⟨n1, n2⟩ := num_in h ha hpd
      have ix : ∀ M, dIx M (rowT (rw1 rs a)) (.int (p.length : Nat)) = some (.int ((rw1 rs a).getD p.length 0)) := fun M => rowT_ix M _ (by omega)
      have td : tstD d rs p = tst rs p := by unfold tstD; rw [if_pos hpd]
      rw [td] at c1
      obtain ⟨num, en⟩ : ∃ num : Nat, (rw1 rs a).getD p.length 0 = (num : Int) := ⟨_, (Int.toNat_of_nonneg n1).symm⟩
      rw [en] at ix
      have du : due d rs K p = ((tst rs p).take num).map fun T => (((K.filter fun l => decide (((l : Nat) : Int) < T)).length : Nat) : Int) := by
        unfold due
        rw [e]
        simp only [if_pos hpd, en, Int.toNat_natCast]
      have cu : ∀ M, dCut M none (some (num : Int)) (.lst ((tst rs p).map D.int)) = some (.lst (((tst rs p).take num).map D.int)) := fun M => by
        show some (D.lst (cutD _ _ _)) = _
        rw [cutD_upto, List.map_take]
      have tl : (tst rs p).length ≤ 12 := by
        rw [tst_cnt h hpd, List.length_map]
        have : (nmb rs p).getD 0 0 ≤ 12 := by
          cases e3 : nmb rs p with
          | nil => simp
          | cons x xs =>
            have : x ∈ nmb rs p := by rw [e3]; simp
            obtain ⟨l, hl, rfl⟩ := List.mem_map.mp this
            obtain ⟨r', er', _⟩ := mem_lv.mp hl
            have rr := List.mem_of_getElem? er'
            have e4 : rs.getD l [] = r' := by rw [List.getD_eq_getElem?_getD, er']; rfl
            simp only [List.getD_cons_zero]
            rw [e4, List.getD_eq_getElem?_getD, List.getElem?_eq_getElem (by rw [h.len r' rr]; exact hpd)]
            exact (h.nums r' rr _ (List.getElem_mem _)).2
        simp only [intR_length]
        omega
      have lc := fun (M : List MO) (x : D) => lcL_run (gg := gTo 11) (ge := le_law_thinned_right_5) (Γ := [some (.ref 0), some (planD false rs), some (lvD false K), some (.ref 1), some x4, some (rowT p), some (.lst (natD (a :: K'))), some (.lst []), some (.lst ((tst rs p).map D.int)), some (.int (num : Int)), none, none]) (M := M) D.int (fun T => D.int (((K.filter fun l => decide (((l : Nat) : Int) < T)).length : Nat) : Int)) ((tst rs p).take num) [] (by simp; omega) fun T hT => by
        have sel := lcL_sel (gg := gTo 10) (gt := gVal (gOp2 dLtA (gV 10) (gV 11))) (ge := gV 10) (Γ := [some (.ref 0), some (planD false rs), some (lvD false K), some (.ref 1), some x4, some (rowT p), some (.lst (natD (a :: K'))), some (.lst []), some (.lst ((tst rs p).map D.int)), some (.int (num : Int)), none, some (.int T)]) (M := M) (fun l : Nat => D.int (l : Int)) (fun l : Nat => D.int (l : Int)) (fun l => decide (((l : Nat) : Int) < T)) K [] (by simp; omega) fun l hl => by
          refine ⟨[some (.ref 0), some (planD false rs), some (lvD false K), some (.ref 1), some x4, some (rowT p), some (.lst (natD (a :: K'))), some (.lst []), some (.lst ((tst rs p).map D.int)), some (.int (num : Int)), some (.int (l : Nat)), some (.int T)], by simp, ?_, fun _ => by simp⟩
          generalize ((l : Nat) : Int) = li at *
          simp
        have sel : gLcL (gTo 10) (gVal (gOp2 dLtA (gV 10) (gV 11))) (gV 10) [some (.ref 0), some (planD false rs), some (lvD false K), some (.ref 1), some x4, some (rowT p), some (.lst (natD (a :: K'))), some (.lst []), some (.lst ((tst rs p).map D.int)), some (.int (num : Int)), none, some (.int T)] (natD K) [] M = .ok (natD (K.filter fun l => decide (((l : Nat) : Int) < T))) M := sel
        have fl : ((natD (K.filter fun l => decide (((l : Nat) : Int) < T))).length : Int) = ((K.filter fun l => decide (((l : Nat) : Int) < T)).length : Nat) := by simp
        refine ⟨[some (.ref 0), some (planD false rs), some (lvD false K), some (.ref 1), some x4, some (rowT p), some (.lst (natD (a :: K'))), some (.lst []), some (.lst ((tst rs p).map D.int)), some (.int (num : Int)), none, some (.int T)], by simp, ?_⟩
        generalize natD (K.filter fun l => decide (((l : Nat) : Int) < T)) = NF at *
        generalize natD K = NK at *
        generalize lvD false K = LD at *
        generalize natD (a :: K') = NA at *
        simp [le_law_thinned_right_5, k4, sel, fl]
      have lc' : ∀ M, gLcL (gTo 11) gYes le_law_thinned_right_5 [some (.ref 0), some (planD false rs), some (lvD false K), some (.ref 1), some x4, some (rowT p), some (.lst (natD (a :: K'))), some (.lst []), some (.lst ((tst rs p).map D.int)), some (.int (num : Int)), none, none] (((tst rs p).take num).map D.int) [] M = .ok ((due d rs K p).map D.int) M := fun M => by
        have := lc M .non
        rw [List.nil_append] at this
        rw [du, List.map_map]
        exact this
      have q4 : seqD (.lst (((tst rs p).take num).map D.int)) = some (((tst rs p).take num).map D.int) := rfl
      have hpd' := pd.mpr hpd
      clear lc du
      generalize (due d rs K p).map D.int = DU at *
      generalize ((tst rs p).take num).map D.int = TK at *
      generalize (tst rs p).map D.int = TS at *
      generalize natD (a :: K') = NA at *
      generalize natD K = NK at *
      generalize planD false rs = PD at *
      generalize lvD false K = LD at *
      generalize rowT p = RP at *
      generalize rowT r = RR at *
      generalize rowT r0 = R0 at *
      generalize rowT (rw1 rs a) = RA at *
      generalize (thn rs K).map rowT = T at *
      generalize ((p.length : Nat) : Int) = pi at *
      generalize ((a : Nat) : Int) = ai' at *
      generalize ((d : Nat) : Int) = di at *
      generalize ((num : Nat) : Int) = ni at *
      simp [-e_ix, lb_law_thinned_right_1, pl, t1, er, i0, ln0, lnp, t2, ct, k4, ins, nn, hpd', c1, ia, ir, ix, cu, q4, lc', c2, ns, clean]
    · have hpd' : ¬ (((p.length : Nat) : Int) < (d : Nat)) := fun z => hpd (pd.mp z)
      have du : due d rs K p = [] := by
        unfold due
        rw [e]
        simp only [if_neg hpd]
      rw [du] at c2 ns
      simp only [List.map_nil] at c2 ns
      generalize natD (a :: K') = NA at *
      generalize natD K = NK at *
      generalize planD false rs = PD at *
      generalize lvD false K = LD at *
      generalize rowT p = RP at *
      generalize rowT r = RR at *
      generalize rowT r0 = R0 at *
      generalize (thn rs K).map rowT = T at *
      generalize ((p.length : Nat) : Int) = pi at *
      generalize ((d : Nat) : Int) = di at *
      simp [-e_ix, lb_law_thinned_right_1, pl, t1, er, i0, ln0, lnp, t2, ct, k4, ins, nn, hpd', c2, ns, clean]
end My.Pn

set_option Elab.async false
set_option linter.all false
set_option maxRecDepth 100000
set_option maxHeartbeats 16000000
namespace My.Pn
open PySem PySem.Spec PyProof.Rows L2 Bk
/-! ### plans of some levels: the whole look -/
theorem thin_loop {d : Nat} {rs : List (List Int)} (h : Pl d rs) {K : List Nat} (hK : LvK rs K) : ∀ (n : Nat) (lo : Int) (s : Src3), ∃ s', gForL (gTo 4) lb_law_thinned_right_1 (rngL lo n) [some (.ref 0), some (planD false rs), some (lvD false K), some (.ref 1), none, none, none, none, none, none, none, none] [srcO s, .lst ((thn rs K).map rowT)]
    = .nx [some (.ref 0), some (planD false rs), some (lvD false K), some (.ref 1), none, none, none, none, none, none, none, none] [srcO s', .lst ((thn rs K).map rowT)]
  | 0, lo, s => ⟨s, by simp [rngL]⟩
  | n + 1, lo, s => by
    obtain ⟨s1, e1⟩ := thin_turn h hK (.int lo) s
    obtain ⟨s2, e2⟩ := thin_loop h hK n (lo + 1) s1
    refine ⟨s2, ?_⟩
    rw [rngL]
    exact (forL_cons (Γ1 := [some (.ref 0), some (planD false rs), some (lvD false K), some (.ref 1), some (.int lo), none, none, none, none, none, none, none]) (by rfl) e1).trans e2
theorem cutD_mostJ (ds : List D) (α : D) : Bk.cutD (ds ++ [α]) none (some (-1)) = ds := by
  have e : Bk.cutD (ds ++ [α]) none (some (-1)) = Bk.cutD (ds ++ [α]) none (some (ds.length : Int)) := by
    unfold Bk.cutD
    congr 2
    simp [HT.sIx]
    rw [if_neg (by omega)]
    omega
  rw [e, cutD_upto]
  simp
theorem m_thinR {d : Nat} {rs : List (List Int)} (h : Pl d rs) (s : Src3) : ∃ s', F_law_thinned_right [.ref 0, planD false rs] [srcO s] = .ok (.bl true) [srcO s'] := by
  have sz : 20000 ≤ sizeLine := by rw [sizeLine_eq]; omega
  have hf := h.few
  have ne := List.length_pos_iff.mpr h.ne
  obtain ⟨K0, s1, e1, up, hl⟩ := lev_draw (x1 := some (planD false rs)) (x2 := none) (x3 := none) (x4 := none) (x5 := none) (x6 := none) (x7 := none) (x8 := none) (x9 := none) (x11 := none) rs.length 0 [] s (by simp; omega)
  rw [List.nil_append] at e1
  have e1 : gLcL (gTo 10) (gVal (gOp2 dEqS (gCallF 2 F_law_draw (gCons (gV 0) (gCons (gC (.int 3)) (gNil)))) (gC (.int 0)))) (gV 10) [some (.ref 0), some (planD false rs), none, none, none, none, none, none, none, none, none, none] (rngL 0 rs.length) [] [srcO s] = .ok (natD K0) [srcO s1] := e1
  have pl : ∀ M, dLen M (planD false rs) = some (.int (rs.length : Nat)) := fun M => by simp
  have r1 : rng1 [.int ((rs.length : Nat) : Int)] = some (rngL 0 rs.length) := by
    rw [u_rng1, if_pos (inR_i (by omega) (by omega)), Int.toNat_natCast]
  -- the levels
  obtain ⟨K, s2, hK, e2⟩ : ∃ K s2, LvK rs K ∧ (gIf (gVal (gOp2 dEqS (gV 2) (gLst (gNil)))) (gAsg (gLst (gCons (gCallF 2 F_law_draw (gCons (gV 0) (gCons (gCall (fn1 dLen) (gCons (gV 1) (gNil))) (gNil)))) (gNil))) (gTo 2)) (gPass)) [some (.ref 0), some (planD false rs), some (.lst (natD K0)), none, none, none, none, none, none, none, none, none] [srcO s1] = .nx [some (.ref 0), some (planD false rs), some (lvD false K), none, none, none, none, none, none, none, none, none] [srcO s2] := by
    have eq := fun M => natS_eq M K0
    by_cases c : K0 = []
    · have n0 : (0 : Int) < (rs.length : Nat) := by omega
      have t1 := t_0 s1 (rs.length : Nat) [] n0 (by omega)
      have a0 := tk_lo s1 n0
      have a1 := tk_hi s1 n0
      obtain ⟨a, ea⟩ : ∃ a : Nat, tk s1 ((rs.length : Nat) : Int) = (a : Int) := ⟨_, (Int.toNat_of_nonneg a0).symm⟩
      rw [ea] at t1 a1
      refine ⟨[a], tn s1 ((rs.length : Nat) : Int), ⟨by simp, by simp, fun l hl => by
        have : l = a := by simpa using hl
        omega⟩, ?_⟩
      rw [decide_eq_true c] at eq
      have ld : lvD false [a] = .lst [.int (a : Nat)] := rfl
      have z1 : 1 ≤ sizeLine := by omega
      rw [ld]
      generalize natD K0 = N0 at *
      generalize planD false rs = PD at *
      generalize tn s1 ((rs.length : Nat) : Int) = s2 at *
      generalize ((rs.length : Nat) : Int) = N at *
      generalize ((a : Nat) : Int) = ai at *
      simp [eq, t1, pl, z1]
    · refine ⟨K0, s1, ⟨c, up, fun l hm => by have := hl l hm; omega⟩, ?_⟩
      rw [decide_eq_false c] at eq
      have ld : lvD false K0 = .lst (natD K0) := rfl
      rw [ld]
      generalize natD K0 = N0 at *
      generalize planD false rs = PD at *
      simp [eq]
  have f1 := vc_thinned h hK false (M := [srcO s2]) (q := planD false rs) (VW.lst _ _) rfl
  have i2 : seqD (lvD false K) = some (natD K) := rfl
  have kf := up_few (a := 0) (n := rs.length) hK.up fun l hl => ⟨by omega, by have := hK.lt l hl; omega⟩
  have lc := lcL_run (gg := gTo 10) (ge := le_law_thinned_right_2) (Γ := [some (.ref 0), some (planD false rs), some (lvD false K), some (.ref 1), none, none, none, none, none, none, none, none]) (M := [srcO s2, .lst ((thn rs K).map rowT)]) (fun l : Nat => D.int (l : Int)) (fun l => rowT (rw1 rs l)) K [] (by simp; omega) fun l hl => by
    have ix := planD_ix [srcO s2, .lst ((thn rs K).map rowT)] false rs (rw1_get (hK.lt l hl))
    refine ⟨[some (.ref 0), some (planD false rs), some (lvD false K), some (.ref 1), none, none, none, none, none, none, some (.int (l : Nat)), none], by simp, ?_⟩
    generalize ((l : Nat) : Int) = li at *
    generalize planD false rs = PD at *
    generalize (thn rs K).map rowT = T at *
    simp [-e_ix, le_law_thinned_right_2, ix]
  have et : K.map (fun l => rowT (rw1 rs l)) = (thn rs K).map rowT := by rw [thn, List.map_map]; rfl
  rw [List.nil_append, et] at lc
  have lc' : gLcL (gTo 10) gYes le_law_thinned_right_2 [some (.ref 0), some (planD false rs), some (lvD false K), some (.ref 1), none, none, none, none, none, none, none, none] (natD K) [] [srcO s2, .lst ((thn rs K).map rowT)] = _ := lc
  have ne1 : dNeS [srcO s2, .lst ((thn rs K).map rowT)] (.ref 1) (.lst ((thn rs K).map rowT)) = some (.bl false) := ref_lst_ne rfl
  have isl : dIsi "list" [srcO s2, .lst ((thn rs K).map rowT)] (.ref 1) = some (.bl true) := by
    have e : kitB "list" "list" = some true := by decide +kernel
    simp [dIsi, tyName, e]
  obtain ⟨s3, e3⟩ := thin_loop h hK 5 0 s2
  refine ⟨s3, ?_⟩
  have tp : ∀ M, dTuple M (planD false rs) = some (planD true rs) := fun M => rfl
  have tl : ∀ M, dTuple M (lvD false K) = some (lvD true K) := fun M => rfl
  have f2 := vc_thinned h hK true (M := [srcO s3, .dead]) (q := planD true rs) (VW.tup _ _) rfl
  have cut : ∀ M, dCut M none (some (-1)) (.lst ((thn rs K).map rowT ++ [.non])) = some (.lst ((thn rs K).map rowT)) := fun M => by
    show some (D.lst (cutD _ _ _)) = _
    rw [cutD_mostJ]
  have eq2 : dEqS [srcO s3, .dead, .lst ((thn rs K).map rowT)] (.ref 2) (.lst ((thn rs K).map rowT)) = some (.bl true) := ref_lst_eq rfl
  have i5 : rng1 [.int 5] = some (rngL 0 5) := rfl
  have tlen : ((thn rs K).map rowT).length < sizeLine := by simp [thn]; omega
  have bl := rowsT_below 1 (thn rs K)
  simp only [List.length_cons, List.length_nil, List.cons_append, List.nil_append, Nat.zero_add, Nat.reduceAdd] at f1 f2
  generalize (thn rs K).map rowT = T at *
  generalize natD K = NK at *
  generalize natD K0 = N0 at *
  generalize planD false rs = PD at *
  generalize planD true rs = PT at *
  generalize lvD false K = LD at *
  generalize lvD true K = LT at *
  generalize ((rs.length : Nat) : Int) = N at *
  simp [-u_gIf, -u_rng1, F_law_thinned_right, b_law_thinned_right, runF, pl, r1, e1]
  rw [e2]
  have lD : ∀ t : Src3, listD [srcO t, .lst T] (.ref 1) = some T := fun t => rfl
  simp [-u_rng1, mutR, mAppend, lD, f1, i2, lc', ne1, isl, i5, e3, tlen, tp, tl, f2, cut, eq2]
end My.Pn

set_option Elab.async false
set_option linter.all false
set_option maxRecDepth 100000
set_option maxHeartbeats 16000000
namespace My.Pn
open PySem PySem.Spec PyProof.Rows L2 Bk
/-! ### merged plans: the law's look -/
theorem sub_draw {x1 x2 x3 x4 : Option D} : ∀ (rs : List (List Int)) (acc : List D) (s : Src3), acc.length + rs.length ≤ 1900 →
    ∃ (sub : List (List Int)) (s' : Src3), gLcL (gTo 5) (gVal (gOp2 dEqS (gCallF 2 F_law_draw (gCons (gV 0) (gCons (gC (.int 4)) (gNil)))) (gC (.int 0)))) (gV 5) [some (.ref 0), x1, x2, x3, x4, none] (rs.map rowT) acc [srcO s] = .ok (acc ++ sub.map rowT) [srcO s'] ∧ sub.Sublist rs
  | [], acc, s, _ => ⟨[], s, by simp [gLcL], List.Sublist.refl _⟩
  | r :: rs, acc, s, h => by
    have sz : 2000 ≤ sizeLine := by rw [sizeLine_eq]; omega
    simp only [List.length_cons] at h
    have t1 := t_0 s 4 [] (by decide) (by decide)
    have eq := fun M => eqS_int M (tk s 4) 0
    by_cases c : tk s 4 = 0
    · obtain ⟨sub, s', e, hs⟩ := sub_draw (x1 := x1) (x2 := x2) (x3 := x3) (x4 := x4) rs (acc ++ [rowT r]) (tn s 4) (by simp; omega)
      refine ⟨r :: sub, s', ?_, hs.cons₂ r⟩
      rw [List.map_cons]
      refine (lcL_take (Γ1 := [some (.ref 0), x1, x2, x3, x4, some (rowT r)]) (y := rowT r) (M1 := [srcO (tn s 4)]) (M2 := [srcO (tn s 4)]) (by simp) ?_ (by simp) (by omega)).trans (e.trans ?_)
      · rw [decide_eq_true c] at eq
        generalize tk s 4 = i at *
        generalize rowT r = R at *
        simp [t1, eq]
      · simp
    · obtain ⟨sub, s', e, hs⟩ := sub_draw (x1 := x1) (x2 := x2) (x3 := x3) (x4 := x4) rs acc (tn s 4) (by omega)
      refine ⟨sub, s', ?_, hs.cons r⟩
      rw [List.map_cons]
      refine (lcL_skip (Γ1 := [some (.ref 0), x1, x2, x3, x4, some (rowT r)]) (M1 := [srcO (tn s 4)]) (by simp) ?_).trans e
      rw [decide_eq_false c] at eq
      generalize tk s 4 = i at *
      generalize rowT r = R at *
      simp [t1, eq]
theorem c_merged (t u : Bool) {d : Nat} (d1 : 1 ≤ d) {rs os : List (List Int)} (h : Pl d rs) (ho : Pl d os) (hf : (frev (rs ++ os)).length ≤ 1000) (M : List MO) : callF F_merged [planD t rs, planD u os] M = .ok (.ref M.length) (M ++ [.lst ((frev (rs ++ os)).map rowT)]) := by
  have := m_merged t u d1 h ho
  rw [if_pos hf] at this
  exact c_flatO this M (by simp [belows]) (rowsT_below 0 _)
theorem frev_few (a b : List (List Int)) : (frev (a ++ b)).length ≤ a.length + b.length := by
  rw [frev_len]
  have := uniq_le (a ++ b)
  rwa [List.length_append] at this
theorem idx_get {T : List (List Int)} {r : List Int} (h : r ∈ T) : T[T.idxOf r]? = some r := by
  have hl := List.idxOf_lt_length_of_mem h
  rw [List.getElem?_eq_getElem hl, List.getElem_idxOf hl]
theorem idx_lvk {T os : List (List Int)} (hT : T.Pairwise fun a b => b < a) (ho : os.Pairwise fun a b => b < a) (ne : os ≠ []) (hs : ∀ r ∈ os, r ∈ T) : LvK T (os.map fun r => T.idxOf r) ∧ thn T (os.map fun r => T.idxOf r) = os := by
  refine ⟨⟨by simpa using ne, ?_, fun l hl => ?_⟩, ?_⟩
  · rw [List.pairwise_map]
    refine List.Pairwise.imp_of_mem (fun {a b} ha hb hab => ?_) ho
    have la := List.idxOf_lt_length_of_mem (hs a ha)
    have lb := List.idxOf_lt_length_of_mem (hs b hb)
    have ea : T[T.idxOf a] = a := List.getElem_idxOf la
    have eb : T[T.idxOf b] = b := List.getElem_idxOf lb
    rcases Nat.lt_trichotomy (T.idxOf a) (T.idxOf b) with z | z | z
    · exact z
    · have : a = b := by
        rw [← ea, ← eb]
        simp only [z]
      rw [this] at hab
      exact absurd hab (List.lt_irrefl _)
    · have := List.pairwise_iff_getElem.mp hT _ _ lb la z
      rw [ea, eb] at this
      exact absurd this (List.lt_asymm hab)
  · obtain ⟨r, hr, rfl⟩ := List.mem_map.mp hl
    exact List.idxOf_lt_length_of_mem (hs r hr)
  · unfold thn
    rw [List.map_map]
    conv => rhs; rw [← List.map_id os]
    refine List.map_congr_left fun r hr => ?_
    simp only [Function.comp, rw1, List.getD_eq_getElem?_getD, idx_get (hs r hr)]
    rfl
theorem ref_nil_ne {M : List MO} {k : Nat} {rs : List (List Int)} (h : M[k]? = some (.lst (rs.map rowT))) (ne : rs ≠ []) : dNeS M (.ref k) (.lst []) = some (.bl true) := by
  show dNeF M _ _ = _
  unfold dNeF
  rw [eqPF_of (toPM_rowsR h) (show toPM M 6 (.lst []) = some (.list []) from toPM_rowsL M []) (rows_sh rs).1 (rows_sh []).1]
  obtain ⟨r, rs', e⟩ := List.exists_cons_of_ne_nil ne
  rw [e]
  simp [PyData.eqv, PyData.eqvAll]
theorem m_mergR {d : Nat} (d1 : 1 ≤ d) {rs : List (List Int)} (h : Pl d rs) (h60 : rs.length ≤ 60) (s : Src3) : ∃ s', F_law_merged_right [.ref 0, planD false rs] [srcO s] = .ok (.bl true) [srcO s'] := by
  have sz : 20000 ≤ sizeLine := by rw [sizeLine_eq]; omega
  have hd := h.days
  obtain ⟨r0, e0, l0⟩ := h.row0
  have i0 : ∀ M, dIx M (planD false rs) (.int 0) = some (rowT r0) := fun M => planD_ix M false rs e0
  have ln0 : ∀ M, dLen M (rowT r0) = some (.int d) := fun M => by rw [e_lenT, List.length_map, l0]
  have t1 := t_0 s 40 [] (by decide) (by decide)
  have a0 := tk_lo s (n := 40) (by decide)
  have a1 := tk_hi s (n := 40) (by decide)
  obtain ⟨n, en⟩ : ∃ n : Nat, 1 + tk s 40 = (n : Int) := ⟨(1 + tk s 40).toNat, by omega⟩
  generalize tk s 40 = i1 at *
  generalize tn s 40 = s1 at *
  obtain ⟨os0, s2, e2, ho0, lo0⟩ := c_lrows (d := d) hd (n := n) (by omega) (by omega) s1 []
  obtain ⟨sub, s3, e3, hsub⟩ := sub_draw (x1 := some (planD false rs)) (x2 := some (planD false os0)) (x3 := none) (x4 := none) rs [] s2 (by simp; omega)
  rw [List.nil_append] at e3
  have lsub := hsub.length_le
  have mem0 : ∀ r ∈ os0 ++ sub, r.length = d ∧ ∀ n ∈ r, 0 ≤ n ∧ n ≤ 12 := fun r hr => by
    rcases List.mem_append.mp hr with z | z
    · exact ⟨ho0.len r z, ho0.nums r z⟩
    · exact ⟨h.len r (hsub.subset z), h.nums r (hsub.subset z)⟩
  have nz : ∀ {l : List (List Int)}, (∀ r ∈ l, r.length = d) → ∀ r ∈ l, r ≠ [] := fun hl r hr e => by
    have := hl r hr
    rw [e] at this; simp at this; omega
  have lo1 : os0.length ≤ 60 := by have := lo0; omega
  have fl := frev_few os0 sub
  have ho : Pl d (frev (os0 ++ sub)) := frev_pl hd (by
    intro e
    have := List.append_eq_nil_iff.mp e
    exact ho0.ne this.1) (by omega) (fun r hr => (mem0 r hr).1) fun r hr => (mem0 r hr).2
  have es := fun M => e_frev M (rs := os0 ++ sub) (by simp; omega) (nz fun r hr => (mem0 r hr).1)
  have ad : ∀ M, dAdd M (planD false os0) (.lst (sub.map rowT)) = some (.lst ((os0 ++ sub).map rowT)) := fun M => by
    show dAdd M (.lst (os0.map rowT)) _ = _
    rw [e_addL, if_pos (by simp; omega), List.map_append]
  have hOL : (frev (os0 ++ sub)).length ≤ 120 := by omega
  have er : (((frev (os0 ++ sub)).reverse).map rowT).reverse = (frev (os0 ++ sub)).map rowT := by rw [← List.map_reverse, List.reverse_reverse]
  have pO : .lst ((frev (os0 ++ sub)).map rowT) = planD false (frev (os0 ++ sub)) := rfl
  generalize frev (os0 ++ sub) = os at *
  have fT := frev_few rs os
  have cm := c_merged false false d1 h ho (by omega) [srcO s3]
  have hT : Pl d (frev (rs ++ os)) := frev_pl hd (by
    intro e
    exact h.ne (List.append_eq_nil_iff.mp e).1) (by omega) (fun r hr => by
      rcases List.mem_append.mp hr with z | z
      · exact h.len r z
      · exact ho.len r z) fun r hr => by
      rcases List.mem_append.mp hr with z | z
      · exact h.nums r z
      · exact ho.nums r z
  have sT := fun M => e_frev M (rs := rs ++ os) (by simp; omega) (nz fun r hr => by
      rcases List.mem_append.mp hr with z | z
      · exact h.len r z
      · exact ho.len r z)
  have aT : ∀ M, dAdd M (planD false rs) (planD false os) = some (.lst ((rs ++ os).map rowT)) := fun M => by
    show dAdd M (.lst (rs.map rowT)) (.lst (os.map rowT)) = _
    rw [e_addL, if_pos (by simp; omega), List.map_append]
  have rT : (((frev (rs ++ os)).reverse).map rowT).reverse = (frev (rs ++ os)).map rowT := by rw [← List.map_reverse, List.reverse_reverse]
  have tO : ∀ M, dTuple M (planD false os) = some (planD true os) := fun M => rfl
  have cm2 := c_merged true false d1 ho h (by rw [frev_comm]; omega) [srcO s3, .lst ((frev (rs ++ os)).map rowT)]
  rw [frev_comm os rs] at cm2
  have cm3 := c_merged false false d1 h h (by rw [frev_same h]; omega) [srcO s3, .lst ((frev (rs ++ os)).map rowT), .lst ((frev (rs ++ os)).map rowT)]
  rw [frev_same h] at cm3
  have sO : ∀ r ∈ os, r ∈ frev (rs ++ os) := fun r hr => mem_frev.mpr (List.mem_append.mpr (.inr hr))
  obtain ⟨hK, eK⟩ := idx_lvk hT.fall ho.fall ho.ne sO
  have lc := lcL_run (gg := gTo 5) (ge := le_law_merged_right_2) (Γ := [some (.ref 0), some (planD false rs), some (planD false os), some (.ref 1), none, none]) (M := [srcO s3, .lst ((frev (rs ++ os)).map rowT), .lst ((frev (rs ++ os)).map rowT), .lst (rs.map rowT)]) rowT (fun r => D.int (((frev (rs ++ os)).idxOf r : Nat) : Int)) os [] (by simp; omega) fun r hr => by
    have cl := vc_level hT (idx_get (sO r hr)) (M := [srcO s3, .lst ((frev (rs ++ os)).map rowT), .lst ((frev (rs ++ os)).map rowT), .lst (rs.map rowT)]) (q := .ref 1) (VW.ref rfl) rfl
    refine ⟨[some (.ref 0), some (planD false rs), some (planD false os), some (.ref 1), none, some (rowT r)], by simp, ?_⟩
    generalize (((frev (rs ++ os)).idxOf r : Nat) : Int) = ji at *
    generalize rowT r = R at *
    generalize planD false rs = PD at *
    generalize planD false os = PO at *
    generalize (frev (rs ++ os)).map rowT = T at *
    generalize rs.map rowT = RL at *
    simp [le_law_merged_right_2, cl]
  have eN : (os.map fun r => D.int (((frev (rs ++ os)).idxOf r : Nat) : Int)) = natD (os.map fun r => (frev (rs ++ os)).idxOf r) := by
    show _ = (os.map _).map _
    rw [List.map_map]; rfl
  rw [List.nil_append, eN] at lc
  have cth := vc_thinned hT hK false (M := [srcO s3, .lst ((frev (rs ++ os)).map rowT), .lst ((frev (rs ++ os)).map rowT), .lst (rs.map rowT)]) (q := .ref 1) (VW.ref rfl) rfl
  rw [eK] at cth
  have cm4 := c_merged false false d1 h ho (by omega) [srcO s3, .lst [], .lst ((frev (rs ++ os)).map rowT), .lst (rs.map rowT), .lst (os.map rowT)]
  have n1 : dNeS [srcO s3, .lst ((frev (rs ++ os)).map rowT)] (.ref 1) (.lst ((frev (rs ++ os)).map rowT)) = some (.bl false) := ref_lst_ne rfl
  have n2 : dNeS [srcO s3, .lst ((frev (rs ++ os)).map rowT), .lst ((frev (rs ++ os)).map rowT)] (.ref 2) (.ref 1) = some (.bl false) := ref_ref_ne rfl rfl
  have n3 : dNeS [srcO s3, .lst ((frev (rs ++ os)).map rowT), .lst ((frev (rs ++ os)).map rowT), .lst (rs.map rowT)] (.ref 3) (planD false rs) = some (.bl false) := ref_lst_ne rfl
  have n4 : dNeS [srcO s3, .lst ((frev (rs ++ os)).map rowT), .lst ((frev (rs ++ os)).map rowT), .lst (rs.map rowT), .lst (os.map rowT)] (.ref 4) (planD false os) = some (.bl false) := ref_lst_ne rfl
  have n5 : dNeS [srcO s3, .lst [], .lst ((frev (rs ++ os)).map rowT), .lst (rs.map rowT), .lst (os.map rowT), .lst ((frev (rs ++ os)).map rowT)] (.ref 5) (.lst []) = some (.bl true) := ref_nil_ne rfl hT.ne
  refine ⟨s3, ?_⟩
  have q1 : seqD (planD false rs) = some (rs.map rowT) := rfl
  have q2 : seqD (planD false os) = some (os.map rowT) := rfl
  simp only [List.length_cons, List.length_nil, List.cons_append, List.nil_append, Nat.zero_add, Nat.reduceAdd] at cm cm2 cm3 cm4 cth
  have lv : D.lst (natD (os.map fun r => (frev (rs ++ os)).idxOf r)) = lvD false (os.map fun r => (frev (rs ++ os)).idxOf r) := rfl
  generalize lvD false (os.map fun r => (frev (rs ++ os)).idxOf r) = LD at *
  generalize natD (os.map fun r => (frev (rs ++ os)).idxOf r) = NK at *
  generalize (frev (rs ++ os)).reverse.map rowT = TR at *
  generalize (frev (rs ++ os)).map rowT = T at *
  generalize (rs ++ os).map rowT = RO at *
  generalize (os0 ++ sub).map rowT = OS at *
  generalize os.reverse.map rowT = OR at *
  generalize planD false rs = PD at *
  generalize planD false os = PO at *
  generalize planD true os = PT at *
  generalize planD false os0 = P0 at *
  generalize sub.map rowT = SB at *
  generalize rs.map rowT = RL at *
  generalize os.map rowT = OL at *
  generalize rowT r0 = R0 at *
  generalize ((d : Nat) : Int) = di at *
  generalize ((n : Nat) : Int) = ni at *
  simp [-e_ix, -e_addL, mutR, mClear, F_law_merged_right, b_law_merged_right, runF, i0, ln0, t1, en, e2, q1, e3, ad, es, er, pO, cm, aT, sT, rT, n1, tO, cm2, n2, cm3, n3, q2, lc, lv, cth, n4, cm4, n5]
end My.Pn

set_option Elab.async false
set_option linter.all false
set_option maxRecDepth 100000
set_option maxHeartbeats 16000000
namespace My.Pn
open PySem PySem.Spec PyProof.Rows L2 Bk
/-! ### eighteen hundred rows -/
def f3 (i : Int) : List Int := [i / 169, i / 13 % 13, i % 13]
def R18 : List (List Int) := (intR 0 1800).map f3
theorem intR_up2 : ∀ (n : Nat) (lo : Int), (intR lo n).Pairwise (· < ·)
  | 0, _ => .nil
  | n + 1, lo => List.pairwise_cons.mpr ⟨fun x hx => by have := mem_intR.mp hx; omega, intR_up2 n (lo + 1)⟩
theorem f3_lt {i j : Int} (h0 : 0 ≤ i) (h : i < j) : f3 i < f3 j := by
  unfold f3
  rw [List.cons_lt_cons_iff, List.cons_lt_cons_iff, List.cons_lt_cons_iff]
  by_cases c : i / 169 = j / 169
  · by_cases e : i / 13 % 13 = j / 13 % 13
    · exact .inr ⟨c, .inr ⟨e, .inl (by omega)⟩⟩
    · exact .inr ⟨c, .inl (by omega)⟩
  · exact .inl (by omega)
theorem R18_up : R18.Pairwise (· < ·) := by
  unfold R18
  rw [List.pairwise_map]
  refine List.Pairwise.imp_of_mem (fun {a b} ha _ hab => f3_lt (mem_intR.mp ha).1 hab) (intR_up2 1800 0)
theorem R18_len : R18.length = 1800 := by simp [R18]
theorem R18_ok : ∀ r ∈ R18, r.length = 3 ∧ ∀ n ∈ r, 0 ≤ n ∧ n ≤ 12 := fun r hr => by
  obtain ⟨i, hi, rfl⟩ := List.mem_map.mp hr
  have := mem_intR.mp hi
  refine ⟨rfl, fun n hn => ?_⟩
  simp only [f3, List.mem_cons, List.not_mem_nil, or_false] at hn
  rcases hn with rfl | rfl | rfl <;> omega
theorem alike_ints : ∀ a b : List Int, PySem.W.alikeAll (a.map PyData.int) (b.map PyData.int) = true
  | [], _ => by simp [PySem.W.alikeAll]
  | _ :: _, [] => by simp [PySem.W.alikeAll]
  | a :: l, b :: r => by simp [PySem.W.alikeAll, PySem.W.alike, alike_ints l r]
theorem toPs_rowsJ : ∀ rs : List (List Int), toPs (rs.map rowT) = some (rs.map rowTP) := fun rs => (rowsT_dt 0 rs).e
theorem okS_rows {rs : List (List Int)} (hl : rs.length ≤ 5000) (hr : ∀ r ∈ rs, r ≠ []) : okS (rs.map rowTP) = true := by
  unfold okS
  rw [Bool.and_eq_true, List.all_eq_true]
  refine ⟨by rw [decide_eq_true_eq, sizeLine_eq]; simp; omega, fun p hp => ?_⟩
  obtain ⟨r, hm, rfl⟩ := List.mem_map.mp hp
  rw [Bool.and_eq_true, Bool.and_eq_true, List.all_eq_true]
  refine ⟨⟨?_, ?_⟩, fun q hq => ?_⟩
  · obtain ⟨a, t, e⟩ := List.exists_cons_of_ne_nil (hr r hm)
    rw [e]; rfl
  · have := (rowT_dt 0 r).h
    rw [decide_eq_true_eq]
    omega
  · obtain ⟨s, hs, rfl⟩ := List.mem_map.mp hq
    simp only [PySem.W.alike]
    exact alike_ints r s
theorem geR_data (p q : List Int) : PySem.W.dataLe true (Prod.snd : D × PyData → PyData) (rowT p, rowTP p) (rowT q, rowTP q) = leR q p := by
  show (!PySem.W.dataLt (.tuple (p.map .int)) (.tuple (q.map .int))) = _
  rw [lt_tups]
  unfold leR
  by_cases h : p < q
  · have h' : ¬ q ≤ p := fun r => List.not_lt.mpr r h
    simp [h, h']
  · have h' : q ≤ p := List.not_lt.mp h
    simp [h, h']
theorem srt_rev {rs : List (List Int)} (h : rs.Pairwise (· < ·)) : rs.mergeSort (fun a b => leR b a) = rs.reverse := by
  have tr : ∀ a b c : List Int, (fun a b => leR b a) a b = true → (fun a b => leR b a) b c = true → (fun a b => leR b a) a c = true := fun a b c h1 h2 => leR_trans c b a h2 h1
  have to : ∀ a b : List Int, ((fun a b => leR b a) a b || (fun a b => leR b a) b a) = true := fun a b => leR_total b a
  have s := List.pairwise_mergeSort (le := fun a b => leR b a) tr to rs
  have r : rs.reverse.Pairwise fun a b => leR b a = true := by
    rw [List.pairwise_reverse]
    exact h.imp fun {a b} q => by
      unfold leR
      rw [decide_eq_true_eq]
      exact List.le_of_lt q
  exact List.Perm.eq_of_pairwise (le := fun a b => leR b a = true) (fun a b _ _ x y => (leR_anti x y).symm) s r ((List.mergeSort_perm rs _).trans (List.reverse_perm rs).symm)
theorem sortNR_rows (M : List MO) {rs : List (List Int)} (h : rs.Pairwise (· < ·)) (hl : rs.length ≤ 5000) (hr : ∀ r ∈ rs, r ≠ []) : dSortN true M (.lst (rs.map rowT)) = some (.lst (rs.reverse.map rowT)) := by
  have e1 : itemsS M (.lst (rs.map rowT)) = some (rs.map rowT) := rfl
  unfold dSortN
  rw [e1, Option.bind_some]
  unfold sortDs
  rw [toPs_rowsJ, Option.bind_some, if_pos (okS_rows hl hr)]
  unfold srtZ
  have ez : (rs.map rowT).zip (rs.map rowTP) = rs.map fun r => (rowT r, rowTP r) := by
    rw [List.zip_map']
  rw [ez]
  have em : (rs.mergeSort fun a b => leR b a).map (fun r => (rowT r, rowTP r)) = (rs.map fun r => (rowT r, rowTP r)).mergeSort (PySem.W.dataLe true Prod.snd) := List.map_mergeSort fun a _ b _ => (geR_data a b).symm
  rw [← em, srt_rev h, List.map_map]
  rfl
def RR : List (List Int) := R18.reverse
theorem RR_fall : RR.Pairwise fun a b => b < a := by
  unfold RR
  rw [List.pairwise_reverse]
  exact R18_up
theorem RR_len : RR.length = 1800 := by simp [RR, R18_len]
theorem RR_ok : ∀ r ∈ RR, r.length = 3 ∧ ∀ n ∈ r, 0 ≤ n ∧ n ≤ 12 := fun r hr => R18_ok r (List.mem_reverse.mp hr)
theorem RR_pl {a m : Nat} (h1 : 1 ≤ m) (h2 : m ≤ 1000) (h3 : a + m ≤ 1800) : Pl 3 ((RR.drop a).take m) := by
  have ln : ((RR.drop a).take m).length = m := by simp [RR_len]; omega
  have sub : ((RR.drop a).take m).Sublist RR := (List.take_sublist _ _).trans (List.drop_sublist _ _)
  exact ⟨fun e => by rw [e] at ln; simp at ln; omega, by omega, by decide, fun r hr => (RR_ok r (sub.subset hr)).1, fun r hr => (RR_ok r (sub.subset hr)).2, RR_fall.sublist sub⟩
theorem RR_pl0 {m : Nat} (h1 : 1 ≤ m) (h2 : m ≤ 1000) : Pl 3 (RR.take m) := by
  have := RR_pl (a := 0) h1 h2 (by omega)
  simpa using this
theorem RR_join {a b m : Nat} (h1 : a ≤ b) (h2 : b ≤ a + m) : frev (RR.take b ++ (RR.drop a).take m) = RR.take (a + m) := by
  have ta : RR.take (a + m) = RR.take a ++ (RR.drop a).take m := List.take_add
  refine fall_ext (frev_fall _) (RR_fall.sublist (List.take_sublist _ _)) fun r => ?_
  rw [mem_frev, List.mem_append]
  constructor
  · rintro (h | h)
    · have : RR.take b = (RR.take (a + m)).take b := by rw [List.take_take, Nat.min_eq_left h2]
      rw [this] at h
      exact List.mem_of_mem_take h
    · rw [ta]
      exact List.mem_append.mpr (.inr h)
  · intro h
    rw [ta] at h
    rcases List.mem_append.mp h with h | h
    · have : RR.take a = (RR.take b).take a := by rw [List.take_take, Nat.min_eq_left h1]
      rw [this] at h
      exact .inl (List.mem_of_mem_take h)
    · exact .inr h
theorem m_said (a b m : Nat) (h1 : a ≤ b) (h2 : b ≤ a + m) (hb1 : 1 ≤ b) (hb : b ≤ 1000) (hm1 : 1 ≤ m) (hm : m ≤ 1000) (h3 : a + m ≤ 1800) : F_law_said [planD false (RR.take b), planD false ((RR.drop a).take m)] [] = .ok (.tup [.str (Str.ofString (if a + m ≤ 1000 then "rows" else "many")), .int ((a + m : Nat) : Int)]) [] := by
  have pA := RR_pl0 (m := b) hb1 hb
  have pB := RR_pl (a := a) (m := m) hm1 hm h3
  have e := m_merged false false (d := 3) (by decide) pA pB
  rw [RR_join h1 h2] at e
  have ln : (RR.take (a + m)).length = a + m := by simp [RR_len]; omega
  rw [ln] at e
  have lT : ∀ M : List MO, M[0]? = some (.lst ((RR.take (a + m)).map rowT)) → dLen M (.ref 0) = some (.int ((a + m : Nat) : Int)) := fun M h => by
    simp only [dLen, itemsD, listD, h, Option.map_some, List.length_map, ln]
  by_cases c : a + m ≤ 1000
  · rw [if_pos c] at e ⊢
    have cm := c_flatO e [] (by simp [belows]) (rowsT_below 0 _)
    have lT := lT [.lst ((RR.take (a + m)).map rowT)] rfl
    have lD : (((RR.take (a + m)).map rowT).length : Int) = ((a + m : Nat) : Int) := by rw [List.length_map, ln]
    generalize planD false (RR.take b) = PA at *
    generalize planD false ((RR.drop a).take m) = PB at *
    generalize (RR.take (a + m)).map rowT = T at *
    generalize ((a + m : Nat) : Int) = N at *
    have lL : listD [MO.lst T] (.ref 0) = some T := rfl
    simp only [List.length_nil, List.nil_append] at cm
    simp [F_law_said, b_law_said, runF, gTry, cm, lL, lD]
  · rw [if_neg c] at e ⊢
    have cm := c_flatX e [] (by simp [belows]) (by simp)
    generalize planD false (RR.take b) = PA at *
    generalize planD false ((RR.drop a).take m) = PB at *
    generalize ((a + m : Nat) : Int) = N at *
    simp [F_law_said, b_law_said, runF, gTry, cm]
end My.Pn

set_option Elab.async false
set_option linter.all false
set_option maxRecDepth 100000
set_option maxHeartbeats 16000000
namespace My.Pn
open PySem PySem.Spec PyProof.Rows L2 Bk
/-! ### the law -/
theorem law_turn (d0 : D) (i : Int) (hb : Bk.below 0 d0 = true) : lb_law_1 [some d0, some (.int i), none, none, none, none, none] [] = .nx [some d0, none, none, none, none, none, none] [] := by
  have c0 := c_source i []
  have t1 := fun s R => t_0 s 8 R (by decide) (by decide)
  have t2 := fun s R => t_0 s 40 R (by decide) (by decide)
  have a0 := tk_lo (src0 i) (n := 8) (by decide)
  have a1 := tk_hi (src0 i) (n := 8) (by decide)
  have b0 := tk_lo (tn (src0 i) 8) (n := 40) (by decide)
  have b1 := tk_hi (tn (src0 i) 8) (n := 40) (by decide)
  have t1 := t1 (src0 i) []
  have t2 := t2 (tn (src0 i) 8) []
  obtain ⟨d, ed⟩ : ∃ d : Nat, 1 + tk (src0 i) 8 = (d : Int) := ⟨(1 + tk (src0 i) 8).toNat, by omega⟩
  obtain ⟨n, en⟩ : ∃ n : Nat, 1 + tk (tn (src0 i) 8) 40 = (n : Int) := ⟨(1 + tk (tn (src0 i) 8) 40).toNat, by omega⟩
  have d1 : 1 ≤ d := by omega
  have d8 : d ≤ 100 := by omega
  have n1 : 1 ≤ n := by omega
  have n60 : n ≤ 60 := by omega
  generalize tk (src0 i) 8 = i1 at *
  generalize tk (tn (src0 i) 8) 40 = i2 at *
  generalize tn (tn (src0 i) 8) 40 = s2 at *
  generalize tn (src0 i) 8 = s1 at *
  obtain ⟨rs, s3, e3, h, l60⟩ := c_lrows (d := d) d8 (n := n) n1 n60 s2 []
  obtain ⟨s4, e4⟩ := m_thinR h s3
  have e4 := c_lend1 (k := 0) (M := [srcO s3]) e4 rfl rfl rfl rfl (by simp [belows]) (by simp)
  obtain ⟨s5, e5⟩ := m_mergR d1 h l60 s4
  have e5 := c_lend1 (k := 0) (M := [srcO s4]) e5 rfl rfl rfl rfl (by simp [belows]) (by simp)
  simp only [List.set_cons_zero] at e4 e5
  have pb : ∀ m, Bk.below m (planD false rs) = true := fun m => by simp
  generalize planD false rs = PD at *
  generalize ((d : Nat) : Int) = di at *
  generalize ((n : Nat) : Int) = ni at *
  simp [lb_law_1, c0, t1, t2, ed, en, e3, e4, e5, clean, hb]
theorem lawLoop (d : D) (hb : Bk.below 0 d = true) : ∀ is : List Int, gForL (gTo 1) lb_law_1 (is.map D.int) [some d, none, none, none, none, none, none] [] = .nx [some d, none, none, none, none, none, none] []
  | [] => by simp
  | i :: is => by
    rw [List.map_cons]
    exact (forL_cons (Γ1 := [some d, some (.int i), none, none, none, none, none]) (by simp) (law_turn d i hb)).trans (lawLoop d hb is)
theorem cutD_midJ {ds : List D} {a k : Nat} (h1 : a ≤ k) (h2 : k ≤ ds.length) : Bk.cutD ds (some (a : Int)) (some (k : Int)) = (ds.drop a).take (k - a) := by
  unfold Bk.cutD HT.sIx
  simp only []
  have e1 : ¬ ((a : Int) < 0) := by omega
  have e2 : ¬ ((k : Int) < 0) := by omega
  simp [e1, e2]
  congr 1
  · omega
  · congr 1
    omega
theorem RR_cut (M : List MO) (a m : Nat) (h : a + m ≤ 1800) : dCut M (some (a : Int)) (some ((a + m : Nat) : Int)) (.lst (RR.map rowT)) = some (planD false ((RR.drop a).take m)) := by
  show some (D.lst (cutD _ _ _)) = some (D.lst _)
  rw [cutD_midJ (by omega) (by rw [List.length_map, RR_len]; exact h)]
  have : a + m - a = m := by omega
  rw [this, List.map_take, List.map_drop]
theorem RR_cut0 (M : List MO) (m : Nat) : dCut M none (some (m : Int)) (.lst (RR.map rowT)) = some (planD false (RR.take m)) := by
  show some (D.lst (cutD _ _ _)) = some (D.lst _)
  rw [cutD_upto, List.map_take]
theorem law_true (ns : List Int) (h : ns.length ≤ 63) : F_law [.lst (ns.map D.int)] [] = .ok (.bl true) [] := by
  have sz : 20000 ≤ sizeLine := by rw [sizeLine_eq]; omega
  have e4 : Bk.below 0 (D.lst (ns.map D.int)) = true := by simp
  obtain ⟨ms, hms, lm⟩ : ∃ ms : List Int, dCut [] none (some 4) (.lst (ns.map D.int)) = some (.lst (ms.map D.int)) ∧ ms.length ≤ 63 := by
    refine ⟨(ns.drop (HT.sIx ns.length 0 none)).take (HT.sIx ns.length ns.length (some 4) - HT.sIx ns.length 0 none), ?_, by simp; omega⟩
    simp [dCut, listD, Bk.cutD, List.map_take, List.map_drop]
  have ad : dAdd [] (.lst [.int 0]) (.lst (ms.map D.int)) = some (.lst ((0 :: ms).map D.int)) := by
    rw [e_addL, if_pos (by simp; omega)]
    simp
  have k := lawLoop (.lst (ns.map D.int)) e4 (0 :: ms)
  simp only [List.map_cons] at ad k
  -- the rows
  have r1 : rng1 [.int 1800] = some (rngL 0 1800) := rfl
  have lc := lcL_run (gg := gTo 6) (ge := le_law_1) (Γ := [some (.lst (ns.map D.int)), none, none, none, none, none, none]) (M := []) D.int (fun i => rowT (f3 i)) (intR 0 1800) [] (by simp; omega) fun i hi => by
    have hi := mem_intR.mp hi
    refine ⟨[some (.lst (ns.map D.int)), none, none, none, none, none, some (.int i)], by simp, ?_⟩
    have f1 : fdivOk i 169 = true := fd_small (by decide) (by decide)
    have f2 : fdivOk i 13 = true := fd_small (by decide) (by decide)
    simp [le_law_1, f1, f2, f3]
  rw [← rngL_int, List.nil_append] at lc
  have er : (intR 0 1800).map (fun i => rowT (f3 i)) = R18.map rowT := by unfold R18; rw [List.map_map]; rfl
  rw [er] at lc
  have so := sortNR_rows [] R18_up (by rw [R18_len]; decide) (fun r hr e => by have := (R18_ok r hr).1; rw [e] at this; cases this)
  have so : dSortN true [] (.lst (R18.map rowT)) = some (.lst (RR.map rowT)) := so
  -- the slices
  have s1 : ∀ M, dCut M none (some 600) (.lst (RR.map rowT)) = some (planD false (RR.take 600)) := fun M => RR_cut0 M 600
  have s2 : ∀ M, dCut M (some 400) (some 1000) (.lst (RR.map rowT)) = some (planD false ((RR.drop 400).take 600)) := fun M => RR_cut M 400 600 (by decide)
  have s3 : ∀ M, dCut M (some 599) (some 1001) (.lst (RR.map rowT)) = some (planD false ((RR.drop 599).take 402)) := fun M => RR_cut M 599 402 (by decide)
  have s4 : ∀ M, dCut M none (some 1000) (.lst (RR.map rowT)) = some (planD false (RR.take 1000)) := fun M => RR_cut0 M 1000
  have s5 : ∀ M, dCut M (some 800) (some 1800) (.lst (RR.map rowT)) = some (planD false ((RR.drop 800).take 1000)) := fun M => RR_cut M 800 1000 (by decide)
  have m1 := m_said 400 600 600 (by decide) (by decide) (by decide) (by decide) (by decide) (by decide) (by decide)
  have m2 := m_said 599 600 402 (by decide) (by decide) (by decide) (by decide) (by decide) (by decide) (by decide)
  have m3 := m_said 800 1000 1000 (by decide) (by decide) (by decide) (by decide) (by decide) (by decide) (by decide)
  have m1 : F_law_said [planD false (RR.take 600), planD false ((RR.drop 400).take 600)] [] = .ok (.tup [.str (Str.ofString "rows"), .int 1000]) [] := m1
  have m2 : F_law_said [planD false (RR.take 600), planD false ((RR.drop 599).take 402)] [] = .ok (.tup [.str (Str.ofString "many"), .int 1001]) [] := m2
  have m3 : F_law_said [planD false (RR.take 1000), planD false ((RR.drop 800).take 1000)] [] = .ok (.tup [.str (Str.ofString "many"), .int 1800]) [] := m3
  have c1 := fun M => c_flat m1 M (by simp [belows]) (by rfl)
  have c2 := fun M => c_flat m2 M (by simp [belows]) (by rfl)
  have c3 := fun M => c_flat m3 M (by simp [belows]) (by rfl)
  have ds : ∀ (x : String) (h : (PyData.str (Str.ofString x)).canLay0 = true), Dt 0 (.str (Str.ofString x)) (.str (Str.ofString x)) := fun x h => ⟨rfl, h, Nat.zero_le _⟩
  have d1 : Dt 2 (.lst [.tup [.str (Str.ofString "rows"), .int 1000], .tup [.str (Str.ofString "many"), .int 1001], .tup [.str (Str.ofString "many"), .int 1800]]) _ :=
    (Dts.cons (Dts.cons (ds "rows" (by decide +kernel)) (Dts.cons (Dt.int 0 1000) (Dts.nil 0))).tup (Dts.cons (Dts.cons (ds "many" (by decide +kernel)) (Dts.cons (Dt.int 0 1001) (Dts.nil 0))).tup (Dts.cons (Dts.cons (ds "many" (by decide +kernel)) (Dts.cons (Dt.int 0 1800) (Dts.nil 0))).tup (Dts.nil 1)))).lst
  have eq : ∀ M, dEqA M (.lst [.tup [.str (Str.ofString "rows"), .int 1000], .tup [.str (Str.ofString "many"), .int 1001], .tup [.str (Str.ofString "many"), .int 1800]]) (.lst [.tup [.str (Str.ofString "rows"), .int 1000], .tup [.str (Str.ofString "many"), .int 1001], .tup [.str (Str.ofString "many"), .int 1800]]) = some (.bl true) := fun M => by
    rw [dEqA_p (eqP_same d1 d1.deref d1.deref (by decide)) (fun _ h => by cases h)]
  have z2 : 2 ≤ sizeLine := by omega
  have z3 : 2 < sizeLine := by omega
  clear m1 m2 m3 er d1 ds
  generalize R18.map rowT = RU at *
  generalize RR.map rowT = RD at *
  generalize planD false (RR.take 600) = A1 at *
  generalize planD false ((RR.drop 400).take 600) = A2 at *
  generalize planD false ((RR.drop 599).take 402) = A3 at *
  generalize planD false (RR.take 1000) = A4 at *
  generalize planD false ((RR.drop 800).take 1000) = A5 at *
  generalize rngL 0 1800 = RG at *
  have lL : ∀ A : List D, listD [MO.lst A] (.ref 0) = some A := fun A => rfl
  simp [-e_ix, -e_addL, -u_rng1, lL, mutR, mAppend, F_law, b_law, runF, hms, ad, k, r1, lc, so, s1, s2, s3, s4, s5, c1, c2, c3, z2, z3, eq]
end My.Pn
namespace My
theorem law_true (ns : List Int) (h : ns.length ≤ 63) : F_law [.lst (ns.map Bk.D.int)] [] = .ok (.bl true) [] := Pn.law_true ns h
end My

set_option Elab.async false
set_option linter.all false
set_option maxRecDepth 100000
set_option maxHeartbeats 8000000
namespace My
open PySem PySem.Spec PyProof.Rows L2 Bk
theorem all_mk {l : PySem.W.OpenLaw} {w : World} {K : PySem.W.Frag} {h : Heap} {mg : Str → Option Value} {fa : Addr} (X : K.In h) (G : h.Ns mainGlobals mg) (hfa : mg "law" = some (.ref fa))
    {X_InvalidPlan : Addr} (aX_InvalidPlan : PySem.W.nsIn K mainGlobals "InvalidPlan" = some (some (.ref X_InvalidPlan)))
    {X_InvalidPast : Addr} (aX_InvalidPast : PySem.W.nsIn K mainGlobals "InvalidPast" = some (some (.ref X_InvalidPast)))
    {X_InvalidRow : Addr} (aX_InvalidRow : PySem.W.nsIn K mainGlobals "InvalidRow" = some (some (.ref X_InvalidRow)))
    {X_InvalidNumber : Addr} (aX_InvalidNumber : PySem.W.nsIn K mainGlobals "InvalidNumber" = some (some (.ref X_InvalidNumber)))
    {X_Mismatch : Addr} (aX_Mismatch : PySem.W.nsIn K mainGlobals "Mismatch" = some (some (.ref X_Mismatch)))
    {X_TooMany : Addr} (aX_TooMany : PySem.W.nsIn K mainGlobals "TooMany" = some (some (.ref X_TooMany)))
    {de_InvalidPlan : Option Addr} {ke_InvalidPlan : ClassData} {ae_InvalidPlan : Array (Option Value)} (lo_InvalidPlan : K.lookup X_InvalidPlan = some ⟨.type "type", de_InvalidPlan, .cls ke_InvalidPlan, ae_InvalidPlan⟩) (eo_InvalidPlan : Bk.errOk X_InvalidPlan ke_InvalidPlan ae_InvalidPlan = true) (hx_InvalidPlan : PySem.W.hasDictIn K X_InvalidPlan = true) (ga_InvalidPlan : PySem.W.findIn K (.ref X_InvalidPlan) "__getattribute__" = some (some (.builtin "BaseException.__getattribute__"))) (gt_InvalidPlan : PySem.W.findIn K (.ref X_InvalidPlan) "__getattr__" = some none) (sx_InvalidPlan : PySem.W.findIn K (.ref X_InvalidPlan) "__setattr__" = some (some (.builtin "object.__setattr__"))) (bx_InvalidPlan : PySem.W.subIn K (.ref X_InvalidPlan) (.type "BaseException") = some true) (ty_InvalidPlan : PySem.W.typeIn K (.ref X_InvalidPlan) = some (.type "type")) (kx_InvalidPlan : PySem.W.keepIn K (.ref X_InvalidPlan) = true) (nx_InvalidPlan : PySem.W.findIn K (.ref X_InvalidPlan) "index" = some none)
    {xf_InvalidPlan : Addr} {od_InvalidPlan an_InvalidPlan : Option Addr} {sl_InvalidPlan : Array (Option Value)} {oc_InvalidPlan kV_InvalidPlan dc_InvalidPlan pm_InvalidPlan cd_InvalidPlan ct_InvalidPlan : Value}
    (ix_InvalidPlan : PySem.W.findIn K (.ref X_InvalidPlan) "__init__" = some (some (.ref xf_InvalidPlan))) (tx_InvalidPlan : PySem.W.typeIn K (.ref xf_InvalidPlan) = some (.type "function")) (lx_InvalidPlan : K.lookup xf_InvalidPlan = some ⟨oc_InvalidPlan, od_InvalidPlan, .func (PySem.W.fnOf "__init__" "InvalidPlan.__init__" (defArgs s_InvalidPlan_init) (defBody s_InvalidPlan_init) (defScope s_InvalidPlan_init) .none kV_InvalidPlan dc_InvalidPlan pm_InvalidPlan an_InvalidPlan cd_InvalidPlan ct_InvalidPlan), sl_InvalidPlan⟩) (cx_InvalidPlan : PySem.W.codeIn K cd_InvalidPlan "InvalidPlan.__init__" = true) (ox_InvalidPlan : PySem.W.keepIn K (.ref xf_InvalidPlan) = true)
    {de_InvalidPast : Option Addr} {ke_InvalidPast : ClassData} {ae_InvalidPast : Array (Option Value)} (lo_InvalidPast : K.lookup X_InvalidPast = some ⟨.type "type", de_InvalidPast, .cls ke_InvalidPast, ae_InvalidPast⟩) (eo_InvalidPast : Bk.errOk X_InvalidPast ke_InvalidPast ae_InvalidPast = true) (hx_InvalidPast : PySem.W.hasDictIn K X_InvalidPast = true) (ga_InvalidPast : PySem.W.findIn K (.ref X_InvalidPast) "__getattribute__" = some (some (.builtin "BaseException.__getattribute__"))) (gt_InvalidPast : PySem.W.findIn K (.ref X_InvalidPast) "__getattr__" = some none) (sx_InvalidPast : PySem.W.findIn K (.ref X_InvalidPast) "__setattr__" = some (some (.builtin "object.__setattr__"))) (bx_InvalidPast : PySem.W.subIn K (.ref X_InvalidPast) (.type "BaseException") = some true) (ty_InvalidPast : PySem.W.typeIn K (.ref X_InvalidPast) = some (.type "type")) (kx_InvalidPast : PySem.W.keepIn K (.ref X_InvalidPast) = true) (nx_InvalidPast : PySem.W.findIn K (.ref X_InvalidPast) "day" = some none)
    {xf_InvalidPast : Addr} {od_InvalidPast an_InvalidPast : Option Addr} {sl_InvalidPast : Array (Option Value)} {oc_InvalidPast kV_InvalidPast dc_InvalidPast pm_InvalidPast cd_InvalidPast ct_InvalidPast : Value}
    (ix_InvalidPast : PySem.W.findIn K (.ref X_InvalidPast) "__init__" = some (some (.ref xf_InvalidPast))) (tx_InvalidPast : PySem.W.typeIn K (.ref xf_InvalidPast) = some (.type "function")) (lx_InvalidPast : K.lookup xf_InvalidPast = some ⟨oc_InvalidPast, od_InvalidPast, .func (PySem.W.fnOf "__init__" "InvalidPast.__init__" (defArgs s_InvalidPast_init) (defBody s_InvalidPast_init) (defScope s_InvalidPast_init) .none kV_InvalidPast dc_InvalidPast pm_InvalidPast an_InvalidPast cd_InvalidPast ct_InvalidPast), sl_InvalidPast⟩) (cx_InvalidPast : PySem.W.codeIn K cd_InvalidPast "InvalidPast.__init__" = true) (ox_InvalidPast : PySem.W.keepIn K (.ref xf_InvalidPast) = true)
    {de_InvalidRow : Option Addr} {ke_InvalidRow : ClassData} {ae_InvalidRow : Array (Option Value)} (lo_InvalidRow : K.lookup X_InvalidRow = some ⟨.type "type", de_InvalidRow, .cls ke_InvalidRow, ae_InvalidRow⟩) (eo_InvalidRow : Bk.errOk X_InvalidRow ke_InvalidRow ae_InvalidRow = true) (hx_InvalidRow : PySem.W.hasDictIn K X_InvalidRow = true) (ga_InvalidRow : PySem.W.findIn K (.ref X_InvalidRow) "__getattribute__" = some (some (.builtin "BaseException.__getattribute__"))) (gt_InvalidRow : PySem.W.findIn K (.ref X_InvalidRow) "__getattr__" = some none) (sx_InvalidRow : PySem.W.findIn K (.ref X_InvalidRow) "__setattr__" = some (some (.builtin "object.__setattr__"))) (bx_InvalidRow : PySem.W.subIn K (.ref X_InvalidRow) (.type "BaseException") = some true) (ty_InvalidRow : PySem.W.typeIn K (.ref X_InvalidRow) = some (.type "type")) (kx_InvalidRow : PySem.W.keepIn K (.ref X_InvalidRow) = true) (nx_InvalidRow : PySem.W.findIn K (.ref X_InvalidRow) "index" = some none)
    {xf_InvalidRow : Addr} {od_InvalidRow an_InvalidRow : Option Addr} {sl_InvalidRow : Array (Option Value)} {oc_InvalidRow kV_InvalidRow dc_InvalidRow pm_InvalidRow cd_InvalidRow ct_InvalidRow : Value}
    (ix_InvalidRow : PySem.W.findIn K (.ref X_InvalidRow) "__init__" = some (some (.ref xf_InvalidRow))) (tx_InvalidRow : PySem.W.typeIn K (.ref xf_InvalidRow) = some (.type "function")) (lx_InvalidRow : K.lookup xf_InvalidRow = some ⟨oc_InvalidRow, od_InvalidRow, .func (PySem.W.fnOf "__init__" "InvalidRow.__init__" (defArgs s_InvalidRow_init) (defBody s_InvalidRow_init) (defScope s_InvalidRow_init) .none kV_InvalidRow dc_InvalidRow pm_InvalidRow an_InvalidRow cd_InvalidRow ct_InvalidRow), sl_InvalidRow⟩) (cx_InvalidRow : PySem.W.codeIn K cd_InvalidRow "InvalidRow.__init__" = true) (ox_InvalidRow : PySem.W.keepIn K (.ref xf_InvalidRow) = true)
    {de_InvalidNumber : Option Addr} {ke_InvalidNumber : ClassData} {ae_InvalidNumber : Array (Option Value)} (lo_InvalidNumber : K.lookup X_InvalidNumber = some ⟨.type "type", de_InvalidNumber, .cls ke_InvalidNumber, ae_InvalidNumber⟩) (eo_InvalidNumber : Bk.errOk X_InvalidNumber ke_InvalidNumber ae_InvalidNumber = true) (hx_InvalidNumber : PySem.W.hasDictIn K X_InvalidNumber = true) (ga_InvalidNumber : PySem.W.findIn K (.ref X_InvalidNumber) "__getattribute__" = some (some (.builtin "BaseException.__getattribute__"))) (gt_InvalidNumber : PySem.W.findIn K (.ref X_InvalidNumber) "__getattr__" = some none) (sx_InvalidNumber : PySem.W.findIn K (.ref X_InvalidNumber) "__setattr__" = some (some (.builtin "object.__setattr__"))) (bx_InvalidNumber : PySem.W.subIn K (.ref X_InvalidNumber) (.type "BaseException") = some true) (ty_InvalidNumber : PySem.W.typeIn K (.ref X_InvalidNumber) = some (.type "type")) (kx_InvalidNumber : PySem.W.keepIn K (.ref X_InvalidNumber) = true) (nx_InvalidNumber : PySem.W.findIn K (.ref X_InvalidNumber) "name" = some none)
    {xf_InvalidNumber : Addr} {od_InvalidNumber an_InvalidNumber : Option Addr} {sl_InvalidNumber : Array (Option Value)} {oc_InvalidNumber kV_InvalidNumber dc_InvalidNumber pm_InvalidNumber cd_InvalidNumber ct_InvalidNumber : Value}
    (ix_InvalidNumber : PySem.W.findIn K (.ref X_InvalidNumber) "__init__" = some (some (.ref xf_InvalidNumber))) (tx_InvalidNumber : PySem.W.typeIn K (.ref xf_InvalidNumber) = some (.type "function")) (lx_InvalidNumber : K.lookup xf_InvalidNumber = some ⟨oc_InvalidNumber, od_InvalidNumber, .func (PySem.W.fnOf "__init__" "InvalidNumber.__init__" (defArgs s_InvalidNumber_init) (defBody s_InvalidNumber_init) (defScope s_InvalidNumber_init) .none kV_InvalidNumber dc_InvalidNumber pm_InvalidNumber an_InvalidNumber cd_InvalidNumber ct_InvalidNumber), sl_InvalidNumber⟩) (cx_InvalidNumber : PySem.W.codeIn K cd_InvalidNumber "InvalidNumber.__init__" = true) (ox_InvalidNumber : PySem.W.keepIn K (.ref xf_InvalidNumber) = true)
    {de_Mismatch : Option Addr} {ke_Mismatch : ClassData} {ae_Mismatch : Array (Option Value)} (lo_Mismatch : K.lookup X_Mismatch = some ⟨.type "type", de_Mismatch, .cls ke_Mismatch, ae_Mismatch⟩) (eo_Mismatch : Bk.errOk X_Mismatch ke_Mismatch ae_Mismatch = true) (hx_Mismatch : PySem.W.hasDictIn K X_Mismatch = true) (ga_Mismatch : PySem.W.findIn K (.ref X_Mismatch) "__getattribute__" = some (some (.builtin "BaseException.__getattribute__"))) (gt_Mismatch : PySem.W.findIn K (.ref X_Mismatch) "__getattr__" = some none) (sx_Mismatch : PySem.W.findIn K (.ref X_Mismatch) "__setattr__" = some (some (.builtin "object.__setattr__"))) (bx_Mismatch : PySem.W.subIn K (.ref X_Mismatch) (.type "BaseException") = some true) (ty_Mismatch : PySem.W.typeIn K (.ref X_Mismatch) = some (.type "type")) (kx_Mismatch : PySem.W.keepIn K (.ref X_Mismatch) = true) (nx_Mismatch : PySem.W.findIn K (.ref X_Mismatch) "name" = some none)
    {xf_Mismatch : Addr} {od_Mismatch an_Mismatch : Option Addr} {sl_Mismatch : Array (Option Value)} {oc_Mismatch kV_Mismatch dc_Mismatch pm_Mismatch cd_Mismatch ct_Mismatch : Value}
    (ix_Mismatch : PySem.W.findIn K (.ref X_Mismatch) "__init__" = some (some (.ref xf_Mismatch))) (tx_Mismatch : PySem.W.typeIn K (.ref xf_Mismatch) = some (.type "function")) (lx_Mismatch : K.lookup xf_Mismatch = some ⟨oc_Mismatch, od_Mismatch, .func (PySem.W.fnOf "__init__" "Mismatch.__init__" (defArgs s_Mismatch_init) (defBody s_Mismatch_init) (defScope s_Mismatch_init) .none kV_Mismatch dc_Mismatch pm_Mismatch an_Mismatch cd_Mismatch ct_Mismatch), sl_Mismatch⟩) (cx_Mismatch : PySem.W.codeIn K cd_Mismatch "Mismatch.__init__" = true) (ox_Mismatch : PySem.W.keepIn K (.ref xf_Mismatch) = true)
    {de_TooMany : Option Addr} {ke_TooMany : ClassData} {ae_TooMany : Array (Option Value)} (lo_TooMany : K.lookup X_TooMany = some ⟨.type "type", de_TooMany, .cls ke_TooMany, ae_TooMany⟩) (eo_TooMany : Bk.errOk X_TooMany ke_TooMany ae_TooMany = true) (hx_TooMany : PySem.W.hasDictIn K X_TooMany = true) (ga_TooMany : PySem.W.findIn K (.ref X_TooMany) "__getattribute__" = some (some (.builtin "BaseException.__getattribute__"))) (gt_TooMany : PySem.W.findIn K (.ref X_TooMany) "__getattr__" = some none) (sx_TooMany : PySem.W.findIn K (.ref X_TooMany) "__setattr__" = some (some (.builtin "object.__setattr__"))) (bx_TooMany : PySem.W.subIn K (.ref X_TooMany) (.type "BaseException") = some true) (ty_TooMany : PySem.W.typeIn K (.ref X_TooMany) = some (.type "type")) (kx_TooMany : PySem.W.keepIn K (.ref X_TooMany) = true) (nx_TooMany : PySem.W.findIn K (.ref X_TooMany) "count" = some none)
    {xf_TooMany : Addr} {od_TooMany an_TooMany : Option Addr} {sl_TooMany : Array (Option Value)} {oc_TooMany kV_TooMany dc_TooMany pm_TooMany cd_TooMany ct_TooMany : Value}
    (ix_TooMany : PySem.W.findIn K (.ref X_TooMany) "__init__" = some (some (.ref xf_TooMany))) (tx_TooMany : PySem.W.typeIn K (.ref xf_TooMany) = some (.type "function")) (lx_TooMany : K.lookup xf_TooMany = some ⟨oc_TooMany, od_TooMany, .func (PySem.W.fnOf "__init__" "TooMany.__init__" (defArgs s_TooMany_init) (defBody s_TooMany_init) (defScope s_TooMany_init) .none kV_TooMany dc_TooMany pm_TooMany an_TooMany cd_TooMany ct_TooMany), sl_TooMany⟩) (cx_TooMany : PySem.W.codeIn K cd_TooMany "TooMany.__init__" = true) (ox_TooMany : PySem.W.keepIn K (.ref xf_TooMany) = true)
    (sub_InvalidPlan_TooMany : PySem.W.subIn K (.ref X_InvalidPlan) (.ref X_TooMany) = some false) (sub_InvalidPast_TooMany : PySem.W.subIn K (.ref X_InvalidPast) (.ref X_TooMany) = some false) (sub_InvalidRow_TooMany : PySem.W.subIn K (.ref X_InvalidRow) (.ref X_TooMany) = some false) (sub_InvalidNumber_TooMany : PySem.W.subIn K (.ref X_InvalidNumber) (.ref X_TooMany) = some false) (sub_Mismatch_TooMany : PySem.W.subIn K (.ref X_Mismatch) (.ref X_TooMany) = some false) (sub_TooMany_TooMany : PySem.W.subIn K (.ref X_TooMany) (.ref X_TooMany) = some true)
    {f_is_integer : Addr} {od_is_integer an_is_integer : Option Addr} {sl_is_integer : Array (Option Value)} {oc_is_integer kV_is_integer dc_is_integer pm_is_integer cd_is_integer ct_is_integer : Value}
    (a_is_integer : PySem.W.nsIn K mainGlobals "is_integer" = some (some (.ref f_is_integer))) (l_is_integer : K.lookup f_is_integer = some ⟨oc_is_integer, od_is_integer, .func (PySem.W.fnOf "is_integer" "is_integer" (defArgs s_is_integer) (defBody s_is_integer) (defScope s_is_integer) .none kV_is_integer dc_is_integer pm_is_integer an_is_integer cd_is_integer ct_is_integer), sl_is_integer⟩) (c_is_integer : PySem.W.codeIn K cd_is_integer "is_integer" = true) (k_is_integer : PySem.W.keepIn K (.ref f_is_integer) = true)
    {f_is_at_least : Addr} {od_is_at_least an_is_at_least : Option Addr} {sl_is_at_least : Array (Option Value)} {oc_is_at_least kV_is_at_least dc_is_at_least pm_is_at_least cd_is_at_least ct_is_at_least : Value}
    (a_is_at_least : PySem.W.nsIn K mainGlobals "is_at_least" = some (some (.ref f_is_at_least))) (l_is_at_least : K.lookup f_is_at_least = some ⟨oc_is_at_least, od_is_at_least, .func (PySem.W.fnOf "is_at_least" "is_at_least" (defArgs s_is_at_least) (defBody s_is_at_least) (defScope s_is_at_least) .none kV_is_at_least dc_is_at_least pm_is_at_least an_is_at_least cd_is_at_least ct_is_at_least), sl_is_at_least⟩) (c_is_at_least : PySem.W.codeIn K cd_is_at_least "is_at_least" = true) (k_is_at_least : PySem.W.keepIn K (.ref f_is_at_least) = true)
    {f_is_between : Addr} {od_is_between an_is_between : Option Addr} {sl_is_between : Array (Option Value)} {oc_is_between kV_is_between dc_is_between pm_is_between cd_is_between ct_is_between : Value}
    (a_is_between : PySem.W.nsIn K mainGlobals "is_between" = some (some (.ref f_is_between))) (l_is_between : K.lookup f_is_between = some ⟨oc_is_between, od_is_between, .func (PySem.W.fnOf "is_between" "is_between" (defArgs s_is_between) (defBody s_is_between) (defScope s_is_between) .none kV_is_between dc_is_between pm_is_between an_is_between cd_is_between ct_is_between), sl_is_between⟩) (c_is_between : PySem.W.codeIn K cd_is_between "is_between" = true) (k_is_between : PySem.W.keepIn K (.ref f_is_between) = true)
    {f_are_numbers : Addr} {od_are_numbers an_are_numbers : Option Addr} {sl_are_numbers : Array (Option Value)} {oc_are_numbers kV_are_numbers dc_are_numbers pm_are_numbers cd_are_numbers ct_are_numbers : Value}
    (a_are_numbers : PySem.W.nsIn K mainGlobals "are_numbers" = some (some (.ref f_are_numbers))) (l_are_numbers : K.lookup f_are_numbers = some ⟨oc_are_numbers, od_are_numbers, .func (PySem.W.fnOf "are_numbers" "are_numbers" (defArgs s_are_numbers) (defBody s_are_numbers) (defScope s_are_numbers) .none kV_are_numbers dc_are_numbers pm_are_numbers an_are_numbers cd_are_numbers ct_are_numbers), sl_are_numbers⟩) (c_are_numbers : PySem.W.codeIn K cd_are_numbers "are_numbers" = true) (k_are_numbers : PySem.W.keepIn K (.ref f_are_numbers) = true)
    {f_is_entries : Addr} {od_is_entries an_is_entries : Option Addr} {sl_is_entries : Array (Option Value)} {oc_is_entries kV_is_entries dc_is_entries pm_is_entries cd_is_entries ct_is_entries : Value}
    (a_is_entries : PySem.W.nsIn K mainGlobals "is_entries" = some (some (.ref f_is_entries))) (l_is_entries : K.lookup f_is_entries = some ⟨oc_is_entries, od_is_entries, .func (PySem.W.fnOf "is_entries" "is_entries" (defArgs s_is_entries) (defBody s_is_entries) (defScope s_is_entries) .none kV_is_entries dc_is_entries pm_is_entries an_is_entries cd_is_entries ct_is_entries), sl_is_entries⟩) (c_is_entries : PySem.W.codeIn K cd_is_entries "is_entries" = true) (k_is_entries : PySem.W.keepIn K (.ref f_is_entries) = true)
    {f_is_row_of : Addr} {od_is_row_of an_is_row_of : Option Addr} {sl_is_row_of : Array (Option Value)} {oc_is_row_of kV_is_row_of dc_is_row_of pm_is_row_of cd_is_row_of ct_is_row_of : Value}
    (a_is_row_of : PySem.W.nsIn K mainGlobals "is_row_of" = some (some (.ref f_is_row_of))) (l_is_row_of : K.lookup f_is_row_of = some ⟨oc_is_row_of, od_is_row_of, .func (PySem.W.fnOf "is_row_of" "is_row_of" (defArgs s_is_row_of) (defBody s_is_row_of) (defScope s_is_row_of) .none kV_is_row_of dc_is_row_of pm_is_row_of an_is_row_of cd_is_row_of ct_is_row_of), sl_is_row_of⟩) (c_is_row_of : PySem.W.codeIn K cd_is_row_of "is_row_of" = true) (k_is_row_of : PySem.W.keepIn K (.ref f_is_row_of) = true)
    {f_require_rows : Addr} {od_require_rows an_require_rows : Option Addr} {sl_require_rows : Array (Option Value)} {oc_require_rows kV_require_rows dc_require_rows pm_require_rows cd_require_rows ct_require_rows : Value}
    (a_require_rows : PySem.W.nsIn K mainGlobals "require_rows" = some (some (.ref f_require_rows))) (l_require_rows : K.lookup f_require_rows = some ⟨oc_require_rows, od_require_rows, .func (PySem.W.fnOf "require_rows" "require_rows" (defArgs s_require_rows) (defBody s_require_rows) (defScope s_require_rows) .none kV_require_rows dc_require_rows pm_require_rows an_require_rows cd_require_rows ct_require_rows), sl_require_rows⟩) (c_require_rows : PySem.W.codeIn K cd_require_rows "require_rows" = true) (k_require_rows : PySem.W.keepIn K (.ref f_require_rows) = true)
    {f_require_beginning : Addr} {od_require_beginning an_require_beginning : Option Addr} {sl_require_beginning : Array (Option Value)} {oc_require_beginning kV_require_beginning dc_require_beginning pm_require_beginning cd_require_beginning ct_require_beginning : Value}
    (a_require_beginning : PySem.W.nsIn K mainGlobals "require_beginning" = some (some (.ref f_require_beginning))) (l_require_beginning : K.lookup f_require_beginning = some ⟨oc_require_beginning, od_require_beginning, .func (PySem.W.fnOf "require_beginning" "require_beginning" (defArgs s_require_beginning) (defBody s_require_beginning) (defScope s_require_beginning) .none kV_require_beginning dc_require_beginning pm_require_beginning an_require_beginning cd_require_beginning ct_require_beginning), sl_require_beginning⟩) (c_require_beginning : PySem.W.codeIn K cd_require_beginning "require_beginning" = true) (k_require_beginning : PySem.W.keepIn K (.ref f_require_beginning) = true)
    {f_levels_behind : Addr} {od_levels_behind an_levels_behind : Option Addr} {sl_levels_behind : Array (Option Value)} {oc_levels_behind kV_levels_behind dc_levels_behind pm_levels_behind cd_levels_behind ct_levels_behind : Value}
    (a_levels_behind : PySem.W.nsIn K mainGlobals "levels_behind" = some (some (.ref f_levels_behind))) (l_levels_behind : K.lookup f_levels_behind = some ⟨oc_levels_behind, od_levels_behind, .func (PySem.W.fnOf "levels_behind" "levels_behind" (defArgs s_levels_behind) (defBody s_levels_behind) (defScope s_levels_behind) .none kV_levels_behind dc_levels_behind pm_levels_behind an_levels_behind cd_levels_behind ct_levels_behind), sl_levels_behind⟩) (c_levels_behind : PySem.W.codeIn K cd_levels_behind "levels_behind" = true) (k_levels_behind : PySem.W.keepIn K (.ref f_levels_behind) = true)
    {f_tests_behind : Addr} {od_tests_behind an_tests_behind : Option Addr} {sl_tests_behind : Array (Option Value)} {oc_tests_behind kV_tests_behind dc_tests_behind pm_tests_behind cd_tests_behind ct_tests_behind : Value}
    (a_tests_behind : PySem.W.nsIn K mainGlobals "tests_behind" = some (some (.ref f_tests_behind))) (l_tests_behind : K.lookup f_tests_behind = some ⟨oc_tests_behind, od_tests_behind, .func (PySem.W.fnOf "tests_behind" "tests_behind" (defArgs s_tests_behind) (defBody s_tests_behind) (defScope s_tests_behind) .none kV_tests_behind dc_tests_behind pm_tests_behind an_tests_behind cd_tests_behind ct_tests_behind), sl_tests_behind⟩) (c_tests_behind : PySem.W.codeIn K cd_tests_behind "tests_behind" = true) (k_tests_behind : PySem.W.keepIn K (.ref f_tests_behind) = true)
    {f_tests : Addr} {od_tests an_tests : Option Addr} {sl_tests : Array (Option Value)} {oc_tests kV_tests dc_tests pm_tests cd_tests ct_tests : Value}
    (a_tests : PySem.W.nsIn K mainGlobals "tests" = some (some (.ref f_tests))) (l_tests : K.lookup f_tests = some ⟨oc_tests, od_tests, .func (PySem.W.fnOf "tests" "tests" (defArgs s_tests) (defBody s_tests) (defScope s_tests) .none kV_tests dc_tests pm_tests an_tests cd_tests ct_tests), sl_tests⟩) (c_tests : PySem.W.codeIn K cd_tests "tests" = true) (k_tests : PySem.W.keepIn K (.ref f_tests) = true)
    {f_level_of : Addr} {od_level_of an_level_of : Option Addr} {sl_level_of : Array (Option Value)} {oc_level_of kV_level_of dc_level_of pm_level_of cd_level_of ct_level_of : Value}
    (a_level_of : PySem.W.nsIn K mainGlobals "level_of" = some (some (.ref f_level_of))) (l_level_of : K.lookup f_level_of = some ⟨oc_level_of, od_level_of, .func (PySem.W.fnOf "level_of" "level_of" (defArgs s_level_of) (defBody s_level_of) (defScope s_level_of) .none kV_level_of dc_level_of pm_level_of an_level_of cd_level_of ct_level_of), sl_level_of⟩) (c_level_of : PySem.W.codeIn K cd_level_of "level_of" = true) (k_level_of : PySem.W.keepIn K (.ref f_level_of) = true)
    {f_thinned : Addr} {od_thinned an_thinned : Option Addr} {sl_thinned : Array (Option Value)} {oc_thinned kV_thinned dc_thinned pm_thinned cd_thinned ct_thinned : Value}
    (a_thinned : PySem.W.nsIn K mainGlobals "thinned" = some (some (.ref f_thinned))) (l_thinned : K.lookup f_thinned = some ⟨oc_thinned, od_thinned, .func (PySem.W.fnOf "thinned" "thinned" (defArgs s_thinned) (defBody s_thinned) (defScope s_thinned) .none kV_thinned dc_thinned pm_thinned an_thinned cd_thinned ct_thinned), sl_thinned⟩) (c_thinned : PySem.W.codeIn K cd_thinned "thinned" = true) (k_thinned : PySem.W.keepIn K (.ref f_thinned) = true)
    {f_merged : Addr} {od_merged an_merged : Option Addr} {sl_merged : Array (Option Value)} {oc_merged kV_merged dc_merged pm_merged cd_merged ct_merged : Value}
    (a_merged : PySem.W.nsIn K mainGlobals "merged" = some (some (.ref f_merged))) (l_merged : K.lookup f_merged = some ⟨oc_merged, od_merged, .func (PySem.W.fnOf "merged" "merged" (defArgs s_merged) (defBody s_merged) (defScope s_merged) .none kV_merged dc_merged pm_merged an_merged cd_merged ct_merged), sl_merged⟩) (c_merged : PySem.W.codeIn K cd_merged "merged" = true) (k_merged : PySem.W.keepIn K (.ref f_merged) = true)
    {f_law_mix : Addr} {od_law_mix an_law_mix : Option Addr} {sl_law_mix : Array (Option Value)} {oc_law_mix kV_law_mix dc_law_mix pm_law_mix cd_law_mix ct_law_mix : Value}
    (a_law_mix : PySem.W.nsIn K mainGlobals "_law_mix" = some (some (.ref f_law_mix))) (l_law_mix : K.lookup f_law_mix = some ⟨oc_law_mix, od_law_mix, .func (PySem.W.fnOf "_law_mix" "_law_mix" (defArgs s_law_mix) (defBody s_law_mix) (defScope s_law_mix) .none kV_law_mix dc_law_mix pm_law_mix an_law_mix cd_law_mix ct_law_mix), sl_law_mix⟩) (c_law_mix : PySem.W.codeIn K cd_law_mix "_law_mix" = true) (k_law_mix : PySem.W.keepIn K (.ref f_law_mix) = true)
    {f_law_source : Addr} {od_law_source an_law_source : Option Addr} {sl_law_source : Array (Option Value)} {oc_law_source kV_law_source dc_law_source pm_law_source cd_law_source ct_law_source : Value}
    (a_law_source : PySem.W.nsIn K mainGlobals "_law_source" = some (some (.ref f_law_source))) (l_law_source : K.lookup f_law_source = some ⟨oc_law_source, od_law_source, .func (PySem.W.fnOf "_law_source" "_law_source" (defArgs s_law_source) (defBody s_law_source) (defScope s_law_source) .none kV_law_source dc_law_source pm_law_source an_law_source cd_law_source ct_law_source), sl_law_source⟩) (c_law_source : PySem.W.codeIn K cd_law_source "_law_source" = true) (k_law_source : PySem.W.keepIn K (.ref f_law_source) = true)
    {f_law_draw : Addr} {od_law_draw an_law_draw : Option Addr} {sl_law_draw : Array (Option Value)} {oc_law_draw kV_law_draw dc_law_draw pm_law_draw cd_law_draw ct_law_draw : Value}
    (a_law_draw : PySem.W.nsIn K mainGlobals "_law_draw" = some (some (.ref f_law_draw))) (l_law_draw : K.lookup f_law_draw = some ⟨oc_law_draw, od_law_draw, .func (PySem.W.fnOf "_law_draw" "_law_draw" (defArgs s_law_draw) (defBody s_law_draw) (defScope s_law_draw) .none kV_law_draw dc_law_draw pm_law_draw an_law_draw cd_law_draw ct_law_draw), sl_law_draw⟩) (c_law_draw : PySem.W.codeIn K cd_law_draw "_law_draw" = true) (k_law_draw : PySem.W.keepIn K (.ref f_law_draw) = true)
    {f_law_rows : Addr} {od_law_rows an_law_rows : Option Addr} {sl_law_rows : Array (Option Value)} {oc_law_rows kV_law_rows dc_law_rows pm_law_rows cd_law_rows ct_law_rows : Value}
    (a_law_rows : PySem.W.nsIn K mainGlobals "_law_rows" = some (some (.ref f_law_rows))) (l_law_rows : K.lookup f_law_rows = some ⟨oc_law_rows, od_law_rows, .func (PySem.W.fnOf "_law_rows" "_law_rows" (defArgs s_law_rows) (defBody s_law_rows) (defScope s_law_rows) .none kV_law_rows dc_law_rows pm_law_rows an_law_rows cd_law_rows ct_law_rows), sl_law_rows⟩) (c_law_rows : PySem.W.codeIn K cd_law_rows "_law_rows" = true) (k_law_rows : PySem.W.keepIn K (.ref f_law_rows) = true)
    {f_law_levels : Addr} {od_law_levels an_law_levels : Option Addr} {sl_law_levels : Array (Option Value)} {oc_law_levels kV_law_levels dc_law_levels pm_law_levels cd_law_levels ct_law_levels : Value}
    (a_law_levels : PySem.W.nsIn K mainGlobals "_law_levels" = some (some (.ref f_law_levels))) (l_law_levels : K.lookup f_law_levels = some ⟨oc_law_levels, od_law_levels, .func (PySem.W.fnOf "_law_levels" "_law_levels" (defArgs s_law_levels) (defBody s_law_levels) (defScope s_law_levels) .none kV_law_levels dc_law_levels pm_law_levels an_law_levels cd_law_levels ct_law_levels), sl_law_levels⟩) (c_law_levels : PySem.W.codeIn K cd_law_levels "_law_levels" = true) (k_law_levels : PySem.W.keepIn K (.ref f_law_levels) = true)
    {f_law_thinned_right : Addr} {od_law_thinned_right an_law_thinned_right : Option Addr} {sl_law_thinned_right : Array (Option Value)} {oc_law_thinned_right kV_law_thinned_right dc_law_thinned_right pm_law_thinned_right cd_law_thinned_right ct_law_thinned_right : Value}
    (a_law_thinned_right : PySem.W.nsIn K mainGlobals "_law_thinned_right" = some (some (.ref f_law_thinned_right))) (l_law_thinned_right : K.lookup f_law_thinned_right = some ⟨oc_law_thinned_right, od_law_thinned_right, .func (PySem.W.fnOf "_law_thinned_right" "_law_thinned_right" (defArgs s_law_thinned_right) (defBody s_law_thinned_right) (defScope s_law_thinned_right) .none kV_law_thinned_right dc_law_thinned_right pm_law_thinned_right an_law_thinned_right cd_law_thinned_right ct_law_thinned_right), sl_law_thinned_right⟩) (c_law_thinned_right : PySem.W.codeIn K cd_law_thinned_right "_law_thinned_right" = true) (k_law_thinned_right : PySem.W.keepIn K (.ref f_law_thinned_right) = true)
    {f_law_merged_right : Addr} {od_law_merged_right an_law_merged_right : Option Addr} {sl_law_merged_right : Array (Option Value)} {oc_law_merged_right kV_law_merged_right dc_law_merged_right pm_law_merged_right cd_law_merged_right ct_law_merged_right : Value}
    (a_law_merged_right : PySem.W.nsIn K mainGlobals "_law_merged_right" = some (some (.ref f_law_merged_right))) (l_law_merged_right : K.lookup f_law_merged_right = some ⟨oc_law_merged_right, od_law_merged_right, .func (PySem.W.fnOf "_law_merged_right" "_law_merged_right" (defArgs s_law_merged_right) (defBody s_law_merged_right) (defScope s_law_merged_right) .none kV_law_merged_right dc_law_merged_right pm_law_merged_right an_law_merged_right cd_law_merged_right ct_law_merged_right), sl_law_merged_right⟩) (c_law_merged_right : PySem.W.codeIn K cd_law_merged_right "_law_merged_right" = true) (k_law_merged_right : PySem.W.keepIn K (.ref f_law_merged_right) = true)
    {f_law_said : Addr} {od_law_said an_law_said : Option Addr} {sl_law_said : Array (Option Value)} {oc_law_said kV_law_said dc_law_said pm_law_said cd_law_said ct_law_said : Value}
    (a_law_said : PySem.W.nsIn K mainGlobals "_law_said" = some (some (.ref f_law_said))) (l_law_said : K.lookup f_law_said = some ⟨oc_law_said, od_law_said, .func (PySem.W.fnOf "_law_said" "_law_said" (defArgs s_law_said) (defBody s_law_said) (defScope s_law_said) .none kV_law_said dc_law_said pm_law_said an_law_said cd_law_said ct_law_said), sl_law_said⟩) (c_law_said : PySem.W.codeIn K cd_law_said "_law_said" = true) (k_law_said : PySem.W.keepIn K (.ref f_law_said) = true)
    {f_law : Addr} {od_law an_law : Option Addr} {sl_law : Array (Option Value)} {oc_law kV_law dc_law pm_law cd_law ct_law : Value}
    (a_law : PySem.W.nsIn K mainGlobals "law" = some (some (.ref f_law))) (l_law : K.lookup f_law = some ⟨oc_law, od_law, .func (PySem.W.fnOf "law" "law" (defArgs s_law) (defBody s_law) (defScope s_law) .none kV_law dc_law pm_law an_law cd_law ct_law), sl_law⟩) (c_law : PySem.W.codeIn K cd_law "law" = true) (k_law : PySem.W.keepIn K (.ref f_law) = true)
    {t_MAX_DAYS : Tok} (v_MAX_DAYS : PySem.W.nsIn K mainGlobals "MAX_DAYS" = some (some (.int 100 t_MAX_DAYS)))
    {t_MAX_LEVELS : Tok} (v_MAX_LEVELS : PySem.W.nsIn K mainGlobals "MAX_LEVELS" = some (some (.int 1000 t_MAX_LEVELS)))
    {t_MAX_OWNED : Tok} (v_MAX_OWNED : PySem.W.nsIn K mainGlobals "MAX_OWNED" = some (some (.int 12 t_MAX_OWNED)))
    (z_abs : PySem.W.nsIn K mainGlobals "abs" = some none)
    (z_all : PySem.W.nsIn K mainGlobals "all" = some none)
    (z_bool : PySem.W.nsIn K mainGlobals "bool" = some none)
    (z_enumerate : PySem.W.nsIn K mainGlobals "enumerate" = some none)
    (z_int : PySem.W.nsIn K mainGlobals "int" = some none)
    (z_isinstance : PySem.W.nsIn K mainGlobals "isinstance" = some none)
    (z_len : PySem.W.nsIn K mainGlobals "len" = some none)
    (z_list : PySem.W.nsIn K mainGlobals "list" = some none)
    (z_range : PySem.W.nsIn K mainGlobals "range" = some none)
    (z_set : PySem.W.nsIn K mainGlobals "set" = some none)
    (z_sorted : PySem.W.nsIn K mainGlobals "sorted" = some none)
    (z_tuple : PySem.W.nsIn K mainGlobals "tuple" = some none)
    : ∃ (fd : FuncData) (C : CT), (∀ (s : Shared) (v : Value), BindsTo s fd ⟨[v], []⟩ [("_law_script", v)]) ∧ ∀ base : Heap, K.In base → base.Ns mainGlobals mg → FnQ l.prog w K mg base C 8 fa fd ["_law_script"] F_law := by
  have e2 : fa = f_law := by
    have e := hfa.symm.trans (PySem.W.mg_of X G a_law)
    cases e
    rfl
  rw [e2]
  have F_is_integer := fun_mk (st := s_is_integer) l_is_integer c_is_integer k_is_integer
  have F_is_at_least := fun_mk (st := s_is_at_least) l_is_at_least c_is_at_least k_is_at_least
  have F_is_between := fun_mk (st := s_is_between) l_is_between c_is_between k_is_between
  have F_are_numbers := fun_mk (st := s_are_numbers) l_are_numbers c_are_numbers k_are_numbers
  have F_is_entries := fun_mk (st := s_is_entries) l_is_entries c_is_entries k_is_entries
  have F_is_row_of := fun_mk (st := s_is_row_of) l_is_row_of c_is_row_of k_is_row_of
  have F_require_rows := fun_mk (st := s_require_rows) l_require_rows c_require_rows k_require_rows
  have F_require_beginning := fun_mk (st := s_require_beginning) l_require_beginning c_require_beginning k_require_beginning
  have F_levels_behind := fun_mk (st := s_levels_behind) l_levels_behind c_levels_behind k_levels_behind
  have F_tests_behind := fun_mk (st := s_tests_behind) l_tests_behind c_tests_behind k_tests_behind
  have F_tests := fun_mk (st := s_tests) l_tests c_tests k_tests
  have F_level_of := fun_mk (st := s_level_of) l_level_of c_level_of k_level_of
  have F_thinned := fun_mk (st := s_thinned) l_thinned c_thinned k_thinned
  have F_merged := fun_mk (st := s_merged) l_merged c_merged k_merged
  have F_law_mix := fun_mk (st := s_law_mix) l_law_mix c_law_mix k_law_mix
  have F_law_source := fun_mk (st := s_law_source) l_law_source c_law_source k_law_source
  have F_law_draw := fun_mk (st := s_law_draw) l_law_draw c_law_draw k_law_draw
  have F_law_rows := fun_mk (st := s_law_rows) l_law_rows c_law_rows k_law_rows
  have F_law_levels := fun_mk (st := s_law_levels) l_law_levels c_law_levels k_law_levels
  have F_law_thinned_right := fun_mk (st := s_law_thinned_right) l_law_thinned_right c_law_thinned_right k_law_thinned_right
  have F_law_merged_right := fun_mk (st := s_law_merged_right) l_law_merged_right c_law_merged_right k_law_merged_right
  have F_law_said := fun_mk (st := s_law_said) l_law_said c_law_said k_law_said
  have F_law := fun_mk (st := s_law) l_law c_law k_law
  have FX_InvalidPlan := fun_mk (st := s_InvalidPlan_init) lx_InvalidPlan cx_InvalidPlan ox_InvalidPlan
  have FX_InvalidPast := fun_mk (st := s_InvalidPast_init) lx_InvalidPast cx_InvalidPast ox_InvalidPast
  have FX_InvalidRow := fun_mk (st := s_InvalidRow_init) lx_InvalidRow cx_InvalidRow ox_InvalidRow
  have FX_InvalidNumber := fun_mk (st := s_InvalidNumber_init) lx_InvalidNumber cx_InvalidNumber ox_InvalidNumber
  have FX_Mismatch := fun_mk (st := s_Mismatch_init) lx_Mismatch cx_Mismatch ox_Mismatch
  have FX_TooMany := fun_mk (st := s_TooMany_init) lx_TooMany cx_TooMany ox_TooMany
  have T : Tx K mg ⟨f_is_integer, _, f_is_at_least, _, f_is_between, _, f_are_numbers, _, f_is_entries, _, f_is_row_of, _, f_require_rows, _, f_require_beginning, _, f_levels_behind, _, f_tests_behind, _, f_tests, _, f_level_of, _, f_thinned, _, f_merged, _, f_law_mix, _, f_law_source, _, f_law_draw, _, f_law_rows, _, f_law_levels, _, f_law_thinned_right, _, f_law_merged_right, _, f_law_said, _, f_law, _, xf_InvalidPlan, _, xf_InvalidPast, _, xf_InvalidRow, _, xf_InvalidNumber, _, xf_Mismatch, _, xf_TooMany, _, X_InvalidPlan, X_InvalidPast, X_InvalidRow, X_InvalidNumber, X_Mismatch, X_TooMany, t_MAX_DAYS, t_MAX_LEVELS, t_MAX_OWNED⟩ :=
    { g_is_integer := PySem.W.mg_of X G a_is_integer,
      F_is_integer := F_is_integer, b_is_integer := F_is_integer.binds fun _ _ _ _ _ _ us hl => match us, hl with | [_], _ => rfl,
      g_is_at_least := PySem.W.mg_of X G a_is_at_least,
      F_is_at_least := F_is_at_least, b_is_at_least := F_is_at_least.binds fun _ _ _ _ _ _ us hl => match us, hl with | [_, _], _ => rfl,
      g_is_between := PySem.W.mg_of X G a_is_between,
      F_is_between := F_is_between, b_is_between := F_is_between.binds fun _ _ _ _ _ _ us hl => match us, hl with | [_, _, _], _ => rfl,
      g_are_numbers := PySem.W.mg_of X G a_are_numbers,
      F_are_numbers := F_are_numbers, b_are_numbers := F_are_numbers.binds fun _ _ _ _ _ _ us hl => match us, hl with | [_], _ => rfl,
      g_is_entries := PySem.W.mg_of X G a_is_entries,
      F_is_entries := F_is_entries, b_is_entries := F_is_entries.binds fun _ _ _ _ _ _ us hl => match us, hl with | [_], _ => rfl,
      g_is_row_of := PySem.W.mg_of X G a_is_row_of,
      F_is_row_of := F_is_row_of, b_is_row_of := F_is_row_of.binds fun _ _ _ _ _ _ us hl => match us, hl with | [_, _], _ => rfl,
      g_require_rows := PySem.W.mg_of X G a_require_rows,
      F_require_rows := F_require_rows, b_require_rows := F_require_rows.binds fun _ _ _ _ _ _ us hl => match us, hl with | [_], _ => rfl,
      g_require_beginning := PySem.W.mg_of X G a_require_beginning,
      F_require_beginning := F_require_beginning, b_require_beginning := F_require_beginning.binds fun _ _ _ _ _ _ us hl => match us, hl with | [_, _], _ => rfl,
      g_levels_behind := PySem.W.mg_of X G a_levels_behind,
      F_levels_behind := F_levels_behind, b_levels_behind := F_levels_behind.binds fun _ _ _ _ _ _ us hl => match us, hl with | [_, _], _ => rfl,
      g_tests_behind := PySem.W.mg_of X G a_tests_behind,
      F_tests_behind := F_tests_behind, b_tests_behind := F_tests_behind.binds fun _ _ _ _ _ _ us hl => match us, hl with | [_, _], _ => rfl,
      g_tests := PySem.W.mg_of X G a_tests,
      F_tests := F_tests, b_tests := F_tests.binds fun _ _ _ _ _ _ us hl => match us, hl with | [_, _], _ => rfl,
      g_level_of := PySem.W.mg_of X G a_level_of,
      F_level_of := F_level_of, b_level_of := F_level_of.binds fun _ _ _ _ _ _ us hl => match us, hl with | [_, _], _ => rfl,
      g_thinned := PySem.W.mg_of X G a_thinned,
      F_thinned := F_thinned, b_thinned := F_thinned.binds fun _ _ _ _ _ _ us hl => match us, hl with | [_, _], _ => rfl,
      g_merged := PySem.W.mg_of X G a_merged,
      F_merged := F_merged, b_merged := F_merged.binds fun _ _ _ _ _ _ us hl => match us, hl with | [_, _], _ => rfl,
      g_law_mix := PySem.W.mg_of X G a_law_mix,
      F_law_mix := F_law_mix, b_law_mix := F_law_mix.binds fun _ _ _ _ _ _ us hl => match us, hl with | [_, _], _ => rfl,
      g_law_source := PySem.W.mg_of X G a_law_source,
      F_law_source := F_law_source, b_law_source := F_law_source.binds fun _ _ _ _ _ _ us hl => match us, hl with | [_], _ => rfl,
      g_law_draw := PySem.W.mg_of X G a_law_draw,
      F_law_draw := F_law_draw, b_law_draw := F_law_draw.binds fun _ _ _ _ _ _ us hl => match us, hl with | [_, _], _ => rfl,
      g_law_rows := PySem.W.mg_of X G a_law_rows,
      F_law_rows := F_law_rows, b_law_rows := F_law_rows.binds fun _ _ _ _ _ _ us hl => match us, hl with | [_, _, _], _ => rfl,
      g_law_levels := PySem.W.mg_of X G a_law_levels,
      F_law_levels := F_law_levels, b_law_levels := F_law_levels.binds fun _ _ _ _ _ _ us hl => match us, hl with | [_, _], _ => rfl,
      g_law_thinned_right := PySem.W.mg_of X G a_law_thinned_right,
      F_law_thinned_right := F_law_thinned_right, b_law_thinned_right := F_law_thinned_right.binds fun _ _ _ _ _ _ us hl => match us, hl with | [_, _], _ => rfl,
      g_law_merged_right := PySem.W.mg_of X G a_law_merged_right,
      F_law_merged_right := F_law_merged_right, b_law_merged_right := F_law_merged_right.binds fun _ _ _ _ _ _ us hl => match us, hl with | [_, _], _ => rfl,
      g_law_said := PySem.W.mg_of X G a_law_said,
      F_law_said := F_law_said, b_law_said := F_law_said.binds fun _ _ _ _ _ _ us hl => match us, hl with | [_, _], _ => rfl,
      g_law := PySem.W.mg_of X G a_law,
      F_law := F_law, b_law := F_law.binds fun _ _ _ _ _ _ us hl => match us, hl with | [_], _ => rfl,
      x_InvalidPlan := ⟨⟨Bk.errOk_cls lo_InvalidPlan eo_InvalidPlan, sx_InvalidPlan, bx_InvalidPlan, ty_InvalidPlan, kx_InvalidPlan⟩, ⟨ga_InvalidPlan, gt_InvalidPlan, bx_InvalidPlan, hx_InvalidPlan⟩, nx_InvalidPlan, ix_InvalidPlan, tx_InvalidPlan, FX_InvalidPlan, FX_InvalidPlan.binds fun _ _ _ _ _ _ us hl => match us, hl with | [_, _], _ => rfl⟩,
      x_InvalidPast := ⟨⟨Bk.errOk_cls lo_InvalidPast eo_InvalidPast, sx_InvalidPast, bx_InvalidPast, ty_InvalidPast, kx_InvalidPast⟩, ⟨ga_InvalidPast, gt_InvalidPast, bx_InvalidPast, hx_InvalidPast⟩, nx_InvalidPast, ix_InvalidPast, tx_InvalidPast, FX_InvalidPast, FX_InvalidPast.binds fun _ _ _ _ _ _ us hl => match us, hl with | [_, _], _ => rfl⟩,
      x_InvalidRow := ⟨⟨Bk.errOk_cls lo_InvalidRow eo_InvalidRow, sx_InvalidRow, bx_InvalidRow, ty_InvalidRow, kx_InvalidRow⟩, ⟨ga_InvalidRow, gt_InvalidRow, bx_InvalidRow, hx_InvalidRow⟩, nx_InvalidRow, ix_InvalidRow, tx_InvalidRow, FX_InvalidRow, FX_InvalidRow.binds fun _ _ _ _ _ _ us hl => match us, hl with | [_, _], _ => rfl⟩,
      x_InvalidNumber := ⟨⟨Bk.errOk_cls lo_InvalidNumber eo_InvalidNumber, sx_InvalidNumber, bx_InvalidNumber, ty_InvalidNumber, kx_InvalidNumber⟩, ⟨ga_InvalidNumber, gt_InvalidNumber, bx_InvalidNumber, hx_InvalidNumber⟩, nx_InvalidNumber, ix_InvalidNumber, tx_InvalidNumber, FX_InvalidNumber, FX_InvalidNumber.binds fun _ _ _ _ _ _ us hl => match us, hl with | [_, _], _ => rfl⟩,
      x_Mismatch := ⟨⟨Bk.errOk_cls lo_Mismatch eo_Mismatch, sx_Mismatch, bx_Mismatch, ty_Mismatch, kx_Mismatch⟩, ⟨ga_Mismatch, gt_Mismatch, bx_Mismatch, hx_Mismatch⟩, nx_Mismatch, ix_Mismatch, tx_Mismatch, FX_Mismatch, FX_Mismatch.binds fun _ _ _ _ _ _ us hl => match us, hl with | [_, _], _ => rfl⟩,
      x_TooMany := ⟨⟨Bk.errOk_cls lo_TooMany eo_TooMany, sx_TooMany, bx_TooMany, ty_TooMany, kx_TooMany⟩, ⟨ga_TooMany, gt_TooMany, bx_TooMany, hx_TooMany⟩, nx_TooMany, ix_TooMany, tx_TooMany, FX_TooMany, FX_TooMany.binds fun _ _ _ _ _ _ us hl => match us, hl with | [_, _], _ => rfl⟩,
      gx_InvalidPlan := PySem.W.mg_of X G aX_InvalidPlan,
      gx_InvalidPast := PySem.W.mg_of X G aX_InvalidPast,
      gx_InvalidRow := PySem.W.mg_of X G aX_InvalidRow,
      gx_InvalidNumber := PySem.W.mg_of X G aX_InvalidNumber,
      gx_Mismatch := PySem.W.mg_of X G aX_Mismatch,
      gx_TooMany := PySem.W.mg_of X G aX_TooMany,
      e_TooMany := fun j hj => match j, hj with | 0, _ => PySem.W.exm_ref bx_TooMany hx_TooMany ty_TooMany sub_InvalidPlan_TooMany | 1, _ => PySem.W.exm_ref bx_TooMany hx_TooMany ty_TooMany sub_InvalidPast_TooMany | 2, _ => PySem.W.exm_ref bx_TooMany hx_TooMany ty_TooMany sub_InvalidRow_TooMany | 3, _ => PySem.W.exm_ref bx_TooMany hx_TooMany ty_TooMany sub_InvalidNumber_TooMany | 4, _ => PySem.W.exm_ref bx_TooMany hx_TooMany ty_TooMany sub_Mismatch_TooMany | 5, _ => PySem.W.exm_ref bx_TooMany hx_TooMany ty_TooMany sub_TooMany_TooMany | n + 6, h => absurd h (by omega),
      m_abs := PySem.W.mg_none_of X G z_abs,
      m_all := PySem.W.mg_none_of X G z_all,
      m_bool := PySem.W.mg_none_of X G z_bool,
      m_enumerate := PySem.W.mg_none_of X G z_enumerate,
      m_int := PySem.W.mg_none_of X G z_int,
      m_isinstance := PySem.W.mg_none_of X G z_isinstance,
      m_len := PySem.W.mg_none_of X G z_len,
      m_list := PySem.W.mg_none_of X G z_list,
      m_range := PySem.W.mg_none_of X G z_range,
      m_set := PySem.W.mg_none_of X G z_set,
      m_sorted := PySem.W.mg_none_of X G z_sorted,
      m_tuple := PySem.W.mg_none_of X G z_tuple,
      c_MAX_DAYS := PySem.W.mg_of X G v_MAX_DAYS,
      c_MAX_LEVELS := PySem.W.mg_of X G v_MAX_LEVELS,
      c_MAX_OWNED := PySem.W.mg_of X G v_MAX_OWNED }
  exact ⟨_, errC _, fun s v => .of_eq rfl, fun base _ _ => ok_law T⟩
end My
open PySem PySem.W PyProof.Rows
set_option maxRecDepth 100000 in
set_option maxHeartbeats 0 in
theorem PySem.Challenge.cw_breakrows_k25_whole_plans_thinned_and_me_holds : PySem.Challenge.rw_breakrows_k25_whole_plans_thinned_and_me.Holds := by
  w_on; o_law; k_head; (case hw => w_witness2)
  k_fill
  refine Bk.walk_q (l := PySem.Challenge.rw_breakrows_k25_whole_plans_thinned_and_me) (n := 63) (k := 8) (x := "_law_script") (F := My.F_law) rfl (by decide) rfl ⟨rfl, by decide, by decide⟩ (fun w h Y => PySem.W.kIn_of Y) ?F My.law_true
  case F =>
    intro w mg fa h KX G hmg
    refine' My.all_mk KX G hmg ?aX_InvalidPlan ?aX_InvalidPast ?aX_InvalidRow ?aX_InvalidNumber ?aX_Mismatch ?aX_TooMany ?lo_InvalidPlan ?eo_InvalidPlan ?hx_InvalidPlan ?ga_InvalidPlan ?gt_InvalidPlan ?sx_InvalidPlan ?bx_InvalidPlan ?ty_InvalidPlan ?kx_InvalidPlan ?nx_InvalidPlan ?ix_InvalidPlan ?tx_InvalidPlan ?lx_InvalidPlan ?cx_InvalidPlan ?ox_InvalidPlan ?lo_InvalidPast ?eo_InvalidPast ?hx_InvalidPast ?ga_InvalidPast ?gt_InvalidPast ?sx_InvalidPast ?bx_InvalidPast ?ty_InvalidPast ?kx_InvalidPast ?nx_InvalidPast ?ix_InvalidPast ?tx_InvalidPast ?lx_InvalidPast ?cx_InvalidPast ?ox_InvalidPast ?lo_InvalidRow ?eo_InvalidRow ?hx_InvalidRow ?ga_InvalidRow ?gt_InvalidRow ?sx_InvalidRow ?bx_InvalidRow ?ty_InvalidRow ?kx_InvalidRow ?nx_InvalidRow ?ix_InvalidRow ?tx_InvalidRow ?lx_InvalidRow ?cx_InvalidRow ?ox_InvalidRow ?lo_InvalidNumber ?eo_InvalidNumber ?hx_InvalidNumber ?ga_InvalidNumber ?gt_InvalidNumber ?sx_InvalidNumber ?bx_InvalidNumber ?ty_InvalidNumber ?kx_InvalidNumber ?nx_InvalidNumber ?ix_InvalidNumber ?tx_InvalidNumber ?lx_InvalidNumber ?cx_InvalidNumber ?ox_InvalidNumber ?lo_Mismatch ?eo_Mismatch ?hx_Mismatch ?ga_Mismatch ?gt_Mismatch ?sx_Mismatch ?bx_Mismatch ?ty_Mismatch ?kx_Mismatch ?nx_Mismatch ?ix_Mismatch ?tx_Mismatch ?lx_Mismatch ?cx_Mismatch ?ox_Mismatch ?lo_TooMany ?eo_TooMany ?hx_TooMany ?ga_TooMany ?gt_TooMany ?sx_TooMany ?bx_TooMany ?ty_TooMany ?kx_TooMany ?nx_TooMany ?ix_TooMany ?tx_TooMany ?lx_TooMany ?cx_TooMany ?ox_TooMany ?sub_InvalidPlan_TooMany ?sub_InvalidPast_TooMany ?sub_InvalidRow_TooMany ?sub_InvalidNumber_TooMany ?sub_Mismatch_TooMany ?sub_TooMany_TooMany ?a_is_integer ?l_is_integer ?c_is_integer ?k_is_integer ?a_is_at_least ?l_is_at_least ?c_is_at_least ?k_is_at_least ?a_is_between ?l_is_between ?c_is_between ?k_is_between ?a_are_numbers ?l_are_numbers ?c_are_numbers ?k_are_numbers ?a_is_entries ?l_is_entries ?c_is_entries ?k_is_entries ?a_is_row_of ?l_is_row_of ?c_is_row_of ?k_is_row_of ?a_require_rows ?l_require_rows ?c_require_rows ?k_require_rows ?a_require_beginning ?l_require_beginning ?c_require_beginning ?k_require_beginning ?a_levels_behind ?l_levels_behind ?c_levels_behind ?k_levels_behind ?a_tests_behind ?l_tests_behind ?c_tests_behind ?k_tests_behind ?a_tests ?l_tests ?c_tests ?k_tests ?a_level_of ?l_level_of ?c_level_of ?k_level_of ?a_thinned ?l_thinned ?c_thinned ?k_thinned ?a_merged ?l_merged ?c_merged ?k_merged ?a_law_mix ?l_law_mix ?c_law_mix ?k_law_mix ?a_law_source ?l_law_source ?c_law_source ?k_law_source ?a_law_draw ?l_law_draw ?c_law_draw ?k_law_draw ?a_law_rows ?l_law_rows ?c_law_rows ?k_law_rows ?a_law_levels ?l_law_levels ?c_law_levels ?k_law_levels ?a_law_thinned_right ?l_law_thinned_right ?c_law_thinned_right ?k_law_thinned_right ?a_law_merged_right ?l_law_merged_right ?c_law_merged_right ?k_law_merged_right ?a_law_said ?l_law_said ?c_law_said ?k_law_said ?a_law ?l_law ?c_law ?k_law ?v_MAX_DAYS ?v_MAX_LEVELS ?v_MAX_OWNED ?z_abs ?z_all ?z_bool ?z_enumerate ?z_int ?z_isinstance ?z_len ?z_list ?z_range ?z_set ?z_sorted ?z_tuple
    (case aX_InvalidPlan => k_is); (case aX_InvalidPast => k_is); (case aX_InvalidRow => k_is); (case aX_InvalidNumber => k_is); (case aX_Mismatch => k_is); (case aX_TooMany => k_is); (case lo_InvalidPlan => k_is); (case eo_InvalidPlan => decide +kernel); (case hx_InvalidPlan => k_is); (case ga_InvalidPlan => k_is); (case gt_InvalidPlan => k_is); (case sx_InvalidPlan => k_is); (case bx_InvalidPlan => k_is); (case ty_InvalidPlan => k_is); (case kx_InvalidPlan => k_is); (case nx_InvalidPlan => k_is); (case ix_InvalidPlan => k_is); (case tx_InvalidPlan => k_is); (case lx_InvalidPlan => k_is); (case cx_InvalidPlan => k_is); (case ox_InvalidPlan => k_is); (case lo_InvalidPast => k_is); (case eo_InvalidPast => decide +kernel); (case hx_InvalidPast => k_is); (case ga_InvalidPast => k_is); (case gt_InvalidPast => k_is); (case sx_InvalidPast => k_is); (case bx_InvalidPast => k_is); (case ty_InvalidPast => k_is); (case kx_InvalidPast => k_is); (case nx_InvalidPast => k_is); (case ix_InvalidPast => k_is); (case tx_InvalidPast => k_is); (case lx_InvalidPast => k_is); (case cx_InvalidPast => k_is); (case ox_InvalidPast => k_is); (case lo_InvalidRow => k_is); (case eo_InvalidRow => decide +kernel); (case hx_InvalidRow => k_is); (case ga_InvalidRow => k_is); (case gt_InvalidRow => k_is); (case sx_InvalidRow => k_is); (case bx_InvalidRow => k_is); (case ty_InvalidRow => k_is); (case kx_InvalidRow => k_is); (case nx_InvalidRow => k_is); (case ix_InvalidRow => k_is); (case tx_InvalidRow => k_is); (case lx_InvalidRow => k_is); (case cx_InvalidRow => k_is); (case ox_InvalidRow => k_is); (case lo_InvalidNumber => k_is); (case eo_InvalidNumber => decide +kernel); (case hx_InvalidNumber => k_is); (case ga_InvalidNumber => k_is); (case gt_InvalidNumber => k_is); (case sx_InvalidNumber => k_is); (case bx_InvalidNumber => k_is); (case ty_InvalidNumber => k_is); (case kx_InvalidNumber => k_is); (case nx_InvalidNumber => k_is); (case ix_InvalidNumber => k_is); (case tx_InvalidNumber => k_is); (case lx_InvalidNumber => k_is); (case cx_InvalidNumber => k_is); (case ox_InvalidNumber => k_is); (case lo_Mismatch => k_is); (case eo_Mismatch => decide +kernel); (case hx_Mismatch => k_is); (case ga_Mismatch => k_is); (case gt_Mismatch => k_is); (case sx_Mismatch => k_is); (case bx_Mismatch => k_is); (case ty_Mismatch => k_is); (case kx_Mismatch => k_is); (case nx_Mismatch => k_is); (case ix_Mismatch => k_is); (case tx_Mismatch => k_is); (case lx_Mismatch => k_is); (case cx_Mismatch => k_is); (case ox_Mismatch => k_is); (case lo_TooMany => k_is); (case eo_TooMany => decide +kernel); (case hx_TooMany => k_is); (case ga_TooMany => k_is); (case gt_TooMany => k_is); (case sx_TooMany => k_is); (case bx_TooMany => k_is); (case ty_TooMany => k_is); (case kx_TooMany => k_is); (case nx_TooMany => k_is); (case ix_TooMany => k_is); (case tx_TooMany => k_is); (case lx_TooMany => k_is); (case cx_TooMany => k_is); (case ox_TooMany => k_is); (case sub_InvalidPlan_TooMany => k_is); (case sub_InvalidPast_TooMany => k_is); (case sub_InvalidRow_TooMany => k_is); (case sub_InvalidNumber_TooMany => k_is); (case sub_Mismatch_TooMany => k_is); (case sub_TooMany_TooMany => k_is); (case a_is_integer => k_is); (case l_is_integer => k_is); (case c_is_integer => k_is); (case k_is_integer => k_is); (case a_is_at_least => k_is); (case l_is_at_least => k_is); (case c_is_at_least => k_is); (case k_is_at_least => k_is); (case a_is_between => k_is); (case l_is_between => k_is); (case c_is_between => k_is); (case k_is_between => k_is); (case a_are_numbers => k_is); (case l_are_numbers => k_is); (case c_are_numbers => k_is); (case k_are_numbers => k_is); (case a_is_entries => k_is); (case l_is_entries => k_is); (case c_is_entries => k_is); (case k_is_entries => k_is); (case a_is_row_of => k_is); (case l_is_row_of => k_is); (case c_is_row_of => k_is); (case k_is_row_of => k_is); (case a_require_rows => k_is); (case l_require_rows => k_is); (case c_require_rows => k_is); (case k_require_rows => k_is); (case a_require_beginning => k_is); (case l_require_beginning => k_is); (case c_require_beginning => k_is); (case k_require_beginning => k_is); (case a_levels_behind => k_is); (case l_levels_behind => k_is); (case c_levels_behind => k_is); (case k_levels_behind => k_is); (case a_tests_behind => k_is); (case l_tests_behind => k_is); (case c_tests_behind => k_is); (case k_tests_behind => k_is); (case a_tests => k_is); (case l_tests => k_is); (case c_tests => k_is); (case k_tests => k_is); (case a_level_of => k_is); (case l_level_of => k_is); (case c_level_of => k_is); (case k_level_of => k_is); (case a_thinned => k_is); (case l_thinned => k_is); (case c_thinned => k_is); (case k_thinned => k_is); (case a_merged => k_is); (case l_merged => k_is); (case c_merged => k_is); (case k_merged => k_is); (case a_law_mix => k_is); (case l_law_mix => k_is); (case c_law_mix => k_is); (case k_law_mix => k_is); (case a_law_source => k_is); (case l_law_source => k_is); (case c_law_source => k_is); (case k_law_source => k_is); (case a_law_draw => k_is); (case l_law_draw => k_is); (case c_law_draw => k_is); (case k_law_draw => k_is); (case a_law_rows => k_is); (case l_law_rows => k_is); (case c_law_rows => k_is); (case k_law_rows => k_is); (case a_law_levels => k_is); (case l_law_levels => k_is); (case c_law_levels => k_is); (case k_law_levels => k_is); (case a_law_thinned_right => k_is); (case l_law_thinned_right => k_is); (case c_law_thinned_right => k_is); (case k_law_thinned_right => k_is); (case a_law_merged_right => k_is); (case l_law_merged_right => k_is); (case c_law_merged_right => k_is); (case k_law_merged_right => k_is); (case a_law_said => k_is); (case l_law_said => k_is); (case c_law_said => k_is); (case k_law_said => k_is); (case a_law => k_is); (case l_law => k_is); (case c_law => k_is); (case k_law => k_is); (case v_MAX_DAYS => k_is); (case v_MAX_LEVELS => k_is); (case v_MAX_OWNED => k_is); (case z_abs => k_is); (case z_all => k_is); (case z_bool => k_is); (case z_enumerate => k_is); (case z_int => k_is); (case z_isinstance => k_is); (case z_len => k_is); (case z_list => k_is); (case z_range => k_is); (case z_set => k_is); (case z_sorted => k_is); (case z_tuple => k_is)

