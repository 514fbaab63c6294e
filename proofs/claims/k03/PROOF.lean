import PyProof.Rows.All
import HandS.Conv
import HandS.Deep
import HandS.ExcOwn
import HandS.ForExc
import HandS.ForMost
import HandS.IsInst
import HandS.Style
import HandS.TupAny
import HandS.TupMul
import HandS.Wide
import KE.GoesEnum
import KE.GoesMore
import KE.GoesZip
import KE.KDictZip
import OpenK.AllK
import PySem.Challenge.RW_breakrows_k03_pieces_added_and_least_sto
import Wide.All
import Wide.FinOn
set_option Elab.async false
set_option linter.all false
set_option maxRecDepth 100000
set_option maxHeartbeats 1000000
/-! A layer of trees over the hand layer: values are trees D, what may be changed lies in a small store M of our own; each construct has a function that computes its result, and a theorem that the hand layer's reading follows from it. -/
namespace Bk
open PySem PySem.Spec PyProof.Rows L2

/-! ### data, the store, results -/
inductive D where
  | non | bl (b : Bool) | int (i : Int) | str (x : Str)
  | tup (xs : List D) | lst (xs : List D) | ref (k : Nat)
inductive MO where
  | dead | lst (xs : List D)
inductive R (α : Type) where
  | ok (a : α) (M : List MO) | exc (c : Nat) (d : D) (M : List MO) | bad
def R.bind {α β : Type} (r : R α) (f : α → List MO → R β) : R β := match r with
  | .ok a M => f a M
  | .exc c d M => .exc c d M
  | .bad => .bad
abbrev Env := List (Option D)
abbrev GE := Env → List MO → R D
abbrev GT := Env → List MO → R Bool
abbrev GA := Env → List MO → R (List D)
inductive RS where
  | nx (Γ : Env) (M : List MO) | rt (d : D) (M : List MO) | bk (Γ : Env) (M : List MO) | ct (Γ : Env) (M : List MO)
  | exc (c : Nat) (d : D) (Γ : Env) (M : List MO) | bad
abbrev GS := Env → List MO → RS

/-- a list, tracked or written, and no more than that -/
def ExL (K : PySem.W.Frag) (H : Hp) (a : Addr) (xs : List V) : Prop :=
  Rd H a (.lst xs) ∨ ∃ (its : Array Value) (m : Nat), K.lookup a = some { cls := .type "list", data := .seq its m } ∧ its.size ≤ sizeLine ∧ Vals xs its.toList
theorem ExL.sq {K : PySem.W.Frag} {H : Hp} {a : Addr} {xs : List V} : ExL K H a xs → SqL K H a xs
  | .inl h => .inl h
  | .inr ⟨its, m, h1, h2, h3⟩ => .inr ⟨_, its, m, h1, rfl, rfl, rfl, h2, h3⟩
theorem ExL.at_ {X : Cx} {pins : List (Addr × Obj)} {σ : L2.St} {H : Hp} {s : Shared} {a : Addr} {xs : List V} (I : Inv X pins σ H s) (h : ExL X.K H a xs) : ∃ (its : List Value) (m : Nat), Vals xs its ∧ s.heap.get? a = some { cls := .type "list", data := .seq its.toArray m } ∧ xs.length ≤ sizeLine := by
  rcases h with h | ⟨its, m, h1, h2, h3⟩
  · obtain ⟨z, its, m, r, e⟩ := h.ok I.hok
    exact ⟨its, m, r, e, z⟩
  · refine ⟨its.toList, m, h3, by simpa using I.kIn a _ h1, ?_⟩
    have e := h3.length
    rw [Array.length_toList] at e
    exact Nat.le_trans (Nat.le_of_eq e) h2
section
variable (K : PySem.W.Frag) (Z : Hp) (ι : Nat → Addr) (n : Nat)
mutual
inductive Rp : D → V → Prop
  | non : Rp .non .non
  | bl (b : Bool) : Rp (.bl b) (.bl b)
  | int (i : Int) : Rp (.int i) (.int i)
  | str (x : Str) : Rp (.str x) (.str x)
  | tup {ds : List D} {a : Addr} {xs : List V} : SqT K Z a xs → Rps ds xs → Rp (.tup ds) (.ref a)
  | lst {ds : List D} {a : Addr} {xs : List V} : ExL K Z a xs → Rps ds xs → Rp (.lst ds) (.ref a)
  | ref {k : Nat} : k < n → Rp (.ref k) (.ref (ι k))
inductive Rps : List D → List V → Prop
  | nil : Rps [] []
  | cons {d : D} {v : V} {ds : List D} {vs : List V} : Rp d v → Rps ds vs → Rps (d :: ds) (v :: vs)
end
end

abbrev Sub (Z Z' : Hp) : Prop := ∀ a o, Z a = some o → Z' a = some o
theorem subL {K : PySem.W.Frag} {Z Z' : Hp} (h : Sub Z Z') {a : Addr} {xs : List V} : ExL K Z a xs → ExL K Z' a xs
  | .inl (.inl e) => .inl (.inl (h _ _ e))
  | .inl (.inr ⟨o, e⟩) => .inl (.inr ⟨o, h _ _ e⟩)
  | .inr q => .inr q
theorem subT {K : PySem.W.Frag} {Z Z' : Hp} (h : Sub Z Z') {a : Addr} {xs : List V} : SqT K Z a xs → SqT K Z' a xs
  | .inl (.inl e) => .inl (.inl (h _ _ e))
  | .inl (.inr ⟨o, e⟩) => .inl (.inr ⟨o, h _ _ e⟩)
  | .inr q => .inr q

section
variable {K : PySem.W.Frag} {Z Z' : Hp} {ι ι' : Nat → Addr} {n n' : Nat}
mutual
theorem Rp.mono (hz : Sub Z Z') (hi : ∀ k, k < n → ι' k = ι k) (hn : n ≤ n') : ∀ (d : D) (v : V), Rp K Z ι n d v → Rp K Z' ι' n' d v
  | .non, _, h => by cases h; exact .non
  | .bl b, _, h => by cases h; exact .bl b
  | .int i, _, h => by cases h; exact .int i
  | .str x, _, h => by cases h; exact .str x
  | .tup ds, _, h => by
    cases h with
    | tup s r => exact .tup (subT hz s) (Rps.mono hz hi hn ds _ r)
  | .lst ds, _, h => by
    cases h with
    | lst s r => exact .lst (subL hz s) (Rps.mono hz hi hn ds _ r)
  | .ref k, _, h => by
    cases h with
    | ref q => rw [← hi k q]; exact .ref (Nat.lt_of_lt_of_le q hn)
theorem Rps.mono (hz : Sub Z Z') (hi : ∀ k, k < n → ι' k = ι k) (hn : n ≤ n') : ∀ (ds : List D) (vs : List V), Rps K Z ι n ds vs → Rps K Z' ι' n' ds vs
  | [], _, h => by cases h; exact .nil
  | d :: ds, _, h => by
    cases h with
    | cons r s => exact .cons (Rp.mono hz hi hn d _ r) (Rps.mono hz hi hn ds _ s)
end
theorem Rps.length : ∀ {ds : List D} {vs : List V}, Rps K Z ι n ds vs → ds.length = vs.length
  | [], _, h => by cases h; rfl
  | _ :: _, _, h => by
    cases h with
    | cons _ s => rw [List.length_cons, List.length_cons, Rps.length s]
theorem Rps.get : ∀ {ds : List D} {vs : List V} {i : Nat} {d : D}, Rps K Z ι n ds vs → ds[i]? = some d → ∃ v, vs[i]? = some v ∧ Rp K Z ι n d v
  | [], _, _, _, _, e => by simp at e
  | _ :: _, _, 0, _, h, e => by
    cases h with
    | cons r _ =>
      simp at e
      subst e
      exact ⟨_, rfl, r⟩
  | _ :: _, _, i + 1, _, h, e => by
    cases h with
    | cons _ s =>
      obtain ⟨v, h1, h2⟩ := Rps.get s (i := i) (by simpa using e)
      exact ⟨v, by simpa using h1, h2⟩
theorem Rps.append : ∀ {ds es : List D} {vs us : List V}, Rps K Z ι n ds vs → Rps K Z ι n es us → Rps K Z ι n (ds ++ es) (vs ++ us)
  | [], _, _, _, h, q => by cases h; exact q
  | _ :: _, _, _, _, h, q => by
    cases h with
    | cons r s => exact .cons r (Rps.append s q)
theorem Rps.set : ∀ {ds : List D} {vs : List V} {d : D} {v : V} (i : Nat), Rps K Z ι n ds vs → Rp K Z ι n d v → Rps K Z ι n (ds.set i d) (vs.set i v)
  | [], _, _, _, _, h, _ => by cases h; exact .nil
  | _ :: _, _, _, _, 0, h, q => by
    cases h with
    | cons _ s => exact .cons q s
  | _ :: _, _, _, _, i + 1, h, q => by
    cases h with
    | cons r s => exact .cons r (Rps.set i s q)
theorem Rps.take : ∀ {ds : List D} {vs : List V} (i : Nat), Rps K Z ι n ds vs → Rps K Z ι n (ds.take i) (vs.take i)
  | _, _, 0, _ => by rw [List.take_zero, List.take_zero]; exact .nil
  | [], _, _ + 1, h => by cases h; exact .nil
  | _ :: _, _, i + 1, h => by
    cases h with
    | cons r s => exact .cons r (Rps.take i s)
theorem Rps.drop : ∀ {ds : List D} {vs : List V} (i : Nat), Rps K Z ι n ds vs → Rps K Z ι n (ds.drop i) (vs.drop i)
  | _, _, 0, h => h
  | [], _, _ + 1, h => by cases h; exact .nil
  | _ :: _, _, i + 1, h => by
    cases h with
    | cons r s => exact Rps.drop i s
theorem Rps.erase : ∀ {ds : List D} {vs : List V} (i : Nat), Rps K Z ι n ds vs → Rps K Z ι n (ds.eraseIdx i) (vs.eraseIdx i)
  | [], _, _, h => by cases h; exact .nil
  | _ :: _, _, 0, h => by
    cases h with
    | cons r s => exact s
  | _ :: _, _, i + 1, h => by
    cases h with
    | cons r s => exact .cons r (Rps.erase i s)
theorem Rps.rep {ds : List D} {vs : List V} (h : Rps K Z ι n ds vs) : ∀ k : Nat, Rps K Z ι n (List.replicate k ds).flatten (List.replicate k vs).flatten
  | 0 => .nil
  | k + 1 => by
    rw [List.replicate_succ, List.replicate_succ, List.flatten_cons, List.flatten_cons]
    exact h.append (Rps.rep h k)
theorem Rps.rev : ∀ {ds : List D} {vs : List V}, Rps K Z ι n ds vs → Rps K Z ι n ds.reverse vs.reverse
  | [], _, h => by cases h; exact .nil
  | _ :: _, _, h => by
    cases h with
    | cons r s =>
      rw [List.reverse_cons, List.reverse_cons]
      exact (Rps.rev s).append (.cons r .nil)
theorem Rps.ints : ∀ {is : List Int} {vs : List V}, Rps K Z ι n (is.map D.int) vs → vs = is.map V.int
  | [], _, h => by cases h; rfl
  | _ :: _, _, h => by
    cases h with
    | cons r s =>
      cases r
      rw [List.map_cons, Rps.ints s]
theorem Rps.of_ints : ∀ (is : List Int), Rps K Z ι n (is.map D.int) (is.map V.int)
  | [] => .nil
  | i :: is => .cons (.int i) (Rps.of_ints is)
end

/-! refs below a bound -/
mutual
def below (m : Nat) : D → Bool
  | .tup ds => belows m ds
  | .lst ds => belows m ds
  | .ref k => decide (k < m)
  | _ => true
def belows (m : Nat) : List D → Bool
  | [] => true
  | d :: ds => below m d && belows m ds
end
section
variable {K : PySem.W.Frag} {Z : Hp} {ι : Nat → Addr} {n m : Nat}
mutual
theorem Rp.shrink : ∀ (d : D) (v : V), Rp K Z ι n d v → below m d = true → Rp K Z ι m d v
  | .non, _, h, _ => by cases h; exact .non
  | .bl b, _, h, _ => by cases h; exact .bl b
  | .int i, _, h, _ => by cases h; exact .int i
  | .str x, _, h, _ => by cases h; exact .str x
  | .tup ds, _, h, b => by
    cases h with
    | tup s r => exact .tup s (Rps.shrink ds _ r (by simpa [below] using b))
  | .lst ds, _, h, b => by
    cases h with
    | lst s r => exact .lst s (Rps.shrink ds _ r (by simpa [below] using b))
  | .ref k, _, h, b => by
    cases h with
    | ref q => exact .ref (by simpa [below] using b)
theorem Rps.shrink : ∀ (ds : List D) (vs : List V), Rps K Z ι n ds vs → belows m ds = true → Rps K Z ι m ds vs
  | [], _, h, _ => by cases h; exact .nil
  | d :: ds, _, h, b => by
    cases h with
    | cons r s =>
      simp only [belows, Bool.and_eq_true] at b
      exact .cons (Rp.shrink d _ r b.1) (Rps.shrink ds _ s b.2)
end
end

/-! ### the heap holds the store -/
def OR (K : PySem.W.Frag) (H Z : Hp) (ι : Nat → Addr) (n : Nat) : MO → Addr → Prop
  | .dead, _ => True
  | .lst ds, a => ∃ xs, H a = some (.lst xs) ∧ Rps K Z ι n ds xs
structure HR (K : PySem.W.Frag) (H Z : Hp) (ι : Nat → Addr) (M : List MO) : Prop where
  sub : Sub Z H
  ali : ∀ k, k < M.length → ∃ o, H (ι k) = some o
  sep : ∀ (k : Nat) (o : MO), M[k]? = some o → o ≠ .dead → Z (ι k) = none
  inj : ∀ (j k : Nat) (o u : MO), M[j]? = some o → M[k]? = some u → o ≠ .dead → u ≠ .dead → ι j = ι k → j = k
  obj : ∀ (k : Nat) (o : MO), M[k]? = some o → OR K H Z ι M.length o (ι k)
  ded : ∀ (k : Nat), M[k]? = some .dead → ∃ o, Z (ι k) = some o
theorem HR.apart {K : PySem.W.Frag} {H Z : Hp} {ι : Nat → Addr} {M : List MO} (h : HR K H Z ι M) {j k : Nat} {o : MO} (hj : j < M.length) (hk : M[k]? = some o) (d : o ≠ .dead) (ne : j ≠ k) : ι j ≠ ι k := fun e => by
  have ej : M[j]? = some M[j] := List.getElem?_eq_getElem hj
  by_cases dj : M[j] = .dead
  · rw [dj] at ej
    obtain ⟨u, hu⟩ := h.ded j ej
    rw [e, h.sep k o hk d] at hu
    cases hu
  · exact ne (h.inj j k _ o ej hk dj d e)
structure Ext (H Z : Hp) (ι : Nat → Addr) (n : Nat) (H' Z' : Hp) (ι' : Nat → Addr) (n' : Nat) : Prop where
  zz : Sub Z Z'
  ii : ∀ k, k < n → ι' k = ι k
  fr : ∀ a o, H a = some o → (∀ k, k < n → a ≠ ι k) → H' a = some o
  nw : ∀ k, n ≤ k → k < n' → H (ι' k) = none
  ln : n ≤ n'
  zn : ∀ a o, Z' a = some o → Z a = some o ∨ H a = none ∨ ∃ k, k < n ∧ a = ι k
theorem Ext.refl {H Z : Hp} {ι : Nat → Addr} {n : Nat} : Ext H Z ι n H Z ι n :=
  ⟨fun _ _ h => h, fun _ _ => rfl, fun _ _ h _ => h, fun k h1 h2 => absurd h2 (Nat.not_lt.mpr h1), Nat.le_refl _, fun _ _ h => .inl h⟩
theorem Ext.trans {H Z H1 Z1 H2 Z2 : Hp} {ι ι1 ι2 : Nat → Addr} {n n1 n2 : Nat} (a : Ext H Z ι n H1 Z1 ι1 n1) (b : Ext H1 Z1 ι1 n1 H2 Z2 ι2 n2) (al : ∀ k, k < n1 → ∃ o, H1 (ι1 k) = some o) : Ext H Z ι n H2 Z2 ι2 n2 where
  zz := fun x o h => b.zz x o (a.zz x o h)
  ii := fun k h => (b.ii k (Nat.lt_of_lt_of_le h a.ln)).trans (a.ii k h)
  fr := fun x o h hk => by
    refine b.fr x o (a.fr x o h hk) fun k hk1 e => ?_
    by_cases hn : k < n
    · exact hk k hn (e.trans (a.ii k hn))
    · have q := a.nw k (Nat.le_of_not_lt hn) hk1
      rw [← e, h] at q
      cases q
  nw := fun k h1 h2 => by
    by_cases hn : k < n1
    · rw [b.ii k hn]
      exact a.nw k h1 hn
    · have q := b.nw k (Nat.le_of_not_lt hn) h2
      cases e : H (ι2 k) with
      | none => rfl
      | some o =>
        by_cases z : ∀ j, j < n → ι2 k ≠ ι j
        · rw [a.fr _ _ e z] at q
          cases q
        · exfalso
          apply z
          intro j hj ej
          obtain ⟨u, hu⟩ := al j (Nat.lt_of_lt_of_le hj a.ln)
          rw [a.ii j hj, ← ej, q] at hu
          cases hu
  ln := Nat.le_trans a.ln b.ln
  zn := fun x o h => by
    have low : ∀ u, H1 x = none → H x = some u → ∃ k, k < n ∧ x = ι k := fun u h1 hu => by
      refine Classical.byContradiction fun z => ?_
      rw [a.fr x u hu fun k hk e => z ⟨k, hk, e⟩] at h1
      cases h1
    have fin : H1 x = none → Z x = some o ∨ H x = none ∨ ∃ k, k < n ∧ x = ι k := fun h1 => by
      cases e : H x with
      | none => exact .inr (.inl rfl)
      | some u => exact .inr (.inr (low u h1 e))
    rcases b.zn x o h with h | h | ⟨k, hk, e⟩
    · exact a.zn x o h
    · exact fin h
    · by_cases hn : k < n
      · exact .inr (.inr ⟨k, hn, e.trans (a.ii k hn)⟩)
      · exact .inr (.inl (by rw [e]; exact a.nw k (Nat.le_of_not_lt hn) hk))
/-- the store is cut -/
theorem Ext.cut {H Z H1 Z1 : Hp} {ι ι1 : Nat → Addr} {n n1 m : Nat} (a : Ext H Z ι n H1 Z1 ι1 n1) (h1 : n ≤ m) (h2 : m ≤ n1) : Ext H Z ι n H1 Z1 ι1 m :=
  ⟨a.zz, a.ii, a.fr, fun k q1 q2 => a.nw k q1 (Nat.lt_of_lt_of_le q2 h2), h1, a.zn⟩
section
variable {K : PySem.W.Frag} {H Z H' Z' : Hp} {ι ι' : Nat → Addr} {M : List MO} {n' : Nat}
theorem Rp.ext {d : D} {v : V} {n : Nat} (r : Rp K Z ι n d v) (e : Ext H Z ι n H' Z' ι' n') : Rp K Z' ι' n' d v := Rp.mono e.zz e.ii e.ln d v r
theorem Rps.ext {ds : List D} {vs : List V} {n : Nat} (r : Rps K Z ι n ds vs) (e : Ext H Z ι n H' Z' ι' n') : Rps K Z' ι' n' ds vs := Rps.mono e.zz e.ii e.ln ds vs r
/-- a new thing that will not be changed -/
theorem HR.frozen (h : HR K H Z ι M) {p : Addr} {o : HO} (hp : H p = none) : HR K (upd H p o) (upd Z p o) ι M ∧ Ext H Z ι M.length (upd H p o) (upd Z p o) ι M.length := by
  have zp : Z p = none := by
    cases e : Z p with
    | none => rfl
    | some u =>
      rw [h.sub _ _ e] at hp
      cases hp
  have ne : ∀ k, k < M.length → ι k ≠ p := fun k hk e => by
    obtain ⟨u, hu⟩ := h.ali k hk
    rw [e, hp] at hu
    cases hu
  have lt : ∀ {k : Nat} {u : MO}, M[k]? = some u → k < M.length := fun e => (List.getElem?_eq_some_iff.mp e).1
  have s1 : Sub Z (upd Z p o) := fun a u e => by rw [upd_ne (ne_of_none e zp)]; exact e
  refine ⟨⟨fun a u e => ?_, fun k hk => ?_, fun k u e d => ?_, h.inj, fun k u e => ?_, fun k e => ?_⟩, s1, fun _ _ => rfl, fun a u e _ => ?_, fun k h1 h2 => absurd h2 (Nat.not_lt.mpr h1), Nat.le_refl _, fun a u e => ?_⟩
  · by_cases ha : a = p
    · subst ha
      rw [upd_same] at e ⊢
      exact e
    · rw [upd_ne ha] at e ⊢
      exact h.sub _ _ e
  · rw [upd_ne (ne k hk)]
    exact h.ali k hk
  · rw [upd_ne (ne k (lt e))]
    exact h.sep k u e d
  · have q := h.obj k u e
    cases u with
    | dead => trivial
    | lst ds =>
      obtain ⟨xs, e1, r⟩ := q
      exact ⟨xs, by rw [upd_ne (ne k (lt e))]; exact e1, Rps.mono s1 (fun _ _ => rfl) (Nat.le_refl _) _ _ r⟩
  · obtain ⟨u, hu⟩ := h.ded k e
    exact ⟨u, s1 _ _ hu⟩
  · rw [upd_ne (ne_of_none e hp)]
    exact e
  · by_cases ha : a = p
    · subst ha
      exact .inr (.inl hp)
    · rw [upd_ne ha] at e
      exact .inl e
def put (ι : Nat → Addr) (m : Nat) (p : Addr) : Nat → Addr := fun k => if k = m then p else ι k
theorem put_at {ι : Nat → Addr} {m : Nat} {p : Addr} : put ι m p m = p := if_pos rfl
theorem put_lt {ι : Nat → Addr} {m k : Nat} {p : Addr} (h : k < m) : put ι m p k = ι k := if_neg (Nat.ne_of_lt h)
/-- a new thing of ours -/
theorem HR.owned (h : HR K H Z ι M) {p : Addr} {ds : List D} {xs : List V} (hp : H p = none) (r : Rps K Z ι M.length ds xs) :
    HR K (upd H p (.lst xs)) Z (put ι M.length p) (M ++ [.lst ds]) ∧ Ext H Z ι M.length (upd H p (.lst xs)) Z (put ι M.length p) (M ++ [MO.lst ds]).length := by
  have zp : Z p = none := by
    cases e : Z p with
    | none => rfl
    | some u =>
      rw [h.sub _ _ e] at hp
      cases hp
  have ne : ∀ k, k < M.length → ι k ≠ p := fun k hk e => by
    obtain ⟨u, hu⟩ := h.ali k hk
    rw [e, hp] at hu
    cases hu
  have ii : ∀ k, k < M.length → (put ι M.length p) k = ι k := fun k hk => put_lt hk
  have il : (put ι M.length p) M.length = p := put_at
  have cs : ∀ {k : Nat} {u : MO}, (M ++ [MO.lst ds])[k]? = some u → (k < M.length ∧ M[k]? = some u) ∨ (k = M.length ∧ u = .lst ds) := fun {k u} e => by
    by_cases hk : k < M.length
    · rw [List.getElem?_append_left hk] at e
      exact .inl ⟨hk, e⟩
    · rw [List.getElem?_append_right (Nat.le_of_not_lt hk)] at e
      by_cases hz : k - M.length = 0
      · rw [hz] at e
        exact .inr ⟨by omega, (Option.some.inj e).symm⟩
      · rw [List.getElem?_eq_none (by simp; omega)] at e
        cases e
  have ln : (M ++ [MO.lst ds]).length = M.length + 1 := by simp
  refine ⟨⟨fun a u e => ?_, fun k hk => ?_, fun k u e d => ?_, fun j k o u e1 e2 d1 d2 e => ?_, fun k u e => ?_, fun k e => ?_⟩, fun _ _ e => e, ii, fun a u e _ => ?_, fun k h1 h2 => ?_, by rw [ln]; omega, fun _ _ e => .inl e⟩
  · rw [upd_ne (ne_of_none e zp)]
    exact h.sub _ _ e
  · rw [ln] at hk
    by_cases hk' : k < M.length
    · rw [ii k hk', upd_ne (ne k hk')]
      exact h.ali k hk'
    · have : k = M.length := by omega
      subst this
      exact ⟨_, by rw [il, upd_same]⟩
  · rcases cs e with ⟨hk, e⟩ | ⟨rfl, rfl⟩
    · rw [ii k hk]
      exact h.sep k u e d
    · rw [il]
      exact zp
  · rcases cs e1 with ⟨hj, e1⟩ | ⟨rfl, rfl⟩ <;> rcases cs e2 with ⟨hk, e2⟩ | ⟨rfl, rfl⟩
    · rw [ii j hj, ii k hk] at e
      exact h.inj j k o u e1 e2 d1 d2 e
    · rw [ii j hj, il] at e
      exact absurd e (ne j hj)
    · rw [ii k hk, il] at e
      exact absurd e.symm (ne k hk)
    · rfl
  · rcases cs e with ⟨hk, e⟩ | ⟨rfl, rfl⟩
    · rw [ii k hk]
      have q := h.obj k u e
      cases u with
      | dead => trivial
      | lst es =>
        obtain ⟨ys, e1, r1⟩ := q
        exact ⟨ys, by rw [upd_ne (ne k hk)]; exact e1, Rps.mono (fun _ _ z => z) ii (by rw [ln]; omega) _ _ r1⟩
    · rw [il]
      exact ⟨xs, upd_same, Rps.mono (fun _ _ z => z) ii (by rw [ln]; omega) _ _ r⟩
  · rcases cs e with ⟨hk, e⟩ | ⟨_, e⟩
    · rw [ii k hk]
      exact h.ded k e
    · cases e
  · rw [upd_ne (ne_of_none e hp)]
    exact e
  · rw [ln] at h2
    have : k = M.length := by omega
    subst this
    rw [il]
    exact hp
/-- one of ours is changed -/
theorem HR.change (h : HR K H Z ι M) {j : Nat} {es ds : List D} {xs : List V} (hj : M[j]? = some (.lst es)) (r : Rps K Z ι M.length ds xs) :
    HR K (upd H (ι j) (.lst xs)) Z ι (M.set j (.lst ds)) ∧ Ext H Z ι M.length (upd H (ι j) (.lst xs)) Z ι (M.set j (.lst ds)).length := by
  have lt : j < M.length := (List.getElem?_eq_some_iff.mp hj).1
  have ln : (M.set j (MO.lst ds)).length = M.length := List.length_set
  have zj : Z (ι j) = none := h.sep j _ hj (by simp)
  have cs : ∀ {k : Nat} {u : MO}, (M.set j (.lst ds))[k]? = some u → (k ≠ j ∧ M[k]? = some u) ∨ (k = j ∧ u = .lst ds) := fun {k u} e => by
    by_cases hk : k = j
    · subst hk
      rw [List.getElem?_set_self lt] at e
      exact .inr ⟨rfl, (Option.some.inj e).symm⟩
    · rw [List.getElem?_set_ne (Ne.symm hk)] at e
      exact .inl ⟨hk, e⟩
  have apart : ∀ {k : Nat} {u : MO}, k ≠ j → M[k]? = some u → u ≠ .dead → ι k ≠ ι j := fun {k u} hk e d z => hk (h.inj k j u _ e hj d (by simp) z)
  refine ⟨⟨fun a u e => ?_, fun k hk => ?_, fun k u e d => ?_, fun a b o u e1 e2 d1 d2 e => ?_, fun k u e => ?_, fun k e => ?_⟩, fun _ _ e => e, fun _ _ => rfl, fun a u e z => ?_, fun k h1 h2 => absurd h2 (by rw [ln]; exact Nat.not_lt.mpr h1), by rw [ln]; exact Nat.le_refl _, fun _ _ e => .inl e⟩
  · rw [upd_ne (ne_of_none e zj)]
    exact h.sub _ _ e
  · rw [ln] at hk
    by_cases e : ι k = ι j
    · exact ⟨_, by rw [e, upd_same]⟩
    · rw [upd_ne e]
      exact h.ali k hk
  · rcases cs e with ⟨hk, e⟩ | ⟨rfl, rfl⟩
    · exact h.sep k u e d
    · exact zj
  · have live : ∀ {k : Nat} {u : MO}, (M.set j (.lst ds))[k]? = some u → u ≠ .dead → ∃ u', M[k]? = some u' ∧ u' ≠ .dead := fun {k u} e d => by
      rcases cs e with ⟨_, e⟩ | ⟨rfl, rfl⟩
      · exact ⟨u, e, d⟩
      · exact ⟨_, hj, by simp⟩
    obtain ⟨o', e1', d1'⟩ := live e1 d1
    obtain ⟨u', e2', d2'⟩ := live e2 d2
    exact h.inj a b o' u' e1' e2' d1' d2' e
  · rw [ln]
    rcases cs e with ⟨hk, e⟩ | ⟨rfl, rfl⟩
    · have q := h.obj k u e
      cases u with
      | dead => trivial
      | lst es =>
        obtain ⟨ys, e1, r1⟩ := q
        exact ⟨ys, by rw [upd_ne (apart hk e (by simp))]; exact e1, r1⟩
    · exact ⟨xs, upd_same, r⟩
  · rcases cs e with ⟨_, e⟩ | ⟨_, e⟩
    · exact h.ded k e
    · cases e
  · rw [upd_ne (z j lt)]
    exact e
/-- one of ours will not be changed any more -/
theorem HR.freeze (h : HR K H Z ι M) {j : Nat} {ds : List D} (hj : M[j]? = some (.lst ds)) :
    ∃ xs, Rps K Z ι M.length ds xs ∧ HR K H (upd Z (ι j) (.lst xs)) ι (M.set j .dead) ∧ Ext H Z ι M.length H (upd Z (ι j) (.lst xs)) ι (M.set j MO.dead).length ∧ Rp K (upd Z (ι j) (.lst xs)) ι (M.set j MO.dead).length (.lst ds) (.ref (ι j)) := by
  have lt : j < M.length := (List.getElem?_eq_some_iff.mp hj).1
  have ln : (M.set j MO.dead).length = M.length := List.length_set
  have zj : Z (ι j) = none := h.sep j _ hj (by simp)
  obtain ⟨xs, e1, r⟩ := h.obj j _ hj
  have s1 : Sub Z (upd Z (ι j) (.lst xs)) := fun a u e => by rw [upd_ne (ne_of_none e zj)]; exact e
  have cs : ∀ {k : Nat} {u : MO}, (M.set j .dead)[k]? = some u → u ≠ .dead → k ≠ j ∧ M[k]? = some u := fun {k u} e d => by
    by_cases hk : k = j
    · subst hk
      rw [List.getElem?_set_self lt] at e
      exact absurd (Option.some.inj e).symm d
    · rw [List.getElem?_set_ne (Ne.symm hk)] at e
      exact ⟨hk, e⟩
  refine ⟨xs, r, ⟨fun a u e => ?_, fun k hk => h.ali k (by rw [ln] at hk; exact hk), fun k u e d => ?_, fun a b o u q1 q2 d1 d2 e => ?_, fun k u e => ?_, fun k e => ?_⟩, ⟨s1, fun _ _ => rfl, fun a u e _ => e, fun k h1 h2 => absurd h2 (by rw [ln]; exact Nat.not_lt.mpr h1), by rw [ln]; exact Nat.le_refl _, fun a u e => ?_⟩, ?_⟩
  · by_cases ha : a = ι j
    · subst ha
      rw [upd_same] at e
      cases e
      exact e1
    · rw [upd_ne ha] at e
      exact h.sub _ _ e
  · obtain ⟨hk, e⟩ := cs e d
    rw [upd_ne fun z => hk (h.inj k j u _ e hj d (by simp) z)]
    exact h.sep k u e d
  · exact h.inj a b o u (cs q1 d1).2 (cs q2 d2).2 d1 d2 e
  · rw [ln]
    cases u with
    | dead => trivial
    | lst es =>
      obtain ⟨hk, e⟩ := cs e (by simp)
      obtain ⟨ys, q1, r1⟩ := h.obj k _ e
      exact ⟨ys, q1, Rps.mono s1 (fun _ _ => rfl) (Nat.le_refl _) _ _ r1⟩
  · by_cases hk : k = j
    · subst hk
      exact ⟨_, upd_same⟩
    · rw [List.getElem?_set_ne (Ne.symm hk)] at e
      obtain ⟨u, hu⟩ := h.ded k e
      exact ⟨u, s1 _ _ hu⟩
  · by_cases ha : a = ι j
    · exact .inr (.inr ⟨j, lt, ha⟩)
    · rw [upd_ne ha] at e
      exact .inl e
  · rw [ln]
    exact .lst (.inl (.inl upd_same)) (Rps.mono s1 (fun _ _ => rfl) (Nat.le_refl _) _ _ r)
end
/-- a cut: what is left leans on nothing that was cut off -/
def belowO (m : Nat) : MO → Bool
  | .dead => true
  | .lst ds => belows m ds
def cutOk (m : Nat) (M : List MO) : Bool := (M.take m).all (belowO m)
theorem HR.cut {K : PySem.W.Frag} {H Z : Hp} {ι : Nat → Addr} {M : List MO} (h : HR K H Z ι M) {m : Nat} (hm : m ≤ M.length) (c : cutOk m M = true) : HR K H Z ι (M.take m) := by
  have ln : (M.take m).length = m := by rw [List.length_take]; omega
  have cs : ∀ {k : Nat} {u : MO}, (M.take m)[k]? = some u → M[k]? = some u ∧ belowO m u = true := fun {k u} e => by
    have lk : k < m := by
      have := (List.getElem?_eq_some_iff.mp e).1
      rw [ln] at this
      exact this
    have e' := e
    rw [List.getElem?_take_of_lt lk] at e'
    exact ⟨e', List.all_eq_true.mp c u (List.mem_of_getElem? e)⟩
  refine ⟨h.sub, fun k hk => h.ali k (by rw [ln] at hk; omega), fun k u e d => h.sep k u (cs e).1 d, fun a b o u e1 e2 d1 d2 e => h.inj a b o u (cs e1).1 (cs e2).1 d1 d2 e, fun k u e => ?_, fun k e => h.ded k (cs e).1⟩
  rw [ln]
  obtain ⟨e1, b⟩ := cs e
  have q := h.obj k u e1
  cases u with
  | dead => trivial
  | lst ds =>
    obtain ⟨xs, e2, r⟩ := q
    exact ⟨xs, e2, Rps.shrink _ _ r b⟩
end Bk

set_option Elab.async false
set_option linter.all false
set_option maxRecDepth 100000
set_option maxHeartbeats 1000000
namespace Bk
open PySem PySem.Spec PyProof.Rows L2

/-! ### what is shown of a piece of syntax -/
abbrev St := L2.St
/-- the classes of errors: where each stands, and its one attribute -/
structure CT where
  at_ : Nat → Addr
  nm : Nat → Str
def ExcR (K : PySem.W.Frag) (C : CT) (H Z : Hp) (ι : Nat → Addr) (n c : Nat) (d : D) (cls : Value) (dd : Option Addr) : Prop :=
  cls = .ref (C.at_ c) ∧ ∃ a v, dd = some a ∧ H a = some (.xd [(C.nm c, v)]) ∧ Rp K Z ι n d v
def Slots (K : PySem.W.Frag) (Z : Hp) (ι : Nat → Addr) (n : Nat) (Γ : Env) (σ : St) : Prop :=
  Γ.length = σ.length ∧ ∀ (i : Nat) (d : D), Γ[i]? = some (some d) → ∃ v, σ[i]? = some (some v) ∧ Rp K Z ι n d v
theorem Slots.ext {K : PySem.W.Frag} {H Z H' Z' : Hp} {ι ι' : Nat → Addr} {n n' : Nat} {Γ : Env} {σ : St} (s : Slots K Z ι n Γ σ) (e : Ext H Z ι n H' Z' ι' n') : Slots K Z' ι' n' Γ σ :=
  ⟨s.1, fun i d h => let ⟨v, h1, h2⟩ := s.2 i d h; ⟨v, h1, h2.ext e⟩⟩
theorem Slots.set {K : PySem.W.Frag} {Z : Hp} {ι : Nat → Addr} {n : Nat} {Γ : Env} {σ : St} (s : Slots K Z ι n Γ σ) (i : Nat) {d : D} {v : V} (r : Rp K Z ι n d v) : Slots K Z ι n (Γ.set i (some d)) (σ.set i (some v)) := by
  refine ⟨by rw [List.length_set, List.length_set]; exact s.1, fun j e h => ?_⟩
  by_cases hj : i = j
  · subst hj
    have lt : i < Γ.length := by
      have := (List.getElem?_eq_some_iff.mp h).1
      rw [List.length_set] at this
      exact this
    rw [List.getElem?_set_self lt] at h
    have q := Option.some.inj (Option.some.inj h)
    subst q
    exact ⟨v, List.getElem?_set_self (by rw [← s.1]; exact lt), r⟩
  · rw [List.getElem?_set_ne hj] at h
    rw [List.getElem?_set_ne hj]
    exact s.2 j e h
/-- slots are forgotten -/
def forget (Γ : Env) : List Nat → Env
  | [] => Γ
  | i :: is => forget (Γ.set i none) is
theorem Slots.forget {K : PySem.W.Frag} {Z : Hp} {ι : Nat → Addr} {n : Nat} {σ : St} : ∀ (is : List Nat) {Γ : Env}, Slots K Z ι n Γ σ → Slots K Z ι n (forget Γ is) σ
  | [], _, s => s
  | i :: is, Γ, s => Slots.forget is ⟨by rw [List.length_set]; exact s.1, fun j e h => by
      by_cases hj : i = j
      · subst hj
        have lt : i < Γ.length := by
          have := (List.getElem?_eq_some_iff.mp h).1
          rw [List.length_set] at this
          exact this
        rw [List.getElem?_set_self lt] at h
        cases h
      · rw [List.getElem?_set_ne hj] at h
        exact s.2 j e h⟩
/-- what leans on nothing that is cut off stays -/
def clean (m : Nat) (Γ : Env) : Env := Γ.map fun o => match o with
  | some d => if below m d = true then some d else none
  | none => none
theorem Slots.cut {K : PySem.W.Frag} {Z : Hp} {ι : Nat → Addr} {n m : Nat} {Γ : Env} {σ : St} (s : Slots K Z ι n Γ σ) : Slots K Z ι m (clean m Γ) σ := by
  refine ⟨by unfold clean; rw [List.length_map]; exact s.1, fun i d h => ?_⟩
  unfold clean at h
  rw [List.getElem?_map] at h
  cases e : Γ[i]? with
  | none => rw [e] at h; cases h
  | some o =>
    cases o with
    | none => rw [e] at h; cases h
    | some d' =>
      rw [e] at h
      have h' : (if below m d' = true then some d' else none) = some d := Option.some.inj h
      by_cases hb : below m d' = true
      · rw [if_pos hb] at h'
        have q := Option.some.inj h'
        subst q
        obtain ⟨v, h1, h2⟩ := s.2 i d' e
        exact ⟨v, h1, h2.shrink _ _ hb⟩
      · rw [if_neg hb] at h'
        cases h'

abbrev RpK (α β : Type) := Hp → (Nat → Addr) → Nat → α → β → Prop
abbrev rpE (K : PySem.W.Frag) : RpK D V := fun Z ι n d v => Rp K Z ι n d v
abbrev rpA (K : PySem.W.Frag) : RpK (List D) (List V) := fun Z ι n d v => Rps K Z ι n d v
abbrev rpT : RpK Bool Bool := fun _ _ _ a b => a = b
def Post {α β : Type} (X : Cx) (C : CT) (W : WX) (rp : RpK α β) (σ : St) (H Z : Hp) (ι : Nat → Addr) (M : List MO) (r : R α) (Q : β → Hp → Prop) : Prop := match r with
  | .ok a M' => ∀ (b : β) (H' Z' : Hp) (ι' : Nat → Addr), Ext H Z ι M.length H' Z' ι' M'.length → HR X.K H' Z' ι' M' → rp Z' ι' M'.length a b → Q b H'
  | .exc c d M' => ∀ (cls : Value) (dd : Option Addr) (H' Z' : Hp) (ι' : Nat → Addr), Ext H Z ι M.length H' Z' ι' M'.length → HR X.K H' Z' ι' M' → ExcR X.K C H' Z' ι' M'.length c d cls dd → W cls dd σ H'
  | .bad => False
section
variable {X : Cx} {C : CT} {W : WX} {σ : St} {H Z H1 Z1 : Hp} {ι ι1 : Nat → Addr} {M M1 : List MO}
theorem Post.shift {α β : Type} {rp : RpK α β} {r : R α} {Q : β → Hp → Prop} (h : Post X C W rp σ H Z ι M r Q) (e : Ext H Z ι M.length H1 Z1 ι1 M1.length) (hr : HR X.K H1 Z1 ι1 M1) : Post X C W rp σ H1 Z1 ι1 M1 r Q := by
  cases r with
  | ok a M' => exact fun b H' Z' ι' e' hr' rb => h b H' Z' ι' (e.trans e' hr.ali) hr' rb
  | exc c d M' => exact fun cls dd H' Z' ι' e' hr' rb => h cls dd H' Z' ι' (e.trans e' hr.ali) hr' rb
  | bad => exact h
theorem Post.bind {α β γ δ : Type} {rp1 : RpK α β} {rp2 : RpK γ δ} {r : R α} {f : α → List MO → R γ} {Q : δ → Hp → Prop} {Q1 : β → Hp → Prop} (h : Post X C W rp2 σ H Z ι M (r.bind f) Q)
    (k : ∀ (a : α) (M1 : List MO) (b : β) (H1 Z1 : Hp) (ι1 : Nat → Addr), Ext H Z ι M.length H1 Z1 ι1 M1.length → HR X.K H1 Z1 ι1 M1 → rp1 Z1 ι1 M1.length a b → Post X C W rp2 σ H1 Z1 ι1 M1 (f a M1) Q → Q1 b H1) :
    Post X C W rp1 σ H Z ι M r Q1 := by
  cases r with
  | ok a M' => exact fun b H' Z' ι' e' hr' rb => k a M' b H' Z' ι' e' hr' rb (Post.shift (r := f a M') h e' hr')
  | exc c d M' => exact h
  | bad => exact h
end

/-- an expression is computed by g -/
def QE (X : Cx) (C : CT) (W : WX) (e : Expr) (g : GE) : Prop := ∃ te, PE X e te ∧ ∀ (σ : St) (H Z : Hp) (ι : Nat → Addr) (Γ : Env) (M : List MO) (Q : VK), Slots X.K Z ι M.length Γ σ → HR X.K H Z ι M → Post X C W (rpE X.K) σ H Z ι M (g Γ M) Q → te σ H Q
def QT (X : Cx) (C : CT) (W : WX) (e : Expr) (g : GT) : Prop := ∃ te, PT X e te ∧ ∀ (σ : St) (H Z : Hp) (ι : Nat → Addr) (Γ : Env) (M : List MO) (Q : Bool → Hp → Prop), Slots X.K Z ι M.length Γ σ → HR X.K H Z ι M → Post X C W rpT σ H Z ι M (g Γ M) Q → te σ H Q
def QW (X : Cx) (C : CT) (W : WX) (e : Expr) (g : GT) : Prop := ∃ te, PW X e te ∧ ∀ (σ : St) (H Z : Hp) (ι : Nat → Addr) (Γ : Env) (M : List MO) (Q : Bool → Hp → Prop), Slots X.K Z ι M.length Γ σ → HR X.K H Z ι M → Post X C W rpT σ H Z ι M (g Γ M) Q → te σ H Q
def QA (X : Cx) (C : CT) (W : WX) (es : List Expr) (g : GA) : Prop := ∃ te, PA X es te ∧ ∀ (σ : St) (H Z : Hp) (ι : Nat → Addr) (Γ : Env) (M : List MO) (Q : List V → Hp → Prop), Slots X.K Z ι M.length Γ σ → HR X.K H Z ι M → Post X C W (rpA X.K) σ H Z ι M (g Γ M) Q → te σ H Q

/-! ### the functions that compute -/
def opR {α : Type} (o : Option α) (M : List MO) : R α := match o with
  | some a => .ok a M
  | none => .bad
def gV (i : Nat) : GE := fun Γ M => match Γ[i]? with
  | some (some d) => .ok d M
  | _ => .bad
def gC (d : D) : GE := fun _ M => .ok d M
def gOp2 (f : List MO → D → D → Option D) (ga gb : GE) : GE := fun Γ M => (ga Γ M).bind fun x M1 => (gb Γ M1).bind fun y M2 => opR (f M2 x y) M2
def gOp1 (f : List MO → D → Option D) (ga : GE) : GE := fun Γ M => (ga Γ M).bind fun x M1 => opR (f M1 x) M1
def gNil : GA := fun _ M => .ok [] M
def gCons (ga : GE) (gr : GA) : GA := fun Γ M => (ga Γ M).bind fun x M1 => (gr Γ M1).bind fun xs M2 => .ok (x :: xs) M2
def gTup (ga : GA) : GE := fun Γ M => (ga Γ M).bind fun xs M1 => if xs.length ≤ sizeLine then .ok (.tup xs) M1 else .bad
def gLst (ga : GA) : GE := fun Γ M => (ga Γ M).bind fun xs M1 => if xs.length ≤ sizeLine then .ok (.lst xs) M1 else .bad
def gLstO (ga : GA) : GE := fun Γ M => (ga Γ M).bind fun xs M1 => if xs.length ≤ sizeLine then .ok (.ref M1.length) (M1 ++ [.lst xs]) else .bad
def gCall (f : List MO → List D → Option D) (ga : GA) : GE := fun Γ M => (ga Γ M).bind fun xs M1 => opR (f M1 xs) M1
def toBl : D → Option Bool
  | .bl b => some b
  | _ => none
def gVal (ga : GE) : GT := fun Γ M => (ga Γ M).bind fun x M1 => opR (toBl x) M1
def gAndT (a b : GT) : GT := fun Γ M => (a Γ M).bind fun c M1 => if c = true then b Γ M1 else .ok false M1
def gOrT (a b : GT) : GT := fun Γ M => (a Γ M).bind fun c M1 => if c = true then .ok true M1 else b Γ M1
def gNotT (a : GT) : GT := fun Γ M => (a Γ M).bind fun c M1 => .ok (!c) M1
def gIfE (c : GT) (a b : GE) : GE := fun Γ M => (c Γ M).bind fun k M1 => if k = true then a Γ M1 else b Γ M1
def gAndV (a b : GE) : GE := fun Γ M => (a Γ M).bind fun x M1 => match x with
  | .bl c => if c = true then b Γ M1 else .ok (.bl false) M1
  | _ => .bad
def gOrV (a b : GE) : GE := fun Γ M => (a Γ M).bind fun x M1 => match x with
  | .bl c => if c = true then .ok (.bl true) M1 else b Γ M1
  | _ => .bad
def gChain (f f' : List MO → D → D → Option D) (ga gb gc : GE) : GE := fun Γ M => (ga Γ M).bind fun x M1 => (gb Γ M1).bind fun y M2 => (opR (f M2 x y) M2).bind fun k M3 => match k with
  | .bl c => if c = true then (gc Γ M3).bind fun z M4 => opR (f' M4 y z) M4 else .ok (.bl false) M3
  | _ => .bad

section
variable {X : Cx} {C : CT} {W : WX}
/-- a result that is new and will not be changed, or an old one -/
def After (X : Cx) (H Z : Hp) (ι : Nat → Addr) (M : List MO) (d : D) (Q : VK) : Prop := ∀ (v : V) (H' Z' : Hp), Ext H Z ι M.length H' Z' ι M.length → HR X.K H' Z' ι M → Rp X.K Z' ι M.length d v → Q v H'
theorem After.now {H Z : Hp} {ι : Nat → Addr} {M : List MO} {d : D} {Q : VK} {v : V} (h : After X H Z ι M d Q) (hr : HR X.K H Z ι M) (r : Rp X.K Z ι M.length d v) : Q v H := h v H Z .refl hr r
theorem After.lst {H Z : Hp} {ι : Nat → Addr} {M : List MO} {ds : List D} {Q : VK} {xs : List V} (h : After X H Z ι M (.lst ds) Q) (hr : HR X.K H Z ι M) (r : Rps X.K Z ι M.length ds xs) : ∀ p, H p = none → Q (.ref p) (upd H p (.lst xs)) := fun p hp => by
  obtain ⟨h1, e1⟩ := hr.frozen (o := .lst xs) hp
  exact h _ _ _ e1 h1 (.lst (.inl (.inl upd_same)) (r.ext e1))
theorem After.tup {H Z : Hp} {ι : Nat → Addr} {M : List MO} {ds : List D} {Q : VK} {xs : List V} (h : After X H Z ι M (.tup ds) Q) (hr : HR X.K H Z ι M) (r : Rps X.K Z ι M.length ds xs) : ∀ p, H p = none → Q (.ref p) (upd H p (.tup xs)) := fun p hp => by
  obtain ⟨h1, e1⟩ := hr.frozen (o := .tup xs) hp
  exact h _ _ _ e1 h1 (.tup (.inl (.inl upd_same)) (r.ext e1))
theorem Post.after {σ : St} {H Z : Hp} {ι : Nat → Addr} {M : List MO} {d : D} {Q : VK} (h : Post X C W (rpE X.K) σ H Z ι M (.ok d M) Q) : After X H Z ι M d Q := fun v H' Z' e hr r => h v H' Z' ι e hr r
/-- an operation on values is computed by f -/
def Ok2 (X : Cx) (r : R2) (f : List MO → D → D → Option D) : Prop := ∀ (x y : V) (H Z : Hp) (ι : Nat → Addr) (M : List MO) (dx dy d : D) (Q : VK), HR X.K H Z ι M → Rp X.K Z ι M.length dx x → Rp X.K Z ι M.length dy y → f M dx dy = some d → After X H Z ι M d Q → r x y H Q
def Ok1 (X : Cx) (r : V → Hp → VK → Prop) (f : List MO → D → Option D) : Prop := ∀ (x : V) (H Z : Hp) (ι : Nat → Addr) (M : List MO) (dx d : D) (Q : VK), HR X.K H Z ι M → Rp X.K Z ι M.length dx x → f M dx = some d → After X H Z ι M d Q → r x H Q
def OkA (X : Cx) (r : List V → Hp → VK → Prop) (f : List MO → List D → Option D) : Prop := ∀ (xs : List V) (H Z : Hp) (ι : Nat → Addr) (M : List MO) (ds : List D) (d : D) (Q : VK), HR X.K H Z ι M → Rps X.K Z ι M.length ds xs → f M ds = some d → After X H Z ι M d Q → r xs H Q
theorem Post.of_opR {α β γ δ : Type} {rp1 : RpK α β} {σ : St} {H Z : Hp} {ι : Nat → Addr} {M : List MO} {o : Option α} {Q : β → Hp → Prop} (h : Post X C W rp1 σ H Z ι M (opR o M) Q) : ∃ a, o = some a ∧ Post X C W rp1 σ H Z ι M (.ok a M) Q := by
  cases o with
  | none => exact h.elim
  | some a => exact ⟨a, rfl, h⟩

/-! ### the rules -/
theorem qe_v (i : Nat) {x : Str} {pos : Pos} (hN : X.N[i]? = some x := by rfl) (hv : Vis X.env.scope x := by first | exact Or.inl rfl | exact Or.inr (Or.inl rfl) | exact Or.inr (Or.inr rfl)) (hd : (x == ("__debug__" : Str)) = false := by decide)
    (hcd : (x == ("__classdict__" : Str)) = false := by decide) : QE X C W (.Name x pos) (gV i) := by
  refine ⟨_, pe_var hN hv hd hcd, fun σ H Z ι Γ M Q sl hr h => ?_⟩
  unfold gV at h
  cases e : Γ[i]? with
  | none => rw [e] at h; exact h.elim
  | some o =>
    cases o with
    | none => rw [e] at h; exact h.elim
    | some d =>
      rw [e] at h
      obtain ⟨v, h1, h2⟩ := sl.2 i d e
      exact ⟨v, h1, h v H Z ι .refl hr h2⟩
theorem qe_int {i : Int} {j pos} : QE X C W (.Constant (.int i) j pos) (gC (.int i)) := ⟨_, pe_int, fun σ H Z ι Γ M Q sl hr h => h _ H Z ι .refl hr (.int i)⟩
theorem qe_bl {b : Bool} {j pos} : QE X C W (.Constant (.bool b) j pos) (gC (.bl b)) := ⟨_, pe_bl, fun σ H Z ι Γ M Q sl hr h => h _ H Z ι .refl hr (.bl b)⟩
theorem qe_non {j pos} : QE X C W (.Constant .none j pos) (gC .non) := ⟨_, pe_non, fun σ H Z ι Γ M Q sl hr h => h _ H Z ι .refl hr .non⟩
theorem qe_str {x : Str} {j pos} : QE X C W (.Constant (.str x) j pos) (gC (.str x)) := ⟨_, pe_str, fun σ H Z ι Γ M Q sl hr h => h _ H Z ι .refl hr (.str x)⟩
/-- a module's number -/
theorem qe_gint {x : Str} {i : Int} {t : Tok} {pos : Pos} (hg : Gl X x) (hm : X.mg x = some (.int i t)) (hd : (x == ("__debug__" : Str)) = false := by decide) : QE X C W (.Name x pos) (gC (.int i)) :=
  ⟨_, pe_glob (v := .int i) hg hm ⟨t, rfl⟩ hd, fun σ H Z ι Γ M Q sl hr h => h _ H Z ι .refl hr (.int i)⟩
variable {e a b c : Expr} {es : List Expr} {ga gb gc g : GE} {gt gu : GT} {gs : GA} {pos : Pos} {f f' : List MO → D → D → Option D}
abbrev Rd1 (X : Cx) (C : CT) (W : WX) (g : GE) (te : TE) : Prop := ∀ (σ : St) (H Z : Hp) (ι : Nat → Addr) (Γ : Env) (M : List MO) (Q : VK), Slots X.K Z ι M.length Γ σ → HR X.K H Z ι M → Post X C W (rpE X.K) σ H Z ι M (g Γ M) Q → te σ H Q
theorem op_read {r : R2} {ta tb : TE} (hf : Ok2 X r f) (qa : Rd1 X C W ga ta) (qb : Rd1 X C W gb tb) : Rd1 X C W (gOp2 f ga gb) (tOp r ta tb) := fun σ H Z ι Γ M Q sl hr h =>
  qa σ H Z ι Γ M _ sl hr (Post.bind h fun x M1 v H1 Z1 ι1 e1 hr1 r1 h1 => qb σ H1 Z1 ι1 Γ M1 _ (sl.ext e1) hr1 (h1.bind fun y M2 u H2 Z2 ι2 e2 hr2 r2 h2 => by
    obtain ⟨d, hd, h3⟩ := Post.of_opR (γ := D) (δ := V) h2
    exact hf v u H2 Z2 ι2 M2 x y d Q hr2 (r1.ext e2) r2 hd h3.after))
theorem qe_bin {op : Operator} {r : R2} (ho : OpR X (binaryOp op) r) (hf : Ok2 X r f) (ha : QE X C W a ga) (hb : QE X C W b gb) : QE X C W (.BinOp a op b pos) (gOp2 f ga gb) := by
  obtain ⟨ta, pa, qa⟩ := ha
  obtain ⟨tb, pb, qb⟩ := hb
  exact ⟨_, pe_op ho pa pb, op_read hf qa qb⟩
theorem qe_cmp {op : CmpOp} {r : R2} (ho : OpR X (compareOp op) r) (hf : Ok2 X r f) (ha : QE X C W a ga) (hb : QE X C W b gb) (hm : behindInMarks op b = false) : QE X C W (.Compare a [op] [b] pos) (gOp2 f ga gb) := by
  obtain ⟨ta, pa, qa⟩ := ha
  obtain ⟨tb, pb, qb⟩ := hb
  exact ⟨_, pe_cmpR ho pa pb hm, op_read hf qa qb⟩
theorem qe_ix {r : R2} (ho : IxR X r) (hf : Ok2 X r f) (ha : QE X C W a ga) (hb : QE X C W b gb) (hs : PlainIx b := by exact fun _ _ => rfl) : QE X C W (.Subscript a b pos) (gOp2 f ga gb) := by
  obtain ⟨ta, pa, qa⟩ := ha
  obtain ⟨tb, pb, qb⟩ := hb
  exact ⟨_, pe_ix ho pa pb hs, op_read hf qa qb⟩
theorem qe_un {op : UnaryOp} {r : V → Hp → VK → Prop} {f : List MO → D → Option D} (ho : UnR X (unaryOp op) r) (hf : Ok1 X r f) (ha : QE X C W a ga) : QE X C W (.UnaryOp op a pos) (gOp1 f ga) := by
  obtain ⟨ta, pa, qa⟩ := ha
  refine ⟨_, pe_un ho pa, fun σ H Z ι Γ M Q sl hr h => qa σ H Z ι Γ M _ sl hr (h.bind fun x M1 v H1 Z1 ι1 e1 hr1 r1 h1 => ?_)⟩
  obtain ⟨d, hd, h3⟩ := Post.of_opR (γ := D) (δ := V) h1
  exact hf v H1 Z1 ι1 M1 x d Q hr1 r1 hd h3.after
theorem chain_read {r r' : R2} {ta tb tc : TE} (hf : Ok2 X r f) (hf' : Ok2 X r' f') (qa : Rd1 X C W ga ta) (qb : Rd1 X C W gb tb) (qc : Rd1 X C W gc tc) : Rd1 X C W (gChain f f' ga gb gc) (tChain r r' ta tb tc) := by
  intro σ H Z ι Γ M Q sl hr h
  refine qa σ H Z ι Γ M _ sl hr (Post.bind h fun x M1 v H1 Z1 ι1 e1 hr1 r1 h1 => qb σ H1 Z1 ι1 Γ M1 _ (sl.ext e1) hr1 (h1.bind fun y M2 u H2 Z2 ι2 e2 hr2 r2 h2 => ?_))
  cases hd : f M2 x y with
  | none => rw [hd] at h2; exact h2.elim
  | some d =>
    rw [hd] at h2
    refine hf v u H2 Z2 ι2 M2 x y d _ hr2 (r1.ext e2) r2 hd fun w H3 Z3 e3 hr3 r3 => ?_
    have h3 := Post.shift h2 e3 hr3
    cases r3 with
    | bl k =>
      refine ⟨k, rfl, ?_⟩
      cases k with
      | false => exact h3 _ H3 Z3 ι2 .refl hr3 (.bl false)
      | true =>
        have h4 : Post X C W (rpE X.K) σ H3 Z3 ι2 M2 ((gc Γ M2).bind fun z M4 => opR (f' M4 y z) M4) Q := h3
        refine qc σ H3 Z3 ι2 Γ M2 _ ((sl.ext e1).ext e2 |>.ext e3) hr3 (h4.bind fun z M4 w' H4 Z4 ι4 e4 hr4 r4 h5 => ?_)
        obtain ⟨d', hd', h6⟩ := Post.of_opR (γ := D) (δ := V) h5
        exact hf' u w' H4 Z4 ι4 M4 y z d' Q hr4 ((r2.ext e3).ext e4) r4 hd' h6.after
    | _ => exact h3.elim
theorem qe_chain {op op' : CmpOp} {r r' : R2} (ho : OpR X (compareOp op) r) (hf : Ok2 X r f) (ho' : OpR X (compareOp op') r') (hf' : Ok2 X r' f') (ha : QE X C W a ga) (hb : QE X C W b gb) (hc : QE X C W c gc) (hm : lastMarks [op, op'] [b, c] = false := by with_unfolding_all rfl) :
    QE X C W (.Compare a [op, op'] [b, c] pos) (gChain f f' ga gb gc) := by
  obtain ⟨ta, pa, qa⟩ := ha
  obtain ⟨tb, pb, qb⟩ := hb
  obtain ⟨tc, pc, qc⟩ := hc
  exact ⟨_, pe_chain ho ho' pa pb pc (hm := hm), chain_read hf hf' qa qb qc⟩
theorem qa_nil : QA X C W [] gNil := ⟨_, pa_nil, fun σ H Z ι Γ M Q sl hr h => h [] H Z ι .refl hr .nil⟩
theorem qa_cons (ha : QE X C W e g) (hb : QA X C W es gs) (hs : starEach (e :: es) X.env = (false, eval e X.env) :: starEach es X.env := by rfl) : QA X C W (e :: es) (gCons g gs) := by
  obtain ⟨ta, pa, qa⟩ := ha
  obtain ⟨tb, pb, qb⟩ := hb
  exact ⟨_, pa_cons pa pb hs, fun σ H Z ι Γ M Q sl hr h => qa σ H Z ι Γ M _ sl hr (h.bind fun x M1 v H1 Z1 ι1 e1 hr1 r1 h1 => qb σ H1 Z1 ι1 Γ M1 _ (sl.ext e1) hr1 (h1.bind fun y M2 u H2 Z2 ι2 e2 hr2 r2 h2 => h2 _ H2 Z2 ι2 .refl hr2 (.cons (r1.ext e2) r2)))⟩
theorem qe_tup {x1} (ha : QA X C W es gs) : QE X C W (.Tuple es x1 pos) (gTup gs) := by
  obtain ⟨ta, pa, qa⟩ := ha
  refine ⟨_, pe_tup pa, fun σ H Z ι Γ M Q sl hr h => qa σ H Z ι Γ M _ sl hr (h.bind fun x M1 v H1 Z1 ι1 e1 hr1 r1 h1 => ?_)⟩
  by_cases hz : x.length ≤ sizeLine
  · rw [if_pos hz] at h1
    exact ⟨by rw [← r1.length]; exact hz, h1.after.tup hr1 r1⟩
  · rw [if_neg hz] at h1
    exact h1.elim
theorem qe_lst (ha : QA X C W es gs) : QE X C W (.List es pos) (gLst gs) := by
  obtain ⟨ta, pa, qa⟩ := ha
  refine ⟨_, pe_lst pa, fun σ H Z ι Γ M Q sl hr h => qa σ H Z ι Γ M _ sl hr (h.bind fun x M1 v H1 Z1 ι1 e1 hr1 r1 h1 => ?_)⟩
  by_cases hz : x.length ≤ sizeLine
  · rw [if_pos hz] at h1
    exact ⟨by rw [← r1.length]; exact hz, h1.after.lst hr1 r1⟩
  · rw [if_neg hz] at h1
    exact h1.elim
theorem qe_lstO (ha : QA X C W es gs) : QE X C W (.List es pos) (gLstO gs) := by
  obtain ⟨ta, pa, qa⟩ := ha
  refine ⟨_, pe_lst pa, fun σ H Z ι Γ M Q sl hr h => qa σ H Z ι Γ M _ sl hr (h.bind fun x M1 v H1 Z1 ι1 e1 hr1 r1 h1 => ?_)⟩
  by_cases hz : x.length ≤ sizeLine
  · rw [if_pos hz] at h1
    refine ⟨by rw [← r1.length]; exact hz, fun p hp => ?_⟩
    obtain ⟨hr2, e2⟩ := hr1.owned hp r1
    refine h1 _ _ _ _ e2 hr2 ?_
    have q : Rp X.K Z1 (put ι1 M1.length p) (M1 ++ [MO.lst x]).length (.ref M1.length) (.ref (put ι1 M1.length p M1.length)) := .ref (by simp)
    rw [put_at] at q
    exact q
  · rw [if_neg hz] at h1
    exact h1.elim
theorem qe_callB {x : Str} {p : Pos} {id : String} {r : List V → Hp → VK → Prop} {f : List MO → List D → Option D} (ho : CallR X (.builtin id) r) (hf : OkA X r f) (hg : Gl X x) (hm : X.mg x = none) (hv : bootBuiltins x = some (.builtin id)) (ha : QA X C W (e :: es) gs)
    (hn : x ≠ "__name__" := by decide) (hdb : (x == ("__debug__" : Str)) = false := by decide) (he : starEach (e :: es) X.env = (false, eval e X.env) :: starEach es X.env := by rfl) (hpl : (backTo pos (starEach es X.env)).any (·.1) = false := by rfl) :
    QE X C W (.Call (.Name x p) (e :: es) [] pos) (gCall f gs) := by
  obtain ⟨ta, pa, qa⟩ := ha
  refine ⟨_, pe_callB ho hg hm hv pa hn hdb he hpl, fun σ H Z ι Γ M Q sl hr h => qa σ H Z ι Γ M _ sl hr (h.bind fun x M1 v H1 Z1 ι1 e1 hr1 r1 h1 => ?_)⟩
  obtain ⟨d, hd, h3⟩ := Post.of_opR (γ := D) (δ := V) h1
  exact hf v H1 Z1 ι1 M1 x d Q hr1 r1 hd h3.after
theorem qe_callTy {x T : Str} {p : Pos} {id : String} {r : List V → Hp → VK → Prop} {f : List MO → List D → Option D} (ho : CallR X (.type id) r) (hf : OkA X r f) (hg : Gl X x) (hm : X.mg x = none) (hv : bootBuiltins x = some (.type id)) (ha : QA X C W (e :: es) gs)
    (hn : x ≠ "__name__" := by decide) (hdb : (x == ("__debug__" : Str)) = false := by decide) (he : starEach (e :: es) X.env = (false, eval e X.env) :: starEach es X.env := by rfl) (hpl : (backTo pos (starEach es X.env)).any (·.1) = false := by rfl) :
    QE X C W (.Call (.Name x p) (e :: es) [] pos) (gCall f gs) := by
  obtain ⟨ta, pa, qa⟩ := ha
  refine ⟨_, pe_callTy ho hg hm hv pa hn hdb he hpl, fun σ H Z ι Γ M Q sl hr h => qa σ H Z ι Γ M _ sl hr (h.bind fun x M1 v H1 Z1 ι1 e1 hr1 r1 h1 => ?_)⟩
  obtain ⟨d, hd, h3⟩ := Post.of_opR (γ := D) (δ := V) h1
  exact hf v H1 Z1 ι1 M1 x d Q hr1 r1 hd h3.after

/-! tests -/
theorem qt_val (ha : QE X C W a ga) (he : ∀ whole, isTrue a X.env whole = (do let v ← whole; standAt a.pos; holding [v] (truthy v)) := by intro _; rfl) : QT X C W a (gVal ga) := by
  obtain ⟨ta, pa, qa⟩ := ha
  refine ⟨_, pt_val pa he, fun σ H Z ι Γ M Q sl hr h => qa σ H Z ι Γ M _ sl hr (h.bind fun x M1 v H1 Z1 ι1 e1 hr1 r1 h1 => ?_)⟩
  cases r1 with
  | bl k => exact ⟨k, rfl, h1 k H1 Z1 ι1 .refl hr1 rfl⟩
  | _ => exact h1.elim
theorem val_read {te : TE} (q : Rd1 X C W ga te) (σ : St) (H Z : Hp) (ι : Nat → Addr) (Γ : Env) (M : List MO) (Q : Bool → Hp → Prop) (sl : Slots X.K Z ι M.length Γ σ) (hr : HR X.K H Z ι M) (h : Post X C W rpT σ H Z ι M (gVal ga Γ M) Q) : tTest te σ H Q :=
  q σ H Z ι Γ M _ sl hr (Post.bind h fun x M1 v H1 Z1 ι1 e1 hr1 r1 h1 => by
    cases r1 with
    | bl k => exact ⟨k, rfl, h1 k H1 Z1 ι1 .refl hr1 rfl⟩
    | _ => exact h1.elim)
theorem qt_cmp {op : CmpOp} {r : R2} (ho : OpR X (compareOp op) r) (hf : Ok2 X r f) (ha : QE X C W a ga) (hb : QE X C W b gb) (hm : behindInMarks op b = false) : QT X C W (.Compare a [op] [b] pos) (gVal (gOp2 f ga gb)) := by
  obtain ⟨ta, pa, qa⟩ := ha
  obtain ⟨tb, pb, qb⟩ := hb
  exact ⟨_, pt_cmpR ho pa pb hm, val_read (op_read hf qa qb)⟩
theorem qt_chain {op op' : CmpOp} {r r' : R2} (ho : OpR X (compareOp op) r) (hf : Ok2 X r f) (ho' : OpR X (compareOp op') r') (hf' : Ok2 X r' f') (ha : QE X C W a ga) (hb : QE X C W b gb) (hc : QE X C W c gc) (hm : lastMarks [op, op'] [b, c] = false := by with_unfolding_all rfl) :
    QT X C W (.Compare a [op, op'] [b, c] pos) (gVal (gChain f f' ga gb gc)) := by
  obtain ⟨ta, pa, qa⟩ := ha
  obtain ⟨tb, pb, qb⟩ := hb
  obtain ⟨tc, pc, qc⟩ := hc
  exact ⟨_, pt_chain ho ho' pa pb pc (hm := hm), val_read (chain_read hf hf' qa qb qc)⟩
theorem qt_of (h : QW X C W a gt) : QT X C W a gt := let ⟨t, p, q⟩ := h; ⟨t, p.pt, q⟩
theorem qw_and1 (h : QT X C W a gt) : QW X C W (.BoolOp .And [a] pos) gt := let ⟨t, p, q⟩ := h; ⟨t, pw_and1 p, q⟩
theorem qw_or1 (h : QT X C W a gt) : QW X C W (.BoolOp .Or [a] pos) gt := let ⟨t, p, q⟩ := h; ⟨t, pw_or1 p, q⟩
theorem qw_and {rest : List Expr} (ha : QT X C W a gt) (hb : QW X C W (.BoolOp .And (b :: rest) pos) gu) : QW X C W (.BoolOp .And (a :: b :: rest) pos) (gAndT gt gu) := by
  obtain ⟨ta, pa, qa⟩ := ha
  obtain ⟨tb, pb, qb⟩ := hb
  refine ⟨_, pw_and pa pb, fun σ H Z ι Γ M Q sl hr h => qa σ H Z ι Γ M _ sl hr (h.bind fun x M1 v H1 Z1 ι1 e1 hr1 r1 h1 => ?_)⟩
  have r1' : x = v := r1
  subst r1'
  cases x with
  | true => exact qb σ H1 Z1 ι1 Γ M1 _ (sl.ext e1) hr1 h1
  | false => exact h1 false H1 Z1 ι1 .refl hr1 rfl
theorem qw_or {rest : List Expr} (ha : QT X C W a gt) (hb : QW X C W (.BoolOp .Or (b :: rest) pos) gu) : QW X C W (.BoolOp .Or (a :: b :: rest) pos) (gOrT gt gu) := by
  obtain ⟨ta, pa, qa⟩ := ha
  obtain ⟨tb, pb, qb⟩ := hb
  refine ⟨_, pw_or pa pb, fun σ H Z ι Γ M Q sl hr h => qa σ H Z ι Γ M _ sl hr (h.bind fun x M1 v H1 Z1 ι1 e1 hr1 r1 h1 => ?_)⟩
  have r1' : x = v := r1
  subst r1'
  cases x with
  | true => exact h1 true H1 Z1 ι1 .refl hr1 rfl
  | false => exact qb σ H1 Z1 ι1 Γ M1 _ (sl.ext e1) hr1 h1
theorem qt_not (ha : QT X C W a gt) : QT X C W (.UnaryOp .Not a pos) (gNotT gt) := by
  obtain ⟨ta, pa, qa⟩ := ha
  refine ⟨_, pt_not pa, fun σ H Z ι Γ M Q sl hr h => qa σ H Z ι Γ M _ sl hr (h.bind fun x M1 v H1 Z1 ι1 e1 hr1 r1 h1 => ?_)⟩
  have r1' : x = v := r1
  subst r1'
  exact h1 _ H1 Z1 ι1 .refl hr1 rfl
theorem qe_if (hc : QT X C W c gt) (ha : QE X C W a ga) (hb : QE X C W b gb) : QE X C W (.IfExp c a b pos) (gIfE gt ga gb) := by
  obtain ⟨tc, pc, qc⟩ := hc
  obtain ⟨ta, pa, qa⟩ := ha
  obtain ⟨tb, pb, qb⟩ := hb
  refine ⟨_, pe_ifExp pc pa pb, fun σ H Z ι Γ M Q sl hr h => qc σ H Z ι Γ M _ sl hr (h.bind fun x M1 v H1 Z1 ι1 e1 hr1 r1 h1 => ?_)⟩
  have r1' : x = v := r1
  subst r1'
  cases x with
  | true => exact qa σ H1 Z1 ι1 Γ M1 _ (sl.ext e1) hr1 h1
  | false => exact qb σ H1 Z1 ι1 Γ M1 _ (sl.ext e1) hr1 h1
theorem qe_one {op} (h : QE X C W a ga) : QE X C W (.BoolOp op [a] pos) ga := let ⟨t, p, q⟩ := h; ⟨t, pe_one p, q⟩
theorem qe_and {rest : List Expr} (ha : QE X C W a ga) (hb : QE X C W (.BoolOp .And (b :: rest) pos) gb) : QE X C W (.BoolOp .And (a :: b :: rest) pos) (gAndV ga gb) := by
  obtain ⟨ta, pa, qa⟩ := ha
  obtain ⟨tb, pb, qb⟩ := hb
  refine ⟨_, pe_and pa pb, fun σ H Z ι Γ M Q sl hr h => qa σ H Z ι Γ M _ sl hr (h.bind fun x M1 v H1 Z1 ι1 e1 hr1 r1 h1 => ?_)⟩
  cases r1 with
  | bl k =>
    refine ⟨k, rfl, ?_⟩
    cases k with
    | true => exact qb σ H1 Z1 ι1 Γ M1 _ (sl.ext e1) hr1 h1
    | false => exact h1 _ H1 Z1 ι1 .refl hr1 (.bl false)
  | _ => exact h1.elim
theorem qe_or {rest : List Expr} (ha : QE X C W a ga) (hb : QE X C W (.BoolOp .Or (b :: rest) pos) gb) : QE X C W (.BoolOp .Or (a :: b :: rest) pos) (gOrV ga gb) := by
  obtain ⟨ta, pa, qa⟩ := ha
  obtain ⟨tb, pb, qb⟩ := hb
  refine ⟨_, pe_or pa pb, fun σ H Z ι Γ M Q sl hr h => qa σ H Z ι Γ M _ sl hr (h.bind fun x M1 v H1 Z1 ι1 e1 hr1 r1 h1 => ?_)⟩
  cases r1 with
  | bl k =>
    refine ⟨k, rfl, ?_⟩
    cases k with
    | true => exact h1 _ H1 Z1 ι1 .refl hr1 (.bl true)
    | false => exact qb σ H1 Z1 ι1 Γ M1 _ (sl.ext e1) hr1 h1
  | _ => exact h1.elim
def dNot (_ : List MO) : D → Option D
  | .bl b => some (.bl (!b))
  | _ => none
theorem qe_not (ha : QE X C W a ga) : QE X C W (.UnaryOp .Not a pos) (gOp1 dNot ga) := by
  obtain ⟨ta, pa, qa⟩ := ha
  refine ⟨_, pe_not pa, fun σ H Z ι Γ M Q sl hr h => qa σ H Z ι Γ M _ sl hr (h.bind fun x M1 v H1 Z1 ι1 e1 hr1 r1 h1 => ?_)⟩
  cases r1 with
  | bl k => exact ⟨k, rfl, h1 _ H1 Z1 ι1 .refl hr1 (.bl _)⟩
  | _ => exact h1.elim
end
end Bk

set_option Elab.async false
set_option linter.all false
set_option maxRecDepth 100000
set_option maxHeartbeats 1000000
namespace Bk
open PySem PySem.Spec PyProof.Rows L2

/-! ### what is walked -/
abbrev GI := GA
/-- cd: what must hold of the store at each turn -/
def ItC (cd : List MO → Prop) (K : PySem.W.Frag) (J : It) (items : List D) (Z : Hp) (ι : Nat → Addr) (n : Nat) : Prop :=
  ∀ (i : Nat) (H' Z' : Hp) (ι' : Nat → Addr) (M' : List MO), Sub Z Z' → (∀ k, k < n → ι' k = ι k) → n ≤ M'.length → HR K H' Z' ι' M' → cd M' →
    (items.length = i → J.stop i H') ∧ ∀ d, items[i]? = some d → J.go i H' ∧ ∀ x H2, J.yld i H' x H2 → ∃ Z2, Ext H' Z' ι' M'.length H2 Z2 ι' M'.length ∧ HR K H2 Z2 ι' M' ∧ Rp K Z2 ι' M'.length d x
abbrev anyM : List MO → Prop := fun _ => True
abbrev ItR := ItC anyM
abbrev rpI (K : PySem.W.Frag) : RpK (List D) It := fun Z ι n items J => ItR K J items Z ι n
def QI (X : Cx) (C : CT) (W : WX) (tg e : Expr) (g : GI) : Prop := ∃ wi, PI X tg e wi ∧ ∀ (σ : St) (H Z : Hp) (ι : Nat → Addr) (Γ : Env) (M : List MO) (Q : It → Hp → Prop), Slots X.K Z ι M.length Γ σ → HR X.K H Z ι M → Post X C W (rpI X.K) σ H Z ι M (g Γ M) Q → wi σ H Q
def rngL (lo : Int) : Nat → List D
  | 0 => []
  | n + 1 => .int lo :: rngL (lo + 1) n
theorem rngL_get : ∀ (n : Nat) (lo : Int) (i : Nat) (d : D), (rngL lo n)[i]? = some d → i < n ∧ d = .int (lo + i)
  | 0, _, _, _, h => by simp [rngL] at h
  | n + 1, lo, 0, d, h => by
    simp [rngL] at h
    exact ⟨Nat.succ_pos _, by rw [← h]; simp⟩
  | n + 1, lo, i + 1, d, h => by
    simp only [rngL, List.getElem?_cons_succ] at h
    obtain ⟨h1, h2⟩ := rngL_get n (lo + 1) i d h
    refine ⟨Nat.succ_lt_succ h1, ?_⟩
    rw [h2]
    congr 1
    push_cast
    omega
theorem rngL_length : ∀ (n : Nat) (lo : Int), (rngL lo n).length = n
  | 0, _ => rfl
  | n + 1, lo => by simp [rngL, rngL_length n]
def seqD : D → Option (List D)
  | .lst ds => some ds
  | .tup ds => some ds
  | _ => none
def gSeqI (ge : GE) : GI := fun Γ M => (ge Γ M).bind fun d M1 => opR (seqD d) M1
def inR (i : Int) : Bool := decide (-(2 ^ 62) ≤ i) && decide (i < 2 ^ 62)
def rng1 : List D → Option (List D)
  | [.int j] => if inR j then some (rngL 0 j.toNat) else none
  | _ => none
def rng2 : List D → Option (List D)
  | [.int i, .int j] => if inR i && inR j then some (rngL i (j - i).toNat) else none
  | _ => none
def gRng1 (ga : GA) : GI := fun Γ M => (ga Γ M).bind fun ds M1 => opR (rng1 ds) M1
def gRng2 (ga : GA) : GI := fun Γ M => (ga Γ M).bind fun ds M1 => opR (rng2 ds) M1
section
variable {X : Cx} {C : CT} {W : WX} {tg e a b : Expr} {g ga gb : GE} {gs : GA} {pos : Pos}
theorem itr_l {K : PySem.W.Frag} {Z : Hp} {ι : Nat → Addr} {n : Nat} {a : Addr} {xs : List V} {ds : List D} (s : ExL K Z a xs) (r : Rps K Z ι n ds xs) : ItR K (Itl K a) ds Z ι n := by
  intro i H' Z' ι' M' hz hi hn hr _
  have sH : SqL K H' a xs := (subL (fun a o h => hr.sub _ _ (hz _ _ h)) s).sq
  refine ⟨fun hl => ⟨xs, sH, by rw [← r.length]; exact Nat.le_of_eq hl⟩, fun d hd => ?_⟩
  obtain ⟨v, hv, rv⟩ := r.get hd
  refine ⟨⟨xs, v, sH, hv⟩, fun x H2 hy => ?_⟩
  obtain ⟨rfl, hx⟩ := hy
  have ex : xs[i]? = some x := hx _ sH
  rw [hv] at ex
  cases ex
  exact ⟨Z', .refl, hr, Rp.mono hz hi hn _ _ rv⟩
theorem itr_t {K : PySem.W.Frag} {Z : Hp} {ι : Nat → Addr} {n : Nat} {a : Addr} {xs : List V} {ds : List D} (s : SqT K Z a xs) (r : Rps K Z ι n ds xs) : ItR K (Itt K a) ds Z ι n := by
  intro i H' Z' ι' M' hz hi hn hr _
  have sH : SqT K H' a xs := subT (fun a o h => hr.sub _ _ (hz _ _ h)) s
  refine ⟨fun hl => ⟨xs, sH, by rw [← r.length]; exact Nat.le_of_eq hl⟩, fun d hd => ?_⟩
  obtain ⟨v, hv, rv⟩ := r.get hd
  refine ⟨⟨xs, v, sH, hv⟩, fun x H2 hy => ?_⟩
  obtain ⟨rfl, hx⟩ := hy
  have ex : xs[i]? = some x := hx _ sH
  rw [hv] at ex
  cases ex
  exact ⟨Z', .refl, hr, Rp.mono hz hi hn _ _ rv⟩
theorem itr_r {K : PySem.W.Frag} {Z : Hp} {ι : Nat → Addr} {n : Nat} {lo : Int} {m : Nat} : ItR K (Itr lo m) (rngL lo m) Z ι n := by
  intro i H' Z' ι' M' hz hi hn hr _
  refine ⟨fun hl => by rw [rngL_length] at hl; exact Nat.le_of_eq hl, fun d hd => ?_⟩
  obtain ⟨h1, rfl⟩ := rngL_get _ _ _ _ hd
  refine ⟨h1, fun x H2 hy => ?_⟩
  obtain ⟨rfl, rfl⟩ := hy
  exact ⟨Z', .refl, hr, .int _⟩
/-- a list or a tuple -/
def iSeq (K : PySem.W.Frag) (tl : TE) : TI := fun σ H R => tl σ H fun x H1 => ∃ a, x = .ref a ∧ (((∃ xs, SqL K H1 a xs) ∧ R (Itl K a) H1) ∨ ((∃ xs, SqT K H1 a xs) ∧ R (Itt K a) H1))
theorem pi_seq {tl : TE} (hl : PE X e tl) : PI X tg e (iSeq X.K tl) := by
  refine ⟨fun pins s σ H R I h => thn (hl.run pins s σ H _ I h) fun v s1 ⟨x, H1, J1, r1, a, ex, q1⟩ => ?_⟩
  subst ex
  cases r1
  have fp : ∀ b ∈ [s1.heap.objs.size], H1 b = none ∧ FpOk X pins H1 b := fun b hb => by
    obtain rfl : b = s1.heap.objs.size := by simpa using hb
    have z := J1.hok.fresh (Nat.le_refl _)
    exact ⟨z, J1.fpOk (Nat.le_refl _) z⟩
  rcases q1 with ⟨⟨xs, hq⟩, q⟩ | ⟨⟨xs, hq⟩, q⟩
  · obtain ⟨its, rv, p, hz⟩ := J1.list hq
    refine wpAny_pyIter_list p.isList ⟨_, _, _, _, H1, rfl, J1.kept (t' := s1.toks) fun b o e => Heap.get?_push_of_some _ e, turn_list a s1.heap.objs.size, ⟨_, Heap.get?_push_size _ rfl, rfl, rfl⟩, fun b hb => (fp b hb).2, q⟩
  · obtain ⟨its, rv, p, hz⟩ := J1.tuple hq
    refine wpAny_pyIter_tuple (show s1.heap.IsTuple a its.toArray from p) ⟨_, _, _, _, H1, rfl, J1.kept (t' := s1.toks) fun b o e => Heap.get?_push_of_some _ e, turn_tuple a s1.heap.objs.size, ⟨_, Heap.get?_push_size _ rfl, rfl, rfl⟩, fun b hb => (fp b hb).2, q⟩
theorem qi_seq (ha : QE X C W e g) : QI X C W tg e (gSeqI g) := by
  obtain ⟨ta, pa, qa⟩ := ha
  refine ⟨_, pi_seq pa, fun σ H Z ι Γ M Q sl hr h => qa σ H Z ι Γ M _ sl hr (h.bind fun x M1 v H1 Z1 ι1 e1 hr1 r1 h1 => ?_)⟩
  obtain ⟨ds, hd, h2⟩ := Post.of_opR (γ := D) (δ := V) h1
  cases r1 with
  | lst s r =>
    cases hd
    exact ⟨_, rfl, .inl ⟨⟨_, (subL hr1.sub s).sq⟩, h2 _ H1 Z1 ι1 .refl hr1 (itr_l s r)⟩⟩
  | tup s r =>
    cases hd
    exact ⟨_, rfl, .inr ⟨⟨_, subT hr1.sub s⟩, h2 _ H1 Z1 ι1 .refl hr1 (itr_t s r)⟩⟩
  | _ => cases hd
theorem qi_rng1 {p : Pos} (hg : Gl X "range") (hm : X.mg "range" = none) (ha : QA X C W [a] gs) (hs : starEach [a] X.env = [(false, eval a X.env)] := by rfl) : QI X C W tg (.Call (.Name "range" p) [a] [] pos) (gRng1 gs) := by
  obtain ⟨ta, pa, qa⟩ := ha
  refine ⟨_, pi_range1 hg hm pa hs, fun σ H Z ι Γ M Q sl hr h => qa σ H Z ι Γ M _ sl hr (h.bind fun x M1 v H1 Z1 ι1 e1 hr1 r1 h1 => ?_)⟩
  obtain ⟨ds, hd, h2⟩ := Post.of_opR (γ := D) (δ := V) h1
  unfold rng1 at hd
  split at hd
  · rename_i j
    cases r1 with
    | cons r rr =>
      cases r
      cases rr
      by_cases hj : inR j = true
      · rw [if_pos hj] at hd
        cases hd
        simp only [inR, Bool.and_eq_true, decide_eq_true_eq] at hj
        exact ⟨j, rfl, hj.1, hj.2, h2 _ H1 Z1 ι1 .refl hr1 itr_r⟩
      · rw [if_neg hj] at hd
        cases hd
  · cases hd
theorem qi_rng2 {p : Pos} (hg : Gl X "range") (hm : X.mg "range" = none) (ha : QA X C W [a, b] gs) (hs : starEach [a, b] X.env = [(false, eval a X.env), (false, eval b X.env)] := by rfl) (hs2 : starEach [b] X.env = [(false, eval b X.env)] := by rfl) : QI X C W tg (.Call (.Name "range" p) [a, b] [] pos) (gRng2 gs) := by
  obtain ⟨ta, pa, qa⟩ := ha
  refine ⟨_, pi_range2 hg hm pa hs (hs2 := hs2), fun σ H Z ι Γ M Q sl hr h => qa σ H Z ι Γ M _ sl hr (h.bind fun x M1 v H1 Z1 ι1 e1 hr1 r1 h1 => ?_)⟩
  obtain ⟨ds, hd, h2⟩ := Post.of_opR (γ := D) (δ := V) h1
  unfold rng2 at hd
  split at hd
  · rename_i i j
    cases r1 with
    | cons r rr =>
      cases r
      cases rr with
      | cons r2 rr =>
        cases r2
        cases rr
        by_cases hj : (inR i && inR j) = true
        · rw [if_pos hj] at hd
          cases hd
          simp only [inR, Bool.and_eq_true, decide_eq_true_eq] at hj
          exact ⟨i, j, rfl, ⟨hj.1.1, hj.1.2, hj.2.1, hj.2.2⟩, h2 _ H1 Z1 ι1 .refl hr1 itr_r⟩
        · rw [if_neg hj] at hd
          cases hd
  · cases hd
end

/-! ### targets -/
abbrev GG := D → Env → Option Env
abbrev GGs := List D → Env → Option Env
def gTo (i : Nat) : GG := fun d Γ => some (Γ.set i (some d))
def gToT (gs : GGs) : GG := fun d Γ => match d with
  | .tup ds => gs ds Γ
  | _ => none
def gToNil : GGs := fun ds Γ => match ds with
  | [] => some Γ
  | _ :: _ => none
def gToCons (g : GG) (gs : GGs) : GGs := fun ds Γ => match ds with
  | [] => none
  | d :: r => (g d Γ).bind fun Γ1 => gs r Γ1
def Wip (is : List Nat) (σ σ' : St) : Prop := ∀ vs : List Nat, (∀ i ∈ is, i ∈ vs) → wipe σ' vs = wipe σ vs
theorem wipe_set {σ : St} {i : Nat} {v : V} : ∀ {vs : List Nat}, i ∈ vs → wipe (σ.set i (some v)) vs = wipe σ vs
  | [], h => nomatch h
  | j :: vs, h => by
    show (wipe (σ.set i (some v)) vs).set j none = (wipe σ vs).set j none
    by_cases hm : i ∈ vs
    · rw [wipe_set hm]
    · have e : i = j := by
        rcases List.mem_cons.mp h with e | e
        · exact e
        · exact absurd e hm
      subst e
      have z : ∀ vs : List Nat, i ∉ vs → wipe (σ.set i (some v)) vs = (wipe σ vs).set i (some v) := by
        intro vs
        induction vs with
        | nil => intro _; rfl
        | cons k vs ih =>
          intro hk
          show (wipe (σ.set i (some v)) vs).set k none = ((wipe σ vs).set k none).set i (some v)
          rw [ih fun q => hk (List.mem_cons_of_mem _ q), List.set_comm _ _ (fun q => hk (by rw [q]; exact List.mem_cons_self))]
      rw [z vs hm, List.set_set]
def QG (X : Cx) (tg : Expr) (g : GG) (is : List Nat) : Prop := ∃ t, PG X tg t ∧ ∀ (v : V) (σ : St) (H Z : Hp) (ι : Nat → Addr) (n : Nat) (d : D) (Γ Γ' : Env) (Q : L2.St → Hp → Prop), Sub Z H → Slots X.K Z ι n Γ σ → Rp X.K Z ι n d v → g d Γ = some Γ' →
  (∀ σ', Slots X.K Z ι n Γ' σ' → Wip is σ σ' → Q σ' H) → t v σ H Q
def QGs (X : Cx) (tgs : List Expr) (g : GGs) (is : List Nat) : Prop := ∃ t, PGs X tgs t ∧ ∀ (vs : List V) (σ : St) (H Z : Hp) (ι : Nat → Addr) (n : Nat) (ds : List D) (Γ Γ' : Env) (Q : L2.St → Hp → Prop), Sub Z H → Slots X.K Z ι n Γ σ → Rps X.K Z ι n ds vs → g ds Γ = some Γ' →
  (∀ σ', Slots X.K Z ι n Γ' σ' → Wip is σ σ' → Q σ' H) → t vs σ H Q
section
variable {X : Cx} {e : Expr} {es : List Expr} {g : GG} {gs : GGs} {is js : List Nat} {pos : Pos}
theorem qg_name (i : Nat) {x : Str} (hN : X.N.Nodup) (hi : X.N[i]? = some x := by rfl) (hx : Loc X.env.scope x := by first | exact Or.inl rfl | exact Or.inr rfl)
    (hf : X.fn x = true ∨ X.env.scope.names.lookup x = some .local := by first | exact Or.inl rfl | exact Or.inr rfl) : QG X (.Name x pos) (gTo i) [i] := by
  refine ⟨_, pg_name hN hi hx hf, fun v σ H Z ι n d Γ Γ' Q hs sl r e h => ?_⟩
  cases e
  exact h _ (sl.set i r) fun vs hv => wipe_set (hv i (by simp))
theorem qgs_nil : QGs X [] gToNil [] := by
  refine ⟨_, pgs_nil, fun vs σ H Z ι n ds Γ Γ' Q hs sl r e h => ?_⟩
  cases r with
  | nil =>
    cases e
    exact ⟨rfl, h _ sl fun _ _ => rfl⟩
  | cons _ _ => cases e
theorem qgs_cons (h1 : QG X e g is) (h2 : QGs X es gs js) (hs : (assignEach (e :: es) X.env).map (·.2) = assign e X.env :: (assignEach es X.env).map (·.2) := by rfl) : QGs X (e :: es) (gToCons g gs) (is ++ js) := by
  obtain ⟨t1, p1, q1⟩ := h1
  obtain ⟨t2, p2, q2⟩ := h2
  refine ⟨_, pgs_cons p1 p2 hs, fun vs σ H Z ι n ds Γ Γ' Q hs sl r e h => ?_⟩
  cases r with
  | nil => cases e
  | cons r1 r2 =>
    rename_i d v ds vs
    have e' : (g d Γ).bind (fun Γ1 => gs ds Γ1) = some Γ' := e
    cases eg : g d Γ with
    | none => rw [eg] at e'; cases e'
    | some Γ1 =>
      rw [eg] at e'
      refine ⟨v, vs, rfl, q1 v σ H Z ι n d Γ Γ1 _ hs sl r1 eg fun σ1 s1 w1 => q2 vs σ1 H Z ι n ds Γ1 Γ' _ hs s1 r2 e' fun σ2 s2 w2 => h σ2 s2 fun us hu => ?_⟩
      rw [w2 us fun i hi => hu i (List.mem_append_right _ hi), w1 us fun i hi => hu i (List.mem_append_left _ hi)]
theorem qg_tup {k : Nat} {n : Nat} (hc : X.calm = true) (h : QGs X es gs is) (hn : (assignEach es X.env).length = n := by rfl) (hst : (assignEach es X.env).findIdx? (·.1) = none := by rfl) (hlen : ∀ ds Γ Γ', gs ds Γ = some Γ' → ds.length = n) : QG X (.Tuple es k pos) (gToT gs) is := by
  obtain ⟨t, p, q⟩ := h
  refine ⟨_, pg_tup hc p hn (hst := hst), fun v σ H Z ι m d Γ Γ' Q hs sl r e h => ?_⟩
  cases r with
  | tup s r =>
    have e' : gs _ Γ = some Γ' := e
    exact ⟨_, _, rfl, subT hs s, by rw [← r.length]; exact hlen _ _ _ e', q _ σ H Z ι m _ Γ Γ' Q hs sl r e' h⟩
  | _ => cases e
theorem len_nil : ∀ (ds : List D) (Γ Γ' : Env), gToNil ds Γ = some Γ' → ds.length = 0 := fun ds Γ Γ' e => by
  cases ds with
  | nil => rfl
  | cons _ _ => cases e
theorem len_cons {g : GG} {gs : GGs} {n : Nat} (h : ∀ (ds : List D) (Γ Γ' : Env), gs ds Γ = some Γ' → ds.length = n) : ∀ (ds : List D) (Γ Γ' : Env), gToCons g gs ds Γ = some Γ' → ds.length = n + 1 := fun ds Γ Γ' e => by
  cases ds with
  | nil => cases e
  | cons d ds =>
    have e' : (g d Γ).bind (fun Γ1 => gs ds Γ1) = some Γ' := e
    cases eg : g d Γ with
    | none => rw [eg] at e'; cases e'
    | some Γ1 =>
      rw [eg] at e'
      rw [List.length_cons, h _ _ _ e']
end

/-! ### statements -/
def PostS (X : Cx) (C : CT) (W : WX) (H Z : Hp) (ι : Nat → Addr) (M : List MO) (r : RS) (Dd : Ends) : Prop := match r with
  | .nx Γ M' => ∀ (σ' : L2.St) (H' Z' : Hp) (ι' : Nat → Addr), Ext H Z ι M.length H' Z' ι' M'.length → HR X.K H' Z' ι' M' → Slots X.K Z' ι' M'.length Γ σ' → Dd.nx σ' H'
  | .bk Γ M' => ∀ (σ' : L2.St) (H' Z' : Hp) (ι' : Nat → Addr), Ext H Z ι M.length H' Z' ι' M'.length → HR X.K H' Z' ι' M' → Slots X.K Z' ι' M'.length Γ σ' → Dd.bk σ' H'
  | .ct Γ M' => ∀ (σ' : L2.St) (H' Z' : Hp) (ι' : Nat → Addr), Ext H Z ι M.length H' Z' ι' M'.length → HR X.K H' Z' ι' M' → Slots X.K Z' ι' M'.length Γ σ' → Dd.ct σ' H'
  | .rt d M' => ∀ (v : V) (H' Z' : Hp) (ι' : Nat → Addr), Ext H Z ι M.length H' Z' ι' M'.length → HR X.K H' Z' ι' M' → Rp X.K Z' ι' M'.length d v → Dd.rt v H'
  | .exc c d Γ M' => ∀ (cls : Value) (dd : Option Addr) (σ' : L2.St) (H' Z' : Hp) (ι' : Nat → Addr), Ext H Z ι M.length H' Z' ι' M'.length → HR X.K H' Z' ι' M' → Slots X.K Z' ι' M'.length Γ σ' → ExcR X.K C H' Z' ι' M'.length c d cls dd → W cls dd σ' H'
  | .bad => False
def QS (X : Cx) (C : CT) (W : WX) (st : Stmt) (g : GS) : Prop := ∃ ts, PS X st ts ∧ ∀ (Dd : Ends) (σ : L2.St) (H Z : Hp) (ι : Nat → Addr) (Γ : Env) (M : List MO), Slots X.K Z ι M.length Γ σ → HR X.K H Z ι M → PostS X C W H Z ι M (g Γ M) Dd → ts Dd σ H
def QSs (X : Cx) (C : CT) (W : WX) (st : List Stmt) (g : GS) : Prop := ∃ ts, PSs X st ts ∧ ∀ (Dd : Ends) (σ : L2.St) (H Z : Hp) (ι : Nat → Addr) (Γ : Env) (M : List MO), Slots X.K Z ι M.length Γ σ → HR X.K H Z ι M → PostS X C W H Z ι M (g Γ M) Dd → ts Dd σ H
def R.thenS {α : Type} (Γ : Env) (r : R α) (f : α → List MO → RS) : RS := match r with
  | .ok a M => f a M
  | .exc c d M => .exc c d Γ M
  | .bad => .bad
def RS.next (r : RS) (f : Env → List MO → RS) : RS := match r with
  | .nx Γ M => f Γ M
  | r => r
def gPass : GS := fun Γ M => .nx Γ M
def gSeq (a b : GS) : GS := fun Γ M => (a Γ M).next b
def gExpr (ge : GE) : GS := fun Γ M => (ge Γ M).thenS Γ fun _ M1 => .nx Γ M1
def gRet (ge : GE) : GS := fun Γ M => (ge Γ M).thenS Γ fun d M1 => .rt d M1
def gRetN : GS := fun _ M => .rt .non M
def gIf (c : GT) (a b : GS) : GS := fun Γ M => (c Γ M).thenS Γ fun k M1 => if k = true then a Γ M1 else b Γ M1
def gAsg (ge : GE) (gg : GG) : GS := fun Γ M => (ge Γ M).thenS Γ fun d M1 => match gg d Γ with
  | some Γ' => .nx Γ' M1
  | none => .bad
def gBad : GS := fun _ _ => .bad
def gForget (is : List Nat) : GS := fun Γ M => .nx (forget Γ is) M
/-- a list of ours that stands in a slot is left as it is from now on -/
def gFz (i : Nat) : GS := fun Γ M => match Γ[i]? with
  | some (some (.ref k)) => match M[k]? with
    | some (.lst ds) => .nx (Γ.set i (some (.lst ds))) (M.set k .dead)
    | _ => .bad
  | _ => .bad
/-- what the turn has made is dropped -/
def gCut (m : Nat) (r : RS) : RS := match r with
  | .nx Γ M => if m ≤ M.length ∧ cutOk m M = true then .nx (clean m Γ) (M.take m) else .bad
  | .ct Γ M => if m ≤ M.length ∧ cutOk m M = true then .ct (clean m Γ) (M.take m) else .bad
  | r => r
def gScope (a : GS) : GS := fun Γ M => gCut M.length (a Γ M)
/-- behind a loop's turn -/
def RS.turn (r : RS) (f : Env → List MO → RS) : RS := match r with
  | .nx Γ M => f Γ M
  | .ct Γ M => f Γ M
  | .bk Γ M => .nx Γ M
  | r => r
def optS (o : Option Env) (f : Env → RS) : RS := match o with
  | some Γ => f Γ
  | none => .bad
def gForL (gg : GG) (body : GS) : List D → GS
  | [] => gPass
  | d :: ds => fun Γ M => optS (gg d Γ) fun Γ1 => (body Γ1 M).turn (gForL gg body ds)
def gFor (gi : GI) (gg : GG) (body : GS) : GS := fun Γ M => (gi Γ M).thenS Γ fun ds M1 => gForL gg body ds Γ M1
def gWhile (gt : GT) (body : GS) : Nat → GS
  | 0 => gBad
  | n + 1 => fun Γ M => (gt Γ M).thenS Γ fun k M1 => if k = true then (body Γ M1).turn (gWhile gt body n) else .nx Γ M1
section
variable {X : Cx} {C : CT} {W : WX} {H Z H1 Z1 : Hp} {ι ι1 : Nat → Addr} {M M1 : List MO} {Dd : Ends}
theorem PostS.shift {r : RS} (h : PostS X C W H Z ι M r Dd) (e : Ext H Z ι M.length H1 Z1 ι1 M1.length) (hr : HR X.K H1 Z1 ι1 M1) : PostS X C W H1 Z1 ι1 M1 r Dd := by
  cases r with
  | nx Γ M' => exact fun σ' H' Z' ι' e' => h σ' H' Z' ι' (e.trans e' hr.ali)
  | bk Γ M' => exact fun σ' H' Z' ι' e' => h σ' H' Z' ι' (e.trans e' hr.ali)
  | ct Γ M' => exact fun σ' H' Z' ι' e' => h σ' H' Z' ι' (e.trans e' hr.ali)
  | rt d M' => exact fun σ' H' Z' ι' e' => h σ' H' Z' ι' (e.trans e' hr.ali)
  | exc c d Γ M' => exact fun cls dd σ' H' Z' ι' e' => h cls dd σ' H' Z' ι' (e.trans e' hr.ali)
  | bad => exact h
theorem PostS.bind {α β : Type} {rp1 : RpK α β} {r : R α} {f : α → List MO → RS} {Γ : Env} {σ : St} {Q1 : β → Hp → Prop} (h : PostS X C W H Z ι M (r.thenS Γ f) Dd) (sl : Slots X.K Z ι M.length Γ σ)
    (k : ∀ (a : α) (M1 : List MO) (b : β) (H1 Z1 : Hp) (ι1 : Nat → Addr), Ext H Z ι M.length H1 Z1 ι1 M1.length → HR X.K H1 Z1 ι1 M1 → rp1 Z1 ι1 M1.length a b → PostS X C W H1 Z1 ι1 M1 (f a M1) Dd → Q1 b H1) :
    Post X C W rp1 σ H Z ι M r Q1 := by
  cases r with
  | ok a M' => exact fun b H' Z' ι' e' hr' rb => k a M' b H' Z' ι' e' hr' rb (PostS.shift (r := f a M') h e' hr')
  | exc c d M' => exact fun cls dd H' Z' ι' e' hr' rb => h cls dd σ H' Z' ι' e' hr' (sl.ext e') rb
  | bad => exact h
theorem PostS.next {r : RS} {f : Env → List MO → RS} {nx : L2.St → Hp → Prop} (h : PostS X C W H Z ι M (r.next f) Dd)
    (k : ∀ (Γ1 : Env) (M1 : List MO) (σ1 : L2.St) (H1 Z1 : Hp) (ι1 : Nat → Addr), Ext H Z ι M.length H1 Z1 ι1 M1.length → HR X.K H1 Z1 ι1 M1 → Slots X.K Z1 ι1 M1.length Γ1 σ1 → PostS X C W H1 Z1 ι1 M1 (f Γ1 M1) Dd → nx σ1 H1) :
    PostS X C W H Z ι M r { Dd with nx := nx } := by
  cases r with
  | nx Γ M' => exact fun σ' H' Z' ι' e' hr' sl => k Γ M' σ' H' Z' ι' e' hr' sl (PostS.shift (r := f Γ M') h e' hr')
  | bk Γ M' => exact h
  | ct Γ M' => exact h
  | rt d M' => exact h
  | exc c d Γ M' => exact h
  | bad => exact h
variable {st : Stmt} {rest : List Stmt} {e tg : Expr} {ge : GE} {gt : GT} {gg : GG} {g g2 : GS} {pos : Pos}
theorem qss_nil : QSs X C W [] gPass := ⟨_, pss_nil, fun Dd σ H Z ι Γ M sl hr h => h σ H Z ι .refl hr sl⟩
theorem qss_cons (h1 : QS X C W st g) (h2 : QSs X C W rest g2) : QSs X C W (st :: rest) (gSeq g g2) := by
  obtain ⟨t1, p1, q1⟩ := h1
  obtain ⟨t2, p2, q2⟩ := h2
  exact ⟨_, pss_cons p1 p2, fun Dd σ H Z ι Γ M sl hr h => q1 _ σ H Z ι Γ M sl hr (PostS.next h fun Γ1 M1 σ1 H1 Z1 ι1 e1 hr1 sl1 h1 => q2 Dd σ1 H1 Z1 ι1 Γ1 M1 sl1 hr1 h1)⟩
theorem qss_one (h1 : QS X C W st g) : QSs X C W [st] g := let ⟨t, p, q⟩ := h1; ⟨t, pss_one p, q⟩
theorem qss_never {sts : List Stmt} : QSs X C W sts gBad := ⟨_, pss_never, fun Dd σ H Z ι Γ M sl hr h => h⟩
theorem qs_never : QS X C W st gBad := ⟨_, ps_never, fun Dd σ H Z ι Γ M sl hr h => h⟩
theorem qs_pass : QS X C W (.Pass pos) gPass := ⟨_, ps_pass, fun Dd σ H Z ι Γ M sl hr h => h σ H Z ι .refl hr sl⟩
/-- a step of our own behind a statement -/
theorem qs_ghost {g3 : GS} (h1 : QS X C W st g) (h : ∀ (Dd : Ends) (σ : L2.St) (H Z : Hp) (ι : Nat → Addr) (Γ : Env) (M : List MO), Slots X.K Z ι M.length Γ σ → HR X.K H Z ι M → PostS X C W H Z ι M (g3 Γ M) Dd → Dd.nx σ H) : QS X C W st (gSeq g g3) := by
  obtain ⟨t1, p1, q1⟩ := h1
  exact ⟨_, p1, fun Dd σ H Z ι Γ M sl hr hp => q1 Dd σ H Z ι Γ M sl hr (PostS.next (nx := Dd.nx) hp fun Γ1 M1 σ1 H1 Z1 ι1 e1 hr1 sl1 h1 => h Dd σ1 H1 Z1 ι1 Γ1 M1 sl1 hr1 h1)⟩
theorem qs_forget (is : List Nat) (h1 : QS X C W st g) : QS X C W st (gSeq g (gForget is)) := qs_ghost h1 fun Dd σ H Z ι Γ M sl hr h => h σ H Z ι .refl hr (sl.forget is)
theorem qs_fz (i : Nat) (h1 : QS X C W st g) : QS X C W st (gSeq g (gFz i)) := qs_ghost h1 fun Dd σ H Z ι Γ M sl hr h => by
  unfold gFz at h
  cases e : Γ[i]? with
  | none => rw [e] at h; exact h.elim
  | some o =>
    rw [e] at h
    cases o with
    | none => exact h.elim
    | some d =>
      cases d with
      | ref k =>
        simp only at h
        cases e2 : M[k]? with
        | none => rw [e2] at h; exact h.elim
        | some u =>
          rw [e2] at h
          cases u with
          | dead => exact h.elim
          | lst ds =>
            obtain ⟨xs, r, hr1, x1, rp⟩ := hr.freeze e2
            obtain ⟨v, hv, rv⟩ := sl.2 i _ e
            cases rv
            have q := (sl.ext x1).set i rp
            have es : σ.set i (some (V.ref (ι k))) = σ := by
              have lt : i < σ.length := (List.getElem?_eq_some_iff.mp hv).1
              have ev : σ[i] = some (V.ref (ι k)) := (List.getElem?_eq_some_iff.mp hv).2
              rw [← ev, List.set_getElem_self]
            rw [es] at q
            exact h σ H _ ι x1 hr1 q
      | _ => exact h.elim
theorem qs_expr (ha : QE X C W e ge) (hs : swapsWith e none pos.line X.env = pure false := by rfl) : QS X C W (.Expr e pos) (gExpr ge) := by
  obtain ⟨ta, pa, qa⟩ := ha
  exact ⟨_, ps_expr pa hs, fun Dd σ H Z ι Γ M sl hr h => qa σ H Z ι Γ M _ sl hr (PostS.bind h sl fun x M1 v H1 Z1 ι1 e1 hr1 r1 h1 => h1 σ H1 Z1 ι1 .refl hr1 (sl.ext e1))⟩
theorem qs_ret (ha : QE X C W e ge) : QS X C W (.Return (some e) pos) (gRet ge) := by
  obtain ⟨ta, pa, qa⟩ := ha
  exact ⟨_, ps_ret pa, fun Dd σ H Z ι Γ M sl hr h => qa σ H Z ι Γ M _ sl hr (PostS.bind h sl fun x M1 v H1 Z1 ι1 e1 hr1 r1 h1 => h1 v H1 Z1 ι1 .refl hr1 r1)⟩
theorem qs_retN : QS X C W (.Return none pos) gRetN := ⟨_, ps_retN, fun Dd σ H Z ι Γ M sl hr h => h _ H Z ι .refl hr .non⟩
theorem qs_if {c : Expr} {a b : List Stmt} (hc : QT X C W c gt) (ha : QSs X C W a g) (hb : QSs X C W b g2) : QS X C W (.If c a b pos) (gIf gt g g2) := by
  obtain ⟨tc, pc, qc⟩ := hc
  obtain ⟨ta, pa, qa⟩ := ha
  obtain ⟨tb, pb, qb⟩ := hb
  refine ⟨_, ps_if pc pa pb, fun Dd σ H Z ι Γ M sl hr h => qc σ H Z ι Γ M _ sl hr (PostS.bind h sl fun x M1 v H1 Z1 ι1 e1 hr1 r1 h1 => ?_)⟩
  have r1' : x = v := r1
  subst r1'
  cases x with
  | true => exact qa Dd σ H1 Z1 ι1 Γ M1 (sl.ext e1) hr1 h1
  | false => exact qb Dd σ H1 Z1 ι1 Γ M1 (sl.ext e1) hr1 h1
theorem qs_asg {is : List Nat} (ha : QE X C W e ge) (hg : QG X tg gg is) (hs : swapsWithSole [tg] e pos.line X.env = pure false := by rfl) (hp : swappedStores [tg] e X.env = pure none := by rfl) (h1 : (assignEach [tg] X.env).map (·.2) = [assign tg X.env] := by rfl) : QS X C W (.Assign [tg] e pos) (gAsg ge gg) := by
  obtain ⟨ta, pa, qa⟩ := ha
  obtain ⟨t2, p2, q2⟩ := hg
  refine ⟨_, ps_asg pa p2 hs (hw := hp) (h1 := h1), fun Dd σ H Z ι Γ M sl hr h => qa σ H Z ι Γ M _ sl hr (PostS.bind h sl fun x M1 v H1 Z1 ι1 e1 hr1 r1 h1 => ?_)⟩
  cases eg : gg x Γ with
  | none => rw [eg] at h1; exact h1.elim
  | some Γ' =>
    rw [eg] at h1
    exact q2 v σ H1 Z1 ι1 M1.length x Γ Γ' _ hr1.sub (sl.ext e1) r1 eg fun σ' s' _ => h1 σ' H1 Z1 ι1 .refl hr1 s'

theorem qss_scope (h1 : QSs X C W rest g) : QSs X C W rest (gScope g) := by
  obtain ⟨t1, p1, q1⟩ := h1
  refine ⟨_, p1, fun Dd σ H Z ι Γ M sl hr h => q1 Dd σ H Z ι Γ M sl hr ?_⟩
  have h' : PostS X C W H Z ι M (gCut M.length (g Γ M)) Dd := h
  cases er : g Γ M with
  | nx Γ' M' =>
    rw [er] at h'
    by_cases hc : M.length ≤ M'.length ∧ cutOk M.length M' = true
    · have h2 : PostS X C W H Z ι M (if M.length ≤ M'.length ∧ cutOk M.length M' = true then .nx (clean M.length Γ') (M'.take M.length) else .bad) Dd := h'
      rw [if_pos hc] at h2
      have ln : (M'.take M.length).length = M.length := by rw [List.length_take]; omega
      intro σ' H' Z' ι' e1 hr1 sl1
      refine h2 σ' H' Z' ι' (by rw [ln]; exact e1.cut (Nat.le_refl _) hc.1) (hr1.cut hc.1 hc.2) (by rw [ln]; exact sl1.cut)
    · have h2 : PostS X C W H Z ι M (if M.length ≤ M'.length ∧ cutOk M.length M' = true then .nx (clean M.length Γ') (M'.take M.length) else .bad) Dd := h'
      rw [if_neg hc] at h2
      exact h2.elim
  | ct Γ' M' =>
    rw [er] at h'
    by_cases hc : M.length ≤ M'.length ∧ cutOk M.length M' = true
    · have h2 : PostS X C W H Z ι M (if M.length ≤ M'.length ∧ cutOk M.length M' = true then .ct (clean M.length Γ') (M'.take M.length) else .bad) Dd := h'
      rw [if_pos hc] at h2
      have ln : (M'.take M.length).length = M.length := by rw [List.length_take]; omega
      intro σ' H' Z' ι' e1 hr1 sl1
      refine h2 σ' H' Z' ι' (by rw [ln]; exact e1.cut (Nat.le_refl _) hc.1) (hr1.cut hc.1 hc.2) (by rw [ln]; exact sl1.cut)
    · have h2 : PostS X C W H Z ι M (if M.length ≤ M'.length ∧ cutOk M.length M' = true then .ct (clean M.length Γ') (M'.take M.length) else .bad) Dd := h'
      rw [if_neg hc] at h2
      exact h2.elim
  | bk Γ' M' => rw [er] at h'; exact h'
  | rt d M' => rw [er] at h'; exact h'
  | exc c d Γ' M' => rw [er] at h'; exact h'
  | bad => rw [er] at h'; exact h'
/-- a loop's turn: what is wanted behind it -/
theorem PostS.turn {r : RS} {f : Env → List MO → RS} {N : L2.St → Hp → Prop} (h : PostS X C W H Z ι M (r.turn f) Dd)
    (k : ∀ (Γ1 : Env) (M1 : List MO) (σ1 : L2.St) (H1 Z1 : Hp) (ι1 : Nat → Addr), Ext H Z ι M.length H1 Z1 ι1 M1.length → HR X.K H1 Z1 ι1 M1 → Slots X.K Z1 ι1 M1.length Γ1 σ1 → PostS X C W H1 Z1 ι1 M1 (f Γ1 M1) Dd → N σ1 H1) :
    PostS X C W H Z ι M r { Dd with nx := N, ct := N, bk := Dd.nx } := by
  cases r with
  | nx Γ M' => exact fun σ' H' Z' ι' e' hr' sl => k Γ M' σ' H' Z' ι' e' hr' sl (PostS.shift (r := f Γ M') h e' hr')
  | ct Γ M' => exact fun σ' H' Z' ι' e' hr' sl => k Γ M' σ' H' Z' ι' e' hr' sl (PostS.shift (r := f Γ M') h e' hr')
  | bk Γ M' => exact h
  | rt d M' => exact h
  | exc c d Γ M' => exact h
  | bad => exact h
theorem qs_for {iter : Expr} {body : List Stmt} {gi : GI} {is : List Nat} (hp : PassesOwn (model X.prog X.w) X.A X.env X.xe) (hc : X.calm = true) (hi : QI X C W tg iter gi) (hg : QG X tg gg is) (hb : QSs X C W body g)
    (hs : ∀ x, foldedSetIterable iter X.env x = pure x := by intro _; rfl) : QS X C W (.For tg iter body [] pos) (gFor gi gg g) := by
  obtain ⟨wi, pi, qi⟩ := hi
  obtain ⟨tg', pg, qg⟩ := hg
  obtain ⟨tb, pb, qb⟩ := hb
  refine ⟨_, ps_for hp hc pi pg pb hs, fun Dd σ H Z ι Γ M sl hr h => qi σ H Z ι Γ M _ sl hr (PostS.bind h sl fun ds M1 J H1 Z1 ι1 e1 hr1 rJ h1 => ?_)⟩
  refine ⟨fun i m σ' H' => ∃ (Z' : Hp) (ι' : Nat → Addr) (Γ' : Env) (M' : List MO), m = ds.length - i ∧ i ≤ ds.length ∧ Sub Z1 Z' ∧ (∀ k, k < M1.length → ι' k = ι1 k) ∧ M1.length ≤ M'.length ∧ HR X.K H' Z' ι' M' ∧ Slots X.K Z' ι' M'.length Γ' σ' ∧
    PostS X C W H' Z' ι' M' (gForL gg g (ds.drop i) Γ' M') Dd, ⟨ds.length, Z1, ι1, Γ, M1, rfl, Nat.zero_le _, fun _ _ z => z, fun _ _ => rfl, Nat.le_refl _, hr1, sl.ext e1, h1⟩, ?_⟩
  rintro i m σ' H' ⟨Z', ι', Γ', M', em, hle, hz, hii, hn, hr', sl', hp'⟩
  obtain ⟨hstop, hgo⟩ := rJ i H' Z' ι' M' hz hii hn hr' trivial
  by_cases hi : i < ds.length
  · refine .inr ?_
    have ed : ds.drop i = ds[i] :: ds.drop (i + 1) := List.drop_eq_getElem_cons hi
    obtain ⟨go, yl⟩ := hgo ds[i] (List.getElem?_eq_getElem hi)
    refine ⟨go, fun σ2 H2 => ∃ (Z2 : Hp) (ι2 : Nat → Addr) (Γ2 : Env) (M2 : List MO), Sub Z1 Z2 ∧ (∀ k, k < M1.length → ι2 k = ι1 k) ∧ M1.length ≤ M2.length ∧ HR X.K H2 Z2 ι2 M2 ∧ Slots X.K Z2 ι2 M2.length Γ2 σ2 ∧
      PostS X C W H2 Z2 ι2 M2 (gForL gg g (ds.drop (i + 1)) Γ2 M2) Dd, fun σ2 H2 hN => ?_, fun x H2 hy => ?_⟩
    · obtain ⟨Z2, ι2, Γ2, M2, a1, a2, a3, a4, a5, a6⟩ := hN
      exact ⟨ds.length - (i + 1), by omega, Z2, ι2, Γ2, M2, rfl, by omega, a1, a2, a3, a4, a5, a6⟩
    · obtain ⟨Z2, e2, hr2, rx⟩ := yl x H2 hy
      rw [ed] at hp'
      have hp2 := PostS.shift hp' e2 hr2
      have hb : PostS X C W H2 Z2 ι' M' (optS (gg ds[i] Γ') fun Γ1 => (g Γ1 M').turn (gForL gg g (ds.drop (i + 1)))) Dd := hp2
      cases eg : gg ds[i] Γ' with
      | none =>
        rw [eg] at hb
        exact hb.elim
      | some Γ1 =>
        rw [eg] at hb
        exact qg x σ' H2 Z2 ι' M'.length ds[i] Γ' Γ1 _ hr2.sub (sl'.ext e2) rx eg fun σ3 s3 _ => qb _ σ3 H2 Z2 ι' Γ1 M' s3 hr2 (PostS.turn hb fun Γ4 M4 σ4 H4 Z4 ι4 e4 hr4 s4 h4 =>
          ⟨Z4, ι4, Γ4, M4, fun a o z => e4.zz _ _ (e2.zz _ _ (hz _ _ z)), fun k hk => (e4.ii k (Nat.lt_of_lt_of_le hk hn)).trans (hii k hk), Nat.le_trans hn e4.ln, hr4, s4, h4⟩)
  · refine .inl ⟨hstop (by omega), ?_⟩
    rw [List.drop_eq_nil_of_le (Nat.le_of_not_lt hi)] at hp'
    exact hp' σ' H' Z' ι' .refl hr' sl'
theorem qs_while {c : Expr} {body : List Stmt} (n : Nat) (hp : PassesOwn (model X.prog X.w) X.A X.env X.xe) (hc : QT X C W c gt) (hb : QSs X C W body g) : QS X C W (.While c body [] pos) (gWhile gt g n) := by
  obtain ⟨tc, pc, qc⟩ := hc
  obtain ⟨tb, pb, qb⟩ := hb
  refine ⟨_, ps_while hp pc pb, fun Dd σ H Z ι Γ M sl hr h => ?_⟩
  refine ⟨fun m σ' H' => ∃ (Z' : Hp) (ι' : Nat → Addr) (Γ' : Env) (M' : List MO), HR X.K H' Z' ι' M' ∧ Slots X.K Z' ι' M'.length Γ' σ' ∧ PostS X C W H' Z' ι' M' (gWhile gt g m Γ' M') Dd, ⟨n, Z, ι, Γ, M, hr, sl, h⟩, ?_⟩
  rintro m σ' H' ⟨Z', ι', Γ', M', hr', sl', hp'⟩
  cases m with
  | zero => exact hp'.elim
  | succ m =>
    refine qc σ' H' Z' ι' Γ' M' _ sl' hr' (PostS.bind hp' sl' fun x M1 v H1 Z1 ι1 e1 hr1 r1 h1 => ?_)
    have r1' : x = v := r1
    subst r1'
    cases x with
    | false => exact h1 σ' H1 Z1 ι1 .refl hr1 (sl'.ext e1)
    | true =>
      refine ⟨fun σ2 H2 => ∃ (Z2 : Hp) (ι2 : Nat → Addr) (Γ2 : Env) (M2 : List MO), HR X.K H2 Z2 ι2 M2 ∧ Slots X.K Z2 ι2 M2.length Γ2 σ2 ∧ PostS X C W H2 Z2 ι2 M2 (gWhile gt g m Γ2 M2) Dd, fun σ2 H2 hN => ⟨m, Nat.lt_succ_self _, hN⟩, ?_⟩
      exact qb _ σ' H1 Z1 ι1 Γ' M1 (sl'.ext e1) hr1 (PostS.turn h1 fun Γ4 M4 σ4 H4 Z4 ι4 e4 hr4 s4 h4 => ⟨Z4, ι4, Γ4, M4, hr4, s4, h4⟩)
end
end Bk

set_option Elab.async false
set_option linter.all false
set_option maxRecDepth 100000
set_option maxHeartbeats 2000000
namespace Bk
open PySem PySem.Spec PyProof.Rows L2

/-! ### a list made by a comprehension -/
/-- nothing may be raised -/
abbrev noW : WX := fun _ _ _ _ => False
theorem takes_no {X : Cx} : Takes X noW := fun u s' h => by
  unfold XE at h
  obtain ⟨_, _, _, _, _, _, _, h⟩ := h
  simp_all
/-- no exception goes on -/
def R.only {α β : Type} (r : R α) (f : α → List MO → R β) : R β := match r with
  | .ok a M => f a M
  | _ => .bad
def gLcL (gg : GG) (gt : GT) (ge : GE) (Γ : Env) : List D → List D → List MO → R (List D)
  | [], acc, M => .ok acc M
  | d :: ds, acc, M => match gg d Γ with
    | none => .bad
    | some Γ1 => (gt Γ1 M).only fun k M1 => if k = true then (ge Γ1 M1).only fun y M2 => if acc.length < sizeLine then gLcL gg gt ge Γ ds (acc ++ [y]) M2 else .bad else gLcL gg gt ge Γ ds acc M1
def gYes : GT := fun _ M => .ok true M
/-- the new list will not be changed -/
def gLc (gi : GI) (gg : GG) (gt : GT) (ge : GE) (own : List Nat) : GE := fun Γ M => (gi Γ M).bind fun ds M1 => (gLcL gg gt ge (forget Γ own) ds [] M1).bind fun acc M2 => .ok (.lst acc) M2
/-- the new list is ours -/
def gLcO (gi : GI) (gg : GG) (gt : GT) (ge : GE) (own : List Nat) : GE := fun Γ M => (gi Γ M).bind fun ds M1 => (gLcL gg gt ge (forget Γ own) ds [] M1).bind fun acc M2 => .ok (.ref M2.length) (M2 ++ [.lst acc])

section
variable {K : PySem.W.Frag} {H Z H0 Z0 : Hp} {ι ι0 : Nat → Addr} {M : List MO} {n0 : Nat} {p : Addr} {xs : List V} {ds : List D} {o : HO}
/-- a thing that is neither frozen nor ours -/
structure Odd (Z : Hp) (ι : Nat → Addr) (n : Nat) (p : Addr) : Prop where
  z : Z p = none
  i : ∀ k, k < n → ι k ≠ p
theorem HR.odd (h : HR K H Z ι M) (q : Odd Z ι M.length p) : HR K (upd H p o) Z ι M := by
  have lt : ∀ {k : Nat} {u : MO}, M[k]? = some u → k < M.length := fun e => (List.getElem?_eq_some_iff.mp e).1
  refine ⟨fun a u e => by rw [upd_ne (ne_of_none e q.z)]; exact h.sub _ _ e, fun k hk => by rw [upd_ne (q.i k hk)]; exact h.ali k hk, h.sep, h.inj, fun k u e => ?_, h.ded⟩
  have r := h.obj k u e
  cases u with
  | dead => trivial
  | lst es =>
    obtain ⟨ys, e1, r1⟩ := r
    exact ⟨ys, by rw [upd_ne (q.i k (lt e))]; exact e1, r1⟩
theorem Odd.new (h : HR K H Z ι M) (hp : H p = none) : Odd Z ι M.length p := by
  refine ⟨?_, fun k hk e => ?_⟩
  · cases e : Z p with
    | none => rfl
    | some u =>
      rw [h.sub _ _ e] at hp
      cases hp
  · obtain ⟨u, hu⟩ := h.ali k hk
    rw [e, hp] at hu
    cases hu
theorem Odd.ext {H1 Z1 : Hp} {ι1 : Nat → Addr} {n n1 : Nat} {u : HO} (q : Odd Z ι n p) (hp : H p = some u) (e : Ext H Z ι n H1 Z1 ι1 n1) : Odd Z1 ι1 n1 p ∧ H1 p = some u := by
  refine ⟨⟨?_, fun k hk z => ?_⟩, e.fr p u hp fun k hk z => q.i k hk z.symm⟩
  · cases z : Z1 p with
    | none => rfl
    | some w =>
      rcases e.zn p w z with a | a | ⟨k, hk, a⟩
      · rw [q.z] at a; cases a
      · rw [hp] at a; cases a
      · exact absurd a.symm (q.i k hk)
  · by_cases hn : k < n
    · exact q.i k hn ((e.ii k hn).symm.trans z)
    · have w := e.nw k (Nat.le_of_not_lt hn) hk
      rw [z, hp] at w
      cases w
theorem Ext.touch {n : Nat} (e : Ext H0 Z0 ι0 n0 H Z ι n) (hp : H0 p = none) : Ext H0 Z0 ι0 n0 (upd H p o) Z ι n :=
  ⟨e.zz, e.ii, fun a u h1 h2 => by rw [upd_ne (ne_of_none h1 hp)]; exact e.fr a u h1 h2, e.nw, e.ln, e.zn⟩
theorem HR.adoptZ (h : HR K H Z ι M) (q : Odd Z ι M.length p) (hp : H p = some o) : HR K H (upd Z p o) ι M := by
  have s1 : Sub Z (upd Z p o) := fun a u e => by rw [upd_ne (ne_of_none e q.z)]; exact e
  refine ⟨fun a u e => ?_, h.ali, fun k u e d => by rw [upd_ne (q.i k (List.getElem?_eq_some_iff.mp e).1)]; exact h.sep k u e d, h.inj, fun k u e => ?_, fun k e => let ⟨u, hu⟩ := h.ded k e; ⟨u, s1 _ _ hu⟩⟩
  · by_cases ha : a = p
    · subst ha
      rw [upd_same] at e
      rw [← e]
      exact hp
    · rw [upd_ne ha] at e
      exact h.sub _ _ e
  · have r := h.obj k u e
    cases u with
    | dead => trivial
    | lst es =>
      obtain ⟨ys, e1, r1⟩ := r
      exact ⟨ys, e1, Rps.mono s1 (fun _ _ => rfl) (Nat.le_refl _) _ _ r1⟩
theorem Ext.adoptZ {n : Nat} (e : Ext H0 Z0 ι0 n0 H Z ι n) (hz : Z p = none) (hp : H0 p = none) : Ext H0 Z0 ι0 n0 H (upd Z p o) ι n :=
  ⟨fun a u h => by rw [upd_ne (ne_of_none (e.zz _ _ h) hz)]; exact e.zz _ _ h, e.ii, e.fr, e.nw, e.ln, fun a u h => by
    by_cases ha : a = p
    · subst ha
      exact .inr (.inl hp)
    · rw [upd_ne ha] at h
      exact e.zn a u h⟩
theorem HR.adoptM (h : HR K H Z ι M) (q : Odd Z ι M.length p) (hp : H p = some (.lst xs)) (r : Rps K Z ι M.length ds xs) : HR K H Z (put ι M.length p) (M ++ [.lst ds]) := by
  have ln : (M ++ [MO.lst ds]).length = M.length + 1 := by simp
  have cs : ∀ {k : Nat} {u : MO}, (M ++ [MO.lst ds])[k]? = some u → (k < M.length ∧ M[k]? = some u) ∨ (k = M.length ∧ u = .lst ds) := fun {k u} e => by
    by_cases hk : k < M.length
    · rw [List.getElem?_append_left hk] at e
      exact .inl ⟨hk, e⟩
    · rw [List.getElem?_append_right (Nat.le_of_not_lt hk)] at e
      by_cases hz : k - M.length = 0
      · rw [hz] at e
        exact .inr ⟨by omega, (Option.some.inj e).symm⟩
      · rw [List.getElem?_eq_none (by simp; omega)] at e
        cases e
  refine ⟨h.sub, fun k hk => ?_, fun k u e d => ?_, fun j k o u e1 e2 d1 d2 e => ?_, fun k u e => ?_, fun k e => ?_⟩
  · rw [ln] at hk
    by_cases hk' : k < M.length
    · rw [put_lt hk']
      exact h.ali k hk'
    · have : k = M.length := by omega
      subst this
      exact ⟨_, by rw [put_at]; exact hp⟩
  · rcases cs e with ⟨hk, e⟩ | ⟨rfl, rfl⟩
    · rw [put_lt hk]
      exact h.sep k u e d
    · rw [put_at]
      exact q.z
  · rcases cs e1 with ⟨hj, e1⟩ | ⟨rfl, rfl⟩ <;> rcases cs e2 with ⟨hk, e2⟩ | ⟨rfl, rfl⟩
    · rw [put_lt hj, put_lt hk] at e
      exact h.inj j k o u e1 e2 d1 d2 e
    · rw [put_lt hj, put_at] at e
      exact absurd e (q.i j hj)
    · rw [put_lt hk, put_at] at e
      exact absurd e.symm (q.i k hk)
    · rfl
  · rcases cs e with ⟨hk, e⟩ | ⟨rfl, rfl⟩
    · rw [put_lt hk]
      have r := h.obj k u e
      cases u with
      | dead => trivial
      | lst es =>
        obtain ⟨ys, e1, r1⟩ := r
        exact ⟨ys, e1, Rps.mono (fun _ _ z => z) (fun _ z => put_lt z) (by rw [ln]; omega) _ _ r1⟩
    · rw [put_at]
      exact ⟨xs, hp, Rps.mono (fun _ _ z => z) (fun _ z => put_lt z) (by rw [ln]; omega) _ _ r⟩
  · rcases cs e with ⟨hk, e⟩ | ⟨_, e⟩
    · rw [put_lt hk]
      exact h.ded k e
    · cases e
theorem Ext.adoptM (e : Ext H0 Z0 ι0 n0 H Z ι M.length) (hp : H0 p = none) : Ext H0 Z0 ι0 n0 H Z (put ι M.length p) (M ++ [MO.lst ds]).length := by
  have ln : (M ++ [MO.lst ds]).length = M.length + 1 := by simp
  refine ⟨e.zz, fun k hk => (put_lt (Nat.lt_of_lt_of_le hk e.ln)).trans (e.ii k hk), e.fr, fun k h1 h2 => ?_, by rw [ln]; have := e.ln; omega, e.zn⟩
  rw [ln] at h2
  by_cases hk : k < M.length
  · rw [put_lt hk]
    exact e.nw k h1 hk
  · have : k = M.length := by omega
    subst this
    rw [put_at]
    exact hp
end
theorem wipe_at {σ : St} : ∀ (vs : List Nat) (i : Nat), (wipe σ vs)[i]? = if i ∈ vs ∧ i < σ.length then some none else σ[i]?
  | [], i => by simp [wipe]
  | v :: vs, i => by
    have ih := wipe_at (σ := σ) vs i
    have ln := wipe_length σ vs
    show ((wipe σ vs).set v none)[i]? = _
    by_cases hv : v = i
    · subst hv
      by_cases hl : v < σ.length
      · rw [List.getElem?_set_self (by rw [ln]; exact hl), if_pos ⟨List.mem_cons_self, hl⟩]
      · rw [if_neg (fun z => hl z.2), List.getElem?_eq_none (by rw [List.length_set, ln]; omega), List.getElem?_eq_none (by omega)]
    · rw [List.getElem?_set_ne hv, ih]
      have : (i ∈ v :: vs) ↔ i ∈ vs := by simp only [List.mem_cons]; exact ⟨fun z => z.elim (fun e => absurd e.symm hv) id, .inr⟩
      simp only [this]
theorem wipe_wipe {σ : St} (vs : List Nat) : wipe (wipe σ vs) vs = wipe σ vs := by
  refine List.ext_getElem? fun i => ?_
  rw [wipe_at, wipe_length, wipe_at]
  split <;> rfl
theorem slots_wipe {K : PySem.W.Frag} {Z : Hp} {ι : Nat → Addr} {n : Nat} {σ : St} : ∀ (vs : List Nat) {Γ : Env}, Slots K Z ι n Γ σ → Slots K Z ι n (forget Γ vs) (wipe σ vs) := by
  have one : ∀ (vs : List Nat) (Γ : Env) (i : Nat) (d : D), (forget Γ vs)[i]? = some (some d) → Γ[i]? = some (some d) ∧ i ∉ vs := by
    intro vs
    induction vs with
    | nil => intro Γ i d h; exact ⟨h, by simp⟩
    | cons v vs ih =>
      intro Γ i d h
      obtain ⟨h1, h2⟩ := ih (Γ.set v none) i d h
      by_cases hv : v = i
      · subst hv
        have lt : v < Γ.length := by
          have := (List.getElem?_eq_some_iff.mp h1).1
          rw [List.length_set] at this
          exact this
        rw [List.getElem?_set_self lt] at h1
        cases h1
      · rw [List.getElem?_set_ne hv] at h1
        exact ⟨h1, by simp only [List.mem_cons, not_or]; exact ⟨fun e => hv e.symm, h2⟩⟩
  have keep : ∀ (vs : List Nat) (i : Nat), i ∉ vs → (wipe σ vs)[i]? = σ[i]? := by
    intro vs
    induction vs with
    | nil => intro i _; rfl
    | cons v vs ih =>
      intro i h
      show ((wipe σ vs).set v none)[i]? = _
      rw [List.getElem?_set_ne (fun e => h (by rw [e]; exact List.mem_cons_self))]
      exact ih i fun z => h (List.mem_cons_of_mem _ z)
  have len : ∀ (vs : List Nat) (Γ : Env), (forget Γ vs).length = Γ.length := by
    intro vs
    induction vs with
    | nil => intro Γ; rfl
    | cons v vs ih => intro Γ; exact (ih _).trans List.length_set
  intro vs Γ sl
  refine ⟨by rw [len, wipe_length]; exact sl.1, fun i d h => ?_⟩
  obtain ⟨h1, h2⟩ := one vs Γ i d h
  obtain ⟨v, e, r⟩ := sl.2 i d h1
  exact ⟨v, by rw [keep vs i h2]; exact e, r⟩
section
variable {X : Cx} {C : CT} {W : WX}
abbrev Blk (X : Cx) (scope : Scope) (F : Cx → Prop) : Prop := ∀ (s : Shared) (H : Hp) (c : Addr) (cl : List (Str × Addr)) (fp : List Addr), F (X.blk s H scope (compEnvC scope cl c X.env) fp)
/-- the readings that the functions are: the same in every block -/
def liftE (K : PySem.W.Frag) (X : Cx) (C : CT) (W : WX) (g : GE) : TE := fun σ H Q => ∃ (Z : Hp) (ι : Nat → Addr) (Γ : Env) (M : List MO), Slots K Z ι M.length Γ σ ∧ HR K H Z ι M ∧ Post X C W (rpE K) σ H Z ι M (g Γ M) Q
def liftT (K : PySem.W.Frag) (X : Cx) (C : CT) (W : WX) (g : GT) : TT := fun σ H Q => ∃ (Z : Hp) (ι : Nat → Addr) (Γ : Env) (M : List MO), Slots K Z ι M.length Γ σ ∧ HR K H Z ι M ∧ Post X C W rpT σ H Z ι M (g Γ M) Q
def liftG (K : PySem.W.Frag) (g : GG) (is : List Nat) : TG := fun v σ H Q => ∃ (Z : Hp) (ι : Nat → Addr) (n : Nat) (d : D) (Γ Γ' : Env), Sub Z H ∧ Slots K Z ι n Γ σ ∧ Rp K Z ι n d v ∧ g d Γ = some Γ' ∧ ∀ σ', Slots K Z ι n Γ' σ' → Wip is σ σ' → Q σ' H
def QTs (X : Cx) (C : CT) (W : WX) (es : List Expr) (g : GT) : Prop := ∃ te, PTs X es te ∧ ∀ (σ : St) (H Z : Hp) (ι : Nat → Addr) (Γ : Env) (M : List MO) (Q : Bool → Hp → Prop), Slots X.K Z ι M.length Γ σ → HR X.K H Z ι M → Post X C W rpT σ H Z ι M (g Γ M) Q → te σ H Q
theorem qts_nil : QTs X C W [] gYes := ⟨_, pts_nil, fun σ H Z ι Γ M Q sl hr h => h true H Z ι .refl hr rfl⟩
theorem qts_one {c : Expr} {g : GT} (h : QT X C W c g) : QTs X C W [c] g := let ⟨t, p, q⟩ := h; ⟨t, pts_one p, q⟩
theorem Post.blk {α β : Type} {X Y : Cx} {rp : RpK α β} {σ : St} {H Z : Hp} {ι : Nat → Addr} {M : List MO} {r : R α} {Q : β → Hp → Prop} (e : X.K = Y.K) (h : Post X C W rp σ H Z ι M r Q) : Post Y C W rp σ H Z ι M r Q := by
  cases r with
  | ok a M' =>
    intro b H' Z' ι' e' hr rb
    exact h b H' Z' ι' e' (by rw [e]; exact hr) rb
  | exc c d M' =>
    intro cls dd H' Z' ι' e' hr rb
    exact h cls dd H' Z' ι' e' (by rw [e]; exact hr) (by rw [e]; exact rb)
  | bad => exact h
theorem gLcL_run {cd : List MO → Prop} {gg : GG} {gt : GT} {ge : GE} {is own : List Nat} {σ : St} {Γ0 : Env} {fin : List D → List MO → R D} {Q : VK} {J : It} {p : Addr}
    {ds : List D} {H0 Z0 : Hp} {ι0 : Nat → Addr} {M0 : List MO} (hsub : ∀ i ∈ is, i ∈ own) (sl : Slots X.K Z0 ι0 M0.length Γ0 (wipe σ own)) (rJ : ItC cd X.K J ds Z0 ι0 M0.length) (cd0 : cd M0) (cdt : ∀ Γ M d M', gt Γ M = .ok d M' → cd M → cd M') (cde : ∀ Γ M d M', ge Γ M = .ok d M' → cd M → cd M') (hp0 : H0 p = none) (hr0 : HR X.K H0 Z0 ι0 M0)
    (h : Post X C W (rpE X.K) σ H0 Z0 ι0 M0 ((gLcL gg gt ge Γ0 ds [] M0).bind fin) Q)
    (hfin : ∀ (acc : List D) (accV : List V) (M : List MO) (H Z : Hp) (ι : Nat → Addr), Ext H0 Z0 ι0 M0.length H Z ι M.length → HR X.K H Z ι M → Odd Z ι M.length p → H p = some (.lst accV) → Rps X.K Z ι M.length acc accV → Post X C W (rpE X.K) σ H0 Z0 ι0 M0 (fin acc M) Q → Q (.ref p) H) :
    ∃ Wv : Nat → Nat → Hp → Prop, (∃ m, Wv 0 m (upd H0 p (.lst []))) ∧ ∀ i m H, Wv i m H →
      (J.stop i H ∧ Q (.ref p) H) ∨ (J.go i H ∧ ∃ Nx : Hp → Prop, (∀ H', Nx H' → ∃ m', m' < m ∧ Wv (i + 1) m' H') ∧ ∀ x H', J.yld i H x H' → liftG X.K gg is x (wipe σ own) H' fun σ2 H2 => wipe σ2 own = wipe σ own ∧ liftT X.K X C noW gt σ2 H2 fun b H3 =>
        if b = true then liftE X.K X C noW ge σ2 H3 fun y H4 => ∃ acc, H4 p = some (.lst acc) ∧ acc.length < sizeLine ∧ Nx (upd H4 p (.lst (acc ++ [y]))) else Nx H3) := by
  let Inv' : Nat → Hp → Prop := fun i H => ∃ (Z : Hp) (ι : Nat → Addr) (M : List MO) (acc : List D) (accV : List V), Ext H0 Z0 ι0 M0.length H Z ι M.length ∧ HR X.K H Z ι M ∧ Odd Z ι M.length p ∧ H p = some (.lst accV) ∧ Rps X.K Z ι M.length acc accV ∧ cd M ∧
    Post X C W (rpE X.K) σ H0 Z0 ι0 M0 ((gLcL gg gt ge Γ0 (ds.drop i) acc M).bind fin) Q
  have q0 : Odd Z0 ι0 M0.length p := .new hr0 hp0
  refine ⟨fun i m H => m = ds.length - i ∧ i ≤ ds.length ∧ Inv' i H, ⟨ds.length, rfl, Nat.zero_le _, Z0, ι0, M0, [], [], (Ext.refl).touch hp0, hr0.odd q0, q0, upd_same, .nil, cd0, h⟩, ?_⟩
  rintro i m H ⟨em, hle, Z, ι, M, acc, accV, e1, hr1, od, hp, ra, cdM, hpost⟩
  obtain ⟨hstop, hgo⟩ := rJ i H Z ι M e1.zz e1.ii e1.ln hr1 cdM
  by_cases hi : i < ds.length
  · refine .inr ?_
    have ed : ds.drop i = ds[i] :: ds.drop (i + 1) := List.drop_eq_getElem_cons hi
    obtain ⟨go, yl⟩ := hgo ds[i] (List.getElem?_eq_getElem hi)
    refine ⟨go, Inv' (i + 1), fun H' hN => ⟨ds.length - (i + 1), by omega, rfl, by omega, hN⟩, fun x H2 hy => ?_⟩
    obtain ⟨Z2, e2, hr2, rx⟩ := yl x H2 hy
    obtain ⟨od2, hp2⟩ := od.ext hp e2
    have e12 := e1.trans e2 hr1.ali
    rw [ed] at hpost
    cases eg : gg ds[i] Γ0 with
    | none =>
      have z : gLcL gg gt ge Γ0 (ds[i] :: ds.drop (i + 1)) acc M = .bad := by
        unfold gLcL
        rw [eg]
      rw [z] at hpost
      exact hpost.elim
    | some Γ1 =>
      have z : gLcL gg gt ge Γ0 (ds[i] :: ds.drop (i + 1)) acc M = ((gt Γ1 M).only fun k M1 => if k = true then (ge Γ1 M1).only fun y M2 => if acc.length < sizeLine then gLcL gg gt ge Γ0 (ds.drop (i + 1)) (acc ++ [y]) M2 else .bad
          else gLcL gg gt ge Γ0 (ds.drop (i + 1)) acc M1) := by
        conv => lhs; unfold gLcL
        rw [eg]
      rw [z] at hpost
      refine ⟨Z2, ι, M.length, ds[i], Γ0, Γ1, hr2.sub, sl.ext e12, rx, eg, fun σ2 s2 w2 => ⟨(w2 own hsub).trans (wipe_wipe own), Z2, ι, Γ1, M, s2, hr2, ?_⟩⟩
      cases et : gt Γ1 M with
      | bad => rw [et] at hpost; exact hpost.elim
      | exc c d M' => rw [et] at hpost; exact hpost.elim
      | ok k M3 =>
        rw [et] at hpost
        intro b H3 Z3 ι3 e3 hr3 hb
        have hb' : k = b := hb
        subst hb'
        obtain ⟨od3, hp3⟩ := od2.ext hp2 e3
        have e13 := e12.trans e3 hr2.ali
        have ra3 := (ra.ext e2).ext e3
        cases k with
        | false => exact ⟨Z3, ι3, M3, acc, accV, e13, hr3, od3, hp3, ra3, cdt _ _ _ _ et cdM, hpost⟩
        | true =>
          rw [if_pos rfl]
          refine ⟨Z3, ι3, Γ1, M3, s2.ext e3, hr3, ?_⟩
          have hpost2 : Post X C W (rpE X.K) σ H0 Z0 ι0 M0 (((ge Γ1 M3).only fun y M2 => if acc.length < sizeLine then gLcL gg gt ge Γ0 (ds.drop (i + 1)) (acc ++ [y]) M2 else .bad).bind fin) Q := hpost
          cases ee : ge Γ1 M3 with
          | bad => rw [ee] at hpost2; exact hpost2.elim
          | exc c d M' => rw [ee] at hpost2; exact hpost2.elim
          | ok y M4 =>
            rw [ee] at hpost2
            have hpost3 : Post X C W (rpE X.K) σ H0 Z0 ι0 M0 ((if acc.length < sizeLine then gLcL gg gt ge Γ0 (ds.drop (i + 1)) (acc ++ [y]) M4 else .bad).bind fin) Q := hpost2
            by_cases hz : acc.length < sizeLine
            · rw [if_pos hz] at hpost3
              intro v H4 Z4 ι4 e4 hr4 rv
              obtain ⟨od4, hp4⟩ := od3.ext hp3 e4
              have ra4 := ra3.ext e4
              exact ⟨accV, hp4, by rw [← ra4.length]; exact hz, Z4, ι4, M4, acc ++ [y], accV ++ [v], (e13.trans e4 hr3.ali).touch hp0, hr4.odd od4, od4, upd_same, ra4.append (.cons rv .nil), cde _ _ _ _ ee (cdt _ _ _ _ et cdM), hpost3⟩
            · rw [if_neg hz] at hpost3
              exact hpost3.elim
  · refine .inl ⟨hstop (by omega), ?_⟩
    rw [List.drop_eq_nil_of_le (Nat.le_of_not_lt hi)] at hpost
    exact hfin acc accV M H Z ι e1 hr1 od hp ra hpost

theorem lc_read {own : List Nat} {gi : GI} {gg : GG} {gt : GT} {ge : GE} {is : List Nat} {wi : TI} {fin : List D → List MO → R D}
    (qi : ∀ (σ : St) (H Z : Hp) (ι : Nat → Addr) (Γ : Env) (M : List MO) (Q : It → Hp → Prop), Slots X.K Z ι M.length Γ σ → HR X.K H Z ι M → Post X C W (rpI X.K) σ H Z ι M (gi Γ M) Q → wi σ H Q) (hsub : ∀ i ∈ is, i ∈ own)
    (hfin : ∀ (σ : St) (H0 Z0 : Hp) (ι0 : Nat → Addr) (M0 : List MO) (p : Addr) (Q : VK) (acc : List D) (accV : List V) (M : List MO) (H Z : Hp) (ι : Nat → Addr), H0 p = none → Ext H0 Z0 ι0 M0.length H Z ι M.length → HR X.K H Z ι M → Odd Z ι M.length p → H p = some (.lst accV) →
      Rps X.K Z ι M.length acc accV → Post X C W (rpE X.K) σ H0 Z0 ι0 M0 (fin acc M) Q → Q (.ref p) H)
    (σ : St) (H Z : Hp) (ι : Nat → Addr) (Γ : Env) (M : List MO) (Q : VK) (sl : Slots X.K Z ι M.length Γ σ) (hr : HR X.K H Z ι M)
    (h : Post X C W (rpE X.K) σ H Z ι M ((gi Γ M).bind fun ds M1 => (gLcL gg gt ge (forget Γ own) ds [] M1).bind fin) Q) :
    tLc wi (liftG X.K gg is) (liftT X.K X C noW gt) (liftE X.K X C noW ge) own σ H Q :=
  qi σ H Z ι Γ M _ sl hr (h.bind fun ds M1 J H1 Z1 ι1 e1 hr1 rJ h1 => fun p hp =>
    gLcL_run hsub (slots_wipe _ (sl.ext e1)) rJ trivial (fun _ _ _ _ _ _ => trivial) (fun _ _ _ _ _ _ => trivial) hp hr1 h1 fun acc accV M' H' Z' ι' a1 a2 a3 a4 a5 a6 => hfin σ H1 Z1 ι1 M1 p Q acc accV M' H' Z' ι' hp a1 a2 a3 a4 a5 a6)
theorem blk_g {tg : Expr} {scope : Scope} {gg : GG} {is : List Nat} (hg : Blk X scope fun Y => QG Y tg gg is) : Blk X scope fun Y => PG Y tg (liftG X.K gg is) := fun s H c cl fp => by
  obtain ⟨t, p, q⟩ := hg s H c cl fp
  exact ⟨fun pins s σ H v u Q I r h => p.run pins s σ H v u Q I r (let ⟨Z, ι, n, d, Γ, Γ', h1, h2, h3, h4, h5⟩ := h; q v σ H Z ι n d Γ Γ' Q h1 h2 h3 h4 h5)⟩
theorem blk_t {ifs : List Expr} {scope : Scope} {gt : GT} (ht : Blk X scope fun Y => QTs Y C noW ifs gt) : Blk X scope fun Y => PTs Y ifs (liftT X.K X C noW gt) := fun s H c cl fp => by
  obtain ⟨t, p, q⟩ := ht s H c cl fp
  exact ⟨fun pins s σ H Q I h => p.run pins s σ H Q I (let ⟨Z, ι, Γ, M, h1, h2, h3⟩ := h; q σ H Z ι Γ M Q h1 h2 (h3.blk rfl))⟩
theorem blk_e {elt : Expr} {scope : Scope} {ge : GE} (he : Blk X scope fun Y => QE Y C noW elt ge) : Blk X scope fun Y => PE Y elt (liftE X.K X C noW ge) := fun s H c cl fp => by
  obtain ⟨t, p, q⟩ := he s H c cl fp
  exact ⟨fun pins s σ H Q I h => p.run pins s σ H Q I (let ⟨Z, ι, Γ, M, h1, h2, h3⟩ := h; q σ H Z ι Γ M Q h1 h2 (h3.blk rfl))⟩
theorem fin_z {σ : St} {H0 Z0 : Hp} {ι0 : Nat → Addr} {M0 : List MO} {p : Addr} {Q : VK} {acc : List D} {accV : List V} {M : List MO} {H Z : Hp} {ι : Nat → Addr} (h0 : H0 p = none) (e : Ext H0 Z0 ι0 M0.length H Z ι M.length) (hr : HR X.K H Z ι M) (od : Odd Z ι M.length p) (hp : H p = some (.lst accV))
    (ra : Rps X.K Z ι M.length acc accV) (h : Post X C W (rpE X.K) σ H0 Z0 ι0 M0 (.ok (.lst acc) M) Q) : Q (.ref p) H :=
  h _ H _ ι (e.adoptZ od.z h0) (hr.adoptZ od hp) (.lst (.inl (.inl upd_same)) (Rps.mono (fun a u q => by rw [upd_ne (ne_of_none q od.z)]; exact q) (fun _ _ => rfl) (Nat.le_refl _) _ _ ra))
theorem fin_m {σ : St} {H0 Z0 : Hp} {ι0 : Nat → Addr} {M0 : List MO} {p : Addr} {Q : VK} {acc : List D} {accV : List V} {M : List MO} {H Z : Hp} {ι : Nat → Addr} (h0 : H0 p = none) (e : Ext H0 Z0 ι0 M0.length H Z ι M.length) (hr : HR X.K H Z ι M) (od : Odd Z ι M.length p) (hp : H p = some (.lst accV))
    (ra : Rps X.K Z ι M.length acc accV) (h : Post X C W (rpE X.K) σ H0 Z0 ι0 M0 (.ok (.ref M.length) (M ++ [.lst acc])) Q) : Q (.ref p) H := by
  have q : Rp X.K Z (put ι M.length p) (M ++ [MO.lst acc]).length (.ref M.length) (.ref (put ι M.length p M.length)) := .ref (by simp)
  rw [put_at] at q
  exact h _ H Z _ (e.adoptM h0) (hr.adoptM od hp ra) q
section
variable {elt tg iter : Expr} {ifs : List Expr} {scope : Scope} {own : List (Str × Nat)} {pos spos py : Pos} {gi : GI} {gg : GG} {gt : GT} {ge : GE} {is ixs : List Nat}
theorem qe_lc (hc : X.calm = true) (hN : X.N.Nodup) (hi : QI X C W tg iter gi) (ok : BlkOk X.N X.env.scope scope own)
    (hg : Blk X scope fun Y => QG Y tg gg is) (ht : Blk X scope fun Y => QTs Y C noW ifs gt) (he : Blk X scope fun Y => QE Y C noW elt ge) (hix : ixs = own.map (·.2) := by rfl) (hsub : ∀ i ∈ is, i ∈ own.map (·.2) := by decide) (hs : ∀ x, foldedSetIterable iter X.env x = pure x := by intro _; rfl) :
    QE X C W (.ListComp elt [⟨tg, iter, ifs, 0⟩] scope pos) (gLc gi gg gt ge ixs) := by
  subst hix
  obtain ⟨wi, pi, qi⟩ := hi
  exact ⟨_, pe_lc hc hN pi ok (blk_g hg) (blk_t ht) (blk_e he) hs, lc_read qi hsub fun σ H0 Z0 ι0 M0 p Q acc accV M H Z ι h0 e hr od hp ra h => fin_z h0 e hr od hp ra h⟩
theorem qe_lcO (hc : X.calm = true) (hN : X.N.Nodup) (hi : QI X C W tg iter gi) (ok : BlkOk X.N X.env.scope scope own)
    (hg : Blk X scope fun Y => QG Y tg gg is) (ht : Blk X scope fun Y => QTs Y C noW ifs gt) (he : Blk X scope fun Y => QE Y C noW elt ge) (hix : ixs = own.map (·.2) := by rfl) (hsub : ∀ i ∈ is, i ∈ own.map (·.2) := by decide) (hs : ∀ x, foldedSetIterable iter X.env x = pure x := by intro _; rfl) :
    QE X C W (.ListComp elt [⟨tg, iter, ifs, 0⟩] scope pos) (gLcO gi gg gt ge ixs) := by
  subst hix
  obtain ⟨wi, pi, qi⟩ := hi
  exact ⟨_, pe_lc hc hN pi ok (blk_g hg) (blk_t ht) (blk_e he) hs, lc_read qi hsub fun σ H0 Z0 ι0 M0 p Q acc accV M H Z ι h0 e hr od hp ra h => fin_m h0 e hr od hp ra h⟩
/-- y = [..]: the model stores the list within the comprehension -/
theorem qs_lc {i : Nat} {y : Str} (hc : X.calm = true) (hN : X.N.Nodup) (hy : X.N[i]? = some y) (hyl : X.env.scope.names.lookup y = some .local) (hsw : swapsWith (.ListComp elt [⟨tg, iter, ifs, 0⟩] scope pos) (some (.Name y py)) spos.line X.env = pure true)
    (hi : QI X C W tg iter gi) (ok : BlkOk X.N X.env.scope scope own) (hg : Blk X scope fun Y => QG Y tg gg is) (ht : Blk X scope fun Y => QTs Y C noW ifs gt) (he : Blk X scope fun Y => QE Y C noW elt ge)
    (hix : ixs = own.map (·.2) := by rfl) (hsub : ∀ i ∈ is, i ∈ own.map (·.2) := by decide) (hs : ∀ x, foldedSetIterable iter X.env x = pure x := by intro _; rfl) : QS X C W (.Assign [.Name y py] (.ListComp elt [⟨tg, iter, ifs, 0⟩] scope pos) spos) (gAsg (gLc gi gg gt ge ixs) (gTo i)) := by
  subst hix
  obtain ⟨wi, pi, qi⟩ := hi
  refine ⟨_, ps_setLc hc hN hy hyl hsw pi ok (blk_g hg) (blk_t ht) (blk_e he) hs, fun Dd σ H Z ι Γ M sl hr h => ?_⟩
  refine lc_read qi hsub (fin := fun acc M2 => .ok (.lst acc) M2) (fun σ H0 Z0 ι0 M0 p Q acc accV M H Z ι h0 e hr od hp ra h => fin_z h0 e hr od hp ra h) σ H Z ι Γ M _ sl hr (PostS.bind (Γ := Γ) h sl fun x M1 v H1 Z1 ι1 e1 hr1 r1 h1 => ?_)
  exact h1 _ H1 Z1 ι1 .refl hr1 ((sl.ext e1).set i r1)
theorem qs_lcO {i : Nat} {y : Str} (hc : X.calm = true) (hN : X.N.Nodup) (hy : X.N[i]? = some y) (hyl : X.env.scope.names.lookup y = some .local) (hsw : swapsWith (.ListComp elt [⟨tg, iter, ifs, 0⟩] scope pos) (some (.Name y py)) spos.line X.env = pure true)
    (hi : QI X C W tg iter gi) (ok : BlkOk X.N X.env.scope scope own) (hg : Blk X scope fun Y => QG Y tg gg is) (ht : Blk X scope fun Y => QTs Y C noW ifs gt) (he : Blk X scope fun Y => QE Y C noW elt ge)
    (hix : ixs = own.map (·.2) := by rfl) (hsub : ∀ i ∈ is, i ∈ own.map (·.2) := by decide) (hs : ∀ x, foldedSetIterable iter X.env x = pure x := by intro _; rfl) : QS X C W (.Assign [.Name y py] (.ListComp elt [⟨tg, iter, ifs, 0⟩] scope pos) spos) (gAsg (gLcO gi gg gt ge ixs) (gTo i)) := by
  subst hix
  obtain ⟨wi, pi, qi⟩ := hi
  refine ⟨_, ps_setLc hc hN hy hyl hsw pi ok (blk_g hg) (blk_t ht) (blk_e he) hs, fun Dd σ H Z ι Γ M sl hr h => ?_⟩
  refine lc_read qi hsub (fin := fun acc M2 => .ok (.ref M2.length) (M2 ++ [MO.lst acc])) (fun σ H0 Z0 ι0 M0 p Q acc accV M H Z ι h0 e hr od hp ra h => fin_m h0 e hr od hp ra h) σ H Z ι Γ M _ sl hr (PostS.bind (Γ := Γ) h sl fun x M1 v H1 Z1 ι1 e1 hr1 r1 h1 => ?_)
  exact h1 _ H1 Z1 ι1 .refl hr1 ((sl.ext e1).set i r1)
end
end
end Bk

set_option Elab.async false
set_option linter.all false
set_option maxRecDepth 100000
set_option maxHeartbeats 2000000
namespace Bk
open PySem PySem.Spec PyProof.Rows L2

/-! ### calls: what of ours is handed over is lent, and comes back changed -/
/-- the arguments as the callee sees them, and which things of ours are lent -/
def lendA : Nat → List D → List D
  | _, [] => []
  | m, .ref _ :: r => .ref m :: lendA (m + 1) r
  | m, d :: r => d :: lendA m r
def lendK : List D → List Nat
  | [] => []
  | .ref k :: r => k :: lendK r
  | _ :: r => lendK r
def getAll (M : List MO) : List Nat → Option (List MO)
  | [] => some []
  | k :: ks => match M[k]?, getAll M ks with
    | some o, some os => some (o :: os)
    | _, _ => none
def setAll (M : List MO) : List Nat → List MO → List MO
  | k :: ks, o :: os => setAll (M.set k o) ks os
  | _, _ => M
def isDead : MO → Bool
  | .dead => true
  | _ => false
/-- no refs but at the top -/
def flatArgs : List D → Bool
  | [] => true
  | .ref _ :: r => flatArgs r
  | d :: r => below 0 d && flatArgs r
def lentOk (os : List MO) : Bool := os.all fun o => !isDead o && belowO 0 o
def backD (ks : List Nat) (n : Nat) : D → Option D
  | .ref j => if j < ks.length then (ks[j]?).map D.ref else some (.ref (n + (j - ks.length)))
  | d => if below 0 d = true then some d else none
/-- nothing is lent: nothing comes back -/
def callF (F : List D → List MO → R D) (ds : List D) (M : List MO) : R D := match getAll M (lendK ds) with
  | none => .bad
  | some os => if (lendK ds).Nodup ∧ flatArgs ds = true ∧ lentOk os = true then
      match F (lendA 0 ds) os with
      | .ok d os' => if (lendK ds).length ≤ os'.length ∧ os'.all (belowO 0) = true then
          match backD (lendK ds) M.length d with
          | some d' => .ok d' (setAll M (lendK ds) os' ++ os'.drop (lendK ds).length)
          | none => .bad
        else .bad
      | .exc c d os' => if (lendK ds).length ≤ os'.length ∧ os'.all (belowO 0) = true ∧ below 0 d = true then .exc c d (setAll M (lendK ds) os' ++ os'.drop (lendK ds).length) else .bad
      | .bad => .bad
    else .bad
def gCallF (n : Nat) (F : List D → List MO → R D) (ga : GA) : GE := fun Γ M => (ga Γ M).bind fun ds M1 => if ds.length = n then callF F ds M1 else .bad
/-- positional values, then the keywords' values, in the parameters' order -/
def pick {α : Type} (l : List α) : List Nat → List α
  | [] => []
  | i :: is => match l[i]? with
    | some a => a :: pick l is
    | none => pick l is
def gCallK (n : Nat) (F : List D → List MO → R D) (is : List Nat) (ga gk : GA) : GE := fun Γ M => (ga Γ M).bind fun ds M1 => (gk Γ M1).bind fun es M2 => if (pick (ds ++ es) is).length = n then callF F (pick (ds ++ es) is) M2 else .bad

section
variable {K : PySem.W.Frag} {Z : Hp} {ι : Nat → Addr} {n : Nat}
/-- which address stands for which lent thing -/
def lentι (ι : Nat → Addr) (ks : List Nat) : Nat → Addr := fun j => ι (ks.getD j 0)
theorem lend_rps : ∀ (ds : List D) (vs : List V) (pre : List Nat), flatArgs ds = true → Rps K Z ι n ds vs → Rps K Z (lentι ι (pre ++ lendK ds)) (pre ++ lendK ds).length (lendA pre.length ds) vs
  | [], _, _, _, h => by cases h; exact .nil
  | .ref k :: r, _, pre, hf, h => by
    cases h with
    | cons r1 rs =>
      cases r1 with
      | ref hk =>
        have ih := lend_rps r _ (pre ++ [k]) (by simpa [flatArgs] using hf) rs
        have e : pre ++ [k] ++ lendK r = pre ++ lendK (.ref k :: r) := by simp [lendK]
        rw [e] at ih
        have el : (pre ++ [k]).length = pre.length + 1 := by simp
        rw [el] at ih
        refine .cons ?_ ih
        have q : Rp K Z (lentι ι (pre ++ lendK (.ref k :: r))) (pre ++ lendK (.ref k :: r)).length (.ref pre.length) (.ref (lentι ι (pre ++ lendK (.ref k :: r)) pre.length)) := .ref (by simp [lendK])
        have ek : lentι ι (pre ++ lendK (.ref k :: r)) pre.length = ι k := by
          unfold lentι
          congr 1
          simp [lendK]
        rw [ek] at q
        exact q
  | .non :: r, _, pre, hf, h => by
    cases h with
    | cons r1 rs =>
      cases r1
      exact .cons .non (lend_rps r _ pre (by simpa [flatArgs, below] using hf) rs)
  | .bl b :: r, _, pre, hf, h => by
    cases h with
    | cons r1 rs =>
      cases r1
      exact .cons (.bl b) (lend_rps r _ pre (by simpa [flatArgs, below] using hf) rs)
  | .int i :: r, _, pre, hf, h => by
    cases h with
    | cons r1 rs =>
      cases r1
      exact .cons (.int i) (lend_rps r _ pre (by simpa [flatArgs, below] using hf) rs)
  | .str x :: r, _, pre, hf, h => by
    cases h with
    | cons r1 rs =>
      cases r1
      exact .cons (.str x) (lend_rps r _ pre (by simpa [flatArgs, below] using hf) rs)
  | .tup ds :: r, _, pre, hf, h => by
    cases h with
    | cons r1 rs =>
      have hf' : below 0 (.tup ds) = true ∧ flatArgs r = true := by simpa [flatArgs] using hf
      exact .cons (Rp.mono (fun _ _ z => z) (fun k hk => absurd hk (Nat.not_lt_zero _)) (Nat.zero_le _) _ _ (r1.shrink _ _ hf'.1)) (lend_rps r _ pre hf'.2 rs)
  | .lst ds :: r, _, pre, hf, h => by
    cases h with
    | cons r1 rs =>
      have hf' : below 0 (.lst ds) = true ∧ flatArgs r = true := by simpa [flatArgs] using hf
      exact .cons (Rp.mono (fun _ _ z => z) (fun k hk => absurd hk (Nat.not_lt_zero _)) (Nat.zero_le _) _ _ (r1.shrink _ _ hf'.1)) (lend_rps r _ pre hf'.2 rs)
theorem getAll_at {M : List MO} : ∀ {ks : List Nat} {os : List MO}, getAll M ks = some os → os.length = ks.length ∧ ∀ (j : Nat) (o : MO), os[j]? = some o → ∃ k, ks[j]? = some k ∧ M[k]? = some o
  | [], os, h => by
    cases h
    exact ⟨rfl, fun j o e => by simp at e⟩
  | k :: ks, os, h => by
    unfold getAll at h
    cases e1 : M[k]? with
    | none => rw [e1] at h; simp at h
    | some o =>
      cases e2 : getAll M ks with
      | none => rw [e1, e2] at h; simp at h
      | some os' =>
        rw [e1, e2] at h
        cases h
        obtain ⟨l, f⟩ := getAll_at e2
        refine ⟨by simp [l], fun j o' e => ?_⟩
        cases j with
        | zero =>
          simp at e
          subst e
          exact ⟨k, rfl, e1⟩
        | succ j =>
          obtain ⟨k', h1, h2⟩ := f j o' (by simpa using e)
          exact ⟨k', by simpa using h1, h2⟩
theorem setAll_length : ∀ (ks : List Nat) (os : List MO) (M : List MO), (setAll M ks os).length = M.length
  | [], _, _ => by simp [setAll]
  | _ :: _, [], _ => by simp [setAll]
  | k :: ks, o :: os, M => by
    show (setAll (M.set k o) ks os).length = _
    rw [setAll_length ks os, List.length_set]
/-- what stands where, behind -/
theorem setAll_at : ∀ (ks : List Nat) (os : List MO) (M : List MO) (k : Nat) (o : MO), ks.Nodup → ks.length ≤ os.length → (setAll M ks os)[k]? = some o → (k ∉ ks ∧ M[k]? = some o) ∨ ∃ j : Nat, j < ks.length ∧ ks[j]? = some k ∧ os[j]? = some o
  | [], _, M, k, o, _, _, h => .inl ⟨by simp, by simpa [setAll] using h⟩
  | _ :: _, [], _, _, _, _, hl, _ => by simp at hl
  | k0 :: ks, o0 :: os, M, k, o, nd, hl, h => by
    have nd' := List.nodup_cons.mp nd
    rcases setAll_at ks os (M.set k0 o0) k o nd'.2 (by simpa using hl) h with ⟨h1, h2⟩ | ⟨j, h1, h2, h3⟩
    · by_cases e : k0 = k
      · subst e
        have lt : k0 < M.length := by
          have := (List.getElem?_eq_some_iff.mp h2).1
          rw [List.length_set] at this
          exact this
        rw [List.getElem?_set_self lt] at h2
        exact .inr ⟨0, by simp, rfl, by simpa using h2⟩
      · rw [List.getElem?_set_ne e] at h2
        exact .inl ⟨by simp only [List.mem_cons, not_or]; exact ⟨fun z => e z.symm, h1⟩, h2⟩
    · exact .inr ⟨j + 1, by simp; omega, by simpa using h2, by simpa using h3⟩
end
/-- the things that are lent, as the callee has them -/
theorem HR.lend {K : PySem.W.Frag} {H Z : Hp} {ι : Nat → Addr} {M os : List MO} {ks : List Nat} (h : HR K H Z ι M) (nd : ks.Nodup) (g : getAll M ks = some os) (lo : lentOk os = true) : HR K H Z (lentι ι ks) os := by
  obtain ⟨l, f⟩ := getAll_at g
  have at_ : ∀ {j k : Nat}, ks[j]? = some k → lentι ι ks j = ι k := fun {j k} e => by
    unfold lentι
    rw [List.getD_eq_getElem?_getD, e]
    rfl
  have ok : ∀ {j : Nat} {o : MO}, os[j]? = some o → belowO 0 o = true ∧ o ≠ .dead := fun {j o} e => by
    have q := List.all_eq_true.mp lo o (List.mem_of_getElem? e)
    simp only [Bool.and_eq_true, Bool.not_eq_true'] at q
    exact ⟨q.2, fun z => by rw [z] at q; exact absurd q.1 (by simp [isDead])⟩
  refine ⟨h.sub, fun j hj => ?_, fun j o e d => ?_, fun i j o u e1 e2 d1 d2 e => ?_, fun j o e => ?_, fun j e => absurd rfl (ok e).2⟩
  · obtain ⟨k, h1, h2⟩ := f j os[j] (List.getElem?_eq_getElem hj)
    rw [at_ h1]
    exact h.ali k (List.getElem?_eq_some_iff.mp h2).1
  · obtain ⟨k, h1, h2⟩ := f j o e
    rw [at_ h1]
    exact h.sep k o h2 d
  · obtain ⟨k1, a1, b1⟩ := f i o e1
    obtain ⟨k2, a2, b2⟩ := f j u e2
    rw [at_ a1, at_ a2] at e
    have ek := h.inj k1 k2 o u b1 b2 d1 d2 e
    subst ek
    obtain ⟨i1, i2⟩ := List.getElem?_eq_some_iff.mp a1
    obtain ⟨j1, j2⟩ := List.getElem?_eq_some_iff.mp a2
    exact (List.getElem_inj nd).mp (i2.trans j2.symm)
  · obtain ⟨k, h1, h2⟩ := f j o e
    rw [at_ h1]
    have q := h.obj k o h2
    have b := (ok e).1
    cases o with
    | dead => trivial
    | lst ds =>
      obtain ⟨xs, e1, r⟩ := q
      exact ⟨xs, e1, Rps.mono (fun _ _ z => z) (fun _ z => absurd z (Nat.not_lt_zero _)) (Nat.zero_le _) _ _ (Rps.shrink _ _ r b)⟩
/-- where everything stands behind a call -/
def backι (ι ι' : Nat → Addr) (n m : Nat) : Nat → Addr := fun k => if k < n then ι k else ι' (m + (k - n))
theorem HR.back {K : PySem.W.Frag} {H Z H' Z' : Hp} {ι ι' : Nat → Addr} {M os os' : List MO} {ks : List Nat} (h : HR K H Z ι M) (nd : ks.Nodup) (g : getAll M ks = some os) (lo : lentOk os = true) (e : Ext H Z (lentι ι ks) os.length H' Z' ι' os'.length) (h' : HR K H' Z' ι' os')
    (hl : ks.length ≤ os'.length) (hb : os'.all (belowO 0) = true) :
    HR K H' Z' (backι ι ι' M.length ks.length) (setAll M ks os' ++ os'.drop ks.length) ∧ Ext H Z ι M.length H' Z' (backι ι ι' M.length ks.length) (setAll M ks os' ++ os'.drop ks.length).length := by
  obtain ⟨l, f⟩ := getAll_at g
  have ln : (setAll M ks os' ++ os'.drop ks.length).length = M.length + (os'.length - ks.length) := by rw [List.length_append, setAll_length, List.length_drop]
  have bl : ∀ {k : Nat}, k < M.length → backι ι ι' M.length ks.length k = ι k := fun hk => if_pos hk
  have bn : ∀ {k : Nat}, ¬ k < M.length → backι ι ι' M.length ks.length k = ι' (ks.length + (k - M.length)) := fun hk => if_neg hk
  have at_ : ∀ {j k : Nat}, ks[j]? = some k → lentι ι ks j = ι k := fun {j k} e => by
    unfold lentι
    rw [List.getD_eq_getElem?_getD, e]
    rfl
  have at' : ∀ {j k : Nat}, ks[j]? = some k → ι' j = ι k := fun {j k} z => (e.ii j (by rw [l]; exact (List.getElem?_eq_some_iff.mp z).1)).trans (at_ z)
  have cs : ∀ {k : Nat} {o : MO}, (setAll M ks os' ++ os'.drop ks.length)[k]? = some o → (k < M.length ∧ k ∉ ks ∧ M[k]? = some o) ∨ (k < M.length ∧ ∃ j : Nat, ks[j]? = some k ∧ os'[j]? = some o) ∨ (¬ k < M.length ∧ os'[ks.length + (k - M.length)]? = some o) := fun {k o} z => by
    by_cases hk : k < M.length
    · rw [List.getElem?_append_left (by rw [setAll_length]; exact hk)] at z
      rcases setAll_at ks os' M k o nd hl z with ⟨h1, h2⟩ | ⟨j, _, h2, h3⟩
      · exact .inl ⟨hk, h1, h2⟩
      · exact .inr (.inl ⟨hk, j, h2, h3⟩)
    · rw [List.getElem?_append_right (by rw [setAll_length]; exact Nat.le_of_not_lt hk), setAll_length, List.getElem?_drop] at z
      exact .inr (.inr ⟨hk, z⟩)
  have dd : ∀ {j : Nat} {o : MO}, os[j]? = some o → o ≠ .dead := fun {j o} e => by
    have q := List.all_eq_true.mp lo o (List.mem_of_getElem? e)
    simp only [Bool.and_eq_true, Bool.not_eq_true'] at q
    exact fun z => by rw [z] at q; exact absurd q.1 (by simp [isDead])
  -- a live thing that was not lent stands apart from all that were
  have apart : ∀ {k j : Nat} {o : MO}, k ∉ ks → M[k]? = some o → o ≠ .dead → j < os.length → ι k ≠ lentι ι ks j := fun {k j o} hk ho hd hj z => by
    obtain ⟨k', h1, h2⟩ := f j os[j] (List.getElem?_eq_getElem hj)
    rw [at_ h1] at z
    have ek := h.inj k k' o os[j] ho h2 hd (dd (List.getElem?_eq_getElem hj)) z
    subst ek
    exact hk (List.mem_of_getElem? h1)
  have old : ∀ {k : Nat}, k < M.length → ∃ u, H (ι k) = some u := fun hk => h.ali _ hk
  have nw : ∀ {k j : Nat}, k < M.length → os.length ≤ j → j < os'.length → ι k ≠ ι' j := fun {k j} hk h1 h2 z => by
    obtain ⟨u, hu⟩ := old hk
    have w := e.nw j h1 h2
    rw [← z, hu] at w
    cases w
  refine ⟨⟨h'.sub, fun k hk => ?_, fun k o z d => ?_, fun a b o u z1 z2 d1 d2 z => ?_, fun k o z => ?_, fun k z => ?_⟩, e.zz, fun k hk => bl hk, fun a o h1 h2 => e.fr a o h1 fun j hj z => ?_, fun k h1 h2 => ?_, by rw [ln]; omega, fun a o z => ?_⟩
  · by_cases hk' : k < M.length
    · rw [bl hk']
      obtain ⟨u, hu⟩ := old hk'
      by_cases z : ∃ j, j < os.length ∧ ι k = lentι ι ks j
      · obtain ⟨j, hj, z⟩ := z
        rw [z, ← e.ii j hj]
        exact h'.ali j (Nat.lt_of_lt_of_le hj e.ln)
      · exact ⟨u, e.fr _ _ hu fun j hj q => z ⟨j, hj, q⟩⟩
    · rw [bn hk']
      rw [ln] at hk
      exact h'.ali _ (by omega)
  · rcases cs z with ⟨hk, hn, ho⟩ | ⟨hk, j, hj, ho⟩ | ⟨hk, ho⟩
    · rw [bl hk]
      cases q : Z' (ι k) with
      | none => rfl
      | some w =>
        rcases e.zn _ _ q with a | a | ⟨j, hj, a⟩
        · rw [h.sep k o ho d] at a; cases a
        · obtain ⟨u, hu⟩ := old hk
          rw [hu] at a; cases a
        · exact absurd a (apart hn ho d hj)
    · rw [bl hk, ← at' hj]
      exact h'.sep j o ho d
    · rw [bn hk]
      exact h'.sep _ o ho d
  · rcases cs z1 with ⟨ha, hn, ho⟩ | ⟨ha, i, hi, ho⟩ | ⟨ha, ho⟩ <;> rcases cs z2 with ⟨hb', hn', hu⟩ | ⟨hb', j, hj, hu⟩ | ⟨hb', hu⟩
    · rw [bl ha, bl hb'] at z
      exact h.inj a b o u ho hu d1 d2 z
    · rw [bl ha, bl hb'] at z
      exact absurd (z.trans (at_ hj).symm) (apart hn ho d1 (by rw [l]; exact (List.getElem?_eq_some_iff.mp hj).1))
    · rw [bl ha, bn hb'] at z
      exact absurd z (nw ha (by rw [l]; omega) (List.getElem?_eq_some_iff.mp hu).1)
    · rw [bl ha, bl hb'] at z
      exact absurd (z.symm.trans (at_ hi).symm) (apart hn' hu d2 (by rw [l]; exact (List.getElem?_eq_some_iff.mp hi).1))
    · rw [bl ha, bl hb', ← at' hi, ← at' hj] at z
      have ij := h'.inj i j o u ho hu d1 d2 z
      subst ij
      rw [hi] at hj
      exact Option.some.inj hj
    · rw [bl ha, bn hb', ← at' hi] at z
      have ij := h'.inj i _ o u ho hu d1 d2 z
      have := (List.getElem?_eq_some_iff.mp hi).1
      omega
    · rw [bn ha, bl hb'] at z
      exact absurd z.symm (nw hb' (by rw [l]; omega) (List.getElem?_eq_some_iff.mp ho).1)
    · rw [bn ha, bl hb', ← at' hj] at z
      have ij := h'.inj _ j o u ho hu d1 d2 z
      have := (List.getElem?_eq_some_iff.mp hj).1
      omega
    · rw [bn ha, bn hb'] at z
      have ij := h'.inj _ _ o u ho hu d1 d2 z
      omega
  · have low : ∀ {j : Nat} {ds : List D}, os'[j]? = some (.lst ds) → belows 0 ds = true := fun q => List.all_eq_true.mp hb _ (List.mem_of_getElem? q)
    rcases cs z with ⟨hk, hn, ho⟩ | ⟨hk, j, hj, ho⟩ | ⟨hk, ho⟩
    · rw [bl hk]
      have q := h.obj k o ho
      cases o with
      | dead => trivial
      | lst ds =>
        obtain ⟨xs, e1, r⟩ := q
        exact ⟨xs, e.fr _ _ e1 fun j hj => apart hn ho (by simp) hj, Rps.mono e.zz (fun k hk => bl hk) (by rw [ln]; omega) _ _ r⟩
    · rw [bl hk, ← at' hj]
      have q := h'.obj j o ho
      cases o with
      | dead => trivial
      | lst ds =>
        obtain ⟨xs, e1, r⟩ := q
        exact ⟨xs, e1, Rps.mono (fun _ _ z => z) (fun _ z => absurd z (Nat.not_lt_zero _)) (Nat.zero_le _) _ _ (Rps.shrink _ _ r (low ho))⟩
    · rw [bn hk]
      have q := h'.obj _ o ho
      cases o with
      | dead => trivial
      | lst ds =>
        obtain ⟨xs, e1, r⟩ := q
        exact ⟨xs, e1, Rps.mono (fun _ _ z => z) (fun _ z => absurd z (Nat.not_lt_zero _)) (Nat.zero_le _) _ _ (Rps.shrink _ _ r (low ho))⟩
  · rcases cs z with ⟨hk, _, ho⟩ | ⟨hk, j, hj, ho⟩ | ⟨hk, ho⟩
    · rw [bl hk]
      obtain ⟨u, hu⟩ := h.ded k ho
      exact ⟨u, e.zz _ _ hu⟩
    · rw [bl hk, ← at' hj]
      exact h'.ded j ho
    · rw [bn hk]
      exact h'.ded _ ho
  · obtain ⟨k, q1, q2⟩ := f j os[j] (List.getElem?_eq_getElem hj)
    rw [at_ q1] at z
    exact h2 k (List.getElem?_eq_some_iff.mp q2).1 z
  · rw [bn (Nat.not_lt.mpr h1)]
    rw [ln] at h2
    exact e.nw _ (by rw [l]; omega) (by omega)
  · rcases e.zn a o z with q | q | ⟨j, hj, q⟩
    · exact .inl q
    · exact .inr (.inl q)
    · obtain ⟨k, q1, q2⟩ := f j os[j] (List.getElem?_eq_getElem hj)
      rw [at_ q1] at q
      exact .inr (.inr ⟨k, (List.getElem?_eq_some_iff.mp q2).1, q⟩)
theorem backD_rp {K : PySem.W.Frag} {Z' : Hp} {ι ι' : Nat → Addr} {ks : List Nat} {n m N : Nat} {d d' : D} {v : V} (hk : ∀ k ∈ ks, k < n) (hi : ∀ (j k : Nat), ks[j]? = some k → ι' j = ι k) (hN : n + (m - ks.length) ≤ N) (r : Rp K Z' ι' m d v) (h : backD ks n d = some d') :
    Rp K Z' (backι ι ι' n ks.length) N d' v := by
  have flat : ∀ {d : D}, below 0 d = true → Rp K Z' ι' m d v → Rp K Z' (backι ι ι' n ks.length) N d v := fun b r => Rp.mono (fun _ _ z => z) (fun _ z => absurd z (Nat.not_lt_zero _)) (Nat.zero_le _) _ _ (r.shrink _ _ b)
  cases r with
  | ref hj =>
    rename_i j
    have h' : (if j < ks.length then (ks[j]?).map D.ref else some (.ref (n + (j - ks.length)))) = some d' := h
    by_cases hl : j < ks.length
    · rw [if_pos hl, List.getElem?_eq_getElem hl] at h'
      cases h'
      have hk' := hk _ (List.getElem_mem hl)
      have q : Rp K Z' (backι ι ι' n ks.length) N (.ref ks[j]) (.ref (backι ι ι' n ks.length ks[j])) := .ref (by omega)
      rw [show backι ι ι' n ks.length ks[j] = ι' j by unfold backι; rw [if_pos hk']; exact (hi j _ (List.getElem?_eq_getElem hl)).symm] at q
      exact q
    · rw [if_neg hl] at h'
      cases h'
      have q : Rp K Z' (backι ι ι' n ks.length) N (.ref (n + (j - ks.length))) (.ref (backι ι ι' n ks.length (n + (j - ks.length)))) := .ref (by omega)
      rw [show backι ι ι' n ks.length (n + (j - ks.length)) = ι' j by unfold backι; rw [if_neg (by omega)]; congr 1; omega] at q
      exact q
  | non => cases h; exact .non
  | bl b => cases h; exact .bl b
  | int i => cases h; exact .int i
  | str x => cases h; exact .str x
  | tup s r =>
    rename_i ds a xs
    have h' : (if below 0 (.tup ds) = true then some (D.tup ds) else none) = some d' := h
    by_cases b : below 0 (.tup ds) = true
    · rw [if_pos b] at h'
      cases h'
      exact flat b (.tup s r)
    · rw [if_neg b] at h'
      cases h'
  | lst s r =>
    rename_i ds a xs
    have h' : (if below 0 (.lst ds) = true then some (D.lst ds) else none) = some d' := h
    by_cases b : below 0 (.lst ds) = true
    · rw [if_pos b] at h'
      cases h'
      exact flat b (.lst s r)
    · rw [if_neg b] at h'
      cases h'
end Bk

set_option Elab.async false
set_option linter.all false
set_option maxRecDepth 100000
set_option maxHeartbeats 2000000
namespace Bk
open PySem PySem.Spec PyProof.Rows L2

/-! ### defs -/
def PostF (K : PySem.W.Frag) (C : CT) (E : XK) (H Z : Hp) (ι : Nat → Addr) (M : List MO) (r : R D) (Q : VK) : Prop := match r with
  | .ok d M' => ∀ (v : V) (H' Z' : Hp) (ι' : Nat → Addr), Ext H Z ι M.length H' Z' ι' M'.length → HR K H' Z' ι' M' → Rp K Z' ι' M'.length d v → Q v H'
  | .exc c d M' => ∀ (cls : Value) (dd : Option Addr) (H' Z' : Hp) (ι' : Nat → Addr), Ext H Z ι M.length H' Z' ι' M'.length → HR K H' Z' ι' M' → ExcR K C H' Z' ι' M'.length c d cls dd → E cls dd H'
  | .bad => False
/-- the def at f computes F, by at most k calls one in another -/
structure FnQ (P : Program) (w : World) (K : PySem.W.Frag) (mg : Str → Option Value) (base : Heap) (C : CT) (k : Nat) (f : Addr) (fd : FuncData) (ps : List Str) (F : List D → List MO → R D) : Prop where
  run : ∀ (A : Around) (outer : List PySem.Env) (s : Shared) (H : Hp) (args : Args) (us : List Value) (vs : List V) (Q : VK) (E : XK) (ds : List D) (Z : Hp) (ι : Nat → Addr) (M : List MO), Room k A → A.guards = some [] → Env0 P w K mg base A outer s H →
    BindsTo s fd args (ps.zip us) → Vals vs us → vs.length = ps.length → Rps K Z ι M.length ds vs → HR K H Z ι M → PostF K C E H Z ι M (F ds M) Q → codeAny (model P w) A (.call (.ref f) args) (CR (L2.CX P w) outer P w H s Q E) s
theorem FnQ.mono {P : Program} {w : World} {K : PySem.W.Frag} {mg : Str → Option Value} {base : Heap} {C : CT} {j k : Nat} {f : Addr} {fd : FuncData} {ps : List Str} {F : List D → List MO → R D} (x : FnQ P w K mg base C j f fd ps F) (h : j ≤ k) : FnQ P w K mg base C k f fd ps F :=
  ⟨fun A outer s H args us vs Q E ds Z ι M hr => x.run A outer s H args us vs Q E ds Z ι M (hr.mono h)⟩
/-- what a body's end gives the caller: what it made besides is dropped -/
def retR (m : Nat) (M' : List MO) : D → R D
  | .ref k => if k < m then .ok (.ref k) (M'.take m) else match M'[k]? with
    | some (.lst ds) => if belows m ds = true then .ok (.ref m) (M'.take m ++ [.lst ds]) else .bad
    | _ => .bad
  | d => if below m d = true then .ok d (M'.take m) else .bad
def fin (m : Nat) : RS → R D
  | .rt d M' => if m ≤ M'.length ∧ cutOk m M' = true then retR m M' d else .bad
  | .nx _ M' => if m ≤ M'.length ∧ cutOk m M' = true then .ok .non (M'.take m) else .bad
  | .exc c d _ M' => if m ≤ M'.length ∧ cutOk m M' = true ∧ below m d = true then .exc c d (M'.take m) else .bad
  | _ => .bad
/-- a def of n names with the body g -/
def runF (n : Nat) (g : GS) (ds : List D) (M : List MO) : R D := fin M.length (g (ds.map some ++ List.replicate (n - ds.length) none) M)

section
variable {K : PySem.W.Frag} {C : CT} {H Z H' Z' : Hp} {ι ι' : Nat → Addr} {M M' : List MO} {E : XK} {Q : VK}
theorem take_len {α : Type} {l : List α} {m : Nat} (h : m ≤ l.length) : (l.take m).length = m := by rw [List.length_take]; omega
theorem retR_run {d : D} {v : V} (e : Ext H Z ι M.length H' Z' ι' M'.length) (hr : HR K H' Z' ι' M') (r : Rp K Z' ι' M'.length d v) (c1 : M.length ≤ M'.length) (c2 : cutOk M.length M' = true) (h : PostF K C E H Z ι M (retR M.length M' d) Q) : Q v H' := by
  have ln := take_len c1
  have flat : ∀ {d : D}, Rp K Z' ι' M'.length d v → PostF K C E H Z ι M (if below M.length d = true then .ok d (M'.take M.length) else .bad) Q → Q v H' := fun {d} r h => by
    by_cases b : below M.length d = true
    · rw [if_pos b] at h
      exact h v H' Z' ι' (by rw [ln]; exact e.cut (Nat.le_refl _) c1) (hr.cut c1 c2) (by rw [ln]; exact r.shrink _ _ b)
    · rw [if_neg b] at h
      exact h.elim
  cases r with
  | ref hk =>
    rename_i k
    have h2 : PostF K C E H Z ι M (if k < M.length then .ok (.ref k) (M'.take M.length) else match M'[k]? with
      | some (.lst ds) => if belows M.length ds = true then .ok (.ref M.length) (M'.take M.length ++ [.lst ds]) else .bad
      | _ => .bad) Q := h
    by_cases hm : k < M.length
    · rw [if_pos hm] at h2
      exact h2 _ H' Z' ι' (by rw [ln]; exact e.cut (Nat.le_refl _) c1) (hr.cut c1 c2) (by rw [ln]; exact .ref hm)
    · rw [if_neg hm] at h2
      cases e1 : M'[k]? with
      | none => rw [e1] at h2; exact h2.elim
      | some o =>
        rw [e1] at h2
        cases o with
        | dead => exact h2.elim
        | lst ds =>
          have h3 : PostF K C E H Z ι M (if belows M.length ds = true then .ok (.ref M.length) (M'.take M.length ++ [.lst ds]) else .bad) Q := h2
          by_cases b : belows M.length ds = true
          · rw [if_pos b] at h3
            obtain ⟨xs, e2, r2⟩ := hr.obj k _ e1
            have hc := hr.cut c1 c2
            have lk : k < M'.length := (List.getElem?_eq_some_iff.mp e1).1
            have od : Odd Z' ι' (M'.take M.length).length (ι' k) := ⟨hr.sep k _ e1 (by simp), fun j hj => by
              rw [ln] at hj
              exact hr.apart (by omega) e1 (by simp) (by omega)⟩
            have q : Rp K Z' (put ι' (M'.take M.length).length (ι' k)) (M'.take M.length ++ [MO.lst ds]).length (.ref (M'.take M.length).length) (.ref (put ι' (M'.take M.length).length (ι' k) (M'.take M.length).length)) := .ref (by simp)
            rw [put_at] at q
            have n0 : H (ι' k) = none := e.nw k (by omega) lk
            have x := Ext.adoptM (M := M'.take M.length) (ds := ds) (p := ι' k) (by rw [ln]; exact e.cut (Nat.le_refl _) c1) n0
            have z := hc.adoptM od e2 (by rw [ln]; exact Rps.shrink _ _ r2 b)
            have h4 : PostF K C E H Z ι M (.ok (.ref (M'.take M.length).length) (M'.take M.length ++ [.lst ds])) Q := by rw [ln]; exact h3
            exact h4 _ H' Z' _ x z q
          · rw [if_neg b] at h3
            exact h3.elim
  | non => exact flat .non h
  | bl b => exact flat (.bl b) h
  | int i => exact flat (.int i) h
  | str x => exact flat (.str x) h
  | tup s r => exact flat (.tup s r) h
  | lst s r => exact flat (.lst s r) h

theorem fin_run {X : Cx} {W : WX} {r : RS} (hW : ∀ c d σ H, E c d H → W c d σ H) (eK : X.K = K) (h : PostF K C E H Z ι M (fin M.length r) Q) : PostS X C W H Z ι M r { nx := fun _ H' => Q .non H', rt := Q } := by
  subst eK
  cases r with
  | bad => exact h
  | bk Γ M' => exact h.elim
  | ct Γ M' => exact h.elim
  | nx Γ M' =>
    have h2 : PostF X.K C E H Z ι M (if M.length ≤ M'.length ∧ cutOk M.length M' = true then .ok .non (M'.take M.length) else .bad) Q := h
    by_cases c : M.length ≤ M'.length ∧ cutOk M.length M' = true
    · rw [if_pos c] at h2
      intro σ' H' Z' ι' e hr sl
      have ln := take_len c.1
      exact h2 .non H' Z' ι' (by rw [ln]; exact e.cut (Nat.le_refl _) c.1) (hr.cut c.1 c.2) .non
    · rw [if_neg c] at h2
      exact h2.elim
  | rt d M' =>
    have h2 : PostF X.K C E H Z ι M (if M.length ≤ M'.length ∧ cutOk M.length M' = true then retR M.length M' d else .bad) Q := h
    by_cases c : M.length ≤ M'.length ∧ cutOk M.length M' = true
    · rw [if_pos c] at h2
      intro v H' Z' ι' e hr r
      exact retR_run e hr r c.1 c.2 h2
    · rw [if_neg c] at h2
      exact h2.elim
  | exc n d Γ M' =>
    have h2 : PostF X.K C E H Z ι M (if M.length ≤ M'.length ∧ cutOk M.length M' = true ∧ below M.length d = true then .exc n d (M'.take M.length) else .bad) Q := h
    by_cases c : M.length ≤ M'.length ∧ cutOk M.length M' = true ∧ below M.length d = true
    · rw [if_pos c] at h2
      intro cls dd σ' H' Z' ι' e hr sl x
      have ln := take_len c.1
      obtain ⟨x1, a, v, x2, x3, x4⟩ := x
      exact hW _ _ _ _ (h2 cls dd H' Z' ι' (by rw [ln]; exact e.cut (Nat.le_refl _) c.1) (hr.cut c.1 c.2.1) ⟨x1, a, v, x2, x3, by rw [ln]; exact x4.shrink _ _ c.2.2⟩)
    · rw [if_neg c] at h2
      exact h2.elim
theorem slots_start {ds : List D} {vs : List V} {N : List Str} {n : Nat} (r : Rps K Z ι n ds vs) (hl : vs.length ≤ N.length) : Slots K Z ι n (ds.map some ++ List.replicate (N.length - ds.length) none) (L2.start N vs) := by
  have l := r.length
  refine ⟨by unfold L2.start; simp [l], fun i d h => ?_⟩
  by_cases hi : i < ds.length
  · rw [List.getElem?_append_left (by simpa using hi), List.getElem?_map] at h
    cases e : ds[i]? with
    | none => rw [e] at h; cases h
    | some d' =>
      rw [e] at h
      cases h
      obtain ⟨v, e2, r2⟩ := r.get e
      refine ⟨v, ?_, r2⟩
      unfold L2.start
      rw [List.getElem?_append_left (by rw [List.length_map, ← l]; exact hi), List.getElem?_map, e2]
      rfl
  · rw [List.getElem?_append_right (by simpa using Nat.le_of_not_lt hi), List.getElem?_replicate] at h
    split at h <;> cases h
end
section
variable {P : Program} {w : World} {K : PySem.W.Frag} {mg : Str → Option Value} {base : Heap} {C : CT}
/-- THE RULE for a def: its body computes g -/
theorem fq_of {x qual : Str} {st : Stmt} {f : Addr} {fd : FuncData} {N ps : List Str} {k : Nat} {g : GS} (F : Fun K x qual st f fd) (S : FnScope N ps (defScope st))
    (hbody : ∀ (cdv : Value) (A : Around) (outer : List PySem.Env) (s : Shared) (H : Hp) (E : XK), Room k (A.deeper (envOfC qual (defScope st) s.heap.objs.size f cdv)) → A.guards = some [] →
      QSs (cxOf (L2.CX P w) P w K mg base N qual (defScope st) f cdv A outer s H E) C (fun cls d _ H => E cls d H) (defBody st) g) : FnQ P w K mg base C (k + 1) f fd ps (runF N.length g) := by
  obtain ⟨oc, od, kV, doc, pm, an, cdv, ct, osl, rfl, lk, hcd⟩ := F.ex
  refine ⟨fun A outer s H args us vs Q E ds Z ι M room hgu env0 hbind rvs hlen rds hr hpost => ?_⟩
  have hK : K.In s.heap := env0.mod.kin.keeps fun b o z => (env0.bs b o z).1
  have hlim : s.heap.NoLimit := env0.mod.nolimit.keeps fun b o z => (env0.bs b o z).1
  have kinds : ∀ y ∈ ps.zip us, (defScope st).names.lookup y.1 = some .local ∨ ((defScope st).names.lookup y.1 = some .cell ∧ ((cellsFrom (s.heap.objs.size + 1) (defScope st).names []).lookup y.1).isSome = true) := fun y hy => by
    rcases S.par y.1 (List.of_mem_zip (a := y.1) (b := y.2) hy).1 with z | z
    · exact .inl z
    · exact .inr ⟨z, PySem.W.cellsFrom_some _ _ _ (.inl z)⟩
  refine codeAny_call_function room.depth (hK _ _ lk) rfl S.co S.gen rfl (PySem.W.codeRec_of hK hcd) (hbind _ _ _ _ (wpAny_newFunctionEnv_cells S.kind kinds fun env he s1 ic => ?_))
  subst he
  refine ⟨hlim.keeps ic.toInCall.keep, codeAny_func ?_⟩
  obtain ⟨ts, pts, qts⟩ := hbody cdv A outer s H E (room.deeper _) hgu
  have J : Inv (cxOf (L2.CX P w) P w K mg base N qual (defScope st) f cdv A outer s H E) [] (L2.start N vs) H s1 := inv_start S room.hd env0 hlen rvs ic
  have lN : vs.length ≤ N.length := by
    have z := congrArg List.length S.pre
    rw [List.length_take] at z
    omega
  have hq := qts _ (L2.start N vs) H Z ι _ M (slots_start rds lN) hr (fin_run (E := E) (fun _ _ _ _ z => z) rfl hpost)
  refine wpAny_mono (pts.run [] s1 _ H _ J hq) (fun fl s' hs => ?_) fun _ _ hs => hs
  have ends : ∀ {σ' : L2.St} {H' : Hp} {v : V} {u : Value}, Inv (cxOf (L2.CX P w) P w K mg base N qual (defScope st) f cdv A outer s H E) [] σ' H' s' → RelV v u → Q v H' → CE outer P w H s Q u s' :=
    fun {σ' H' v u} J2 rv q => ⟨v, H', J2.os, J2.bare, J2.base, J2.hok, rv, q⟩
  cases fl with
  | ret u => exact let ⟨v, σ', H', J2, rv, q⟩ := hs; ends J2 rv q
  | next => exact let ⟨σ', H', J2, q⟩ := hs; ends (v := V.non) (u := Value.none) J2 rfl q
  | brk => exact let ⟨_, _, _, q⟩ := hs; q.elim
  | cont => exact let ⟨_, _, _, q⟩ := hs; q.elim
end

/-! ### calls of defs -/
section
variable {X : Cx} {C : CT} {W : WX} {k : Nat} {f : Addr} {fd : FuncData} {ps : List Str} {F : List D → List MO → R D} {x : Str} {p pos : Pos} {e : Expr} {es : List Expr} {gs : GA}
/-- what a call asks -/
def rCallQ (K : PySem.W.Frag) (C : CT) (ps : List Str) (F : List D → List MO → R D) (E : XK) (vs : List V) (H : Hp) (Q : VK) : Prop :=
  vs.length = ps.length ∧ ∃ (ds : List D) (Z : Hp) (ι : Nat → Addr) (M : List MO), Rps K Z ι M.length ds vs ∧ HR K H Z ι M ∧ PostF K C E H Z ι M (F ds M) Q
theorem run_q {pins : List (Addr × Obj)} {σ : St} {H : Hp} {s : Shared} {Q : VK} {vs : List V} {us : List Value} {args : Args} (F0 : FnQ X.prog X.w X.K X.mg X.base C k f fd ps F) (hr : Room k X.A) (hgu : X.A.guards = some []) (tk : Takes X W) (I : Inv X pins σ H s)
    (hb : BindsTo s fd args (ps.zip us)) (r : Vals vs us) (h : rCallQ X.K C ps F (WE W σ) vs H Q) : codeAny (model X.prog X.w) X.A (.call (.ref f) args) (fun r s' => match r with
      | .ok (.ret u) => EP X pins σ Q u s'
      | .ok _ => False
      | .error e => X.xe e s') s := by
  obtain ⟨hl, ds, Z, ι, M, rd, hr', hp⟩ := h
  refine codeAny_mono (F0.run X.A X.stack s H args us vs Q (WE W σ) ds Z ι M hr hgu I.env0 hb r hl rd hr' hp) fun r s' hq => ?_
  cases r with
  | error e => exact passAt tk σ pins H s e s' I hq
  | ok fl =>
    cases fl with
    | ret u => exact I.after hq
    | next => exact hq.elim
    | brk => exact hq.elim
    | cont => exact hq.elim
theorem lent_post {σ : St} {H Z : Hp} {ι : Nat → Addr} {ds : List D} {vs : List V} {M : List MO} {Q : VK} (hr : HR X.K H Z ι M) (r : Rps X.K Z ι M.length ds vs) (hl : vs.length = ps.length) (h : Post X C W (rpE X.K) σ H Z ι M (callF F ds M) Q) : rCallQ X.K C ps F (WE W σ) vs H Q := by
  unfold callF at h
  cases eg : getAll M (lendK ds) with
  | none => rw [eg] at h; exact h.elim
  | some os =>
    rw [eg] at h
    simp only at h
    by_cases c : (lendK ds).Nodup ∧ flatArgs ds = true ∧ lentOk os = true
    · rw [if_pos c] at h
      obtain ⟨l, fa⟩ := getAll_at eg
      have r2 := lend_rps ds vs [] c.2.1 r
      simp only [List.nil_append, List.length_nil] at r2
      rw [← l] at r2
      have hr2 := hr.lend c.1 eg c.2.2
      refine ⟨hl, lendA 0 ds, Z, lentι ι (lendK ds), os, r2, hr2, ?_⟩
      have kl : ∀ k ∈ lendK ds, k < M.length := fun k hk => by
        obtain ⟨j, hj, ej⟩ := List.mem_iff_getElem.mp hk
        obtain ⟨k', q1, q2⟩ := fa j os[j] (List.getElem?_eq_getElem (by rw [l]; exact hj))
        rw [List.getElem?_eq_getElem hj] at q1
        cases q1
        rw [← ej]
        exact (List.getElem?_eq_some_iff.mp q2).1
      cases eF : F (lendA 0 ds) os with
      | bad => rw [eF] at h; exact h.elim
      | exc n d os' =>
        rw [eF] at h
        simp only at h
        by_cases c2 : (lendK ds).length ≤ os'.length ∧ os'.all (belowO 0) = true ∧ below 0 d = true
        · rw [if_pos c2] at h
          intro cls dd H' Z' ι' e' hr' x
          obtain ⟨b1, b2⟩ := hr.back c.1 eg c.2.2 e' hr' c2.1 c2.2.1
          obtain ⟨x1, a, v, x2, x3, x4⟩ := x
          exact h cls dd H' Z' _ b2 b1 ⟨x1, a, v, x2, x3, Rp.mono (fun _ _ z => z) (fun _ z => absurd z (Nat.not_lt_zero _)) (Nat.zero_le _) _ _ (x4.shrink _ _ c2.2.2)⟩
        · rw [if_neg c2] at h
          exact h.elim
      | ok d os' =>
        rw [eF] at h
        simp only at h
        by_cases c2 : (lendK ds).length ≤ os'.length ∧ os'.all (belowO 0) = true
        · rw [if_pos c2] at h
          intro v H' Z' ι' e' hr' x
          obtain ⟨b1, b2⟩ := hr.back c.1 eg c.2.2 e' hr' c2.1 c2.2
          cases eb : backD (lendK ds) M.length d with
          | none => rw [eb] at h; exact h.elim
          | some d' =>
            rw [eb] at h
            have ln : (setAll M (lendK ds) os' ++ os'.drop (lendK ds).length).length = M.length + (os'.length - (lendK ds).length) := by rw [List.length_append, setAll_length, List.length_drop]
            refine h v H' Z' _ b2 b1 (backD_rp kl (fun j k q => ?_) (by rw [ln]; exact Nat.le_refl _) x eb)
            rw [e'.ii j (by rw [l]; exact (List.getElem?_eq_some_iff.mp q).1)]
            unfold lentι
            rw [List.getD_eq_getElem?_getD, q]
            rfl
        · rw [if_neg c2] at h
          exact h.elim
    · rw [if_neg c] at h
      exact h.elim
/-- the callee runs, its arguments bound -/
theorem run_call {pins : List (Addr × Obj)} {σ : St} {H : Hp} {s : Shared} {Q : VK} {vs : List V} {us ts : List Value} {kw : List (Str × Value)} (F0 : FnQ X.prog X.w X.K X.mg X.base C k f fd ps F) (hr : Room k X.A) (hgu : X.A.guards = some []) (tk : Takes X W) (I : Inv X pins σ H s)
    (hb : BindsTo s fd ⟨us, kw⟩ (ps.zip ts)) (r : Vals vs ts) (h : rCallQ X.K C ps F (WE W σ) vs H Q) : wpAny (model X.prog X.w) X.A (call (.ref f) us kw) (EP X pins σ Q) X.xe s :=
  wpAny_call (codeAny_mono (run_q F0 hr hgu tk I hb r h) fun r s' hq => by
    cases r with
    | error e => exact hq
    | ok fl =>
      cases fl with
      | ret u => exact hq
      | next => exact hq.elim
      | brk => exact hq.elim
      | cont => exact hq.elim)
/-- f(e, ..) -/
theorem qe_call {n : Nat} (F0 : FnQ X.prog X.w X.K X.mg X.base C k f fd ps F) (hr : Room k X.A) (hgu : X.A.guards = some []) (tk : Takes X W) (hg : Gl X x) (hm : X.mg x = some (.ref f)) (hk : PySem.W.keepIn X.K (.ref f) = true) (hb : Binds X.K fd ps []) (ha : QA X C W (e :: es) gs) (hn : n = ps.length := by rfl)
    (hdb : (x == ("__debug__" : Str)) = false := by decide) (he : starEach (e :: es) X.env = (false, eval e X.env) :: starEach es X.env := by rfl) (hpl : (backTo pos (starEach es X.env)).any (·.1) = false := by rfl) :
    QE X C W (.Call (.Name x p) (e :: es) [] pos) (gCallF n F gs) := by
  subst hn
  obtain ⟨ta, pa, qa⟩ := ha
  refine ⟨fun σ H Q => ta σ H fun vs H1 => rCallQ X.K C ps F (WE W σ) vs H1 Q, ⟨fun pins s σ H Q I h => wpAny_Call_Name_kw (ld_glob I hg hm ?_ hdb)⟩, fun σ H Z ι Γ M Q sl hr h => qa σ H Z ι Γ M _ sl hr (h.bind fun ds M1 vs H1 Z1 ι1 e1 hr1 r1 h1 => ?_)⟩
  · refine PySem.W.callWith_K (h₀ := X.base) I.ok.mod.kin hk (thn (pa.run pos pins s σ H _ I h) fun us s1 hh => ?_) he hpl
    obtain ⟨vs, H1, J, r, q⟩ := hh
    have hl : us.length = ps.length := r.length.symm.trans q.1
    have hbb := hb s1 us J.kIn (by rw [List.append_nil]; exact hl)
    rw [List.append_nil] at hbb
    exact ⟨J.kIn, run_call F0 hr hgu tk J hbb r q⟩
  · by_cases c : ds.length = ps.length
    · rw [if_pos c] at h1
      exact lent_post hr1 r1 (by rw [← r1.length]; exact c) h1
    · rw [if_neg c] at h1
      exact h1.elim
theorem qe_call0 {n : Nat} (F0 : FnQ X.prog X.w X.K X.mg X.base C k f fd ps F) (hr : Room k X.A) (hgu : X.A.guards = some []) (tk : Takes X W) (hg : Gl X x) (hm : X.mg x = some (.ref f)) (hk : PySem.W.keepIn X.K (.ref f) = true) (hb : Binds X.K fd ps []) (hn : n = ps.length := by rfl)
    (hdb : (x == ("__debug__" : Str)) = false := by decide) : QE X C W (.Call (.Name x p) [] [] pos) (gCallF n F gNil) := by
  subst hn
  refine ⟨fun σ H Q => rCallQ X.K C ps F (WE W σ) [] H Q, ⟨fun pins s σ H Q I h => wpAny_Call_Name_kw (ld_glob I hg hm (PySem.W.callWith_K0 I.kIn hk ?_) hdb)⟩, fun σ H Z ι Γ M Q sl hr h => ?_⟩
  · have hbb := hb s [] I.kIn (by simpa using h.1)
    exact run_call (us := []) (ts := []) F0 hr hgu tk I (by simpa using hbb) .nil h
  · have h1 : Post X C W (rpE X.K) σ H Z ι M (if ([] : List D).length = ps.length then callF F [] M else .bad) Q := h
    by_cases c : ([] : List D).length = ps.length
    · rw [if_pos c] at h1
      exact lent_post hr .nil c h1
    · rw [if_neg c] at h1
      exact h1.elim
theorem vals_pick {vs : List V} {us : List Value} (r : Vals vs us) : ∀ is : List Nat, Vals (pick vs is) (pick us is)
  | [] => .nil
  | i :: is => by
    unfold pick
    cases e : vs[i]? with
    | none =>
      rw [r.none_of e]
      exact vals_pick r is
    | some v =>
      obtain ⟨u, e2, r2⟩ := r.get e
      rw [e2]
      exact .cons r2 (vals_pick r is)
theorem rps_pick {K : PySem.W.Frag} {Z : Hp} {ι : Nat → Addr} {n : Nat} {ds : List D} {vs : List V} (r : Rps K Z ι n ds vs) : ∀ is : List Nat, Rps K Z ι n (pick ds is) (pick vs is)
  | [] => .nil
  | i :: is => by
    unfold pick
    cases e : ds[i]? with
    | none =>
      have l := r.length
      have : vs[i]? = none := by
        rw [List.getElem?_eq_none_iff] at e ⊢
        omega
      rw [this]
      exact rps_pick r is
    | some d =>
      obtain ⟨v, e2, r2⟩ := r.get e
      rw [e2]
      exact .cons r2 (rps_pick r is)
/-- how a call with keywords binds -/
def KwBinds (K : PySem.W.Frag) (fd : FuncData) (ps ks : List Str) (np : Nat) (is : List Nat) : Prop := ∀ (s : Shared) (us ws : List Value), K.In s.heap → us.length = np → ws.length = ks.length → BindsTo s fd ⟨us, ks.zip ws⟩ (ps.zip (pick (us ++ ws) is))
def QK (X : Cx) (C : CT) (W : WX) (es : List Keyword) (g : GA) : Prop := ∃ te, PK X es te ∧ ∀ (σ : St) (H Z : Hp) (ι : Nat → Addr) (Γ : Env) (M : List MO) (Q : List V → Hp → Prop), Slots X.K Z ι M.length Γ σ → HR X.K H Z ι M → Post X C W (rpA X.K) σ H Z ι M (g Γ M) Q → te σ H Q
theorem qk_nil : QK X C W [] gNil := ⟨_, pk_nil, fun σ H Z ι Γ M Q sl hr h => h [] H Z ι .refl hr .nil⟩
theorem qk_cons {nm : Option Str} {kpos : Pos} {kws : List Keyword} {g : GE} (ha : QE X C W e g) (hb : QK X C W kws gs) : QK X C W (⟨nm, e, kpos⟩ :: kws) (gCons g gs) := by
  obtain ⟨ta, pa, qa⟩ := ha
  obtain ⟨tb, pb, qb⟩ := hb
  exact ⟨_, pk_cons pa pb, fun σ H Z ι Γ M Q sl hr h => qa σ H Z ι Γ M _ sl hr (h.bind fun x M1 v H1 Z1 ι1 e1 hr1 r1 h1 => qb σ H1 Z1 ι1 Γ M1 _ (sl.ext e1) hr1 (h1.bind fun y M2 u H2 Z2 ι2 e2 hr2 r2 h2 => h2 _ H2 Z2 ι2 .refl hr2 (.cons (r1.ext e2) r2)))⟩
variable {kws : List Keyword} {gk : GA} {ks : List Str} {is : List Nat} {np : Nat}
/-- f(k = v, ..) -/
theorem qe_callK0 {n : Nat} (F0 : FnQ X.prog X.w X.K X.mg X.base C k f fd ps F) (hr : Room k X.A) (hgu : X.A.guards = some []) (tk : Takes X W) (hg : Gl X x) (hm : X.mg x = some (.ref f)) (hk : PySem.W.keepIn X.K (.ref f) = true) (hb : KwBinds X.K fd ps ks 0 is) (hkw : QK X C W kws gk)
    (hlen : ∀ (Γ : Env) (M M' : List MO) (ds : List D), gk Γ M = .ok ds M' → ds.length = ks.length) (hn : n = ps.length := by rfl)
    (hall : (backToKw pos (keywordEach kws X.env)).all (·.1.isSome) = true := by rfl) (hks : (backToKw pos (keywordEach kws X.env)).filterMap (·.1) = ks := by rfl) (hdb : (x == ("__debug__" : Str)) = false := by decide)
    (hpl : ((backTo pos (starEach [] X.env)).any (·.1) || (backToKw pos (keywordEach kws X.env)).any (·.1.isNone)) = false := by rfl) :
    QE X C W (.Call (.Name x p) [] kws pos) (gCallK n F is gNil gk) := by
  subst hn
  obtain ⟨tk', pk, qk⟩ := hkw
  refine ⟨fun σ H Q => tk' σ H fun zs H2 => zs.length = ks.length ∧ rCallQ X.K C ps F (WE W σ) (pick zs is) H2 Q, ⟨fun pins s σ H Q I h => wpAny_Call_Name_kw (ld_glob I hg hm ?_ hdb)⟩, fun σ H Z ι Γ M Q sl hr h => ?_⟩
  · refine PySem.W.callWith_KW0 (h₀ := X.base) I.ok.mod.kin hk hall (thn (pk.run pos pins s σ H _ I h) fun ws s2 hh => ?_) hpl
    obtain ⟨zs, H2, J, r, hz, q⟩ := hh
    have hl : ws.length = ks.length := r.length.symm.trans hz
    refine ⟨J.kIn, ?_⟩
    rw [hks]
    exact run_call (us := []) F0 hr hgu tk J (by simpa using hb s2 [] ws J.kIn rfl hl) (vals_pick r is) q
  · have h1 : Post X C W (rpE X.K) σ H Z ι M ((gk Γ M).bind fun es M2 => if (pick ([] ++ es) is).length = ps.length then callF F (pick ([] ++ es) is) M2 else .bad) Q := h
    cases eg : gk Γ M with
    | bad => rw [eg] at h1; exact h1.elim
    | exc c d M' =>
      refine qk σ H Z ι Γ M _ sl hr ?_
      rw [eg] at h1 ⊢
      exact h1
    | ok es M' =>
      refine qk σ H Z ι Γ M _ sl hr ?_
      have hle := hlen _ _ _ _ eg
      rw [eg] at h1 ⊢
      intro vs H1 Z1 ι1 e1 hr1 r1
      have h2 : Post X C W (rpE X.K) σ H Z ι M (if (pick es is).length = ps.length then callF F (pick es is) M' else .bad) Q := h1
      have r2 := rps_pick r1 is
      refine ⟨by rw [← r1.length]; exact hle, ?_⟩
      by_cases c : (pick es is).length = ps.length
      · rw [if_pos c] at h2
        exact lent_post hr1 r2 (by rw [← r2.length]; exact c) (Post.shift h2 e1 hr1)
      · rw [if_neg c] at h2
        exact h2.elim
/-- f(e, .., k = v, ..) -/
theorem qe_callK {n : Nat} (F0 : FnQ X.prog X.w X.K X.mg X.base C k f fd ps F) (hr : Room k X.A) (hgu : X.A.guards = some []) (tk : Takes X W) (hg : Gl X x) (hm : X.mg x = some (.ref f)) (hk : PySem.W.keepIn X.K (.ref f) = true) (hb : KwBinds X.K fd ps ks np is) (ha : QA X C W (e :: es) gs) (hkw : QK X C W kws gk)
    (hlen : ∀ (Γ : Env) (M M' : List MO) (ds : List D), gk Γ M = .ok ds M' → ds.length = ks.length) (hlen1 : ∀ (Γ : Env) (M M' : List MO) (ds : List D), gs Γ M = .ok ds M' → ds.length = np) (hn : n = ps.length := by rfl)
    (hall : (backToKw pos (keywordEach kws X.env)).all (·.1.isSome) = true := by rfl) (hks : (backToKw pos (keywordEach kws X.env)).filterMap (·.1) = ks := by rfl) (hdb : (x == ("__debug__" : Str)) = false := by decide)
    (he : starEach (e :: es) X.env = (false, eval e X.env) :: starEach es X.env := by rfl) (hpl : ((backTo pos (starEach (e :: es) X.env)).any (·.1) || (backToKw pos (keywordEach kws X.env)).any (·.1.isNone)) = false := by rfl) :
    QE X C W (.Call (.Name x p) (e :: es) kws pos) (gCallK n F is gs gk) := by
  subst hn
  obtain ⟨ta, pa, qa⟩ := ha
  obtain ⟨tk', pk, qk⟩ := hkw
  refine ⟨fun σ H Q => ta σ H fun vs H1 => tk' σ H1 fun zs H2 => vs.length = np ∧ zs.length = ks.length ∧ rCallQ X.K C ps F (WE W σ) (pick (vs ++ zs) is) H2 Q, ⟨fun pins s σ H Q I h => wpAny_Call_Name_kw (ld_glob I hg hm ?_ hdb)⟩, fun σ H Z ι Γ M Q sl hr h => ?_⟩
  · refine PySem.W.callWith_KW (h₀ := X.base) I.ok.mod.kin hk hall (thn (pa.run pos pins s σ H _ I h) fun us s1 hh => ?_) hpl he
    obtain ⟨vs, H1, J1, r1, q1⟩ := hh
    refine thn (pk.run pos pins s1 σ H1 _ J1 q1) fun ws s2 hh => ?_
    obtain ⟨zs, H2, J, r, hv, hz, q⟩ := hh
    refine ⟨J.kIn, ?_⟩
    rw [hks]
    exact run_call (us := us) F0 hr hgu tk J (hb s2 us ws J.kIn (r1.length.symm.trans hv) (r.length.symm.trans hz)) (vals_pick (r1.append r) is) q
  · have h1 : Post X C W (rpE X.K) σ H Z ι M ((gs Γ M).bind fun ds M1 => (gk Γ M1).bind fun es M2 => if (pick (ds ++ es) is).length = ps.length then callF F (pick (ds ++ es) is) M2 else .bad) Q := h
    cases eg : gs Γ M with
    | bad => rw [eg] at h1; exact h1.elim
    | exc c d M' =>
      refine qa σ H Z ι Γ M _ sl hr ?_
      rw [eg] at h1 ⊢
      exact h1
    | ok ds M' =>
      refine qa σ H Z ι Γ M _ sl hr ?_
      have hld := hlen1 _ _ _ _ eg
      rw [eg] at h1 ⊢
      intro vs H1 Z1 ι1 e1 hr1 r1
      have h2 : Post X C W (rpE X.K) σ H Z ι M ((gk Γ M').bind fun es M2 => if (pick (ds ++ es) is).length = ps.length then callF F (pick (ds ++ es) is) M2 else .bad) Q := h1
      have h3 := Post.shift h2 e1 hr1
      cases eg2 : gk Γ M' with
      | bad => rw [eg2] at h3; exact h3.elim
      | exc c d M2 =>
        refine qk σ H1 Z1 ι1 Γ M' _ (sl.ext e1) hr1 ?_
        rw [eg2] at h3 ⊢
        exact h3
      | ok es M2 =>
        refine qk σ H1 Z1 ι1 Γ M' _ (sl.ext e1) hr1 ?_
        have hle := hlen _ _ _ _ eg2
        rw [eg2] at h3 ⊢
        intro zs H2 Z2 ι2 e2 hr2 r2
        have h4 : Post X C W (rpE X.K) σ H1 Z1 ι1 M' (if (pick (ds ++ es) is).length = ps.length then callF F (pick (ds ++ es) is) M2 else .bad) Q := h3
        have r3 := rps_pick ((r1.ext e2).append r2) is
        refine ⟨by rw [← r1.length]; exact hld, by rw [← r2.length]; exact hle, ?_⟩
        by_cases c : (pick (ds ++ es) is).length = ps.length
        · rw [if_pos c] at h4
          exact lent_post hr2 r3 (by rw [← r3.length]; exact c) (Post.shift h4 e2 hr2)
        · rw [if_neg c] at h4
          exact h4.elim
end
/-- an argument list's length -/
theorem gNil_len {Γ : Env} {M M' : List MO} {ds : List D} (h : gNil Γ M = .ok ds M') : ds.length = 0 := by cases h; rfl
theorem gCons_len {g : GE} {gs : GA} {n : Nat} (hs : ∀ (Γ : Env) (M M' : List MO) (ds : List D), gs Γ M = .ok ds M' → ds.length = n) (Γ : Env) (M M' : List MO) (ds : List D) (h : gCons g gs Γ M = .ok ds M') : ds.length = n + 1 := by
  unfold gCons at h
  cases e : g Γ M with
  | bad => rw [e] at h; cases h
  | exc c d M1 => rw [e] at h; cases h
  | ok d M1 =>
    rw [e] at h
    have h2 : ((gs Γ M1).bind fun xs M2 => (.ok (d :: xs) M2 : R (List D))) = .ok ds M' := h
    cases e2 : gs Γ M1 with
    | bad => rw [e2] at h2; cases h2
    | exc c d M1 => rw [e2] at h2; cases h2
    | ok xs M2 =>
      rw [e2] at h2
      cases h2
      rw [List.length_cons, hs _ _ _ _ e2]
end Bk

set_option Elab.async false
set_option linter.all false
set_option maxRecDepth 100000
set_option maxHeartbeats 2000000
namespace Bk
open PySem PySem.Spec PyProof.Rows L2

/-! ### the law's own call -/
theorem no_cx {P : Program} {w : World} {outer : List PySem.Env} {H : Hp} {s s' : Shared} {u : Value} : ¬ L2.CX P w outer H s (fun _ _ _ => False) u s' := by
  intro h
  unfold L2.CX at h
  simp_all
theorem rps_ints {K : PySem.W.Frag} {Z : Hp} {ι : Nat → Addr} {n : Nat} (is : List Int) : Rps K Z ι n (is.map D.int) (is.map V.int) := Rps.of_ints is
theorem law_q {P : Program} {w : World} {K : PySem.W.Frag} {mg mb : Str → Option Value} {C : CT} {k : Nat} {fa a : Addr} {fd : FuncData} {x : Str} {F : List D → List MO → R D} {s₁ : Shared} {vs : List Value} {ns : List Int}
    (KX : K.In s₁.heap) (hns : s₁.heap.Ns mainGlobals mg) (hb : s₁.heap.Ns builtinsNs mb) (hbb : ∀ x : Str, x ≠ "__name__" → mb x = bootBuiltins x) (hlim : s₁.heap.NoLimit) (hg : s₁.gens = #[])
    (ha : s₁.heap.get? a = some { cls := .type "list", data := .seq vs.toArray }) (hi : IntsAre vs ns) (hl : ns.length ≤ sizeLine) (hr : Room k callerA)
    (hF : ∀ base : Heap, K.In base → base.Ns mainGlobals mg → FnQ P w K mg base C k fa fd [x] F) (hbind : ∀ (s : Shared) (u : Value), BindsTo s fd ⟨[u], []⟩ [(x, u)]) (hlaw : F [.lst (ns.map D.int)] [] = .ok (.bl true) []) :
    codeAny (model P w) callerA (.call (.ref fa) ⟨[.ref a], []⟩) (fun r s' => r = .ok (.ret (.bool true)) ∧ OldK s₁.heap s'.heap ∧ s'.os = s₁.os ∧ AllBare s'.gens) s₁ := by
  have hvals := vals_ints hi
  have hlen := hi.length
  have main : ∀ H : Hp, Only H → ExL K H a (ns.map V.int) → HOk P w H s₁.heap → (∀ b, H b ≠ none → b = a) → (H a ≠ none → K.lookup a = none) →
      codeAny (model P w) callerA (.call (.ref fa) ⟨[.ref a], []⟩) (fun r s' => r = .ok (.ret (.bool true)) ∧ OldK s₁.heap s'.heap ∧ s'.os = s₁.os ∧ AllBare s'.gens) s₁ := by
    intro H only seq hok alone apart
    have free : ∀ {b : Addr} {o : Obj} {es : Array DictEntry} {ep : Nat}, s₁.heap.get? b = some o → o.data = .dict es ep → H b = none := fun {b o es ep} e d => by
      refine Classical.byContradiction fun z => ?_
      have eb : b = a := alone b z
      rw [eb, ha] at e
      cases e
      cases (show Data.seq vs.toArray _ = Data.dict es ep from d)
    have stays : ∀ {b : Addr} {m : Str → Option Value}, s₁.heap.Ns b m → (hidT s₁.heap H).Ns b m := fun {b m} z =>
      let ⟨o, es, ep, e, d, r⟩ := z
      ⟨o, es, ep, hidT_get e (free e d), d, r⟩
    have kin : K.In (hidT s₁.heap H) := fun b o e => hidT_get (KX b o e) (by
      refine Classical.byContradiction fun z => ?_
      have eb : b = a := alone b z
      subst eb
      rw [apart z] at e
      cases e)
    have hmod : Mod K mg (hidT s₁.heap H) := ⟨kin, stays hns, ⟨mb, stays hb, hbb⟩, let ⟨m, h1, h2⟩ := hlim; ⟨m, stays h1, h2⟩⟩
    have env0 : Env0 P w K mg (hidT s₁.heap H) callerA [] s₁ H :=
      ⟨rfl, hmod, fun b o e => of_hidT e, Nat.le_of_eq (hidT_size _ _), trivial, fun b z => absurd (show b ∈ ([] : List Addr) from z) (by simp), hok, AllBare.of_eq hg⟩
    have hr0 : HR K H H (fun _ => 0) [] := ⟨fun _ _ h => h, fun k h => absurd h (Nat.not_lt_zero _), fun k o h => by simp at h, fun j k o u h => by simp at h, fun k o h => by simp at h, fun k h => by simp at h⟩
    refine codeAny_mono ((hF _ kin (stays hns)).run callerA [] s₁ H ⟨[.ref a], []⟩ [.ref a] [.ref a] (fun v _ => v = .bl true) (fun _ _ _ => False) [.lst (ns.map D.int)] H (fun _ => 0) [] hr rfl env0 (hbind s₁ (.ref a)) (.cons rfl .nil) rfl
      (.cons (.lst seq (rps_ints ns)) .nil) hr0 ?_) fun r s' h => ?_
    · rw [hlaw]
      intro v H' Z' ι' _ _ rv
      cases rv
      rfl
    · cases r with
      | error e => exact absurd h no_cx
      | ok fl =>
        cases fl with
        | next => exact h.elim
        | brk => exact h.elim
        | cont => exact h.elim
        | ret u =>
          obtain ⟨v, H', os, bare, un, hok', rv, q⟩ := h
          obtain rfl : v = .bl true := q
          obtain rfl : u = Value.bool true := rv
          refine ⟨rfl, .of_keep fun b o e => ?_, os, bare⟩
          cases hb2 : H b with
          | none => exact un.keep b o e hb2 (fun z => absurd (show b ∈ ([] : List Addr) from z) (by simp)) (by simp)
          | some u =>
            rcases only b with z | ⟨ob, xs, z⟩
            · rw [hb2] at z
              cases z
            · have e1 := (hok b _ z).1
              have e2 := (hok' b _ (un.frzs b ob _ z)).1
              rw [e] at e1
              cases e1
              exact e2
  cases hk : K.lookup a with
  | some o =>
    have e := KX a o hk
    rw [ha] at e
    cases e
    exact main (fun _ => none) (fun _ => .inl rfl) (.inr ⟨vs.toArray, _, hk, by rw [List.size_toArray, hlen]; exact hl, by simpa using hvals⟩) (fun b u z => absurd z (by simp)) (fun b z => absurd rfl z) fun z => absurd rfl z
  | none =>
    have at_ : ∀ b u, (if b = a then some (HO.frz { cls := .type "list", data := .seq vs.toArray } (.lst (ns.map V.int))) else none) = some u → b = a ∧ u = HO.frz { cls := .type "list", data := .seq vs.toArray } (.lst (ns.map V.int)) := fun b u z => by
      by_cases hb : b = a
      · rw [if_pos hb] at z
        exact ⟨hb, (Option.some.inj z).symm⟩
      · rw [if_neg hb] at z
        cases z
    refine main (fun b => if b = a then some (.frz { cls := .type "list", data := .seq vs.toArray } (.lst (ns.map V.int))) else none) (fun b => ?_) (.inl (.inr ⟨_, if_pos rfl⟩)) (fun b u z => ?_) (fun b z => ?_) fun _ => hk
    · by_cases hb : b = a
      · exact .inr ⟨_, _, if_pos hb⟩
      · exact .inl (if_neg hb)
    · obtain ⟨rfl, rfl⟩ := at_ b u z
      exact ⟨ha, by rw [List.length_map]; exact hl, vs, _, hvals, ha⟩
    · exact Classical.byContradiction fun hb => z (if_neg hb)
/-- what k_head leaves -/
theorem walk_q {l : PySem.W.OpenLaw} {n k : Nat} {q : Program} {loose : List Str} {XP : (Str → Option Value) → Heap → Prop} {YP : World → Heap → Prop} {d : DefRec} {K : Params → PySem.W.Frag} {x : Str} {F : List D → List MO → R D}
    (hn : l.most = some n) (hn2 : n ≤ sizeLine) (hdf : d.params.defaults = []) (hr : Room k callerA) (hY : ∀ (w : World) (h : Heap), YP w h → (K w.params).In h)
    (hF : ∀ (w : World) (mg : Str → Option Value) (fa : Addr) (h : Heap), (K w.params).In h → h.Ns mainGlobals mg → mg d.name = some (.ref fa) →
      ∃ (fd : FuncData) (C : CT), (∀ (s : Shared) (u : Value), BindsTo s fd ⟨[u], []⟩ [(x, u)]) ∧ ∀ base : Heap, (K w.params).In base → base.Ns mainGlobals mg → FnQ l.prog w (K w.params) mg base C k fa fd [x] F)
    (hlaw : ∀ ns : List Int, ns.length ≤ n → F [.lst (ns.map D.int)] [] = .ok (.bl true) []) :
    PySem.W.WalkO q loose XP YP l.row.toRowW d [] (fun f vs => PySem.call f vs) := by
  refine Att.attach_call hn hdf fun w s₀ s₁ mg mb fa o pm cd doc a vs ns G Y ho hd hcd hmg hobj hints hlen hg => ?_
  have kx := hY w _ Y
  obtain ⟨fd, C, hb, hF'⟩ := hF w mg fa _ kx G.T.g hmg
  exact law_q kx G.T.g G.T.b G.T.builtins G.T.nolimit hg hobj hints (Nat.le_trans hlen hn2) hr hF' hb (hlaw ns hlen)
end Bk

set_option Elab.async false
set_option linter.all false
set_option maxRecDepth 100000
set_option maxHeartbeats 2000000
namespace Bk
open PySem PySem.Spec PyProof.Rows L2

/-! ### what operations compute -/
def listD (M : List MO) : D → Option (List D)
  | .lst ds => some ds
  | .ref k => match M[k]? with
    | some (.lst ds) => some ds
    | _ => none
  | _ => none
def tupD : D → Option (List D)
  | .tup ds => some ds
  | _ => none
def itemsD (M : List MO) : D → Option (List D)
  | .tup ds => some ds
  | d => listD M d
section
variable {K : PySem.W.Frag} {H Z : Hp} {ι : Nat → Addr} {M : List MO} {d : D} {ds : List D} {v : V}
theorem listD_run (hr : HR K H Z ι M) (r : Rp K Z ι M.length d v) (h : listD M d = some ds) : ∃ a xs, v = .ref a ∧ ExL K H a xs ∧ Rps K Z ι M.length ds xs := by
  cases r with
  | lst s r =>
    cases h
    exact ⟨_, _, rfl, subL hr.sub s, r⟩
  | ref hk =>
    rename_i k
    have h' : (match M[k]? with
      | some (.lst ds) => some ds
      | _ => none) = some ds := h
    cases e : M[k]? with
    | none => rw [e] at h'; cases h'
    | some o =>
      rw [e] at h'
      cases o with
      | dead => cases h'
      | lst es =>
        cases h'
        obtain ⟨xs, e1, r1⟩ := hr.obj k _ e
        exact ⟨_, xs, rfl, .inl (.of e1), r1⟩
  | _ => cases h
theorem tupD_run (hr : HR K H Z ι M) (r : Rp K Z ι M.length d v) (h : tupD d = some ds) : ∃ a xs, v = .ref a ∧ SqT K H a xs ∧ Rps K Z ι M.length ds xs := by
  cases r with
  | tup s r =>
    cases h
    exact ⟨_, _, rfl, subT hr.sub s, r⟩
  | _ => cases h
theorem itemsD_run (hr : HR K H Z ι M) (r : Rp K Z ι M.length d v) (h : itemsD M d = some ds) : ∃ a xs, v = .ref a ∧ (ExL K H a xs ∨ SqT K H a xs) ∧ Rps K Z ι M.length ds xs := by
  cases r with
  | tup s r =>
    cases h
    exact ⟨_, _, rfl, .inr (subT hr.sub s), r⟩
  | lst s r =>
    obtain ⟨a, xs, h1, h2, h3⟩ := listD_run hr (.lst s r) h
    exact ⟨a, xs, h1, .inl h2, h3⟩
  | ref hk =>
    obtain ⟨a, xs, h1, h2, h3⟩ := listD_run hr (.ref hk) h
    exact ⟨a, xs, h1, .inl h2, h3⟩
  | _ => cases h
end
/-- an owned thing is that thing -/
theorem listD_owned {K : PySem.W.Frag} {H Z : Hp} {ι : Nat → Addr} {M : List MO} {k : Nat} {ds : List D} {v : V} (hr : HR K H Z ι M) (r : Rp K Z ι M.length (.ref k) v) (h : M[k]? = some (.lst ds)) : ∃ xs, v = .ref (ι k) ∧ H (ι k) = some (.lst xs) ∧ Rps K Z ι M.length ds xs := by
  cases r with
  | ref hk =>
    obtain ⟨xs, e1, r1⟩ := hr.obj k _ h
    exact ⟨xs, rfl, e1, r1⟩

def iop (c : Int → Int → Bool) (g : Int → Int → D) (_ : List MO) : D → D → Option D
  | .int i, .int j => if c i j = true then some (g i j) else none
  | _, _ => none
section
variable {X : Cx}
theorem OpR.or {f : Value → Value → Sem Value} {r r' : R2} (h : OpR X f r) (h' : OpR X f r') : OpR X f (fun x y H Q => r x y H Q ∨ r' x y H Q) := fun pins s σ H x y v u Q I rx ry q =>
  q.elim (h pins s σ H x y v u Q I rx ry) (h' pins s σ H x y v u Q I rx ry)
theorem UnR.or {f : Value → Sem Value} {r r' : V → Hp → VK → Prop} (h : UnR X f r) (h' : UnR X f r') : UnR X f (fun x H Q => r x H Q ∨ r' x H Q) := fun pins s σ H x v Q I rx q => q.elim (h pins s σ H x v Q I rx) (h' pins s σ H x v Q I rx)
/-- either of two functions, as the second finds none -/
def orD (f f' : List MO → D → D → Option D) (M : List MO) (x y : D) : Option D := (f M x y).or (f' M x y)
theorem Ok2.or {r r' : R2} {f f' : List MO → D → D → Option D} (h : Ok2 X r f) (h' : Ok2 X r' f') : Ok2 X (fun x y H Q => r x y H Q ∨ r' x y H Q) (orD f f') := fun x y H Z ι M dx dy d Q hr rx ry e q => by
  unfold orD at e
  cases e1 : f M dx dy with
  | some d' =>
    rw [e1] at e
    cases e
    exact .inl (h x y H Z ι M dx dy _ Q hr rx ry e1 q)
  | none =>
    rw [e1] at e
    exact .inr (h' x y H Z ι M dx dy _ Q hr rx ry e q)
/-- how a value without parts is handed on -/
def flatVD : V → Option D
  | .non => some .non
  | .bl b => some (.bl b)
  | .int i => some (.int i)
  | .str x => some (.str x)
  | _ => none
theorem flat_rp {K : PySem.W.Frag} {Z : Hp} {ι : Nat → Addr} {n : Nat} {v : V} {d : D} (h : flatVD v = some d) : Rp K Z ι n d v := by
  cases v with
  | non => cases h; exact .non
  | bl b => cases h; exact .bl b
  | int i => cases h; exact .int i
  | str x => cases h; exact .str x
  | _ => cases h
theorem ok_rI {P : Int → Int → Prop} {gV : Int → Int → V} {c : Int → Int → Bool} {g : Int → Int → D} (hc : ∀ i j, c i j = true → P i j) (hg : ∀ i j, flatVD (gV i j) = some (g i j)) : Ok2 X (rI P gV) (iop c g) := fun x y H Z ι M dx dy d Q hr rx ry e q => by
  cases rx with
  | int i =>
    cases ry with
    | int j =>
      have e' : (if c i j = true then some (g i j) else none) = some d := e
      by_cases hh : c i j = true
      · rw [if_pos hh] at e'
        cases e'
        exact ⟨i, j, rfl, rfl, hc i j hh, q.now hr (flat_rp (hg i j))⟩
      · rw [if_neg hh] at e'
        cases e'
    | _ => cases e
  | _ => cases ry <;> cases e
def yes2 (_ _ : Int) : Bool := true
theorem ok_rI0 {gV : Int → Int → V} {g : Int → Int → D} (hg : ∀ i j, flatVD (gV i j) = some (g i j)) : Ok2 X (rI0 gV) (iop yes2 g) := fun x y H Z ι M dx dy d Q hr rx ry e q => by
  cases rx with
  | int i =>
    cases ry with
    | int j =>
      cases e
      exact ⟨i, j, rfl, rfl, q.now hr (flat_rp (hg i j))⟩
    | _ => cases e
  | _ => cases ry <;> cases e
/-! numbers -/
def dSub := iop yes2 fun i j => .int (i - j)
def mulOk (i j : Int) : Bool := (decide (-(2 ^ 64) < i) && decide (i < 2 ^ 64)) || (decide (-(2 ^ 64) < j) && decide (j < 2 ^ 64)) || decide (i.natAbs.log2 + j.natAbs.log2 < 1000000)
def fdivOk (_ j : Int) : Bool := decide (0 < j) && decide (j.natAbs.log2 < 9000)
def dFdiv := iop fdivOk fun i j => .int (i / j)
def modOk (_ j : Int) : Bool := decide (0 < j)
def dMod := iop modOk fun i j => .int (i % j)
def dMul := iop mulOk fun i j => .int (i * j)
def powOk (i j : Int) : Bool := decide (0 ≤ j) && decide (j ≤ 1000000) && decide (i.natAbs < 2 ^ 64)
def dPow := iop powOk fun i j => .int (i ^ j.toNat)
theorem ok_sub : Ok2 X (rI0 fun i j => .int (i - j)) dSub := ok_rI0 fun _ _ => rfl
theorem ok_fdiv : Ok2 X (rI CDivW fun i j => .int (i / j)) dFdiv := ok_rI (fun i j h => by
  simp only [fdivOk, Bool.and_eq_true, decide_eq_true_eq] at h
  exact h) fun _ _ => rfl
theorem op_modP : OpR X (binaryOp .Mod) (rI (fun _ j => 0 < j) fun i j => .int (i % j)) := fun pins s σ H x y v u Q I rx ry ⟨i, j, h1, h2, h3, q⟩ =>
  op_modN pins s σ H x y v u Q I rx ry ⟨i, j, h1, h2, by omega, by
    have h4 : (0 : Int) < j := h3
    show Q (V.int (i.fmod j)) H
    rw [Int.fmod_eq_emod_of_nonneg i (by omega)]
    exact q⟩
theorem ok_mod : Ok2 X (rI (fun _ j => 0 < j) fun i j => .int (i % j)) dMod := ok_rI (fun i j h => of_decide_eq_true h) fun _ _ => rfl
theorem op_mulA : OpR X (binaryOp .Mult) (rI (fun i j => mulOk i j = true) fun i j => .int (i * j)) := fun pins s σ H x y v u Q I rx ry ⟨i, j, h1, h2, h3, q⟩ => by
  simp only [mulOk, Bool.or_eq_true, Bool.and_eq_true, decide_eq_true_eq] at h3
  rcases h3 with h3 | h3
  · exact op_mul pins s σ H x y v u Q I rx ry ⟨i, j, h1, h2, h3, q⟩
  · exact op_mulW pins s σ H x y v u Q I rx ry ⟨i, j, h1, h2, h3, q⟩
theorem ok_mul : Ok2 X (rI (fun i j => mulOk i j = true) fun i j => .int (i * j)) dMul := ok_rI (fun i j h => h) fun _ _ => rfl
theorem ok_pow : Ok2 X (rI CPow fun i j => .int (i ^ j.toNat)) dPow := ok_rI (fun i j h => by
  simp only [powOk, Bool.and_eq_true, decide_eq_true_eq] at h
  exact ⟨h.1.1, h.1.2, h.2⟩) fun _ _ => rfl
def dLt := iop yes2 fun i j => .bl (decide (i < j))
def dLe := iop yes2 fun i j => .bl (decide (i ≤ j))
def dGt := iop yes2 fun i j => .bl (decide (j < i))
def dGe := iop yes2 fun i j => .bl (decide (j ≤ i))
theorem ok_lt : Ok2 X (rI0 fun i j => .bl (decide (i < j))) dLt := ok_rI0 fun _ _ => rfl
theorem ok_le : Ok2 X (rI0 fun i j => .bl (decide (i ≤ j))) dLe := ok_rI0 fun _ _ => rfl
theorem ok_gt : Ok2 X (rI0 fun i j => .bl (decide (j < i))) dGt := ok_rI0 fun _ _ => rfl
theorem ok_ge : Ok2 X (rI0 fun i j => .bl (decide (j ≤ i))) dGe := ok_rI0 fun _ _ => rfl

/-! adding -/
def catT (_ : List MO) : D → D → Option D
  | .tup a, .tup b => if a.length + b.length ≤ sizeLine then some (.tup (a ++ b)) else none
  | _, _ => none
def catL (M : List MO) (x y : D) : Option D := match listD M x, listD M y with
  | some a, some b => if a.length + b.length ≤ sizeLine then some (.lst (a ++ b)) else none
  | _, _ => none
def addI (M : List MO) : D → D → Option D
  | .int i, .int j => some (.int (i + j))
  | .str x, .str y => if x.length + y.length ≤ sizeLine then some (.str (x ++ y)) else none
  | .tup a, y => catT M (.tup a) y
  | x, y => catL M x y
def dAdd := addI
def rCatS (K : PySem.W.Frag) : R2 := fun x y H Q => ∃ l b xs zs, x = .ref l ∧ y = .ref b ∧ ExL K H l xs ∧ ExL K H b zs ∧ xs.length + zs.length ≤ sizeLine ∧ ∀ p, H p = none → Q (.ref p) (upd H p (.lst (xs ++ zs)))
theorem op_catS : OpR X (binaryOp .Add) (rCatS X.K) := by
  intro pins s σ H x y v u Q I rx ry h
  obtain ⟨l, b, xs, zs, rfl, rfl, hx, hz, hs, q⟩ := h
  cases rx
  cases ry
  obtain ⟨its, m1, r1, e1, _⟩ := hx.at_ I
  obtain ⟨its2, m2, r2, e2, _⟩ := hz.at_ I
  refine PySem.P.add_list e1 e2 ?_ (by rw [List.size_toArray, List.size_toArray, ← r1.length, ← r2.length]; exact hs)
  have ea : its.toArray ++ its2.toArray = (its ++ its2).toArray := by simp
  rw [ea]
  exact ⟨.ref _, _, I.lnew (t' := s.toks) (r1.append r2) (by rw [List.length_append]; exact hs), rfl, q _ I.fresh⟩
abbrev rAdd (K : PySem.W.Frag) : R2 := fun x y H Q => (rI0 (fun i j => .int (i + j)) x y H Q ∨ (∃ i j, x = .str i ∧ y = .str j ∧ i.length + j.length ≤ sizeLine ∧ Q (.str (i ++ j)) H)) ∨ (rCatA K x y H Q ∨ rCatS K x y H Q)
theorem op_addA : OpR X (binaryOp .Add) (rAdd X.K) := (op_add.or op_add_str).or (op_catA.or op_catS)
theorem ok_add : Ok2 X (rAdd X.K) dAdd := fun x y H Z ι M dx dy d Q hr rx ry e q => by
  have lists : ∀ {dx : D}, Rp X.K Z ι M.length dx x → catL M dx dy = some d → rAdd X.K x y H Q := fun {dx} rx e => by
    unfold catL at e
    cases e1 : listD M dx with
    | none => rw [e1] at e; cases e
    | some a =>
      cases e2 : listD M dy with
      | none => rw [e1, e2] at e; cases e
      | some b =>
        rw [e1, e2] at e
        simp only at e
        by_cases c : a.length + b.length ≤ sizeLine
        · rw [if_pos c] at e
          cases e
          obtain ⟨p1, xs, rfl, s1, r1⟩ := listD_run hr rx e1
          obtain ⟨p2, ys, rfl, s2, r2⟩ := listD_run hr ry e2
          exact .inr (.inr ⟨p1, p2, xs, ys, rfl, rfl, s1, s2, by rw [← r1.length, ← r2.length]; exact c, q.lst hr (r1.append r2)⟩)
        · rw [if_neg c] at e
          cases e
  cases rx with
  | int i =>
    cases ry with
    | int j =>
      cases e
      exact .inl (.inl ⟨i, j, rfl, rfl, q.now hr (.int _)⟩)
    | _ => cases e
  | str a =>
    cases ry with
    | str b =>
      have e' : (if a.length + b.length ≤ sizeLine then some (D.str (a ++ b)) else none) = some d := e
      by_cases c : a.length + b.length ≤ sizeLine
      · rw [if_pos c] at e'
        cases e'
        exact .inl (.inr ⟨a, b, rfl, rfl, c, q.now hr (.str _)⟩)
      · rw [if_neg c] at e'
        cases e'
    | _ => cases e
  | tup s1 r1 =>
    rename_i a p1 xs
    cases ry with
    | tup s2 r2 =>
      rename_i b p2 ys
      have e' : (if a.length + b.length ≤ sizeLine then some (D.tup (a ++ b)) else none) = some d := e
      by_cases c : a.length + b.length ≤ sizeLine
      · rw [if_pos c] at e'
        cases e'
        refine .inr (.inl ⟨p1, p2, xs, ys, rfl, rfl, subT hr.sub s1, subT hr.sub s2, by rw [← r1.length, ← r2.length]; exact c, fun z => ?_, fun _ z => ?_, fun _ _ => q.tup hr (r1.append r2)⟩)
        · have : a = [] := List.length_eq_zero_iff.mp (by rw [r1.length, z]; rfl)
          subst this
          exact q.now hr (.tup s2 r2)
        · have : b = [] := List.length_eq_zero_iff.mp (by rw [r2.length, z]; rfl)
          subst this
          rw [List.append_nil] at q
          exact q.now hr (.tup s1 r1)
      · rw [if_neg c] at e'
        cases e'
    | _ => cases e
  | lst s1 r1 => exact lists (.lst s1 r1) e
  | ref hk => exact lists (.ref hk) e
  | non => cases ry <;> cases e
  | bl b => cases ry <;> cases e

/-! is None -/
def dIsN (_ : List MO) : D → D → Option D
  | .non, .non => some (.bl true)
  | _, .non => some (.bl false)
  | _, _ => none
def dNotN (_ : List MO) : D → D → Option D
  | .non, .non => some (.bl false)
  | _, .non => some (.bl true)
  | _, _ => none
theorem ok_isN : Ok2 X (fun x y H Q => y = .non ∧ Q (.bl (decide (x = .non))) H) dIsN := fun x y H Z ι M dx dy d Q hr rx ry e q => by
  cases ry with
  | non =>
    refine ⟨rfl, ?_⟩
    cases rx with
    | non =>
      cases e
      exact q.now hr (.bl true)
    | _ =>
      cases e
      exact q.now hr (.bl false)
  | _ => cases rx <;> cases e
theorem ok_notN : Ok2 X (fun x y H Q => y = .non ∧ Q (.bl (!decide (x = .non))) H) dNotN := fun x y H Z ι M dx dy d Q hr rx ry e q => by
  cases ry with
  | non =>
    refine ⟨rfl, ?_⟩
    cases rx with
    | non =>
      cases e
      exact q.now hr (.bl false)
    | _ =>
      cases e
      exact q.now hr (.bl true)
  | _ => cases rx <;> cases e

/-! equal data -/
mutual
/-- data without refs -/
def toP : D → Option PyData
  | .non => some .none
  | .bl b => some (.bool b)
  | .int i => some (.int i)
  | .str x => some (.str x)
  | .tup ds => (toPs ds).map .tuple
  | .lst ds => (toPs ds).map .list
  | .ref _ => none
def toPs : List D → Option (List PyData)
  | [] => some []
  | d :: ds => match toP d, toPs ds with
    | some p, some ps => some (p :: ps)
    | _, _ => none
end
/-- a list of ours, and those in it, as they stand -/
def deref1 (M : List MO) : D → D
  | .ref k => match M[k]? with
    | some (.lst ds) => .lst ds
    | _ => .ref k
  | d => d
def deref (M : List MO) (d : D) : D := match deref1 M d with
  | .lst ds => .lst (ds.map (deref1 M))
  | d => d
section
variable {K : PySem.W.Frag} {H Z : Hp} {ι : Nat → Addr} {n : Nat} {M : List MO}
mutual
theorem toP_dp (hs : Sub Z H) : ∀ (d : D) (v : V) (p : PyData), Rp K Z ι n d v → toP d = some p → Dp K H v p
  | .non, _, p, h, e => by cases h; cases e; exact .non
  | .bl b, _, p, h, e => by cases h; cases e; exact .bl b
  | .int i, _, p, h, e => by cases h; cases e; exact .int i
  | .str x, _, p, h, e => by cases h; cases e; exact .str x
  | .tup ds, _, p, h, e => by
    cases h with
    | tup s r =>
      have e' : (toPs ds).map PyData.tuple = some p := e
      cases e2 : toPs ds with
      | none => rw [e2] at e'; cases e'
      | some ps =>
        rw [e2] at e'
        cases e'
        exact .tup (subT hs s) (toPs_dp hs ds _ ps r e2)
  | .lst ds, _, p, h, e => by
    cases h with
    | lst s r =>
      have e' : (toPs ds).map PyData.list = some p := e
      cases e2 : toPs ds with
      | none => rw [e2] at e'; cases e'
      | some ps =>
        rw [e2] at e'
        cases e'
        exact .lst (subL hs s).sq (toPs_dp hs ds _ ps r e2)
  | .ref k, _, p, h, e => by cases e
theorem toPs_dp (hs : Sub Z H) : ∀ (ds : List D) (vs : List V) (ps : List PyData), Rps K Z ι n ds vs → toPs ds = some ps → DpAll K H vs ps
  | [], _, ps, h, e => by cases h; cases e; exact .nil
  | d :: ds, _, ps, h, e => by
    cases h with
    | cons r rs =>
      have e' : (match toP d, toPs ds with
        | some p, some ps => some (p :: ps)
        | _, _ => none) = some ps := e
      cases e1 : toP d with
      | none => rw [e1] at e'; cases e'
      | some p =>
        cases e2 : toPs ds with
        | none => rw [e1, e2] at e'; cases e'
        | some qs =>
          rw [e1, e2] at e'
          cases e'
          exact .cons (toP_dp hs d _ p r e1) (toPs_dp hs ds _ qs rs e2)
end
theorem deref1_dp (hr : HR K H Z ι M) {d : D} {v : V} {p : PyData} (r : Rp K Z ι M.length d v) (e : toP (deref1 M d) = some p) : Dp K H v p := by
  cases r with
  | ref hk =>
    rename_i k
    have e' : toP (match M[k]? with
      | some (.lst ds) => .lst ds
      | _ => .ref k) = some p := e
    cases e1 : M[k]? with
    | none => rw [e1] at e'; cases e'
    | some o =>
      rw [e1] at e'
      cases o with
      | dead => cases e'
      | lst ds =>
        have e2 : (toPs ds).map PyData.list = some p := e'
        obtain ⟨xs, h1, r1⟩ := hr.obj k _ e1
        cases e3 : toPs ds with
        | none => rw [e3] at e2; cases e2
        | some ps =>
          rw [e3] at e2
          cases e2
          exact .lst (.of h1) (toPs_dp hr.sub ds _ ps r1 e3)
  | non => exact toP_dp (ι := ι) (n := M.length) hr.sub _ _ _ .non e
  | bl b => exact toP_dp (ι := ι) (n := M.length) hr.sub _ _ _ (.bl b) e
  | int i => exact toP_dp (ι := ι) (n := M.length) hr.sub _ _ _ (.int i) e
  | str x => exact toP_dp (ι := ι) (n := M.length) hr.sub _ _ _ (.str x) e
  | tup s r => exact toP_dp hr.sub _ _ _ (.tup s r) e
  | lst s r => exact toP_dp hr.sub _ _ _ (.lst s r) e
theorem deref1s_dp (hr : HR K H Z ι M) : ∀ {ds : List D} {vs : List V} {ps : List PyData}, Rps K Z ι M.length ds vs → toPs (ds.map (deref1 M)) = some ps → DpAll K H vs ps
  | [], _, ps, h, e => by cases h; cases e; exact .nil
  | d :: ds, _, ps, h, e => by
    cases h with
    | cons r rs =>
      have e' : (match toP (deref1 M d), toPs (ds.map (deref1 M)) with
        | some p, some ps => some (p :: ps)
        | _, _ => none) = some ps := e
      cases e1 : toP (deref1 M d) with
      | none => rw [e1] at e'; cases e'
      | some p =>
        cases e2 : toPs (ds.map (deref1 M)) with
        | none => rw [e1, e2] at e'; cases e'
        | some qs =>
          rw [e1, e2] at e'
          cases e'
          exact .cons (deref1_dp hr r e1) (deref1s_dp hr rs e2)
theorem deref_dp (hr : HR K H Z ι M) {d : D} {v : V} {p : PyData} (r : Rp K Z ι M.length d v) (e : toP (deref M d) = some p) : Dp K H v p := by
  have two : ∀ {ds : List D} {a : Addr} {xs : List V}, SqL K H a xs → Rps K Z ι M.length ds xs → toP (.lst (ds.map (deref1 M))) = some p → Dp K H (.ref a) p := fun {ds a xs} s r e => by
    have e' : (toPs (ds.map (deref1 M))).map PyData.list = some p := e
    cases e2 : toPs (ds.map (deref1 M)) with
    | none => rw [e2] at e'; cases e'
    | some ps =>
      rw [e2] at e'
      cases e'
      exact .lst s (deref1s_dp hr r e2)
  cases r with
  | lst s r => exact two (subL hr.sub s).sq r e
  | ref hk =>
    rename_i k
    cases e1 : M[k]? with
    | none =>
      have : deref M (.ref k) = .ref k := by simp [deref, deref1, e1]
      rw [this] at e
      cases e
    | some o =>
      cases o with
      | dead =>
        have : deref M (.ref k) = .ref k := by simp [deref, deref1, e1]
        rw [this] at e
        cases e
      | lst ds =>
        have : deref M (.ref k) = .lst (ds.map (deref1 M)) := by simp [deref, deref1, e1]
        rw [this] at e
        obtain ⟨xs, h1, r1⟩ := hr.obj k _ e1
        exact two (.of h1) r1 e
  | non => exact toP_dp (ι := ι) (n := M.length) hr.sub _ _ _ .non e
  | bl b => exact toP_dp (ι := ι) (n := M.length) hr.sub _ _ _ (.bl b) e
  | int i => exact toP_dp (ι := ι) (n := M.length) hr.sub _ _ _ (.int i) e
  | str x => exact toP_dp (ι := ι) (n := M.length) hr.sub _ _ _ (.str x) e
  | tup s r => exact toP_dp hr.sub _ _ _ (.tup s r) e
end
def eqP (M : List MO) (x y : D) : Option Bool := match toP (deref M x), toP (deref M y) with
  | some p, some q => if (SeqAt.shaped p && SeqAt.shaped q) = true then some (PyData.eqv p q) else none
  | _, _ => none
def dEq (M : List MO) (x y : D) : Option D := (eqP M x y).map D.bl
def dNe (M : List MO) (x y : D) : Option D := (eqP M x y).map fun b => D.bl (!b)
theorem eqP_run {K : PySem.W.Frag} {H Z : Hp} {ι : Nat → Addr} {M : List MO} {dx dy : D} {x y : V} {b : Bool} (hr : HR K H Z ι M) (rx : Rp K Z ι M.length dx x) (ry : Rp K Z ι M.length dy y) (e : eqP M dx dy = some b) :
    ∃ p q, Dp K H x p ∧ Dp K H y q ∧ SeqAt.shaped p = true ∧ SeqAt.shaped q = true ∧ PyData.eqv p q = b := by
  unfold eqP at e
  cases e1 : toP (deref M dx) with
  | none => rw [e1] at e; cases e
  | some p =>
    cases e2 : toP (deref M dy) with
    | none => rw [e1, e2] at e; cases e
    | some q =>
      rw [e1, e2] at e
      simp only at e
      by_cases c : (SeqAt.shaped p && SeqAt.shaped q) = true
      · rw [if_pos c] at e
        rw [Bool.and_eq_true] at c
        exact ⟨p, q, deref_dp hr rx e1, deref_dp hr ry e2, c.1, c.2, Option.some.inj e⟩
      · rw [if_neg c] at e
        cases e
theorem ok_eq : Ok2 X (rEqD X.K) dEq := fun x y H Z ι M dx dy d Q hr rx ry e q => by
  unfold dEq at e
  cases e1 : eqP M dx dy with
  | none => rw [e1] at e; cases e
  | some b =>
    rw [e1] at e
    cases e
    obtain ⟨p, p', h1, h2, h3, h4, h5⟩ := eqP_run hr rx ry e1
    exact ⟨p, p', h1, h2, h3, h4, by rw [h5]; exact q.now hr (.bl b)⟩
theorem ok_ne : Ok2 X (rNeD X.K) dNe := fun x y H Z ι M dx dy d Q hr rx ry e q => by
  unfold dNe at e
  cases e1 : eqP M dx dy with
  | none => rw [e1] at e; cases e
  | some b =>
    rw [e1] at e
    cases e
    obtain ⟨p, p', h1, h2, h3, h4, h5⟩ := eqP_run hr rx ry e1
    exact ⟨p, p', h1, h2, h3, h4, by rw [h5]; exact q.now hr (.bl _)⟩
end
end Bk

set_option Elab.async false
set_option linter.all false
set_option maxRecDepth 100000
set_option maxHeartbeats 2000000
namespace Bk
open PySem PySem.Spec PyProof.Rows L2
section
variable {X : Cx}
/-! a list times a number -/
def rRepS (K : PySem.W.Frag) : R2 := fun x y H Q => ∃ l k xs, x = .ref l ∧ y = .int k ∧ ExL K H l xs ∧ -(2 ^ 63) ≤ k ∧ k < 2 ^ 63 ∧ xs.length * k.toNat ≤ sizeLine ∧ ∀ p, H p = none → Q (.ref p) (upd H p (.lst (List.replicate k.toNat xs).flatten))
theorem op_repS : OpR X (binaryOp .Mult) (rRepS X.K) := by
  intro pins s σ H x y v u Q I rx ry h
  obtain ⟨l, k, xs, rfl, rfl, hx, k1, k2, hz, q⟩ := h
  cases rx
  obtain ⟨tk, rfl⟩ := ry
  obtain ⟨its, m, rv, eo, _⟩ := hx.at_ I
  have hl := rv.length
  have size : its.toArray.size * k.toNat ≤ sizeLine := by rw [List.size_toArray, ← hl]; exact hz
  have cap : ¬ its.toArray.size * k.toNat > (2 ^ 63 - 1) / 8 := Nat.not_lt.mpr (Nat.le_trans size (by decide))
  have fit : ¬ (!Builtin.List.listFitsIndex k) = true := by
    rw [fitsIndex_both k1 k2]
    exact Bool.false_ne_true
  have long : ¬ Builtin.List.listTooLong (its.toArray.size * k.toNat) = true := by
    rw [notLongL size]
    exact Bool.false_ne_true
  have made : List.foldl (fun a b => a ++ b) #[] (List.replicate (if its.toArray.isEmpty = true then 0 else k.toNat) its.toArray) = (List.replicate k.toNat its).flatten.toArray := by
    have any : ∀ j : Nat, List.foldl (fun a b => a ++ b) #[] (List.replicate j its.toArray) = (List.replicate j its).flatten.toArray := fun j => by simpa using foldl_rep its j []
    rw [any]
    cases its with
    | nil => simp
    | cons a r' => simp
  refine wpAny_binaryOp_repeat_ref (T := "list") (U := "int") (by decide) ⟨_, eo, rfl⟩ (fun s' => typeIs_int s' k tk) noFill_list_mul F.fills_int_mul F.slot_int_rmul repeat_list F.slot_int_index.lookup ?_
  refine call_meets F.slot_int_rmul (typeIs_int s k tk) F.entry_int_rmul (F.args_int_rmul_2 _ _) (int___rmul___int_list k tk l its.toArray m) ⟨eo, rfl, ⟨_, eo, rfl⟩, ?_⟩
  refine call_meets F.slot_list_mul ⟨_, eo, rfl⟩ F.entry_list_mul (F.args_list_mul_2 _ _) (AutoListH.list___mul___list_int_3 l its.toArray m k tk fit cap long) ⟨eo, ?_⟩
  rw [made]
  exact ⟨.ref _, _, I.lnew (t' := s.toks) (rv.rep k.toNat) (by rw [PyProof.Rows.lm_len_rep_flat, Nat.mul_comm]; exact hz), rfl, q _ I.fresh⟩
def repI (M : List MO) (x : D) : D → Option D
  | .int k => match listD M x with
    | some a => if decide (k < 2 ^ 63) && decide (-(2 ^ 63) ≤ k) && decide (a.length * k.toNat ≤ sizeLine) then some (.lst (List.replicate k.toNat a).flatten) else none
    | none => none
  | _ => none
def dMulA (M : List MO) : D → D → Option D
  | .int i, y => dMul M (.int i) y
  | x, y => repI M x y
abbrev rMulA (K : PySem.W.Frag) : R2 := fun x y H Q => rI (fun i j => mulOk i j = true) (fun i j => .int (i * j)) x y H Q ∨ rRepS K x y H Q
theorem op_mulL : OpR X (binaryOp .Mult) (rMulA X.K) := op_mulA.or op_repS
theorem ok_mulL : Ok2 X (rMulA X.K) dMulA := fun x y H Z ι M dx dy d Q hr rx ry e q => by
  have lists : ∀ {dx : D}, Rp X.K Z ι M.length dx x → repI M dx dy = some d → rMulA X.K x y H Q := fun {dx} rx e => by
    cases ry with
    | int k =>
      have e' : (match listD M dx with
        | some a => if decide (k < 2 ^ 63) && decide (-(2 ^ 63) ≤ k) && decide (a.length * k.toNat ≤ sizeLine) then some (D.lst (List.replicate k.toNat a).flatten) else none
        | none => none) = some d := e
      cases e1 : listD M dx with
      | none => rw [e1] at e'; cases e'
      | some a =>
        rw [e1] at e'
        simp only at e'
        by_cases c : (decide (k < 2 ^ 63) && decide (-(2 ^ 63) ≤ k) && decide (a.length * k.toNat ≤ sizeLine)) = true
        · rw [if_pos c] at e'
          cases e'
          simp only [Bool.and_eq_true, decide_eq_true_eq] at c
          obtain ⟨p1, xs, rfl, s1, r1⟩ := listD_run hr rx e1
          exact .inr ⟨p1, k, xs, rfl, rfl, s1, c.1.2, c.1.1, by rw [← r1.length]; exact c.2, q.lst hr (r1.rep k.toNat)⟩
        · rw [if_neg c] at e'
          cases e'
    | _ => cases e
  cases rx with
  | int i => exact .inl (ok_mul (X := X) _ _ H Z ι M _ _ d Q hr (.int i) ry e q)
  | lst s1 r1 => exact lists (.lst s1 r1) e
  | ref hk => exact lists (.ref hk) e
  | tup s1 r1 => exact lists (.tup s1 r1) e
  | non => exact lists .non e
  | bl b => exact lists (.bl b) e
  | str b => exact lists (.str b) e
/-! minus -/
def dNeg (_ : List MO) : D → Option D
  | .int i => some (.int (-i))
  | _ => none
theorem ok_neg : Ok1 X (rU fun i => .int (-i)) dNeg := fun x H Z ι M dx d Q hr rx e q => by
  cases rx with
  | int i =>
    cases e
    exact ⟨i, rfl, q.now hr (.int _)⟩
  | _ => cases e
/-! items -/
def dIx (M : List MO) (x : D) : D → Option D
  | .int i => (itemsD M x).bind fun ds => atI ds i
  | _ => none
theorem atI_rp {K : PySem.W.Frag} {Z : Hp} {ι : Nat → Addr} {n : Nat} {ds : List D} {vs : List V} {i : Int} {d : D} (r : Rps K Z ι n ds vs) (h : atI ds i = some d) : ∃ v, atI vs i = some v ∧ Rp K Z ι n d v := by
  unfold atI at h
  cases e : ixN ds.length i with
  | none => rw [e] at h; cases h
  | some j =>
    rw [e] at h
    obtain ⟨v, h1, h2⟩ := r.get (i := j) h
    refine ⟨v, ?_, h2⟩
    unfold atI
    rw [← r.length, e]
    exact h1
abbrev rIxA (K : PySem.W.Frag) : R2 := fun x y H Q => rIxL K x y H Q ∨ rIxT K x y H Q
theorem ix_A : IxR X (rIxA X.K) := ix_list.or ix_tup
theorem ok_ix : Ok2 X (rIxA X.K) dIx := fun x y H Z ι M dx dy d Q hr rx ry e q => by
  cases ry with
  | int i =>
    have e' : (itemsD M dx).bind (fun ds => atI ds i) = some d := e
    cases e1 : itemsD M dx with
    | none => rw [e1] at e'; cases e'
    | some ds =>
      rw [e1] at e'
      obtain ⟨a, xs, rfl, s, r⟩ := itemsD_run hr rx e1
      obtain ⟨v, h1, h2⟩ := atI_rp r e'
      rcases s with s | s
      · exact .inl ⟨a, xs, i, v, rfl, rfl, s.sq, h1, q.now hr h2⟩
      · exact .inr ⟨a, xs, i, v, rfl, rfl, s, h1, q.now hr h2⟩
  | _ => cases e
/-! in -/
def toV : D → Option V
  | .non => some .non
  | .bl b => some (.bl b)
  | .int i => some (.int i)
  | .str x => some (.str x)
  | _ => none
def toVs : List D → Option (List V)
  | [] => some []
  | d :: ds => match toV d, toVs ds with
    | some v, some vs => some (v :: vs)
    | _, _ => none
theorem toV_is {K : PySem.W.Frag} {Z : Hp} {ι : Nat → Addr} {n : Nat} {d : D} {v w : V} (r : Rp K Z ι n d v) (h : toV d = some w) : v = w ∧ flatV v = true := by
  cases r with
  | non => cases h; exact ⟨rfl, rfl⟩
  | bl b => cases h; exact ⟨rfl, rfl⟩
  | int i => cases h; exact ⟨rfl, rfl⟩
  | str x => cases h; exact ⟨rfl, rfl⟩
  | _ => cases h
theorem toVs_is {K : PySem.W.Frag} {Z : Hp} {ι : Nat → Addr} {n : Nat} : ∀ {ds : List D} {vs ws : List V}, Rps K Z ι n ds vs → toVs ds = some ws → vs = ws ∧ vs.all flatV = true
  | [], _, _, r, h => by cases r; cases h; exact ⟨rfl, rfl⟩
  | d :: ds, _, _, r, h => by
    cases r with
    | cons r rs =>
      have h' : (match toV d, toVs ds with
        | some v, some vs => some (v :: vs)
        | _, _ => none) = some _ := h
      cases e1 : toV d with
      | none => rw [e1] at h'; cases h'
      | some v =>
        cases e2 : toVs ds with
        | none => rw [e1, e2] at h'; cases h'
        | some vs =>
          rw [e1, e2] at h'
          cases h'
          obtain ⟨a1, a2⟩ := toV_is r e1
          obtain ⟨b1, b2⟩ := toVs_is rs e2
          exact ⟨by rw [a1, b1], by simp [a2, b2]⟩
def inP (M : List MO) (x y : D) : Option Bool := match toV x, (itemsD M y).bind toVs with
  | some v, some vs => some (inV v vs)
  | _, _ => none
def dIn (M : List MO) (x y : D) : Option D := (inP M x y).map D.bl
def dNotIn (M : List MO) (x y : D) : Option D := (inP M x y).map fun b => D.bl (!b)
theorem inP_run {K : PySem.W.Frag} {H Z : Hp} {ι : Nat → Addr} {M : List MO} {dx dy : D} {x y : V} {b : Bool} (hr : HR K H Z ι M) (rx : Rp K Z ι M.length dx x) (ry : Rp K Z ι M.length dy y) (e : inP M dx dy = some b) :
    ∃ p xs, y = .ref p ∧ (SqL K H p xs ∨ SqT K H p xs) ∧ flatV x = true ∧ xs.all flatV = true ∧ inV x xs = b := by
  unfold inP at e
  cases e1 : toV dx with
  | none => rw [e1] at e; cases e
  | some v =>
    cases e2 : itemsD M dy with
    | none => rw [e1, e2] at e; cases e
    | some ds =>
      cases e3 : toVs ds with
      | none => rw [e1, e2, Option.bind_some, e3] at e; cases e
      | some vs =>
        rw [e1, e2, Option.bind_some, e3] at e
        cases e
        obtain ⟨a1, a2⟩ := toV_is rx e1
        obtain ⟨p, xs, rfl, s, r⟩ := itemsD_run hr ry e2
        obtain ⟨b1, b2⟩ := toVs_is r e3
        subst a1 b1
        exact ⟨p, _, rfl, s.elim (fun s => .inl s.sq) .inr, a2, b2, rfl⟩
theorem ok_in : Ok2 X (rIn X.K false) dIn := fun x y H Z ι M dx dy d Q hr rx ry e q => by
  unfold dIn at e
  cases e1 : inP M dx dy with
  | none => rw [e1] at e; cases e
  | some b =>
    rw [e1] at e
    cases e
    obtain ⟨p, xs, h1, h2, h3, h4, h5⟩ := inP_run hr rx ry e1
    exact ⟨p, xs, h1, h2, h3, h4, by rw [h5]; exact q.now hr (.bl b)⟩
theorem ok_notIn : Ok2 X (rIn X.K true) dNotIn := fun x y H Z ι M dx dy d Q hr rx ry e q => by
  unfold dNotIn at e
  cases e1 : inP M dx dy with
  | none => rw [e1] at e; cases e
  | some b =>
    rw [e1] at e
    cases e
    obtain ⟨p, xs, h1, h2, h3, h4, h5⟩ := inP_run hr rx ry e1
    exact ⟨p, xs, h1, h2, h3, h4, by rw [h5]; exact q.now hr (.bl _)⟩
/-! slices -/
abbrev GO := Env → List MO → R (Option Int)
abbrev rpO : RpK (Option Int) (Option Int) := fun _ _ _ a b => a = b
def QO (X : Cx) (C : CT) (W : WX) (e : Option Expr) (g : GO) : Prop := ∃ te, PO X e te ∧ ∀ (σ : St) (H Z : Hp) (ι : Nat → Addr) (Γ : Env) (M : List MO) (Q : Option Int → Hp → Prop), Slots X.K Z ι M.length Γ σ → HR X.K H Z ι M → Post X C W rpO σ H Z ι M (g Γ M) Q → te σ H Q
def gNoO : GO := fun _ M => .ok none M
def toI : D → Option Int
  | .int i => some i
  | _ => none
def gO (ge : GE) : GO := fun Γ M => (ge Γ M).bind fun d M1 => opR ((toI d).map some) M1
variable {C : CT} {W : WX}
theorem qo_none : QO X C W none gNoO := ⟨_, po_none, fun σ H Z ι Γ M Q sl hr h => h none H Z ι .refl hr rfl⟩
theorem qo_some {e : Expr} {g : GE} (h : QE X C W e g) : QO X C W (some e) (gO g) := by
  obtain ⟨t, p, q⟩ := h
  refine ⟨_, po_some p, fun σ H Z ι Γ M Q sl hr h => q σ H Z ι Γ M _ sl hr (h.bind fun x M1 v H1 Z1 ι1 e1 hr1 r1 h1 => ?_)⟩
  cases r1 with
  | int i => exact ⟨i, rfl, h1 _ H1 Z1 ι1 .refl hr1 rfl⟩
  | _ => exact h1.elim
def cutD (ds : List D) (lo hi : Option Int) : List D := (ds.drop (HT.sIx ds.length 0 lo)).take (HT.sIx ds.length ds.length hi - HT.sIx ds.length 0 lo)
def dCut (M : List MO) (lo hi : Option Int) : D → Option D
  | .tup ds => some (.tup (cutD ds lo hi))
  | d => (listD M d).map fun ds => .lst (cutD ds lo hi)
def gSl (ge : GE) (lo hi : GO) : GE := fun Γ M => (ge Γ M).bind fun x M1 => (lo Γ M1).bind fun a M2 => (hi Γ M2).bind fun b M3 => opR (dCut M3 a b x) M3
theorem cut_rps {K : PySem.W.Frag} {Z : Hp} {ι : Nat → Addr} {n : Nat} {ds : List D} {vs : List V} (r : Rps K Z ι n ds vs) (lo hi : Option Int) : Rps K Z ι n (cutD ds lo hi) (cutV vs lo hi) := by
  unfold cutD cutV
  rw [r.length]
  exact (r.drop _).take _
theorem qe_slice {e : Expr} {lo hi : Option Expr} {g : GE} {gl gh : GO} {pos p2 : Pos} (he : QE X C W e g) (hl : QO X C W lo gl) (hh : QO X C W hi gh) : QE X C W (.Subscript e (.Slice lo hi none p2) pos) (gSl g gl gh) := by
  obtain ⟨t, p, q⟩ := he
  obtain ⟨tl, pl, ql⟩ := hl
  obtain ⟨th, ph, qh⟩ := hh
  refine ⟨_, pe_slice (sl_list.or sl_tupA) p pl ph, fun σ H Z ι Γ M Q sl hr h => q σ H Z ι Γ M _ sl hr (h.bind fun x M1 v H1 Z1 ι1 e1 hr1 r1 h1 => ql σ H1 Z1 ι1 Γ M1 _ (sl.ext e1) hr1 (h1.bind fun a M2 a' H2 Z2 ι2 e2 hr2 ra h2 =>
    qh σ H2 Z2 ι2 Γ M2 _ ((sl.ext e1).ext e2) hr2 (h2.bind fun b M3 b' H3 Z3 ι3 e3 hr3 rb h3 => ?_)))⟩
  have ra' : a = a' := ra
  have rb' : b = b' := rb
  subst ra' rb'
  obtain ⟨d, hd, h4⟩ := Post.of_opR (γ := D) (δ := V) h3
  have r3 := (r1.ext e2).ext e3
  have q3 := h4.after
  have lists : ∀ {dx : D}, Rp X.K Z3 ι3 M3.length dx v → (listD M3 dx).map (fun ds => D.lst (cutD ds a b)) = some d → rSlL X.K v a b H3 Q := fun {dx} rx e => by
    cases e1 : listD M3 dx with
    | none => rw [e1] at e; cases e
    | some ds =>
      rw [e1] at e
      cases e
      obtain ⟨p1, xs, rfl, s1, r1⟩ := listD_run hr3 rx e1
      exact ⟨p1, xs, rfl, s1.sq, q3.lst hr3 (cut_rps r1 a b)⟩
  cases r3 with
  | tup s r =>
    rename_i ds a0 xs
    cases hd
    refine .inr ⟨a0, xs, rfl, subT hr3.sub s, fun z => ?_, fun _ => q3.tup hr3 (cut_rps r a b)⟩
    have ec : cutD ds a b = ds := by
      unfold cutD
      rw [r.length, z.1, z.2, List.drop_zero, Nat.sub_zero, ← r.length, List.take_length]
    rw [ec] at q3
    exact q3.now hr3 (.tup s r)
  | lst s r => exact .inl (lists (.lst s r) hd)
  | ref hk => exact .inl (lists (.ref hk) hd)
  | non => cases hd
  | bl b => cases hd
  | int b => cases hd
  | str b => cases hd
end
end Bk

set_option Elab.async false
set_option linter.all false
set_option maxRecDepth 100000
set_option maxHeartbeats 2000000
namespace Bk
open PySem PySem.Spec PyProof.Rows L2
section
variable {X : Cx}
theorem rps1 {K : PySem.W.Frag} {Z : Hp} {ι : Nat → Addr} {n : Nat} {d : D} {vs : List V} (r : Rps K Z ι n [d] vs) : ∃ v, vs = [v] ∧ Rp K Z ι n d v := by
  cases r with
  | cons r rs =>
    cases rs
    exact ⟨_, rfl, r⟩
theorem rps2 {K : PySem.W.Frag} {Z : Hp} {ι : Nat → Addr} {n : Nat} {d e : D} {vs : List V} (r : Rps K Z ι n [d, e] vs) : ∃ v u, vs = [v, u] ∧ Rp K Z ι n d v ∧ Rp K Z ι n e u := by
  cases r with
  | cons r rs =>
    obtain ⟨u, rfl, r2⟩ := rps1 rs
    exact ⟨_, u, rfl, r, r2⟩
/-- a function of one argument -/
def fn1 (f : List MO → D → Option D) (M : List MO) : List D → Option D
  | [d] => f M d
  | _ => none
theorem OkA.of1 {r : List V → Hp → VK → Prop} {f : List MO → D → Option D} (h : Ok1 X (fun x H Q => r [x] H Q) f) : OkA X r (fn1 f) := fun xs H Z ι M ds d Q hr rx e q => by
  match ds, e, rx with
  | [d0], e, rx =>
    obtain ⟨v, rfl, r1⟩ := rps1 rx
    exact h v H Z ι M d0 d Q hr r1 e q
def fn2 (f : List MO → D → D → Option D) (M : List MO) : List D → Option D
  | [d, e] => f M d e
  | _ => none
theorem OkA.of2 {r : List V → Hp → VK → Prop} {f : List MO → D → D → Option D} (h : Ok2 X (fun x y H Q => r [x, y] H Q) f) : OkA X r (fn2 f) := fun xs H Z ι M ds d Q hr rx e q => by
  match ds, e, rx with
  | [d0, d1], e, rx =>
    obtain ⟨v, u, rfl, r1, r2⟩ := rps2 rx
    exact h v u H Z ι M d0 d1 d Q hr r1 r2 e q
/-! len -/
def dLen (M : List MO) : D → Option D
  | .str x => if x.length ≤ sizeLine then some (.int x.length) else none
  | d => (itemsD M d).map fun ds => .int ds.length
theorem ok_len : Ok1 X (fun x H Q => ∃ x' n, [x] = [x'] ∧ LenV X.K x' H n ∧ Q (.int n) H) dLen := fun x H Z ι M dx d Q hr rx e q => by
  have seqs : ∀ {dx : D}, Rp X.K Z ι M.length dx x → (itemsD M dx).map (fun ds => D.int ds.length) = some d → ∃ x' n, [x] = [x'] ∧ LenV X.K x' H n ∧ Q (.int n) H := fun {dx} rx e => by
    cases e1 : itemsD M dx with
    | none => rw [e1] at e; cases e
    | some ds =>
      rw [e1] at e
      cases e
      obtain ⟨a, xs, rfl, s, r⟩ := itemsD_run hr rx e1
      refine ⟨_, xs.length, rfl, ?_, by rw [← r.length]; exact q.now hr (.int _)⟩
      rcases s with s | s
      · exact .inl ⟨xs, s.sq, rfl⟩
      · exact .inr ⟨xs, s, rfl⟩
  cases rx with
  | str z =>
    have e' : (if z.length ≤ sizeLine then some (D.int z.length) else none) = some d := e
    by_cases c : z.length ≤ sizeLine
    · rw [if_pos c] at e'
      cases e'
      exact ⟨_, z.length, rfl, ⟨c, rfl⟩, q.now hr (.int _)⟩
    · rw [if_neg c] at e'
      cases e'
  | tup s r => exact seqs (.tup s r) e
  | lst s r => exact seqs (.lst s r) e
  | ref hk => exact seqs (.ref hk) e
  | non => exact seqs .non e
  | bl b => exact seqs (.bl b) e
  | int b => exact seqs (.int b) e
/-! int -/
def dInt (_ : List MO) : D → Option D
  | .int i => some (.int i)
  | .bl b => some (.int (if b then 1 else 0))
  | _ => none
theorem ok_int : Ok1 X (fun x H Q => (∃ i, [x] = [.int i] ∧ Q (.int i) H) ∨ ∃ k, [x] = [.bl k] ∧ Q (.int (if k then 1 else 0)) H) dInt := fun x H Z ι M dx d Q hr rx e q => by
  cases rx with
  | int i =>
    cases e
    exact .inl ⟨i, rfl, q.now hr (.int i)⟩
  | bl b =>
    cases e
    exact .inr ⟨b, rfl, q.now hr (.int _)⟩
  | _ => cases e
/-! str of a number -/
def dStr (_ : List MO) : D → Option D
  | .int i => if i.natAbs.log2 < 1920 then some (.str (toString i)) else none
  | _ => none
theorem ok_str : Ok1 X (fun x H Q => ∃ i, [x] = [.int i] ∧ i.natAbs.log2 < 1920 ∧ Q (.str (toString i)) H) dStr := fun x H Z ι M dx d Q hr rx e q => by
  cases rx with
  | int i =>
    have e' : (if i.natAbs.log2 < 1920 then some (D.str (toString i)) else none) = some d := e
    by_cases c : i.natAbs.log2 < 1920
    · rw [if_pos c] at e'
      cases e'
      exact ⟨i, rfl, c, q.now hr (.str _)⟩
    · rw [if_neg c] at e'
      cases e'
  | _ => cases e
/-! min, max, sum, all, any -/
def dMin2 (_ : List MO) : D → D → Option D
  | .int i, .int j => some (.int (if j < i then j else i))
  | _, _ => none
def dMax2 (_ : List MO) : D → D → Option D
  | .int i, .int j => some (.int (if j > i then j else i))
  | _, _ => none
theorem ok_min2 : Ok2 X (fun x y H Q => ∃ i j, [x, y] = [V.int i, .int j] ∧ Q (.int (if j < i then j else i)) H) dMin2 := fun x y H Z ι M dx dy d Q hr rx ry e q => by
  cases rx with
  | int i =>
    cases ry with
    | int j =>
      cases e
      exact ⟨i, j, rfl, q.now hr (.int _)⟩
    | _ => cases e
  | _ => cases ry <;> cases e
theorem ok_max2 : Ok2 X (fun x y H Q => ∃ i j, [x, y] = [V.int i, .int j] ∧ Q (.int (if j > i then j else i)) H) dMax2 := fun x y H Z ι M dx dy d Q hr rx ry e q => by
  cases rx with
  | int i =>
    cases ry with
    | int j =>
      cases e
      exact ⟨i, j, rfl, q.now hr (.int _)⟩
    | _ => cases e
  | _ => cases ry <;> cases e
def intsD : List D → Option (List Int)
  | [] => some []
  | .int i :: ds => (intsD ds).map (i :: ·)
  | _ => none
def blsD : List D → Option (List Bool)
  | [] => some []
  | .bl i :: ds => (blsD ds).map (i :: ·)
  | _ => none
theorem intsD_is {K : PySem.W.Frag} {Z : Hp} {ι : Nat → Addr} {n : Nat} : ∀ {ds : List D} {vs : List V} {is : List Int}, Rps K Z ι n ds vs → intsD ds = some is → vs = is.map V.int
  | [], _, _, r, h => by cases r; cases h; rfl
  | .int i :: ds, _, _, r, h => by
    cases r with
    | cons r rs =>
      have h' : (intsD ds).map (i :: ·) = some _ := h
      cases e : intsD ds with
      | none => rw [e] at h'; cases h'
      | some js =>
        rw [e] at h'
        cases h'
        cases r
        rw [intsD_is rs e]
        rfl
  | .non :: _, _, _, _, h => by cases h
  | .bl _ :: _, _, _, _, h => by cases h
  | .str _ :: _, _, _, _, h => by cases h
  | .tup _ :: _, _, _, _, h => by cases h
  | .lst _ :: _, _, _, _, h => by cases h
  | .ref _ :: _, _, _, _, h => by cases h
theorem blsD_is {K : PySem.W.Frag} {Z : Hp} {ι : Nat → Addr} {n : Nat} : ∀ {ds : List D} {vs : List V} {is : List Bool}, Rps K Z ι n ds vs → blsD ds = some is → vs = is.map V.bl
  | [], _, _, r, h => by cases r; cases h; rfl
  | .bl i :: ds, _, _, r, h => by
    cases r with
    | cons r rs =>
      have h' : (blsD ds).map (i :: ·) = some _ := h
      cases e : blsD ds with
      | none => rw [e] at h'; cases h'
      | some js =>
        rw [e] at h'
        cases h'
        cases r
        rw [blsD_is rs e]
        rfl
  | .non :: _, _, _, _, h => by cases h
  | .int _ :: _, _, _, _, h => by cases h
  | .str _ :: _, _, _, _, h => by cases h
  | .tup _ :: _, _, _, _, h => by cases h
  | .lst _ :: _, _, _, _, h => by cases h
  | .ref _ :: _, _, _, _, h => by cases h
@[simp] theorem intsD_map (is : List Int) : intsD (is.map D.int) = some is := by
  induction is with
  | nil => rfl
  | cons i is ih => simp [intsD, ih]
@[simp] theorem blsD_map (is : List Bool) : blsD (is.map D.bl) = some is := by
  induction is with
  | nil => rfl
  | cons i is ih => simp [blsD, ih]
def minI : List Int → Int
  | [] => 0
  | [i] => i
  | i :: j :: r => let m := minI (j :: r); if i ≤ m then i else m
def maxI : List Int → Int
  | [] => 0
  | [i] => i
  | i :: j :: r => let m := maxI (j :: r); if m ≤ i then i else m
theorem minI_is : ∀ (is : List Int) (m : Int), m ∈ is → (∀ y, y ∈ is → m ≤ y) → minI is = m
  | [], _, h, _ => by cases h
  | [i], m, h, _ => by
    have : m = i := by simpa using h
    rw [this]
    rfl
  | i :: j :: r, m, h, hl => by
    have h1 : m ≤ i := hl i List.mem_cons_self
    have up : ∀ l : List Int, l ≠ [] → minI l ∈ l := by
      intro l
      induction l with
      | nil => intro z; exact absurd rfl z
      | cons a l ih =>
        intro _
        cases l with
        | nil => simp [minI]
        | cons b l =>
          have q := ih (by simp)
          show (if a ≤ minI (b :: l) then a else minI (b :: l)) ∈ a :: b :: l
          split
          · exact List.mem_cons_self
          · exact List.mem_cons_of_mem _ q
    show (if i ≤ minI (j :: r) then i else minI (j :: r)) = m
    have hm := up (j :: r) (by simp)
    have h2 : m ≤ minI (j :: r) := hl _ (List.mem_cons_of_mem _ hm)
    rcases List.mem_cons.mp h with e | e
    · subst e
      rw [if_pos h2]
    · have q := minI_is (j :: r) m e fun y hy => hl y (List.mem_cons_of_mem _ hy)
      rw [q]
      split
      · omega
      · rfl
theorem maxI_is : ∀ (is : List Int) (m : Int), m ∈ is → (∀ y, y ∈ is → y ≤ m) → maxI is = m
  | [], _, h, _ => by cases h
  | [i], m, h, _ => by
    have : m = i := by simpa using h
    rw [this]
    rfl
  | i :: j :: r, m, h, hl => by
    have h1 : i ≤ m := hl i List.mem_cons_self
    have up : ∀ l : List Int, l ≠ [] → maxI l ∈ l := by
      intro l
      induction l with
      | nil => intro z; exact absurd rfl z
      | cons a l ih =>
        intro _
        cases l with
        | nil => simp [maxI]
        | cons b l =>
          have q := ih (by simp)
          show (if maxI (b :: l) ≤ a then a else maxI (b :: l)) ∈ a :: b :: l
          split
          · exact List.mem_cons_self
          · exact List.mem_cons_of_mem _ q
    show (if maxI (j :: r) ≤ i then i else maxI (j :: r)) = m
    have hm := up (j :: r) (by simp)
    have h2 : maxI (j :: r) ≤ m := hl _ (List.mem_cons_of_mem _ hm)
    rcases List.mem_cons.mp h with e | e
    · subst e
      rw [if_pos h2]
    · have q := maxI_is (j :: r) m e fun y hy => hl y (List.mem_cons_of_mem _ hy)
      rw [q]
      split
      · omega
      · rfl
def ofInts (f : List Int → Option D) (M : List MO) (d : D) : Option D := ((listD M d).bind intsD).bind f
def ofBls (f : List Bool → D) (M : List MO) (d : D) : Option D := ((listD M d).bind blsD).map f
def dSum := ofInts fun is => some (.int is.sum)
def dMin := ofInts fun is => if is = [] then none else some (.int (minI is))
def dMax := ofInts fun is => if is = [] then none else some (.int (maxI is))
def dAll := ofBls fun bs => .bl (bs.all id)
def dAny := ofBls fun bs => .bl (bs.any id)
theorem ofInts_run {K : PySem.W.Frag} {H Z : Hp} {ι : Nat → Addr} {M : List MO} {f : List Int → Option D} {dx d : D} {x : V} (hr : HR K H Z ι M) (r : Rp K Z ι M.length dx x) (e : ofInts f M dx = some d) : ∃ a is, x = .ref a ∧ SqL K H a (is.map V.int) ∧ f is = some d := by
  unfold ofInts at e
  cases e1 : listD M dx with
  | none => rw [e1] at e; cases e
  | some ds =>
    rw [e1, Option.bind_some] at e
    cases e2 : intsD ds with
    | none => rw [e2] at e; cases e
    | some is =>
      rw [e2] at e
      obtain ⟨a, xs, rfl, s, r2⟩ := listD_run hr r e1
      rw [intsD_is r2 e2] at s
      exact ⟨a, is, rfl, s.sq, e⟩
theorem ofBls_run {K : PySem.W.Frag} {H Z : Hp} {ι : Nat → Addr} {M : List MO} {f : List Bool → D} {dx d : D} {x : V} (hr : HR K H Z ι M) (r : Rp K Z ι M.length dx x) (e : ofBls f M dx = some d) : ∃ a is, x = .ref a ∧ SqL K H a (is.map V.bl) ∧ f is = d := by
  unfold ofBls at e
  cases e1 : listD M dx with
  | none => rw [e1] at e; cases e
  | some ds =>
    rw [e1, Option.bind_some] at e
    cases e2 : blsD ds with
    | none => rw [e2] at e; cases e
    | some is =>
      rw [e2] at e
      cases e
      obtain ⟨a, xs, rfl, s, r2⟩ := listD_run hr r e1
      rw [blsD_is r2 e2] at s
      exact ⟨a, is, rfl, s.sq, rfl⟩
theorem ok_sum : Ok1 X (fun x H Q => rSum X.K [x] H Q) dSum := fun x H Z ι M dx d Q hr rx e q => by
  obtain ⟨a, is, rfl, s, e2⟩ := ofInts_run hr rx e
  cases e2
  exact ⟨a, is, rfl, s, q.now hr (.int _)⟩
theorem ok_min : Ok1 X (fun x H Q => rMin X.K [x] H Q) dMin := fun x H Z ι M dx d Q hr rx e q => by
  obtain ⟨a, is, rfl, s, e2⟩ := ofInts_run hr rx e
  by_cases c : is = []
  · rw [if_pos c] at e2
    cases e2
  · rw [if_neg c] at e2
    cases e2
    refine ⟨a, is, rfl, s, List.length_pos_iff.mpr c, fun m h1 h2 => ?_⟩
    rw [← minI_is is m h1 h2]
    exact q.now hr (.int _)
theorem ok_max : Ok1 X (fun x H Q => rMax X.K [x] H Q) dMax := fun x H Z ι M dx d Q hr rx e q => by
  obtain ⟨a, is, rfl, s, e2⟩ := ofInts_run hr rx e
  by_cases c : is = []
  · rw [if_pos c] at e2
    cases e2
  · rw [if_neg c] at e2
    cases e2
    refine ⟨a, is, rfl, s, List.length_pos_iff.mpr c, fun m h1 h2 => ?_⟩
    rw [← maxI_is is m h1 h2]
    exact q.now hr (.int _)
theorem ok_all : Ok1 X (fun x H Q => rAll X.K [x] H Q) dAll := fun x H Z ι M dx d Q hr rx e q => by
  obtain ⟨a, is, rfl, s, rfl⟩ := ofBls_run hr rx e
  exact ⟨a, is, rfl, s, q.now hr (.bl _)⟩
theorem ok_any : Ok1 X (fun x H Q => rAny X.K [x] H Q) dAny := fun x H Z ι M dx d Q hr rx e q => by
  obtain ⟨a, is, rfl, s, rfl⟩ := ofBls_run hr rx e
  exact ⟨a, is, rfl, s, q.now hr (.bl _)⟩
/-! list(x), tuple(x) -/
def dList (M : List MO) (d : D) : Option D := (itemsD M d).map D.lst
def dTuple (M : List MO) (d : D) : Option D := (itemsD M d).map D.tup
theorem ok_list : Ok1 X (fun x H Q => ∃ p ys, [x] = [.ref p] ∧ (SqL X.K H p ys ∨ SqT X.K H p ys) ∧ ∀ l, H l = none → Q (.ref l) (upd H l (.lst ys))) dList := fun x H Z ι M dx d Q hr rx e q => by
  unfold dList at e
  cases e1 : itemsD M dx with
  | none => rw [e1] at e; cases e
  | some ds =>
    rw [e1] at e
    cases e
    obtain ⟨a, xs, rfl, s, r⟩ := itemsD_run hr rx e1
    exact ⟨a, xs, rfl, s.elim (fun s => .inl s.sq) .inr, q.lst hr r⟩
theorem ok_tuple : Ok1 X (fun x H Q => ∃ p ys, [x] = [.ref p] ∧ ((SqL X.K H p ys ∧ ∀ l, H l = none → Q (.ref l) (upd H l (.tup ys))) ∨ (SqT X.K H p ys ∧ Q (.ref p) H))) dTuple := fun x H Z ι M dx d Q hr rx e q => by
  unfold dTuple at e
  cases rx with
  | tup s r =>
    cases e
    exact ⟨_, _, rfl, .inr ⟨subT hr.sub s, q.now hr (.tup s r)⟩⟩
  | lst s r =>
    cases e
    exact ⟨_, _, rfl, .inl ⟨(subL hr.sub s).sq, q.tup hr r⟩⟩
  | ref hk =>
    rename_i k
    cases e1 : itemsD M (.ref k) with
    | none => rw [e1] at e; cases e
    | some ds =>
      rw [e1] at e
      cases e
      obtain ⟨a, xs, ea, s, r⟩ := listD_run hr (.ref hk) e1
      cases ea
      exact ⟨_, _, rfl, .inl ⟨s.sq, q.tup hr r⟩⟩
  | _ => cases e
end
/-! list(range(..)) -/
section
variable {X : Cx} {C : CT} {W : WX} {a b e : Expr} {ga gb : GE} {p pos p2 pos2 : Pos}
def rngOk (i j : Int) : Bool := inR i && inR j && decide ((j - i).toNat ≤ 2 ^ 24)
def gRgL (own : Bool) (ga gb : GE) : GE := fun Γ M => (ga Γ M).bind fun x M1 => (gb Γ M1).bind fun y M2 => match x, y with
  | .int i, .int j => if rngOk i j = true then (if own = true then .ok (.ref M2.length) (M2 ++ [.lst (rngL i (j - i).toNat)]) else .ok (.lst (rngL i (j - i).toNat)) M2) else .bad
  | _, _ => .bad
theorem rngL_rg {K : PySem.W.Frag} {Z : Hp} {ι : Nat → Addr} {m : Nat} : ∀ (n : Nat) (lo : Int), Rps K Z ι m (rngL lo n) ((List.range n).map fun i => V.int (lo + (i : Nat)))
  | 0, lo => .nil
  | n + 1, lo => by
    rw [List.range_succ_eq_map, List.map_cons, List.map_map]
    refine .cons (by simpa using Rp.int (lo)) ?_
    have ih := rngL_rg (K := K) (Z := Z) (ι := ι) (m := m) n (lo + 1)
    have e : ((List.range n).map ((fun i : Nat => V.int (lo + (i : Nat))) ∘ Nat.succ)) = (List.range n).map fun i : Nat => V.int (lo + 1 + (i : Nat)) := by
      apply List.map_congr_left
      intro i _
      simp only [Function.comp]
      congr 1
      push_cast
      omega
    rw [e]
    exact ih
theorem rg_read {ta : TE} {tb : TE} {own : Bool} (qa : ∀ (σ : St) (H Z : Hp) (ι : Nat → Addr) (Γ : Env) (M : List MO) (Q : VK), Slots X.K Z ι M.length Γ σ → HR X.K H Z ι M → Post X C W (rpE X.K) σ H Z ι M (ga Γ M) Q → ta σ H Q)
    (qb : ∀ (σ : St) (H Z : Hp) (ι : Nat → Addr) (Γ : Env) (M : List MO) (Q : VK), Slots X.K Z ι M.length Γ σ → HR X.K H Z ι M → Post X C W (rpE X.K) σ H Z ι M (gb Γ M) Q → tb σ H Q) (σ : St) (H Z : Hp) (ι : Nat → Addr) (Γ : Env) (M : List MO) (Q : VK) (sl : Slots X.K Z ι M.length Γ σ)
    (hr : HR X.K H Z ι M) (h : Post X C W (rpE X.K) σ H Z ι M (gRgL own ga gb Γ M) Q) : ta σ H fun x H1 => tb σ H1 fun y H2 => ∃ i j, x = .int i ∧ y = .int j ∧ RgOk i j ∧ ∀ q, H2 q = none → Q (.ref q) (upd H2 q (.lst (rgV i j))) := by
  refine qa σ H Z ι Γ M _ sl hr (Post.bind h fun x M1 v H1 Z1 ι1 e1 hr1 r1 h1 => qb σ H1 Z1 ι1 Γ M1 _ (sl.ext e1) hr1 (h1.bind fun y M2 u H2 Z2 ι2 e2 hr2 r2 h2 => ?_))
  have r1' := r1.ext e2
  cases r1' with
  | int i =>
    cases r2 with
    | int j =>
      have h3 : Post X C W (rpE X.K) σ H2 Z2 ι2 M2 (if rngOk i j = true then (if own = true then .ok (.ref M2.length) (M2 ++ [.lst (rngL i (j - i).toNat)]) else .ok (.lst (rngL i (j - i).toNat)) M2) else .bad) Q := h2
      by_cases c : rngOk i j = true
      · rw [if_pos c] at h3
        simp only [rngOk, inR, Bool.and_eq_true, decide_eq_true_eq] at c
        refine ⟨i, j, rfl, rfl, ⟨c.1.1.1, c.1.1.2, c.1.2.1, c.1.2.2, c.2⟩, fun q hq => ?_⟩
        have rr : Rps X.K Z2 ι2 M2.length (rngL i (j - i).toNat) (rgV i j) := rngL_rg _ _
        by_cases ho : own = true
        · rw [if_pos ho] at h3
          obtain ⟨hr3, e3⟩ := hr2.owned hq rr
          have qq : Rp X.K Z2 (put ι2 M2.length q) (M2 ++ [MO.lst (rngL i (j - i).toNat)]).length (.ref M2.length) (.ref (put ι2 M2.length q M2.length)) := .ref (by simp)
          rw [put_at] at qq
          exact h3 _ _ _ _ e3 hr3 qq
        · rw [if_neg ho] at h3
          exact h3.after.lst hr2 rr q hq
      · rw [if_neg c] at h3
        exact h3.elim
    | _ => exact h2.elim
  | _ => exact h2.elim
theorem qe_lrg2 (own : Bool) (hc : X.calm = true) (hg : Gl X "list") (hm : X.mg "list" = none) (hg2 : Gl X "range") (hm2 : X.mg "range" = none) (ha : QE X C W a ga) (hb : QE X C W b gb)
    (h1 : starEach [a, b] X.env = (false, eval a X.env) :: starEach [b] X.env := by rfl) (h2 : starEach [b] X.env = (false, eval b X.env) :: starEach [] X.env := by rfl) (h3 : (backTo pos2 (starEach [b] X.env)).any (·.1) = false := by rfl)
    (na : starEach [Expr.Call (.Name "range" p2) [a, b] [] pos2] X.env = (false, eval (Expr.Call (.Name "range" p2) [a, b] [] pos2) X.env) :: starEach [] X.env := by rfl) :
    QE X C W (.Call (.Name "list" p) [.Call (.Name "range" p2) [a, b] [] pos2] [] pos) (gRgL own ga gb) := by
  obtain ⟨ta, pa, qa⟩ := ha
  obtain ⟨tb, pb, qb⟩ := hb
  exact ⟨_, pe_listRg hc hg hm (prg_2 hg2 hm2 pa pb h1 h2 h3) na, fun σ H Z ι Γ M Q sl hr h => rg_read qa qb σ H Z ι Γ M Q sl hr h⟩
theorem qe_lrg1 (own : Bool) (hc : X.calm = true) (hg : Gl X "list") (hm : X.mg "list" = none) (hg2 : Gl X "range") (hm2 : X.mg "range" = none) (hb : QE X C W b gb) (h2 : starEach [b] X.env = (false, eval b X.env) :: starEach [] X.env := by rfl)
    (na : starEach [Expr.Call (.Name "range" p2) [b] [] pos2] X.env = (false, eval (Expr.Call (.Name "range" p2) [b] [] pos2) X.env) :: starEach [] X.env := by rfl) :
    QE X C W (.Call (.Name "list" p) [.Call (.Name "range" p2) [b] [] pos2] [] pos) (gRgL own (gC (.int 0)) gb) := by
  obtain ⟨tb, pb, qb⟩ := hb
  refine ⟨_, pe_listRg hc hg hm (prg_1 hg2 hm2 pb h2) na, fun σ H Z ι Γ M Q sl hr h => ?_⟩
  have q := rg_read (ta := tC (.int 0)) (ga := gC (.int 0)) (C := C) (W := W) (X := X) (fun σ H Z ι Γ M Q sl hr h => h _ H Z ι .refl hr (.int 0)) qb σ H Z ι Γ M Q sl hr h
  have q2 : tb σ H fun y H2 => ∃ i j, V.int 0 = .int i ∧ y = .int j ∧ RgOk i j ∧ ∀ q, H2 q = none → Q (.ref q) (upd H2 q (.lst (rgV i j))) := q
  have mono : (fun (y : V) (H2 : Hp) => ∃ i j, V.int 0 = .int i ∧ y = .int j ∧ RgOk i j ∧ ∀ q, H2 q = none → Q (.ref q) (upd H2 q (.lst (rgV i j)))) = fun y H2 => ∃ n, y = .int n ∧ RgOk 0 n ∧ ∀ q, H2 q = none → Q (.ref q) (upd H2 q (.lst (rgV 0 n))) := by
    funext y H2
    apply propext
    constructor
    · rintro ⟨i, j, e, e2, r⟩
      cases e
      exact ⟨j, e2, r⟩
    · rintro ⟨j, e2, r⟩
      exact ⟨0, j, rfl, e2, r⟩
  rw [mono] at q2
  exact q2
/-! isinstance -/
def tyName (M : List MO) : D → Option String
  | .non => some "NoneType"
  | .bl _ => some "bool"
  | .int _ => some "int"
  | .str _ => some "str"
  | .tup _ => some "tuple"
  | .lst _ => some "list"
  | .ref k => match M[k]? with
    | some (.lst _) => some "list"
    | _ => none
theorem tyName_run {K : PySem.W.Frag} {H Z : Hp} {ι : Nat → Addr} {M : List MO} {d : D} {x : V} {t : String} (hr : HR K H Z ι M) (r : Rp K Z ι M.length d x) (e : tyName M d = some t) : TyX K H x (.type t) := by
  have lists : ∀ {a : Addr} {xs : List V}, ExL K H a xs → TyX K H (.ref a) (.type "list") := fun {a xs} s => by
    rcases s with (s | ⟨o, s⟩) | ⟨its, m, s, _, _⟩
    · exact .base (.lst s)
    · exact .base (.frz s)
    · exact .kList s rfl
  cases r with
  | non => cases e; exact .base .non
  | bl b => cases e; exact .base (.bl b)
  | int i => cases e; exact .base (.int i)
  | str z => cases e; exact .base (.str z)
  | tup s r =>
    cases e
    rcases subT hr.sub s with (s | ⟨o, s⟩) | ⟨o, its, m, s, c, _⟩
    · exact .base (.tup s)
    · exact .fTuple s
    · exact .kTuple s c
  | lst s r =>
    cases e
    exact lists (subL hr.sub s)
  | ref hk =>
    rename_i k
    have e' : (match M[k]? with
      | some (.lst _) => some "list"
      | _ => none) = some t := e
    cases e1 : M[k]? with
    | none => rw [e1] at e'; cases e'
    | some o =>
      rw [e1] at e'
      cases o with
      | dead => cases e'
      | lst ds =>
        cases e'
        obtain ⟨xs, h1, _⟩ := hr.obj k _ e1
        exact lists (.inl (.of h1))
def dIsi (T : String) (M : List MO) (d : D) : Option D := (tyName M d).bind fun t => (kitB t T).map D.bl
def anyB (t : String) : List String → Option Bool
  | [] => some false
  | T :: Ts => match kitB t T with
    | some true => some true
    | some false => anyB t Ts
    | none => none
def dIsiT (Ts : List String) (M : List MO) (d : D) : Option D := (tyName M d).bind fun t => (anyB t Ts).map D.bl
theorem anyB_kit {K : PySem.W.Frag} {t : String} : ∀ {Ts : List String} {b : Bool}, anyB t Ts = some b → PySem.W.kitAny K (.type t) (Ts.map Value.type) = some b
  | [], b, h => by cases h; rfl
  | T :: Ts, b, h => by
    unfold anyB at h
    show (match PySem.W.kitOne K (.type t) (.type T) with
      | some true => some true
      | some false => PySem.W.kitAny K (.type t) (Ts.map Value.type)
      | none => none) = some b
    cases e : kitB t T with
    | none => rw [e] at h; cases h
    | some k =>
      rw [e] at h
      rw [kit_ty e]
      cases k with
      | true => exact h
      | false => exact anyB_kit h
theorem qe_isi {T : String} {TN : Str} {q : Pos} (hg : Gl X "isinstance") (hm : X.mg "isinstance" = none) (hT : Gl X TN) (hmT : X.mg TN = none) (hv : bootBuiltins TN = some (.type T)) (ha : QE X C W e ga) (hn : TN ≠ "__name__" := by decide) (hd : (TN == ("__debug__" : Str)) = false := by decide)
    (he : starEach [e, Expr.Name TN q] X.env = (false, eval e X.env) :: starEach [Expr.Name TN q] X.env := by rfl) (he2 : starEach [Expr.Name TN q] X.env = (false, eval (Expr.Name TN q) X.env) :: starEach [] X.env := by rfl) (hpl : (backTo pos (starEach [Expr.Name TN q] X.env)).any (·.1) = false := by rfl) :
    QE X C W (.Call (.Name "isinstance" p) [e, .Name TN q] [] pos) (gOp1 (dIsi T) ga) := by
  obtain ⟨ta, pa, qa⟩ := ha
  refine ⟨_, pe_callB call_isi hg hm (by decide +kernel) (pa_cons pa (pa_cons (pe_bltn (v := .ty T) hT hmT hv rfl hn hd) pa_nil he2) he) (he := he) (hpl := hpl), fun σ H Z ι Γ M Q sl hr h => qa σ H Z ι Γ M _ sl hr (h.bind fun x M1 v H1 Z1 ι1 e1 hr1 r1 h1 => ?_)⟩
  obtain ⟨d, hd, h3⟩ := Post.of_opR (γ := D) (δ := V) h1
  unfold dIsi at hd
  cases e2 : tyName M1 x with
  | none => rw [e2] at hd; cases hd
  | some t =>
    rw [e2, Option.bind_some] at hd
    cases e3 : kitB t T with
    | none => rw [e3] at hd; cases hd
    | some b =>
      rw [e3] at hd
      cases hd
      exact ⟨v, .ty T, .type t, .type T, b, rfl, .ty T, tyName_run hr1 r1 e2, kit_ty e3, h3.after.now hr1 (.bl b)⟩
theorem qe_isi2 {T1 T2 : String} {N1 N2 : Str} {q1 q2 q3 : Pos} {kk : Nat} (hg : Gl X "isinstance") (hm : X.mg "isinstance" = none) (hT1 : Gl X N1) (hm1 : X.mg N1 = none) (hv1 : bootBuiltins N1 = some (.type T1)) (hT2 : Gl X N2) (hm2 : X.mg N2 = none) (hv2 : bootBuiltins N2 = some (.type T2)) (ha : QE X C W e ga)
    (hn1 : N1 ≠ "__name__" := by decide) (hd1 : (N1 == ("__debug__" : Str)) = false := by decide) (hn2 : N2 ≠ "__name__" := by decide) (hd2 : (N2 == ("__debug__" : Str)) = false := by decide)
    (he : starEach [e, Expr.Tuple [.Name N1 q1, .Name N2 q2] kk q3] X.env = (false, eval e X.env) :: starEach [Expr.Tuple [.Name N1 q1, .Name N2 q2] kk q3] X.env := by rfl) (he2 : starEach [Expr.Tuple [.Name N1 q1, .Name N2 q2] kk q3] X.env = (false, eval (Expr.Tuple [.Name N1 q1, .Name N2 q2] kk q3) X.env) :: starEach [] X.env := by rfl)
    (hpl : (backTo pos (starEach [Expr.Tuple [.Name N1 q1, .Name N2 q2] kk q3] X.env)).any (·.1) = false := by rfl)
    (hs1 : starEach [Expr.Name N1 q1, Expr.Name N2 q2] X.env = (false, eval (Expr.Name N1 q1) X.env) :: starEach [Expr.Name N2 q2] X.env := by rfl) (hs2 : starEach [Expr.Name N2 q2] X.env = (false, eval (Expr.Name N2 q2) X.env) :: starEach [] X.env := by rfl) :
    QE X C W (.Call (.Name "isinstance" p) [e, .Tuple [.Name N1 q1, .Name N2 q2] kk q3] [] pos) (gOp1 (dIsiT [T1, T2]) ga) := by
  obtain ⟨ta, pa, qa⟩ := ha
  refine ⟨_, pe_callB call_isiT hg hm (by decide +kernel) (pa_cons pa (pa_cons (pe_tup (pa_cons (pe_bltn (v := .ty T1) hT1 hm1 hv1 rfl hn1 hd1) (pa_cons (pe_bltn (v := .ty T2) hT2 hm2 hv2 rfl hn2 hd2) pa_nil hs2) hs1)) pa_nil he2) he) (he := he) (hpl := hpl),
    fun σ H Z ι Γ M Q sl hr h => qa σ H Z ι Γ M _ sl hr (h.bind fun x M1 v H1 Z1 ι1 e1 hr1 r1 h1 => ?_)⟩
  obtain ⟨d, hd, h3⟩ := Post.of_opR (γ := D) (δ := V) h1
  unfold dIsiT at hd
  cases e2 : tyName M1 x with
  | none => rw [e2] at hd; cases hd
  | some t =>
    rw [e2, Option.bind_some] at hd
    cases e3 : anyB t [T1, T2] with
    | none => rw [e3] at hd; cases hd
    | some b =>
      rw [e3] at hd
      cases hd
      refine ⟨by show 2 ≤ sizeLine; decide, fun tp hp => ?_⟩
      obtain ⟨hr2, x2⟩ := hr1.frozen (o := .tup [.ty T1, .ty T2]) hp
      exact ⟨v, tp, [.ty T1, .ty T2], .type t, [.type T1, .type T2], b, rfl, upd_same, .cons (.ty T1) (.cons (.ty T2) .nil), tyName_run hr2 (r1.ext x2) e2, anyB_kit (Ts := [T1, T2]) e3, h3.after _ _ _ x2 hr2 (.bl b)⟩
end
end Bk

set_option Elab.async false
set_option linter.all false
set_option maxRecDepth 100000
set_option maxHeartbeats 2000000
namespace Bk
open PySem PySem.Spec PyProof.Rows L2
/-! ### what changes a list of ours -/
/-- a method: the list as it was, the argument; the list as it is, the answer -/
abbrev MF := List MO → List D → D → Option (List D × D)
abbrev MF0 := List D → Option (List D × D)
def isListD (M : List MO) (d : D) : Bool := (listD M d).isSome
def mutR (M : List MO) (x : D) (f : List D → Option (List D × D)) : R D := match x with
  | .ref k => match M[k]? with
    | some (.lst ds) => match f ds with
      | some (ds', r) => .ok r (M.set k (.lst ds'))
      | none => .bad
    | _ => .bad
  | _ => .bad
def gMeth1 (f : MF) (go ge : GE) : GE := fun Γ M => (go Γ M).bind fun x M1 => if isListD M1 x = true then (ge Γ M1).bind fun y M2 => mutR M2 x fun ds => f M2 ds y else .bad
def gMeth0 (f : MF0) (go : GE) : GE := fun Γ M => (go Γ M).bind fun x M1 => mutR M1 x f
section
variable {X : Cx} {C : CT} {W : WX}
def OkM (X : Cx) (r : V → List V → Hp → VK → Prop) (f : MF) : Prop := ∀ (p : Addr) (xs : List V) (y : V) (H Z : Hp) (ι : Nat → Addr) (M : List MO) (ds ds' : List D) (dy d : D) (Q : VK), HR X.K H Z ι M → H p = some (.lst xs) → Rps X.K Z ι M.length ds xs → Rp X.K Z ι M.length dy y → f M ds dy = some (ds', d) →
  (∀ (xs' : List V) (w : V), Rps X.K Z ι M.length ds' xs' → Rp X.K Z ι M.length d w → Q w (upd H p (.lst xs'))) → r (.ref p) [y] H Q
def OkM0 (X : Cx) (r : V → List V → Hp → VK → Prop) (f : MF0) : Prop := ∀ (p : Addr) (xs : List V) (H Z : Hp) (ι : Nat → Addr) (n : Nat) (ds ds' : List D) (d : D) (Q : VK), H p = some (.lst xs) → Rps X.K Z ι n ds xs → f ds = some (ds', d) →
  (∀ (xs' : List V) (w : V), Rps X.K Z ι n ds' xs' → Rp X.K Z ι n d w → Q w (upd H p (.lst xs'))) → r (.ref p) [] H Q
theorem mutR_run {σ : St} {H Z : Hp} {ι : Nat → Addr} {M : List MO} {x : D} {v : V} {f : List D → Option (List D × D)} {Q : VK} (hr : HR X.K H Z ι M) (r : Rp X.K Z ι M.length x v) (h : Post X C W (rpE X.K) σ H Z ι M (mutR M x f) Q) :
    ∃ (k : Nat) (ds ds' : List D) (d : D) (xs : List V), v = .ref (ι k) ∧ H (ι k) = some (.lst xs) ∧ Rps X.K Z ι M.length ds xs ∧ f ds = some (ds', d) ∧ ∀ (xs' : List V) (w : V), Rps X.K Z ι M.length ds' xs' → Rp X.K Z ι M.length d w → Q w (upd H (ι k) (.lst xs')) := by
  cases r with
  | ref hk =>
    rename_i k
    have h' : Post X C W (rpE X.K) σ H Z ι M (match M[k]? with
      | some (.lst ds) => match f ds with
        | some (ds', r) => .ok r (M.set k (.lst ds'))
        | none => .bad
      | _ => .bad) Q := h
    cases e1 : M[k]? with
    | none => rw [e1] at h'; exact h'.elim
    | some o =>
      rw [e1] at h'
      cases o with
      | dead => exact h'.elim
      | lst ds =>
        have h2 : Post X C W (rpE X.K) σ H Z ι M (match f ds with
          | some (ds', r) => .ok r (M.set k (.lst ds'))
          | none => .bad) Q := h'
        cases e2 : f ds with
        | none => rw [e2] at h2; exact h2.elim
        | some q =>
          obtain ⟨ds', d⟩ := q
          rw [e2] at h2
          obtain ⟨xs, a1, a2⟩ := hr.obj k _ e1
          refine ⟨k, ds, ds', d, xs, rfl, a1, a2, e2, fun xs' w r1 r2 => ?_⟩
          obtain ⟨b1, b2⟩ := hr.change e1 r1
          exact h2 w _ Z ι b2 b1 (r2.ext b2)
  | _ => exact h.elim
theorem isListD_run {K : PySem.W.Frag} {H Z : Hp} {ι : Nat → Addr} {M : List MO} {d : D} {v : V} (hr : HR K H Z ι M) (r : Rp K Z ι M.length d v) (h : isListD M d = true) : tyV K "list" v H := by
  unfold isListD at h
  cases e : listD M d with
  | none => rw [e] at h; cases h
  | some ds =>
    obtain ⟨a, xs, rfl, s, _⟩ := listD_run hr r e
    exact .inl ⟨rfl, xs, s.sq⟩
theorem qe_meth1 {o e : Expr} {go ge : GE} {f : MF} {id : String} {name : Str} {pos apos : Pos} {r : V → List V → Hp → VK → Prop} (slot : Slot "list" name id) (hty : typeOf (.builtin id) = pure (.type "method_descriptor")) (hm : MtR X id r) (ok : OkM X r f) (ho : QE X C W o go) (he : QE X C W e ge)
    (hbase : attributeBase o name X.env (eval o X.env) = eval o X.env := by rfl) (hs : starEach [e] X.env = (false, eval e X.env) :: starEach [] X.env := by rfl)
    (hfew : ((backTo pos (starEach [e] X.env)).all (fun x => !x.1) && (backToKw pos (keywordEach [] X.env)).all (fun x => x.1.isSome) && decide ([e].length + ([] : List Keyword).length + (if ([] : List Keyword).isEmpty then 0 else 1) < 30)) = true := by rfl)
    (hline : (apos.endLine == pos.line) = true := by rfl) : QE X C W (.Call (.Attribute o name apos) [e] [] pos) (gMeth1 f go ge) := by
  obtain ⟨ta, pa, qa⟩ := ho
  obtain ⟨tb, pb, qb⟩ := he
  refine ⟨_, pe_bm PySem.F.plainAttrs_list slot hty hm pa (pa_cons pb pa_nil hs) hbase hfew hline hs rfl, fun σ H Z ι Γ M Q sl hr h => qa σ H Z ι Γ M _ sl hr (h.bind fun x M1 v H1 Z1 ι1 e1 hr1 r1 h1 => ?_)⟩
  by_cases c : isListD M1 x = true
  · rw [if_pos c] at h1
    refine ⟨isListD_run hr1 r1 c, qb σ H1 Z1 ι1 Γ M1 _ (sl.ext e1) hr1 (h1.bind fun y M2 u H2 Z2 ι2 e2 hr2 r2 h2 => ?_)⟩
    obtain ⟨k, ds, ds', d, xs, ev, a1, a2, a3, a4⟩ := mutR_run hr2 (r1.ext e2) h2
    rw [ev]
    exact ok _ xs u H2 Z2 ι2 M2 ds ds' y d Q hr2 a1 a2 r2 a3 a4
  · rw [if_neg c] at h1
    exact h1.elim
theorem qe_meth0 {o : Expr} {go : GE} {f : MF0} {id : String} {name : Str} {pos apos : Pos} {r : V → List V → Hp → VK → Prop} (slot : Slot "list" name id) (hty : typeOf (.builtin id) = pure (.type "method_descriptor")) (hm : MtR X id r) (ok : OkM0 X r f) (ho : QE X C W o go)
    (hbase : attributeBase o name X.env (eval o X.env) = eval o X.env := by rfl) (hline : (apos.endLine == pos.line) = true := by rfl) : QE X C W (.Call (.Attribute o name apos) [] [] pos) (gMeth0 f go) := by
  obtain ⟨ta, pa, qa⟩ := ho
  refine ⟨_, pe_bm0 PySem.F.plainAttrs_list slot hty hm pa hbase hline, fun σ H Z ι Γ M Q sl hr h => qa σ H Z ι Γ M _ sl hr (h.bind fun x M1 v H1 Z1 ι1 e1 hr1 r1 h1 => ?_)⟩
  obtain ⟨k, ds, ds', d, xs, ev, a1, a2, a3, a4⟩ := mutR_run hr1 r1 h1
  rw [ev]
  exact ⟨.inl ⟨rfl, xs, .of a1⟩, ok _ xs H1 Z1 ι1 M1.length ds ds' d Q a1 a2 a3 a4⟩
def mAppend : MF := fun _ ds y => if ds.length < sizeLine then some (ds ++ [y], .non) else none
theorem ok_append : OkM X rAppend mAppend := fun p xs y H Z ι M ds ds' dy d Q hr e r ry h q => by
  unfold mAppend at h
  by_cases c : ds.length < sizeLine
  · rw [if_pos c] at h
    cases h
    exact ⟨p, xs, y, rfl, rfl, e, by rw [← r.length]; exact c, q _ _ (r.append (.cons ry .nil)) .non⟩
  · rw [if_neg c] at h
    cases h
def rExtendS (K : PySem.W.Frag) : V → List V → Hp → VK → Prop := fun x vs H Q => ∃ l b xs zs, x = .ref l ∧ vs = [.ref b] ∧ H l = some (.lst xs) ∧ ExL K H b zs ∧ xs.length + zs.length ≤ sizeLine ∧ Q .non (upd H l (.lst (xs ++ zs)))
theorem mt_extendS : MtM X "list.extend" (rExtendS X.K) := by
  intro pins s σ H x vs v us Q I rx rv h
  obtain ⟨l, b, xs, zs, rfl, rfl, h1, h2, hz, q⟩ := h
  cases rx
  obtain ⟨u, rfl, ru⟩ := rv.one
  cases ru
  obtain ⟨z, its, n, r, hl, e⟩ := I.lstM h1
  obtain ⟨its2, n2, r2, e2, z2⟩ := h2.at_ I
  have l2 := r2.length
  have room : its.toArray.size + its2.toArray.size ≤ sizeLine := by
    rw [List.size_toArray, List.size_toArray]
    omega
  have short : ¬ (!its.toArray.isEmpty && Builtin.List.listTooLong (its.toArray.size + its2.toArray.size)) = true := by
    rw [notLongL room, Bool.and_false]
    exact Bool.false_ne_true
  refine call_meets F.slot_list_extend ⟨_, e, rfl⟩ F.entry_list_extend (F.args_list_extend_2 _ _) (AutoSeq1.list_extend_list_list_0 l its.toArray n b its2.toArray n2 short (by rw [List.size_toArray]; omega) (by omega)) ⟨e, e2, ?_⟩
  exact ⟨.non, _, I.lset (its' := its ++ its2) h1 e (by simp) (r.append r2) (by rw [List.length_append]; omega), rfl, q⟩
def mExtend : MF := fun M ds y => match listD M y with
  | some es => if ds.length + es.length ≤ sizeLine then some (ds ++ es, .non) else none
  | none => none
theorem ok_extend : OkM X (rExtendS X.K) mExtend := fun p xs y H Z ι M ds ds' dy d Q hr e r ry h q => by
  unfold mExtend at h
  cases e1 : listD M dy with
  | none => rw [e1] at h; cases h
  | some es =>
    rw [e1] at h
    simp only at h
    obtain ⟨b, zs, rfl, s2, r2⟩ := listD_run hr ry e1
    by_cases c : ds.length + es.length ≤ sizeLine
    · rw [if_pos c] at h
      cases h
      exact ⟨p, b, xs, zs, rfl, rfl, e, s2, by rw [← r.length, ← r2.length]; exact c, q _ _ (r.append r2) .non⟩
    · rw [if_neg c] at h
      cases h
def mPopAt : MF := fun _ ds y => match y with
  | .int i => match ixN ds.length i with
    | some k => match ds[k]? with
      | some d => if decide (-(2 ^ 63) ≤ i) && decide (i < 2 ^ 63) then some (ds.eraseIdx k, d) else none
      | none => none
    | none => none
  | _ => none
theorem ok_popAt : OkM X rPopAt mPopAt := fun p xs y H Z ι M ds ds' dy d Q hr e r ry h q => by
  cases ry with
  | int i =>
    have h' : (match ixN ds.length i with
      | some k => match ds[k]? with
        | some d => if decide (-(2 ^ 63) ≤ i) && decide (i < 2 ^ 63) then some (ds.eraseIdx k, d) else none
        | none => none
      | none => none) = some (ds', d) := h
    cases e1 : ixN ds.length i with
    | none => rw [e1] at h'; cases h'
    | some k =>
      rw [e1] at h'
      simp only at h'
      cases e2 : ds[k]? with
      | none => rw [e2] at h'; cases h'
      | some d0 =>
        rw [e2] at h'
        simp only at h'
        by_cases c : (decide (-(2 ^ 63) ≤ i) && decide (i < 2 ^ 63)) = true
        · rw [if_pos c] at h'
          cases h'
          simp only [Bool.and_eq_true, decide_eq_true_eq] at c
          obtain ⟨v, a1, a2⟩ := r.get e2
          rw [r.length] at e1
          exact ⟨p, xs, i, k, v, rfl, rfl, e, c.1, c.2, (ixN_seq e1).1, a1, q _ _ (r.erase k) a2⟩
        · rw [if_neg c] at h'
          cases h'
  | _ => cases h
def mPop : MF0 := fun ds => match ds[ds.length - 1]? with
  | some d => some (ds.dropLast, d)
  | none => none
theorem rps_dropLast {K : PySem.W.Frag} {Z : Hp} {ι : Nat → Addr} {n : Nat} {ds : List D} {vs : List V} (r : Rps K Z ι n ds vs) : Rps K Z ι n ds.dropLast vs.dropLast := by
  rw [List.dropLast_eq_take, List.dropLast_eq_take, r.length]
  exact r.take _
theorem ok_pop : OkM0 X rPop mPop := fun p xs H Z ι n ds ds' d Q e r h q => by
  unfold mPop at h
  cases e2 : ds[ds.length - 1]? with
  | none => rw [e2] at h; cases h
  | some d0 =>
    rw [e2] at h
    cases h
    obtain ⟨v, a1, a2⟩ := r.get e2
    rw [r.length] at a1
    exact ⟨p, xs, v, rfl, rfl, e, a1, q _ _ (rps_dropLast r) a2⟩
/-! xs[i] = e -/
def setR (M : List MO) (o i v : D) : Option (List MO) := match o, i with
  | .ref k, .int j => match M[k]? with
    | some (.lst ds) => match ixN ds.length j with
      | some m => some (M.set k (.lst (ds.set m v)))
      | none => none
    | _ => none
  | _, _ => none
def gSetI (ge go gi : GE) : GS := fun Γ M => (ge Γ M).thenS Γ fun v M1 => (go Γ M1).thenS Γ fun o M2 => (gi Γ M2).thenS Γ fun i M3 => match setR M3 o i v with
  | some M4 => .nx Γ M4
  | none => .bad
theorem qs_setI {o i e : Expr} {go gi ge : GE} {pos spos : Pos} (he : QE X C W e ge) (ho : QE X C W o go) (hi : QE X C W i gi) (hs : swapsWithSole [Expr.Subscript o i spos] e pos.line X.env = pure false := by rfl) (hp : swappedStores [Expr.Subscript o i spos] e X.env = pure none := by rfl)
    (h1 : (assignEach [Expr.Subscript o i spos] X.env).map (·.2) = [assign (Expr.Subscript o i spos) X.env] := by rfl)
    (ha : ∀ v, assign (.Subscript o i spos) X.env v = (do let ov ← holding [v] (eval o X.env); let iv ← holding [v, ov] (eval i X.env); standAt spos; holding [v, ov, iv] (setItem ov iv v); release [v, ov, iv] []) := by intro _; rfl) :
    QS X C W (.Assign [.Subscript o i spos] e pos) (gSetI ge go gi) := by
  obtain ⟨te, pe, qe⟩ := he
  obtain ⟨to, po, qo⟩ := ho
  obtain ⟨ti, pi, qi⟩ := hi
  refine ⟨_, ps_asg pe (pg_sub po pi set_list ha) hs hp h1, fun Dd σ H Z ι Γ M sl hr h => qe σ H Z ι Γ M _ sl hr (PostS.bind h sl fun v M1 v' H1 Z1 ι1 e1 hr1 r1 h1 => qo σ H1 Z1 ι1 Γ M1 _ (sl.ext e1) hr1 (PostS.bind h1 (sl.ext e1) fun o M2 o' H2 Z2 ι2 e2 hr2 r2 h2 =>
    qi σ H2 Z2 ι2 Γ M2 _ ((sl.ext e1).ext e2) hr2 (PostS.bind h2 ((sl.ext e1).ext e2) fun i M3 i' H3 Z3 ι3 e3 hr3 r3 h3 => ?_)))⟩
  have ro := r2.ext e3
  have rv := (r1.ext e2).ext e3
  have sl3 := ((sl.ext e1).ext e2).ext e3
  cases es : setR M3 o i v with
  | none => rw [es] at h3; exact h3.elim
  | some M4 =>
    rw [es] at h3
    unfold setR at es
    cases ro with
    | ref hk =>
      rename_i k
      cases r3 with
      | int j =>
        simp only at es
        cases ek : M3[k]? with
        | none => rw [ek] at es; cases es
        | some u =>
          rw [ek] at es
          cases u with
          | dead => cases es
          | lst ds =>
            simp only at es
            cases em : ixN ds.length j with
            | none => rw [em] at es; cases es
            | some m =>
              rw [em] at es
              cases es
              obtain ⟨xs, a1, a2⟩ := hr3.obj k _ ek
              obtain ⟨b1, b2⟩ := hr3.change ek (a2.set m rv)
              exact ⟨_, xs, j, m, rfl, rfl, a1, by rw [← a2.length]; exact em, h3 σ _ Z3 ι3 b2 b1 (sl3.ext b2)⟩
      | _ => cases es
    | _ => cases es
/-! x += e -/
def gAug (i : Nat) (f : Int → Int → Int) (ge : GE) : GS := fun Γ M => match Γ[i]? with
  | some (some (.int a)) => (ge Γ M).thenS Γ fun y M1 => match y with
    | .int b => .nx (Γ.set i (some (.int (f a b)))) M1
    | _ => .bad
  | _ => .bad
theorem qs_aug (i : Nat) {x : Str} {e : Expr} {op : Operator} {f : Int → Int → Int} {ge : GE} {pos pos' : Pos} (hN : X.N.Nodup) (ho : PIp X op (ipI f)) (he : QE X C W e ge) (hi : X.N[i]? = some x := by rfl) (hx : Loc X.env.scope x := by first | exact Or.inl rfl | exact Or.inr rfl)
    (hf : X.fn x = true ∨ X.env.scope.names.lookup x = some .local := by first | exact Or.inl rfl | exact Or.inr rfl) : QS X C W (.AugAssign (.Name x pos') op e pos) (gAug i f ge) := by
  obtain ⟨te, pe, qe⟩ := he
  refine ⟨_, ps_aug hN hi hx pe ho hf, fun Dd σ H Z ι Γ M sl hr h => ?_⟩
  unfold gAug at h
  cases e1 : Γ[i]? with
  | none => rw [e1] at h; exact h.elim
  | some o =>
    rw [e1] at h
    cases o with
    | none => exact h.elim
    | some d =>
      cases d with
      | int a =>
        obtain ⟨v, a1, a2⟩ := sl.2 i _ e1
        cases a2
        refine ⟨_, a1, qe σ H Z ι Γ M _ sl hr (PostS.bind h sl fun y M1 u H1 Z1 ι1 x1 hr1 r1 h1 => ?_)⟩
        cases r1 with
        | int b => exact ⟨a, b, rfl, rfl, h1 _ H1 Z1 ι1 .refl hr1 ((sl.ext x1).set i (.int _))⟩
        | _ => exact h1.elim
      | _ => exact h.elim
/-! repr -/
def rReprD (K : PySem.W.Frag) : List V → Hp → VK → Prop := fun xs H Q => ∃ (a : Addr) (d : PyData), xs = [.ref a] ∧ Dp K H (.ref a) d ∧ d.showable = true ∧ d.hasDict = false ∧ d.depth ≤ 60 ∧ d.shown.length ≤ sizeLine ∧ Q (.str d.shown) H
theorem call_reprD (hgu : X.A.guards = some []) (hu : X.A.units + 64 < cLine) : CallR X (.builtin "repr") (rReprD X.K) := by
  intro pins s σ H xs us Q I r h
  obtain ⟨a, d, rfl, hd, h1, h2, h3, h4, q⟩ := h
  obtain ⟨u, rfl, ru⟩ := Vals.one r
  cases ru
  obtain ⟨as, rd⟩ := Dp.reads I d (.ref a) (.ref a) hd rfl
  refine repr_of_reads' rd h1 (fun z => by rw [h2] at z; cases z) hgu (by omega) (fun _ _ e => e) (fun h' u tk k => ?_) h4
  exact ⟨.str d.shown, H, I.kept (t' := tk) k, ⟨u, rfl⟩, q⟩
def dRepr (M : List MO) (d : D) : Option D := match d with
  | .non => none
  | .bl _ => none
  | .int _ => none
  | .str _ => none
  | d => (toP (deref M d)).bind fun p => if (p.showable && !p.hasDict && decide (p.depth ≤ 60) && decide (p.shown.length ≤ sizeLine)) = true then some (.str p.shown) else none
theorem ok_repr : Ok1 X (fun x H Q => rReprD X.K [x] H Q) dRepr := fun x H Z ι M dx d Q hr rx e q => by
  have go : ∀ {dx : D} {a : Addr}, Rp X.K Z ι M.length dx (.ref a) → ((toP (deref M dx)).bind fun p => if (p.showable && !p.hasDict && decide (p.depth ≤ 60) && decide (p.shown.length ≤ sizeLine)) = true then some (D.str p.shown) else none) = some d → rReprD X.K [.ref a] H Q := fun {dx a} rx e => by
    cases e1 : toP (deref M dx) with
    | none => rw [e1] at e; cases e
    | some p =>
      rw [e1, Option.bind_some] at e
      by_cases c : (p.showable && !p.hasDict && decide (p.depth ≤ 60) && decide (p.shown.length ≤ sizeLine)) = true
      · rw [if_pos c] at e
        cases e
        simp only [Bool.and_eq_true, Bool.not_eq_true', decide_eq_true_eq] at c
        exact ⟨a, p, rfl, deref_dp hr rx e1, c.1.1.1, c.1.1.2, c.1.2, c.2, q.now hr (.str _)⟩
      · rw [if_neg c] at e
        cases e
  cases rx with
  | tup s r => exact go (.tup s r) e
  | lst s r => exact go (.lst s r) e
  | ref hk => exact go (.ref hk) e
  | _ => cases e
end
end Bk

set_option Elab.async false
set_option linter.all false
set_option maxRecDepth 100000
set_option maxHeartbeats 2000000
namespace Bk
open PySem PySem.Spec PyProof.Rows L2
/-! ### enumerate and zip of lists and tuples -/
inductive Src where
  | l (a : Addr) | t (a : Addr)
namespace Src
def addr : Src → Addr
  | .l a => a
  | .t a => a
def here (K : PySem.W.Frag) (H : Hp) (xs : List V) : Src → Prop
  | .l a => SqL K H a xs
  | .t a => SqT K H a xs
def it (h : Heap) (i : Addr) (n : Nat) : Src → Prop
  | .l a => h.IsListIter i a n
  | .t a => h.IsTupleIter i a n
def arr (h : Heap) (items : Array Value) : Src → Prop
  | .l a => h.IsList a items
  | .t a => h.IsTuple a items
def obj : Src → Obj
  | .l a => { cls := .type "list_iterator", data := .fields #[.ref a, .int 0 0] }
  | .t a => { cls := .type "tuple_iterator", data := .fields #[.ref a, .int 0 0] }
theorem begins (S : Src) (items : Array Value) : Begins (.ref S.addr) S.obj fun h => S.arr h items := by
  cases S with
  | l a => exact begins_list a items
  | t a => exact begins_tuple a items
theorem draws {prog : Program} {w : World} {A : Around} (hh : A.handled = none) (S : Src) (i : Addr) (hne : S.addr ≠ i) (items : Array Value) :
    Draws prog w A i [i, S.addr] items.size (fun n v => items[n]? = some v) (fun n h => S.it h i n ∧ S.arr h items) := by
  cases S with
  | l a => exact Draws.list hh i a hne items
  | t a => exact Draws.tuple hh i a hne items
theorem inv {X : Cx} {pins : List (Addr × Obj)} {σ : L2.St} {H : Hp} {s : Shared} {xs : List V} (I : Inv X pins σ H s) {S : Src} (h : S.here X.K H xs) : ∃ its : List Value, Vals xs its ∧ S.arr s.heap its.toArray := by
  cases S with
  | l a =>
    obtain ⟨its, r, p, _⟩ := I.list h
    exact ⟨its, r, p.isList⟩
  | t a =>
    obtain ⟨its, r, p, _⟩ := I.tuple h
    exact ⟨its, r, p⟩
theorem inj {X : Cx} {pins : List (Addr × Obj)} {σ : L2.St} {H : Hp} {s : Shared} {xs ys : List V} (I : Inv X pins σ H s) {S : Src} (h : S.here X.K H xs) (h' : S.here X.K H ys) : xs = ys := by
  cases S with
  | l a => exact I.list_inj h h'
  | t a => exact I.tuple_inj h h'
theorem start {S : Src} {h : Heap} {i : Addr} (e : h.get? i = some S.obj) : S.it h i 0 := by
  cases S with
  | l a => exact ⟨_, e, rfl, rfl⟩
  | t a => exact ⟨_, e, rfl, rfl⟩
theorem it_at {S : Src} {h h' : Heap} {i : Addr} {n : Nat} (x : S.it h i n) (k : ∀ o, h.get? i = some o → h'.get? i = some o) : S.it h' i n := by
  cases S with
  | l a =>
    have y : h.IsListIter i a n := x
    exact y.at k
  | t a =>
    have y : h.IsTupleIter i a n := x
    exact y.at k
theorem it_obj {S : Src} {h : Heap} {i : Addr} {n : Nat} (x : S.it h i n) : ∃ o, h.get? i = some o ∧ ∀ v, o.data ≠ .cell v := by
  cases S with
  | l a =>
    obtain ⟨o, ho, _, hd⟩ := (show h.IsListIter i a n from x)
    exact ⟨o, ho, fun v q => by rw [hd] at q; cases q⟩
  | t a =>
    obtain ⟨o, ho, _, hd⟩ := (show h.IsTupleIter i a n from x)
    exact ⟨o, ho, fun v q => by rw [hd] at q; cases q⟩
theorem arr_ne {S : Src} {h : Heap} {items : Array Value} {b : Addr} {ob : Obj} (x : S.arr h items) (e : h.get? b = some ob) (hd : ∀ its n, ob.data ≠ .seq its n) : S.addr ≠ b := by
  cases S with
  | l a =>
    obtain ⟨o, ho, _, m, hdd⟩ := (show h.IsList a items from x)
    intro z
    have z' : a = b := z
    rw [z', e] at ho
    cases ho
    exact hd _ _ hdd
  | t a =>
    obtain ⟨o, ho, _, m, hdd⟩ := (show h.IsTuple a items from x)
    intro z
    have z' : a = b := z
    rw [z', e] at ho
    cases ho
    exact hd _ _ hdd
theorem arr_it {S : Src} {h : Heap} {items : Array Value} {i : Addr} {n : Nat} (x : S.arr h items) (y : S.it h i n) : S.addr ≠ i := by
  cases S with
  | l a =>
    obtain ⟨o, ho, _, m, hd⟩ := (show h.IsList a items from x)
    obtain ⟨o', ho', _, hd'⟩ := (show h.IsListIter i a n from y)
    intro z
    have z' : a = i := z
    rw [z', ho'] at ho
    cases ho
    rw [hd] at hd'
    cases hd'
  | t a =>
    obtain ⟨o, ho, _, m, hd⟩ := (show h.IsTuple a items from x)
    obtain ⟨o', ho', _, hd'⟩ := (show h.IsTupleIter i a n from y)
    intro z
    have z' : a = i := z
    rw [z', ho'] at ho
    cases ho
    rw [hd] at hd'
    cases hd'
theorem arr_lt {S : Src} {h : Heap} {items : Array Value} (x : S.arr h items) : S.addr < h.objs.size := by
  cases S with
  | l a =>
    obtain ⟨o, ho, _⟩ := (show h.IsList a items from x)
    exact Heap.lt_size ho
  | t a =>
    obtain ⟨o, ho, _⟩ := (show h.IsTuple a items from x)
    exact Heap.lt_size ho
end Src
set_option maxHeartbeats 4000000 in
theorem meets_enum1 {v : Value} {o : Obj} {H : Heap → Prop} (B : Begins v o H) :
    Meets (Builtin.«enumerate.__new__» ⟨[.type "enumerate", v], []⟩) (fun _ R s => H s.heap ∧ R (.ok (.ret (.ref (s.heap.push o).objs.size)))
      { s with heap := (s.heap.push o).push { cls := .type "enumerate", data := .fields #[.none, .bool false, .ref s.heap.objs.size, rawInt 0, .none, .none] } }) :=
  .of_wp fun prog w A R s hs => by
    obtain ⟨hp, g, d, tk, os⟩ := s
    obtain ⟨hH, hR⟩ := hs
    have subs := sub_enumerate
    have iter : ∀ {A' : Around} {E : Value → Shared → Prop} {Q : Value → Shared → Prop}, Q (.ref hp.objs.size) ⟨hp.push o, g, d, tk, os⟩ → wpAny (model prog w) A' (pyIter v) Q E ⟨hp, g, d, tk, os⟩ := fun q => B.iter prog w _ _ _ _ hH q
    wp_walk using iter
    refine wpAny_stack_any fun _ => wpAny_pure ?_
    split
    · rename_i c _ _ _ _ _
      cases (c == Value.type "enumerate") <;> (wp_walk using iter; exact ⟨_, rfl, hR⟩)
    · wp_walk using iter
      exact ⟨_, rfl, hR⟩
theorem call_enum1 {prog : Program} {w : World} {A : Around} {E : Value → Shared → Prop} {s : Shared} {v : Value} {o : Obj} {H : Heap → Prop} {Q : Value → Shared → Prop} (B : Begins v o H) (hH : H s.heap)
    (h : ∀ h', IsEnum h' (s.heap.objs.size + 1) s.heap.objs.size 0 .none → h'.get? s.heap.objs.size = some o → (∀ b u, s.heap.get? b = some u → h'.get? b = some u) → Q (.ref (s.heap.objs.size + 1)) { s with heap := h' }) :
    wpAny (model prog w) A (call (.type "enumerate") [v]) Q E s := by
  refine callType_new F.called_enumerate (by decide) (F.typeCall_enumerate_1 _) (F.newCall_enumerate_1 _) (fun ob => F.args_object_init_2 ob _) F.entry_enumerate_new (meets_enum1 B) ⟨hH, ?_⟩
  have sz : (s.heap.push o).objs.size = s.heap.objs.size + 1 := Heap.size_push ..
  show _ ∧ _
  rw [sz]
  have e := Heap.get?_push_size (s.heap.push o) (o := { cls := .type "enumerate", data := .fields #[.none, .bool false, .ref s.heap.objs.size, rawInt 0, .none, .none] }) rfl
  rw [sz] at e
  exact ⟨⟨_, e, rfl⟩, h _ e (Heap.get?_push_of_some _ (Heap.get?_push_size _ B.free)) fun b u x => Heap.get?_push_of_some _ (Heap.get?_push_of_some _ x)⟩
/-! the turns -/
def Ien (K : PySem.W.Frag) (S : Src) (k0 : Int) : It :=
  ⟨fun n H => ∃ (xs : List V) (x : V), S.here K H xs ∧ xs[n]? = some x, fun n H v H' => ∃ T x, v = .ref T ∧ H T = none ∧ H' = upd H T (.tup [.int (k0 + (n : Nat)), x]) ∧ ∀ xs, S.here K H xs → xs[n]? = some x, fun n H => ∃ xs : List V, S.here K H xs ∧ xs.length = n⟩
theorem turn_en {P : Program} {w : World} {K : PySem.W.Frag} {elts : List Expr} {kk : Nat} {tpos : Pos} (S : Src) (k0 : Int) (e i : Addr) :
    Turn P w K (.Tuple elts kk tpos) (Ien K S k0) [e, i] e (fun n h => (∃ old, IsEnum h e i (k0 + (n : Nat)) old) ∧ S.it h i n ∧ e ≠ i) where
  mem := List.mem_cons_self
  obj := fun n h st b hb => by
    obtain ⟨⟨old, he⟩, hi, _⟩ := st
    rcases List.mem_cons.mp hb with z | z
    · subst z
      exact ⟨_, he, fun v q => nomatch q⟩
    · have z' : b = i := by simpa using z
      subst z'
      exact Src.it_obj hi
  keep := fun n h h' st k => by
    obtain ⟨⟨old, he⟩, hi, ne⟩ := st
    exact ⟨⟨old, k e (by simp) _ he⟩, Src.it_at hi fun o q => k i (by simp) o q, ne⟩
  item := by
    intro X hP hw hK hc n pins s σ H E I hf st hg
    subst hP hw hK
    obtain ⟨⟨old, he⟩, hi, ne⟩ := st
    obtain ⟨xs, x, hq, hx⟩ := hg
    obtain ⟨its, rv, har⟩ := Src.inv I hq
    obtain ⟨u, hu, ru⟩ := rv.get hx
    obtain ⟨oi, hoi, _⟩ := Src.it_obj hi
    have hh : X.A.in1.handled = none := I.ok.hd hc
    have a1 : S.addr ≠ e := Src.arr_ne har he (fun _ _ q => nomatch q)
    have a2 := Src.arr_it har hi
    have Wk := WalksT.enumFrom k0 (Src.draws (prog := X.prog) (w := X.w) hh S i a2 its.toArray) e ne (by simp only [List.mem_cons, List.not_mem_nil, or_false, not_or]; exact ⟨ne, fun z => a1 z.symm⟩) (by simp)
    have ln : n < its.toArray.size := by
      have := (List.getElem?_eq_some_iff.mp hu).1
      simpa using this
    refine Wk.item n s _ E ln ⟨⟨old, he⟩, hi, har⟩ fun T vals h' tk hP hT hTup hMid hk => ⟨_, rfl, Wk.go elts kk tpos n T _ _ _ hMid fun h2 hSt hk2 => ?_⟩
    obtain ⟨t, x', hx', hvals⟩ := hP
    subst hvals
    have ex : x' = u := by
      have q : its.toArray[n]? = some u := by simpa using hu
      rw [hx'] at q
      exact Option.some.inj q
    subst ex
    have out := Wk.apart n T _ hMid
    have tup2 : h2.IsTuple T #[.int (k0 + (n : Nat)) t, x'] := hTup.at fun o q => hk2 T o out q
    have new : ObjOk X.prog X.w (upd H T (.tup [.int (k0 + (n : Nat)), x])) h2 T (.tup [.int (k0 + (n : Nat)), x]) :=
      ⟨by show 2 ≤ sizeLine; decide, [.int (k0 + (n : Nat)) t, x'], .cons ⟨_, rfl⟩ (.cons ru .nil), tup2⟩
    have J := I.turnedNew (t' := tk) (ch := [e, i]) (fun b ob hb q => hk2 b ob hb (hk b ob hb q)) hf hT new
    refine ⟨.ref T, _, J, rfl, ⟨T, x, rfl, I.hok.fresh hT, rfl, fun ys hy => by rw [Src.inj I hy hq]; exact hx⟩, ?_, fun b hb => ?_⟩
    · obtain ⟨⟨o2, he2⟩, hi2, _⟩ := hSt
      have en : k0 + ((n + 1 : Nat) : Int) = k0 + (n : Nat) + 1 := by push_cast; omega
      exact ⟨⟨o2, by first | exact he2 | (rw [en]; exact he2)⟩, hi2, ne⟩
    · have hb' : b < s.heap.objs.size := by
        rcases List.mem_cons.mp hb with z | z
        · rw [z]; exact Heap.lt_size he
        · have z' : b = i := by simpa using z
          rw [z']; exact Heap.lt_size hoi
      rw [upd_ne (Nat.ne_of_lt (Nat.lt_of_lt_of_le hb' hT))]
      exact (hf b hb).1
  done := by
    intro X hP hw hK hc n pins s σ H E I hf st hg
    subst hP hw hK
    obtain ⟨⟨old, he⟩, hi, ne⟩ := st
    obtain ⟨xs, hq, hx⟩ := hg
    obtain ⟨its, rv, har⟩ := Src.inv I hq
    have hh : X.A.in1.handled = none := I.ok.hd hc
    have a1 : S.addr ≠ e := Src.arr_ne har he (fun _ _ q => nomatch q)
    have Wk := WalksT.enumFrom k0 (Src.draws (prog := X.prog) (w := X.w) hh S i (Src.arr_it har hi) its.toArray) e ne (by simp only [List.mem_cons, List.not_mem_nil, or_false, not_or]; exact ⟨ne, fun z => a1 z.symm⟩) (by simp)
    have en : its.toArray.size = n := by rw [List.size_toArray, ← rv.length]; exact hx
    rw [en] at Wk
    exact Wk.done s _ E ⟨⟨old, he⟩, hi, har⟩ fun h' tk hk => ⟨rfl, I.turnedL (t' := tk) (ch := [e, i]) (fun b ob hb q => hk b ob hb q) hf⟩
  self := fun A n s Q E st h => by
    obtain ⟨⟨_, he⟩, _⟩ := st
    exact wpAny_pyIter_enum he h
end Bk

set_option Elab.async false
set_option linter.all false
set_option maxRecDepth 100000
set_option maxHeartbeats 2000000
namespace Bk
open PySem PySem.Spec PyProof.Rows L2
def enumL (k : Int) : List D → List D
  | [] => []
  | d :: ds => .tup [.int k, d] :: enumL (k + 1) ds
theorem enumL_len : ∀ (ds : List D) (k : Int), (enumL k ds).length = ds.length
  | [], _ => rfl
  | d :: ds, k => by simp [enumL, enumL_len ds]
theorem enumL_get : ∀ (ds : List D) (k : Int) (i : Nat) (x : D), (enumL k ds)[i]? = some x → ∃ d, ds[i]? = some d ∧ x = .tup [.int (k + (i : Nat)), d]
  | [], _, _, _, h => by simp [enumL] at h
  | d :: ds, k, 0, x, h => by
    simp [enumL] at h
    exact ⟨d, rfl, by rw [← h]; simp⟩
  | d :: ds, k, i + 1, x, h => by
    simp only [enumL, List.getElem?_cons_succ] at h
    obtain ⟨d', h1, h2⟩ := enumL_get ds (k + 1) i x h
    refine ⟨d', by simpa using h1, ?_⟩
    rw [h2]
    congr 3
    push_cast
    omega
def zipL : List D → List D → List D
  | d :: ds, e :: es => .tup [d, e] :: zipL ds es
  | _, _ => []
theorem zipL_len : ∀ (ds es : List D), (zipL ds es).length = min ds.length es.length
  | [], _ => by simp [zipL]
  | _ :: _, [] => by simp [zipL]
  | d :: ds, e :: es => by
    simp only [zipL, List.length_cons, zipL_len ds es]
    omega
theorem zipL_get : ∀ (ds es : List D) (i : Nat) (x : D), (zipL ds es)[i]? = some x → ∃ d e, ds[i]? = some d ∧ es[i]? = some e ∧ x = .tup [d, e]
  | [], _, _, _, h => by simp [zipL] at h
  | _ :: _, [], _, _, h => by simp [zipL] at h
  | d :: ds, e :: es, 0, x, h => by
    simp [zipL] at h
    exact ⟨d, e, rfl, rfl, h.symm⟩
  | d :: ds, e :: es, i + 1, x, h => by
    simp only [zipL, List.getElem?_cons_succ] at h
    obtain ⟨d', e', h1, h2, h3⟩ := zipL_get ds es i x h
    exact ⟨d', e', by simpa using h1, by simpa using h2, h3⟩
def gEnum (ge : GE) : GI := fun Γ M => (ge Γ M).bind fun d M1 => opR ((seqD d).map (enumL 0)) M1
def gEnumK (ge : GE) (gk : GE) : GI := fun Γ M => (ge Γ M).bind fun d M1 => (gk Γ M1).bind fun k M2 => match k with
  | .int k => if decide (-(2 ^ 63) ≤ k) && decide (k < 2 ^ 63) then opR ((seqD d).map (enumL k)) M2 else .bad
  | _ => .bad
def zipO (x y : D) : Option (List D) := match seqD x, seqD y with
  | some ds, some es => some (zipL ds es)
  | _, _ => none
def gZip (ga gb : GE) : GI := fun Γ M => (ga Γ M).bind fun x M1 => (gb Γ M1).bind fun y M2 => opR (zipO x y) M2
section
variable {X : Cx} {C : CT} {W : WX} {e e2 : Expr} {ge ga gb gk : GE} {p pos tpos : Pos} {elts : List Expr} {kk : Nat}
theorem src_of {K : PySem.W.Frag} {H Z : Hp} {ι : Nat → Addr} {n : Nat} {d : D} {ds : List D} {v : V} (hs : Sub Z H) (r : Rp K Z ι n d v) (h : seqD d = some ds) : ∃ (S : Src) (xs : List V), v = .ref S.addr ∧ S.here K Z xs ∧ Rps K Z ι n ds xs := by
  cases r with
  | lst s r => cases h; exact ⟨.l _, _, rfl, s.sq, r⟩
  | tup s r => cases h; exact ⟨.t _, _, rfl, s, r⟩
  | _ => cases h
theorem here_sub {K : PySem.W.Frag} {Z H : Hp} (h : Sub Z H) {S : Src} {xs : List V} : S.here K Z xs → S.here K H xs := by
  cases S with
  | l a =>
    intro q
    rcases (show SqL K Z a xs from q) with (q | ⟨o, q⟩) | q
    · exact .inl (.inl (h _ _ q))
    · exact .inl (.inr ⟨o, h _ _ q⟩)
    · exact .inr q
  | t a => exact fun q => subT h q
theorem itr_en {K : PySem.W.Frag} {Z : Hp} {ι : Nat → Addr} {n : Nat} {S : Src} {xs : List V} {ds : List D} {k : Int} (s : S.here K Z xs) (r : Rps K Z ι n ds xs) : ItR K (Ien K S k) (enumL k ds) Z ι n := by
  intro i H' Z' ι' M' hz hi hn hr _
  have sH : S.here K H' xs := here_sub (fun a o h => hr.sub _ _ (hz _ _ h)) s
  refine ⟨fun hl => ⟨xs, sH, by rw [← r.length, ← enumL_len ds k]; exact hl⟩, fun d hd => ?_⟩
  obtain ⟨d0, h1, rfl⟩ := enumL_get ds k i d hd
  obtain ⟨v, hv, rv⟩ := r.get h1
  refine ⟨⟨xs, v, sH, hv⟩, fun x H2 hy => ?_⟩
  obtain ⟨T, x', rfl, hT, rfl, hx⟩ := hy
  have ex : xs[i]? = some x' := hx _ sH
  rw [hv] at ex
  cases ex
  obtain ⟨q1, q2⟩ := hr.frozen (o := .tup [.int (k + (i : Nat)), v]) hT
  refine ⟨_, q2, q1, .tup (.inl (.inl upd_same)) (.cons (.int _) (.cons ?_ .nil))⟩
  exact Rp.ext (Rp.mono hz hi hn _ _ rv) q2
theorem qi_enum (hg : Gl X "enumerate") (hm : X.mg "enumerate" = none) (ha : QE X C W e ge) (hs : starEach [e] X.env = (false, eval e X.env) :: starEach [] X.env := by rfl) : QI X C W (.Tuple elts kk tpos) (.Call (.Name "enumerate" p) [e] [] pos) (gEnum ge) := by
  obtain ⟨ta, pa, qa⟩ := ha
  refine ⟨fun σ H R => ta σ H fun v H1 => ∃ (S : Src) (xs : List V), v = .ref S.addr ∧ S.here X.K H1 xs ∧ R (Ien X.K S 0) H1, ⟨fun pins s σ H R I h => ?_⟩, fun σ H Z ι Γ M Q sl hr h => qa σ H Z ι Γ M _ sl hr (Post.bind h fun x M1 v H1 Z1 ι1 e1 hr1 r1 h1 => ?_)⟩
  · refine Call_ (ld_blt I hg hm boot_enumerate (PyProof.Rows.callWith_type1 (thn ((pa_cons pa pa_nil hs).run pos pins s σ H (fun vs H1 => ∃ v, vs = [v] ∧ ∃ (S : Src) (xs : List V), v = .ref S.addr ∧ S.here X.K H1 xs ∧ R (Ien X.K S 0) H1) I ?_) fun us s1 hh => ?_) hs rfl))
    · have hmono : (fun x H1 => tNil σ H1 fun xs H2 => ∃ v, x :: xs = [v] ∧ ∃ (S : Src) (ys : List V), v = .ref S.addr ∧ S.here X.K H2 ys ∧ R (Ien X.K S 0) H2) = fun (v : V) (H1 : Hp) => ∃ (S : Src) (xs : List V), v = .ref S.addr ∧ S.here X.K H1 xs ∧ R (Ien X.K S 0) H1 := by
        funext x H1
        apply propext
        constructor
        · rintro ⟨v, ev, q⟩
          cases ev
          exact q
        · intro q
          exact ⟨x, rfl, q⟩
      show ta σ H fun x H1 => tNil σ H1 fun xs H2 => ∃ v, x :: xs = [v] ∧ ∃ (S : Src) (ys : List V), v = .ref S.addr ∧ S.here X.K H2 ys ∧ R (Ien X.K S 0) H2
      rw [hmono]
      exact h
    · obtain ⟨vs, H1, J, r1, v, rfl, S, xs, rfl, hq, q⟩ := hh
      obtain ⟨u, rfl, ru⟩ := Vals.one r1
      cases ru
      obtain ⟨its, rv, har⟩ := Src.inv J hq
      refine call_enum1 (S.begins its.toArray) har fun h' he hit hk => wpAny_pyIter_enum he ?_
      have J2 : Inv X pins σ H1 { s1 with heap := h' } := J.kept (t' := s1.toks) hk
      refine ⟨s1.heap.objs.size + 1, [s1.heap.objs.size + 1, s1.heap.objs.size], _, _, H1, rfl, J2, turn_en S 0 (s1.heap.objs.size + 1) s1.heap.objs.size, ⟨⟨.none, by simpa using he⟩, Src.start hit, Nat.succ_ne_self _⟩, fun b hb => ?_, q⟩
      have le : s1.heap.objs.size ≤ b := by
        rcases List.mem_cons.mp hb with z | z
        · rw [z]; exact Nat.le_succ _
        · have z' : b = s1.heap.objs.size := by simpa using z
          rw [z']
          exact Nat.le_refl _
      exact J.fpOk le (J.hok.fresh le)
  · obtain ⟨items, hd, h2⟩ := Post.of_opR (γ := D) (δ := V) h1
    cases es : seqD x with
    | none => rw [es] at hd; cases hd
    | some ds =>
      rw [es] at hd
      cases hd
      obtain ⟨S, xs, rfl, hS, r⟩ := src_of hr1.sub r1 es
      exact ⟨S, xs, rfl, here_sub hr1.sub hS, h2 _ H1 Z1 ι1 .refl hr1 (itr_en hS r)⟩
theorem qi_enumK (hg : Gl X "enumerate") (hm : X.mg "enumerate" = none) (ha : QE X C W e ge) (hb : QE X C W e2 gk) (hs : starEach [e, e2] X.env = (false, eval e X.env) :: starEach [e2] X.env := by rfl) (hs2 : starEach [e2] X.env = (false, eval e2 X.env) :: starEach [] X.env := by rfl)
    (hpl : (backTo pos (starEach [e2] X.env)).any (·.1) = false := by rfl) : QI X C W (.Tuple elts kk tpos) (.Call (.Name "enumerate" p) [e, e2] [] pos) (gEnumK ge gk) := by
  obtain ⟨ta, pa, qa⟩ := ha
  obtain ⟨tb, pb, qb⟩ := hb
  refine ⟨fun σ H R => ta σ H fun v H1 => tb σ H1 fun u H2 => ∃ (S : Src) (xs : List V) (k : Int), v = .ref S.addr ∧ u = .int k ∧ S.here X.K H2 xs ∧ -(2 ^ 63) ≤ k ∧ k < 2 ^ 63 ∧ R (Ien X.K S k) H2, ⟨fun pins s σ H R I h => ?_⟩,
    fun σ H Z ι Γ M Q sl hr h => qa σ H Z ι Γ M _ sl hr (Post.bind h fun x M1 v H1 Z1 ι1 e1 hr1 r1 h1 => qb σ H1 Z1 ι1 Γ M1 _ (sl.ext e1) hr1 (h1.bind fun y M2 u H2 Z2 ι2 e2 hr2 r2 h2 => ?_))⟩
  · refine Call_ (ld_blt I hg hm boot_enumerate (PyProof.Rows.callWith_type1 (thn ((pa_cons pa (pa_cons pb pa_nil hs2) hs).run pos pins s σ H (fun vs H1 => ∃ v u, vs = [v, u] ∧ ∃ (S : Src) (xs : List V) (k : Int), v = .ref S.addr ∧ u = .int k ∧ S.here X.K H1 xs ∧ -(2 ^ 63) ≤ k ∧ k < 2 ^ 63 ∧ R (Ien X.K S k) H1) I ?_) fun us s1 hh => ?_) hs hpl))
    · have hmono : (fun x H1 => tb σ H1 fun y H2 => tNil σ H2 fun ys H3 => ∃ v u, x :: y :: ys = [v, u] ∧ ∃ (S : Src) (xs : List V) (k : Int), v = .ref S.addr ∧ u = .int k ∧ S.here X.K H3 xs ∧ -(2 ^ 63) ≤ k ∧ k < 2 ^ 63 ∧ R (Ien X.K S k) H3) =
          fun (v : V) (H1 : Hp) => tb σ H1 fun u H2 => ∃ (S : Src) (xs : List V) (k : Int), v = .ref S.addr ∧ u = .int k ∧ S.here X.K H2 xs ∧ -(2 ^ 63) ≤ k ∧ k < 2 ^ 63 ∧ R (Ien X.K S k) H2 := by
        funext x H1
        congr 1
        funext y H2
        apply propext
        constructor
        · rintro ⟨v, u, ev, q⟩
          cases ev
          exact q
        · intro q
          exact ⟨x, y, rfl, q⟩
      show ta σ H fun x H1 => tb σ H1 fun y H2 => tNil σ H2 fun ys H3 => ∃ v u, x :: y :: ys = [v, u] ∧ ∃ (S : Src) (xs : List V) (k : Int), v = .ref S.addr ∧ u = .int k ∧ S.here X.K H3 xs ∧ -(2 ^ 63) ≤ k ∧ k < 2 ^ 63 ∧ R (Ien X.K S k) H3
      rw [hmono]
      exact h
    · obtain ⟨vs, H1, J, r1, v, u, rfl, S, xs, k, rfl, rfl, hq, k1, k2, q⟩ := hh
      obtain ⟨u1, u2, rfl, ru, ru2⟩ := Vals.two r1
      cases ru
      obtain ⟨tk, rfl⟩ := ru2
      obtain ⟨its, rv, har⟩ := Src.inv J hq
      refine enum_begins (S.begins its.toArray) har k1 k2 fun h' he hit _ hk => wpAny_pyIter_enum he ?_
      have J2 : Inv X pins σ H1 { s1 with heap := h' } := J.kept (t' := s1.toks) hk
      refine ⟨s1.heap.objs.size + 1, [s1.heap.objs.size + 1, s1.heap.objs.size], _, _, H1, rfl, J2, turn_en S k (s1.heap.objs.size + 1) s1.heap.objs.size, ⟨⟨.none, by simpa using he⟩, Src.start hit, Nat.succ_ne_self _⟩, fun b hb => ?_, q⟩
      have le : s1.heap.objs.size ≤ b := by
        rcases List.mem_cons.mp hb with z | z
        · rw [z]; exact Nat.le_succ _
        · have z' : b = s1.heap.objs.size := by simpa using z
          rw [z']
          exact Nat.le_refl _
      exact J.fpOk le (J.hok.fresh le)
  · cases r2 with
    | int k =>
      have h3 : Post X C W (rpI X.K) σ H2 Z2 ι2 M2 (if decide (-(2 ^ 63) ≤ k) && decide (k < 2 ^ 63) then opR ((seqD x).map (enumL k)) M2 else .bad) Q := h2
      by_cases c : (decide (-(2 ^ 63) ≤ k) && decide (k < 2 ^ 63)) = true
      · rw [if_pos c] at h3
        simp only [Bool.and_eq_true, decide_eq_true_eq] at c
        obtain ⟨items, hd, h4⟩ := Post.of_opR (γ := D) (δ := V) h3
        cases es : seqD x with
        | none => rw [es] at hd; cases hd
        | some ds =>
          rw [es] at hd
          cases hd
          obtain ⟨S, xs, rfl, hS, r⟩ := src_of hr2.sub (r1.ext e2) es
          exact ⟨S, xs, k, rfl, rfl, here_sub hr2.sub hS, c.1, c.2, h4 _ H2 Z2 ι2 .refl hr2 (itr_en hS r)⟩
      · rw [if_neg c] at h3
        exact h3.elim
    | _ => exact h2.elim
end
end Bk

set_option Elab.async false
set_option linter.all false
set_option maxRecDepth 100000
set_option maxHeartbeats 2000000
namespace Bk
open PySem PySem.Spec PyProof.Rows L2
/-! ### a comprehension over a list of ours, which it leaves as it is -/
def Pure {α : Type} (g : Env → List MO → R α) : Prop := ∀ (Γ : Env) (M : List MO) (d : α) (M' : List MO), g Γ M = .ok d M' → M' = M
theorem R.bind_ok {α β : Type} {r : R α} {f : α → List MO → R β} {b : β} {M' : List MO} (h : r.bind f = .ok b M') : ∃ a M1, r = .ok a M1 ∧ f a M1 = .ok b M' := by
  cases r with
  | ok a M1 => exact ⟨a, M1, rfl, h⟩
  | exc c d M1 => cases h
  | bad => cases h
theorem opR_ok {α : Type} {o : Option α} {M M' : List MO} {a : α} (h : opR o M = .ok a M') : M' = M := by
  cases o with
  | none => cases h
  | some a => cases h; rfl
theorem pure_v (i : Nat) : Pure (gV i) := fun Γ M d M' h => by
  unfold gV at h
  split at h <;> cases h
  rfl
theorem pure_c (d : D) : Pure (gC d) := fun Γ M d M' h => by cases h; rfl
theorem pure_op1 {f : List MO → D → Option D} {ga : GE} (h1 : Pure ga) : Pure (gOp1 f ga) := fun Γ M d M' h => by
  obtain ⟨a, M1, e1, h⟩ := R.bind_ok h
  rw [opR_ok h, h1 _ _ _ _ e1]
theorem pure_op2 {f : List MO → D → D → Option D} {ga gb : GE} (h1 : Pure ga) (h2 : Pure gb) : Pure (gOp2 f ga gb) := fun Γ M d M' h => by
  obtain ⟨a, M1, e1, h⟩ := R.bind_ok h
  obtain ⟨b, M2, e2, h⟩ := R.bind_ok h
  rw [opR_ok h, h2 _ _ _ _ e2, h1 _ _ _ _ e1]
theorem pure_yes : Pure gYes := fun Γ M d M' h => by cases h; rfl
theorem pure_val {ga : GE} (h1 : Pure ga) : Pure (gVal ga) := fun Γ M d M' h => by
  obtain ⟨a, M1, e1, h⟩ := R.bind_ok h
  rw [opR_ok h, h1 _ _ _ _ e1]
theorem pure_notT {ga : GT} (h1 : Pure ga) : Pure (gNotT ga) := fun Γ M d M' h => by
  obtain ⟨a, M1, e1, h⟩ := R.bind_ok h
  cases h
  exact h1 _ _ _ _ e1
theorem pure_nil : Pure gNil := fun Γ M d M' h => by cases h; rfl
theorem pure_cons {ga : GE} {gs : GA} (h1 : Pure ga) (h2 : Pure gs) : Pure (gCons ga gs) := fun Γ M d M' h => by
  obtain ⟨a, M1, e1, h⟩ := R.bind_ok h
  obtain ⟨b, M2, e2, h⟩ := R.bind_ok h
  cases h
  rw [h2 _ _ _ _ e2, h1 _ _ _ _ e1]
theorem pure_tup {gs : GA} (h1 : Pure gs) : Pure (gTup gs) := fun Γ M d M' h => by
  obtain ⟨a, M1, e1, h⟩ := R.bind_ok h
  split at h
  · cases h
    exact h1 _ _ _ _ e1
  · cases h
theorem pure_call {f : List MO → List D → Option D} {gs : GA} (h1 : Pure gs) : Pure (gCall f gs) := fun Γ M d M' h => by
  obtain ⟨a, M1, e1, h⟩ := R.bind_ok h
  rw [opR_ok h, h1 _ _ _ _ e1]
def gLcW (ge : GE) (gg : GG) (gt : GT) (gel : GE) (own : List Nat) : GE := fun Γ M => (ge Γ M).bind fun d M1 => match d with
  | .ref k => match M1[k]? with
    | some (.lst ds) => (gLcL gg gt gel (forget Γ own) ds [] M1).bind fun acc M2 => .ok (.lst acc) M2
    | _ => .bad
  | _ => .bad
theorem itr_o {K : PySem.W.Frag} {Z : Hp} {ι : Nat → Addr} {n k : Nat} {ds : List D} (hk : k < n) : ItC (fun M => M[k]? = some (.lst ds)) K (Itl K (ι k)) ds Z ι n := by
  intro i H' Z' ι' M' hz hi hn hr hM
  obtain ⟨xs, e1, r⟩ := hr.obj k _ hM
  rw [hi k hk] at e1
  have sH : SqL K H' (ι k) xs := .of e1
  refine ⟨fun hl => ⟨xs, sH, by rw [← r.length]; exact Nat.le_of_eq hl⟩, fun d hd => ?_⟩
  obtain ⟨v, hv, rv⟩ := r.get hd
  refine ⟨⟨xs, v, sH, hv⟩, fun x H2 hy => ?_⟩
  obtain ⟨rfl, hx⟩ := hy
  have ex : xs[i]? = some x := hx _ sH
  rw [hv] at ex
  cases ex
  exact ⟨Z', .refl, hr, rv⟩
section
variable {X : Cx} {C : CT} {W : WX} {elt tg iter : Expr} {ifs : List Expr} {scope : Scope} {own : List (Str × Nat)} {pos : Pos} {gi : GE} {gg : GG} {gt : GT} {ge : GE} {is ixs : List Nat}
theorem qe_lcW (hc : X.calm = true) (hN : X.N.Nodup) (hi : QE X C W iter gi) (ok : BlkOk X.N X.env.scope scope own) (hg : Blk X scope fun Y => QG Y tg gg is) (ht : Blk X scope fun Y => QTs Y C noW ifs gt) (he : Blk X scope fun Y => QE Y C noW elt ge)
    (p1 : Pure gt) (p2 : Pure ge) (hix : ixs = own.map (·.2) := by rfl) (hsub : ∀ i ∈ is, i ∈ own.map (·.2) := by decide) (hs : ∀ x, foldedSetIterable iter X.env x = pure x := by intro _; rfl) : QE X C W (.ListComp elt [⟨tg, iter, ifs, 0⟩] scope pos) (gLcW gi gg gt ge ixs) := by
  subst hix
  obtain ⟨ta, pa, qa⟩ := hi
  refine ⟨_, pe_lc hc hN (pi_seq pa) ok (blk_g hg) (blk_t ht) (blk_e he) hs, fun σ H Z ι Γ M Q sl hr h => qa σ H Z ι Γ M _ sl hr (Post.bind h fun x M1 v H1 Z1 ι1 e1 hr1 r1 h1 => ?_)⟩
  cases r1 with
  | ref hk =>
    rename_i k
    have h2 : Post X C W (rpE X.K) σ H1 Z1 ι1 M1 (match M1[k]? with
      | some (.lst ds) => (gLcL gg gt ge (forget Γ (own.map (·.2))) ds [] M1).bind fun acc M2 => .ok (.lst acc) M2
      | _ => .bad) Q := h1
    cases e2 : M1[k]? with
    | none => rw [e2] at h2; exact h2.elim
    | some o =>
      rw [e2] at h2
      cases o with
      | dead => exact h2.elim
      | lst ds =>
        obtain ⟨xs, a1, a2⟩ := hr1.obj k _ e2
        refine ⟨ι1 k, rfl, .inl ⟨⟨xs, .of a1⟩, fun p hp => ?_⟩⟩
        exact gLcL_run hsub (slots_wipe _ (sl.ext e1)) (itr_o hk) e2 (fun Γ M d M' e c => by rw [p1 _ _ _ _ e]; exact c) (fun Γ M d M' e c => by rw [p2 _ _ _ _ e]; exact c) hp hr1 h2
          fun acc accV M' H' Z' ι' b1 b2 b3 b4 b5 b6 => fin_z hp b1 b2 b3 b4 b5 b6
  | _ => exact h1.elim
end
end Bk
namespace Bk
open PySem PySem.Spec PyProof.Rows L2
theorem qs_pre {X : Cx} {C : CT} {W : WX} {st : Stmt} {g : GS} (is : List Nat) (h1 : QS X C W st g) : QS X C W st (gSeq (gForget is) g) := by
  obtain ⟨t, p, q⟩ := h1
  exact ⟨t, p, fun Dd σ H Z ι Γ M sl hr h => q Dd σ H Z ι (forget Γ is) M (sl.forget is) hr h⟩
end Bk

set_option Elab.async false
set_option linter.all false
set_option maxRecDepth 100000
set_option maxHeartbeats 2000000
namespace Bk
open PySem PySem.Spec PyProof.Rows L2
/-! ### ==, for texts of any kind as well -/
def dEqA (M : List MO) (x y : D) : Option D := match x, y with
  | .str a, .str b => some (.bl (decide (a = b)))
  | x, y => dEq M x y
def dNeA (M : List MO) (x y : D) : Option D := match x, y with
  | .str a, .str b => some (.bl (!decide (a = b)))
  | x, y => dNe M x y
section
variable {X : Cx}
theorem op_eqA (hu : X.A.units + 64 < cLine) : OpR X (compareOp .Eq) (fun x y H Q => rEqD X.K x y H Q ∨ rEq x y H Q) := (op_eqD hu).or op_eq
theorem op_neA (hu : X.A.units + 64 < cLine) : OpR X (compareOp .NotEq) (fun x y H Q => rNeD X.K x y H Q ∨ rNe x y H Q) := (op_neD hu).or op_ne
theorem str_dec (a b : Str) : decide (V.str a = V.str b) = decide (a = b) := by simp
theorem ok_eqA : Ok2 X (fun x y H Q => rEqD X.K x y H Q ∨ rEq x y H Q) dEqA := fun x y H Z ι M dx dy d Q hr rx ry e q => by
  unfold dEqA at e
  split at e
  · cases e
    cases rx
    cases ry
    exact .inr ⟨rfl, q.now hr (by rw [str_dec]; exact .bl _)⟩
  · exact .inl (ok_eq x y H Z ι M dx dy d Q hr rx ry e q)
theorem ok_neA : Ok2 X (fun x y H Q => rNeD X.K x y H Q ∨ rNe x y H Q) dNeA := fun x y H Z ι M dx dy d Q hr rx ry e q => by
  unfold dNeA at e
  split at e
  · cases e
    cases rx
    cases ry
    exact .inr ⟨rfl, q.now hr (by rw [str_dec]; exact .bl _)⟩
  · exact .inl (ok_ne x y H Z ι M dx dy d Q hr rx ry e q)
end
@[simp] theorem e_eqS (M : List MO) (a b : Str) : dEqA M (.str a) (.str b) = some (.bl (decide (a = b))) := Eq.trans rfl rfl
@[simp] theorem e_neS (M : List MO) (a b : Str) : dNeA M (.str a) (.str b) = some (.bl (!decide (a = b))) := Eq.trans rfl rfl
/-! ### data that is as it is -/
structure Dt (n : Nat) (d : D) (p : PyData) : Prop where
  e : toP d = some p
  l : p.canLay0 = true
  h : p.depth ≤ n
structure Dts (n : Nat) (ds : List D) (ps : List PyData) : Prop where
  e : toPs ds = some ps
  l : PyData.canLayAll0 ps = true
  h : PyData.depthAll ps ≤ n
theorem Dt.int (n : Nat) (i : Int) : Dt n (.int i) (.int i) := ⟨rfl, rfl, Nat.zero_le _⟩
theorem Dt.non (n : Nat) : Dt n .non .none := ⟨rfl, rfl, Nat.zero_le _⟩
theorem Dt.bl (n : Nat) (b : Bool) : Dt n (.bl b) (.bool b) := ⟨rfl, rfl, Nat.zero_le _⟩
theorem Dts.nil (n : Nat) : Dts n [] [] := ⟨rfl, rfl, Nat.zero_le _⟩
theorem Dts.cons {n : Nat} {d : D} {ds : List D} {p : PyData} {ps : List PyData} (h : Dt n d p) (t : Dts n ds ps) : Dts n (d :: ds) (p :: ps) :=
  ⟨by simp [toPs, h.e, t.e], by simp [PyData.canLayAll0, h.l, t.l], by have := h.h; have := t.h; simp only [PyData.depthAll]; omega⟩
theorem Dts.tup {n : Nat} {ds : List D} {ps : List PyData} (h : Dts n ds ps) : Dt (n + 1) (.tup ds) (.tuple ps) := ⟨by simp [toP, h.e], by simpa [PyData.canLay0] using h.l, by have := h.h; simp only [PyData.depth]; omega⟩
theorem Dts.lst {n : Nat} {ds : List D} {ps : List PyData} (h : Dts n ds ps) : Dt (n + 1) (.lst ds) (.list ps) := ⟨by simp [toP, h.e], by simpa [PyData.canLay0] using h.l, by have := h.h; simp only [PyData.depth]; omega⟩
theorem Dts.map {α : Type} {n : Nat} {f : α → D} {g : α → PyData} (xs : List α) (h : ∀ x ∈ xs, Dt n (f x) (g x)) : Dts n (xs.map f) (xs.map g) := by
  induction xs with
  | nil => exact .nil n
  | cons x xs ih => exact .cons (h x (by simp)) (ih fun y hy => h y (by simp [hy]))
theorem Dts.ints (n : Nat) (is : List Int) : Dts n (is.map D.int) (is.map PyData.int) := Dts.map is fun i _ => .int n i
theorem Dt.shaped {n : Nat} {d : D} {p : PyData} (h : Dt n d p) (hn : n ≤ 64) : SeqAt.shaped p = true := by
  have := h.h
  simp [SeqAt.shaped, h.l]
  omega
theorem eqP_of {n m : Nat} {M : List MO} {x y d d' : D} {p q : PyData} (h : Dt n d p) (h' : Dt m d' q) (hx : deref M x = d) (hy : deref M y = d') (hn : n ≤ 64) (hm : m ≤ 64) : eqP M x y = some (PyData.eqv p q) := by
  unfold eqP
  rw [hx, hy, h.e, h'.e]
  simp [h.shaped hn, h'.shaped hm]
theorem eqv_same {p : PyData} (h : p.canLay0 = true) : PyData.eqv p p = true := SeqAt.eqv_refl p h
theorem eqP_same {n : Nat} {M : List MO} {x y d : D} {p : PyData} (h : Dt n d p) (hx : deref M x = d) (hy : deref M y = d) (hn : n ≤ 64) : eqP M x y = some true := by
  rw [eqP_of h h hx hy hn hn, eqv_same h.l]
theorem dEqA_p {M : List MO} {x y : D} {b : Bool} (h : eqP M x y = some b) (hx : ∀ s, x ≠ .str s) : dEqA M x y = some (.bl b) := by
  unfold dEqA
  split
  · exact absurd rfl (hx _)
  · simp [dEq, h]
theorem dNeA_p {M : List MO} {x y : D} {b : Bool} (h : eqP M x y = some b) (hx : ∀ s, x ≠ .str s) : dNeA M x y = some (.bl !b) := by
  unfold dNeA
  split
  · exact absurd rfl (hx _)
  · simp [dNe, h]
@[simp] theorem dEqA_int (M : List MO) (i j : Int) : dEqA M (.int i) (.int j) = some (.bl (decide (i = j))) := by
  rw [dEqA_p (eqP_of (Dt.int 0 i) (Dt.int 0 j) rfl rfl (by decide) (by decide)) (fun _ h => by cases h)]
  simp only [PyData.eqv]
  congr 2
  try rfl
@[simp] theorem dNeA_int (M : List MO) (i j : Int) : dNeA M (.int i) (.int j) = some (.bl (!decide (i = j))) := by
  rw [dNeA_p (eqP_of (Dt.int 0 i) (Dt.int 0 j) rfl rfl (by decide) (by decide)) (fun _ h => by cases h)]
  simp only [PyData.eqv]
  congr 2
  try rfl
theorem deref_ref {M : List MO} {k : Nat} {ds : List D} (h : M[k]? = some (.lst ds)) : deref M (.ref k) = .lst (ds.map (deref1 M)) := by
  simp [deref, deref1, h]
mutual
theorem below_toP : ∀ (d : D) (p : PyData), toP d = some p → below 0 d = true
  | .non, _, _ => rfl
  | .bl _, _, _ => rfl
  | .int _, _, _ => rfl
  | .str _, _, _ => rfl
  | .tup ds, p, h => by
    cases e : toPs ds with
    | none => simp [toP, e] at h
    | some ps => simpa [below] using belows_toPs ds ps e
  | .lst ds, p, h => by
    cases e : toPs ds with
    | none => simp [toP, e] at h
    | some ps => simpa [below] using belows_toPs ds ps e
  | .ref _, _, h => by cases h
theorem belows_toPs : ∀ (ds : List D) (ps : List PyData), toPs ds = some ps → belows 0 ds = true
  | [], _, _ => rfl
  | d :: ds, ps, h => by
    cases e1 : toP d with
    | none => simp [toPs, e1] at h
    | some p =>
      cases e2 : toPs ds with
      | none => simp [toPs, e1, e2] at h
      | some ps => simp [belows, below_toP d p e1, belows_toPs ds ps e2]
end
mutual
theorem below_up : ∀ {m : Nat} (d : D), below 0 d = true → below m d = true
  | _, .non, _ => rfl
  | _, .bl _, _ => rfl
  | _, .int _, _ => rfl
  | _, .str _, _ => rfl
  | m, .tup ds, h => by simpa [below] using belows_up ds (by simpa [below] using h)
  | m, .lst ds, h => by simpa [below] using belows_up ds (by simpa [below] using h)
  | _, .ref _, h => by simp [below] at h
theorem belows_up : ∀ {m : Nat} (ds : List D), belows 0 ds = true → belows m ds = true
  | _, [], _ => rfl
  | m, d :: ds, h => by
    simp only [belows, Bool.and_eq_true] at h ⊢
    exact ⟨below_up d h.1, belows_up ds h.2⟩
end
mutual
theorem flat_noref : ∀ (M : List MO) (d : D), below 0 d = true → deref1 M d = d
  | _, .non, _ => rfl
  | _, .bl _, _ => rfl
  | _, .int _, _ => rfl
  | _, .str _, _ => rfl
  | _, .tup _, _ => rfl
  | _, .lst _, _ => rfl
  | _, .ref _, h => by simp [below] at h
end
theorem belows_all {m : Nat} (ds : List D) : belows m ds = ds.all (below m) := by
  induction ds with
  | nil => rfl
  | cons d ds ih => simp [belows, ih]
theorem map_deref {M : List MO} {ds : List D} (h : belows 0 ds = true) : ds.map (deref1 M) = ds := by
  rw [belows_all, List.all_eq_true] at h
  conv => rhs; rw [← List.map_id ds]
  exact List.map_congr_left fun d hd => flat_noref M d (h d hd)
theorem deref_flat {M : List MO} {d : D} (h : below 0 d = true) : deref M d = d := by
  unfold deref
  rw [flat_noref M d h]
  cases d with
  | lst ds =>
    show D.lst (ds.map (deref1 M)) = _
    rw [map_deref (by simpa [below] using h)]
  | _ => rfl
theorem Dt.below {n m : Nat} {d : D} {p : PyData} (h : Dt n d p) : below m d = true := below_up d (below_toP d p h.e)
theorem Dts.belows {n m : Nat} {ds : List D} {ps : List PyData} (h : Dts n ds ps) : belows m ds = true := belows_up ds (belows_toPs ds ps h.e)
theorem Dt.deref {n : Nat} {M : List MO} {d : D} {p : PyData} (h : Dt n d p) : deref M d = d := deref_flat h.below
theorem Dts.derefR {n : Nat} {M : List MO} {k : Nat} {ds : List D} {ps : List PyData} (h : Dts n ds ps) (hk : M[k]? = some (.lst ds)) : deref M (.ref k) = .lst ds := by rw [deref_ref hk, map_deref h.belows]
@[simp] theorem belows_ints (m : Nat) (is : List Int) : belows m (is.map D.int) = true := (Dts.ints 0 is).belows
/-! what repr writes is not too long -/
structure Sh (b : Nat) (p : PyData) : Prop where
  s : p.showable = true
  d : p.hasDict = false
  l : p.leavesShort 13 = true
  b : p.bulk ≤ b
structure Shs (b : Nat) (ps : List PyData) : Prop where
  s : PyData.showableAll ps = true
  d : PyData.hasDictAll ps = false
  l : PyData.leavesShortAll 13 ps = true
  b : PyData.bulkAll ps ≤ b
theorem Sh.int {i : Int} (h : i.natAbs < 10 ^ 12) : Sh 0 (.int i) := ⟨by
  have : i.natAbs.log2 < 1920 := by
    by_cases z : i.natAbs = 0
    · rw [z]; decide
    · have : i.natAbs.log2 < 40 := (Nat.log2_lt z).mpr (by omega)
      omega
  simp [PyData.showable, this], rfl, by simpa [PyData.leavesShort] using PyData.shown_int_le h, Nat.le_refl _⟩
theorem Sh.non : Sh 0 .none := ⟨rfl, rfl, rfl, Nat.le_refl _⟩
theorem Sh.bl (b : Bool) : Sh 0 (.bool b) := ⟨rfl, rfl, rfl, Nat.le_refl _⟩
theorem Shs.nil : Shs 0 [] := ⟨rfl, rfl, rfl, Nat.le_refl _⟩
theorem Shs.cons {b c : Nat} {p : PyData} {ps : List PyData} (h : Sh b p) (t : Shs c ps) : Shs (b + 1 + c) (p :: ps) :=
  ⟨by simp [PyData.showableAll, h.s, t.s], by simp [PyData.hasDictAll, h.d, t.d], by simp [PyData.leavesShortAll, h.l, t.l], by have := h.b; have := t.b; simp only [PyData.bulkAll]; omega⟩
theorem Shs.tup {b : Nat} {ps : List PyData} (h : Shs b ps) : Sh b (.tuple ps) := ⟨by simpa [PyData.showable] using h.s, by simpa [PyData.hasDict] using h.d, by simpa [PyData.leavesShort] using h.l, by simpa [PyData.bulk] using h.b⟩
theorem Shs.lst {b : Nat} {ps : List PyData} (h : Shs b ps) : Sh b (.list ps) := ⟨by simpa [PyData.showable] using h.s, by simpa [PyData.hasDict] using h.d, by simpa [PyData.leavesShort] using h.l, by simpa [PyData.bulk] using h.b⟩
theorem Shs.map {α : Type} {b : Nat} {g : α → PyData} (xs : List α) (h : ∀ x ∈ xs, Sh b (g x)) : Shs (xs.length * (b + 1)) (xs.map g) := by
  induction xs with
  | nil => simpa using Shs.nil
  | cons x xs ih =>
    have := Shs.cons (h x (by simp)) (ih fun y hy => h y (by simp [hy]))
    simp only [List.length_cons, List.map_cons]
    rw [Nat.succ_mul, Nat.add_comm]
    exact this
theorem Shs.ints {is : List Int} (h : ∀ i ∈ is, i.natAbs < 10 ^ 12) : Shs is.length (is.map PyData.int) := by
  have := Shs.map (b := 0) is fun i hi => Sh.int (h i hi)
  simpa using this
theorem repr_of {n b : Nat} {M : List MO} {x d : D} {p : PyData} (h : Dt n d p) (s : Sh b p) (hx : deref M x = d) (hn : n ≤ 60) (hb : b ≤ 2 ^ 20) (hk : (∃ k, x = .ref k) ∨ (∃ ds, x = .lst ds) ∨ ∃ ds, x = .tup ds) : dRepr M x = some (.str p.shown) := by
  have e : dRepr M x = (toP (deref M x)).bind fun p => if (p.showable && !p.hasDict && decide (p.depth ≤ 60) && decide (p.shown.length ≤ sizeLine)) = true then some (.str p.shown) else none := by
    rcases hk with ⟨k, rfl⟩ | ⟨k, rfl⟩ | ⟨k, rfl⟩ <;> rfl
  rw [e, hx, h.e, Option.bind_some, if_pos]
  have h1 := h.h
  have h2 := PyData.shown_fits_bulk (B := 13) (by decide) (by decide) s.l (Nat.le_trans s.b hb)
  have h3 : p.depth ≤ 60 := by omega
  simp [s.s, s.d, h3, h2]
end Bk

set_option Elab.async false
set_option linter.all false
set_option maxRecDepth 100000
set_option maxHeartbeats 2000000
namespace Bk
open PySem PySem.Spec PyProof.Rows L2
/-! ### how the functions are worked out -/
section
variable {α β : Type}
@[simp] theorem rb_ok (a : α) (M : List MO) (f : α → List MO → R β) : (R.ok a M).bind f = f a M := Eq.trans rfl rfl
@[simp] theorem rb_ex (c : Nat) (d : D) (M : List MO) (f : α → List MO → R β) : (R.exc c d M : R α).bind f = .exc c d M := Eq.trans rfl rfl
@[simp] theorem rt_ok (Γ : Env) (a : α) (M : List MO) (f : α → List MO → RS) : (R.ok a M).thenS Γ f = f a M := Eq.trans rfl rfl
@[simp] theorem rt_ex (Γ : Env) (c : Nat) (d : D) (M : List MO) (f : α → List MO → RS) : (R.exc c d M : R α).thenS Γ f = .exc c d Γ M := Eq.trans rfl rfl
@[simp] theorem ro_ok (a : α) (M : List MO) (f : α → List MO → R β) : (R.ok a M).only f = f a M := Eq.trans rfl rfl
@[simp] theorem sn_nx (Γ : Env) (M : List MO) (f : Env → List MO → RS) : (RS.nx Γ M).next f = f Γ M := Eq.trans rfl rfl
@[simp] theorem sn_rt (d : D) (M : List MO) (f : Env → List MO → RS) : (RS.rt d M).next f = .rt d M := Eq.trans rfl rfl
@[simp] theorem sn_ct (Γ : Env) (M : List MO) (f : Env → List MO → RS) : (RS.ct Γ M).next f = .ct Γ M := Eq.trans rfl rfl
@[simp] theorem sn_bk (Γ : Env) (M : List MO) (f : Env → List MO → RS) : (RS.bk Γ M).next f = .bk Γ M := Eq.trans rfl rfl
@[simp] theorem sn_ex (c : Nat) (d : D) (Γ : Env) (M : List MO) (f : Env → List MO → RS) : (RS.exc c d Γ M).next f = .exc c d Γ M := Eq.trans rfl rfl
@[simp] theorem st_nx (Γ : Env) (M : List MO) (f : Env → List MO → RS) : (RS.nx Γ M).turn f = f Γ M := Eq.trans rfl rfl
@[simp] theorem st_ct (Γ : Env) (M : List MO) (f : Env → List MO → RS) : (RS.ct Γ M).turn f = f Γ M := Eq.trans rfl rfl
@[simp] theorem st_bk (Γ : Env) (M : List MO) (f : Env → List MO → RS) : (RS.bk Γ M).turn f = .nx Γ M := Eq.trans rfl rfl
@[simp] theorem st_rt (d : D) (M : List MO) (f : Env → List MO → RS) : (RS.rt d M).turn f = .rt d M := Eq.trans rfl rfl
@[simp] theorem st_ex (c : Nat) (d : D) (Γ : Env) (M : List MO) (f : Env → List MO → RS) : (RS.exc c d Γ M).turn f = .exc c d Γ M := Eq.trans rfl rfl
@[simp] theorem opR_some (a : α) (M : List MO) : opR (some a) M = .ok a M := Eq.trans rfl rfl
@[simp] theorem optS_some (Γ : Env) (f : Env → RS) : optS (some Γ) f = f Γ := Eq.trans rfl rfl
theorem rb_if {c : Prop} [Decidable c] (a b : R α) (f : α → List MO → R β) : (if c then a else b).bind f = if c then a.bind f else b.bind f := by split <;> rfl
theorem rt_if {c : Prop} [Decidable c] (Γ : Env) (a b : R α) (f : α → List MO → RS) : (if c then a else b).thenS Γ f = if c then a.thenS Γ f else b.thenS Γ f := by split <;> rfl
theorem sn_if {c : Prop} [Decidable c] (a b : RS) (f : Env → List MO → RS) : (if c then a else b).next f = if c then a.next f else b.next f := by split <;> rfl
theorem st_if {c : Prop} [Decidable c] (a b : RS) (f : Env → List MO → RS) : (if c then a else b).turn f = if c then a.turn f else b.turn f := by split <;> rfl
end
@[simp] theorem u_gV (i : Nat) (Γ : Env) (M : List MO) : gV i Γ M = (match Γ[i]? with
  | some (some d) => .ok d M
  | _ => .bad) := Eq.trans rfl rfl
@[simp] theorem u_gC (d : D) (Γ : Env) (M : List MO) : gC d Γ M = .ok d M := Eq.trans rfl rfl
@[simp] theorem u_gOp2 (f : List MO → D → D → Option D) (ga gb : GE) (Γ : Env) (M : List MO) : gOp2 f ga gb Γ M = (ga Γ M).bind fun x M1 => (gb Γ M1).bind fun y M2 => opR (f M2 x y) M2 := Eq.trans rfl rfl
@[simp] theorem u_gOp1 (f : List MO → D → Option D) (ga : GE) (Γ : Env) (M : List MO) : gOp1 f ga Γ M = (ga Γ M).bind fun x M1 => opR (f M1 x) M1 := Eq.trans rfl rfl
@[simp] theorem u_gNil (Γ : Env) (M : List MO) : gNil Γ M = .ok [] M := Eq.trans rfl rfl
@[simp] theorem u_gCons (ga : GE) (gr : GA) (Γ : Env) (M : List MO) : gCons ga gr Γ M = (ga Γ M).bind fun x M1 => (gr Γ M1).bind fun xs M2 => .ok (x :: xs) M2 := Eq.trans rfl rfl
@[simp] theorem u_gTup (ga : GA) (Γ : Env) (M : List MO) : gTup ga Γ M = (ga Γ M).bind fun xs M1 => if xs.length ≤ sizeLine then .ok (.tup xs) M1 else .bad := Eq.trans rfl rfl
@[simp] theorem u_gLst (ga : GA) (Γ : Env) (M : List MO) : gLst ga Γ M = (ga Γ M).bind fun xs M1 => if xs.length ≤ sizeLine then .ok (.lst xs) M1 else .bad := Eq.trans rfl rfl
@[simp] theorem u_gLstO (ga : GA) (Γ : Env) (M : List MO) : gLstO ga Γ M = (ga Γ M).bind fun xs M1 => if xs.length ≤ sizeLine then .ok (.ref M1.length) (M1 ++ [.lst xs]) else .bad := Eq.trans rfl rfl
@[simp] theorem u_gCall (f : List MO → List D → Option D) (ga : GA) (Γ : Env) (M : List MO) : gCall f ga Γ M = (ga Γ M).bind fun xs M1 => opR (f M1 xs) M1 := Eq.trans rfl rfl
@[simp] theorem u_gVal (ga : GE) (Γ : Env) (M : List MO) : gVal ga Γ M = (ga Γ M).bind fun x M1 => opR (toBl x) M1 := Eq.trans rfl rfl
@[simp] theorem u_gAndT (a b : GT) (Γ : Env) (M : List MO) : gAndT a b Γ M = (a Γ M).bind fun c M1 => if c = true then b Γ M1 else .ok false M1 := Eq.trans rfl rfl
@[simp] theorem u_gOrT (a b : GT) (Γ : Env) (M : List MO) : gOrT a b Γ M = (a Γ M).bind fun c M1 => if c = true then .ok true M1 else b Γ M1 := Eq.trans rfl rfl
@[simp] theorem u_gNotT (a : GT) (Γ : Env) (M : List MO) : gNotT a Γ M = (a Γ M).bind fun c M1 => .ok (!c) M1 := Eq.trans rfl rfl
@[simp] theorem u_gIfE (c : GT) (a b : GE) (Γ : Env) (M : List MO) : gIfE c a b Γ M = (c Γ M).bind fun k M1 => if k = true then a Γ M1 else b Γ M1 := Eq.trans rfl rfl
@[simp] theorem u_gAndV (a b : GE) (Γ : Env) (M : List MO) : gAndV a b Γ M = ((a Γ M).bind fun x M1 => match x with
  | .bl c => if c = true then b Γ M1 else .ok (.bl false) M1
  | _ => .bad) := Eq.trans rfl rfl
@[simp] theorem u_gOrV (a b : GE) (Γ : Env) (M : List MO) : gOrV a b Γ M = ((a Γ M).bind fun x M1 => match x with
  | .bl c => if c = true then .ok (.bl true) M1 else b Γ M1
  | _ => .bad) := Eq.trans rfl rfl
@[simp] theorem u_gChain (f f' : List MO → D → D → Option D) (ga gb gc : GE) (Γ : Env) (M : List MO) : gChain f f' ga gb gc Γ M = ((ga Γ M).bind fun x M1 => (gb Γ M1).bind fun y M2 => (opR (f M2 x y) M2).bind fun k M3 => match k with
  | .bl c => if c = true then (gc Γ M3).bind fun z M4 => opR (f' M4 y z) M4 else .ok (.bl false) M3
  | _ => .bad) := Eq.trans rfl rfl
@[simp] theorem u_gSeqI (ge : GE) (Γ : Env) (M : List MO) : gSeqI ge Γ M = (ge Γ M).bind fun d M1 => opR (seqD d) M1 := Eq.trans rfl rfl
@[simp] theorem u_gRng1 (ga : GA) (Γ : Env) (M : List MO) : gRng1 ga Γ M = (ga Γ M).bind fun ds M1 => opR (rng1 ds) M1 := Eq.trans rfl rfl
@[simp] theorem u_gRng2 (ga : GA) (Γ : Env) (M : List MO) : gRng2 ga Γ M = (ga Γ M).bind fun ds M1 => opR (rng2 ds) M1 := Eq.trans rfl rfl
@[simp] theorem u_gTo (i : Nat) (d : D) (Γ : Env) : gTo i d Γ = some (Γ.set i (some d)) := Eq.trans rfl rfl
@[simp] theorem u_gToT (gs : GGs) (d : D) (Γ : Env) : gToT gs d Γ = (match d with
  | .tup ds => gs ds Γ
  | _ => none) := Eq.trans rfl rfl
@[simp] theorem u_gToNil (ds : List D) (Γ : Env) : gToNil ds Γ = (match ds with
  | [] => some Γ
  | _ :: _ => none) := Eq.trans rfl rfl
@[simp] theorem u_gToCons (g : GG) (gs : GGs) (ds : List D) (Γ : Env) : gToCons g gs ds Γ = (match ds with
  | [] => none
  | d :: r => (g d Γ).bind fun Γ1 => gs r Γ1) := Eq.trans rfl rfl
@[simp] theorem u_gPass (Γ : Env) (M : List MO) : gPass Γ M = .nx Γ M := Eq.trans rfl rfl
@[simp] theorem u_gSeq (a b : GS) (Γ : Env) (M : List MO) : gSeq a b Γ M = (a Γ M).next b := Eq.trans rfl rfl
@[simp] theorem u_gExpr (ge : GE) (Γ : Env) (M : List MO) : gExpr ge Γ M = (ge Γ M).thenS Γ fun _ M1 => .nx Γ M1 := Eq.trans rfl rfl
@[simp] theorem u_gRet (ge : GE) (Γ : Env) (M : List MO) : gRet ge Γ M = (ge Γ M).thenS Γ fun d M1 => .rt d M1 := Eq.trans rfl rfl
@[simp] theorem u_gRetN (Γ : Env) (M : List MO) : gRetN Γ M = .rt .non M := Eq.trans rfl rfl
@[simp] theorem u_gIf (c : GT) (a b : GS) (Γ : Env) (M : List MO) : gIf c a b Γ M = (c Γ M).thenS Γ fun k M1 => if k = true then a Γ M1 else b Γ M1 := Eq.trans rfl rfl
@[simp] theorem u_gAsg (ge : GE) (gg : GG) (Γ : Env) (M : List MO) : gAsg ge gg Γ M = ((ge Γ M).thenS Γ fun d M1 => match gg d Γ with
  | some Γ' => .nx Γ' M1
  | none => .bad) := Eq.trans rfl rfl
@[simp] theorem u_gBad (Γ : Env) (M : List MO) : gBad Γ M = .bad := Eq.trans rfl rfl
@[simp] theorem u_gForget (is : List Nat) (Γ : Env) (M : List MO) : gForget is Γ M = .nx (forget Γ is) M := Eq.trans rfl rfl
@[simp] theorem u_gFz (i : Nat) (Γ : Env) (M : List MO) : gFz i Γ M = (match Γ[i]? with
  | some (some (.ref k)) => match M[k]? with
    | some (.lst ds) => .nx (Γ.set i (some (.lst ds))) (M.set k .dead)
    | _ => .bad
  | _ => .bad) := Eq.trans rfl rfl
@[simp] theorem u_gScope (a : GS) (Γ : Env) (M : List MO) : gScope a Γ M = gCut M.length (a Γ M) := Eq.trans rfl rfl
@[simp] theorem u_gFor (gi : GI) (gg : GG) (body : GS) (Γ : Env) (M : List MO) : gFor gi gg body Γ M = (gi Γ M).thenS Γ fun ds M1 => gForL gg body ds Γ M1 := Eq.trans rfl rfl
@[simp] theorem u_gYes (Γ : Env) (M : List MO) : gYes Γ M = .ok true M := Eq.trans rfl rfl
@[simp] theorem u_gLc (gi : GI) (gg : GG) (gt : GT) (ge : GE) (own : List Nat) (Γ : Env) (M : List MO) : gLc gi gg gt ge own Γ M = (gi Γ M).bind fun ds M1 => (gLcL gg gt ge (forget Γ own) ds [] M1).bind fun acc M2 => .ok (.lst acc) M2 := Eq.trans rfl rfl
@[simp] theorem u_gLcO (gi : GI) (gg : GG) (gt : GT) (ge : GE) (own : List Nat) (Γ : Env) (M : List MO) : gLcO gi gg gt ge own Γ M = (gi Γ M).bind fun ds M1 => (gLcL gg gt ge (forget Γ own) ds [] M1).bind fun acc M2 => .ok (.ref M2.length) (M2 ++ [.lst acc]) := Eq.trans rfl rfl
@[simp] theorem u_gNoO (Γ : Env) (M : List MO) : gNoO Γ M = .ok none M := Eq.trans rfl rfl
@[simp] theorem u_gO (ge : GE) (Γ : Env) (M : List MO) : gO ge Γ M = (ge Γ M).bind fun d M1 => opR ((toI d).map some) M1 := Eq.trans rfl rfl
@[simp] theorem u_gSl (ge : GE) (lo hi : GO) (Γ : Env) (M : List MO) : gSl ge lo hi Γ M = (ge Γ M).bind fun x M1 => (lo Γ M1).bind fun a M2 => (hi Γ M2).bind fun b M3 => opR (dCut M3 a b x) M3 := Eq.trans rfl rfl
@[simp] theorem u_gRgL (own : Bool) (ga gb : GE) (Γ : Env) (M : List MO) : gRgL own ga gb Γ M = ((ga Γ M).bind fun x M1 => (gb Γ M1).bind fun y M2 => match x, y with
  | .int i, .int j => if rngOk i j = true then (if own = true then .ok (.ref M2.length) (M2 ++ [.lst (rngL i (j - i).toNat)]) else .ok (.lst (rngL i (j - i).toNat)) M2) else .bad
  | _, _ => .bad) := Eq.trans rfl rfl
@[simp] theorem u_gMeth1 (f : MF) (go ge : GE) (Γ : Env) (M : List MO) : gMeth1 f go ge Γ M = (go Γ M).bind fun x M1 => if isListD M1 x = true then (ge Γ M1).bind fun y M2 => mutR M2 x fun ds => f M2 ds y else .bad := Eq.trans rfl rfl
@[simp] theorem u_gMeth0 (f : MF0) (go : GE) (Γ : Env) (M : List MO) : gMeth0 f go Γ M = (go Γ M).bind fun x M1 => mutR M1 x f := Eq.trans rfl rfl
@[simp] theorem u_gSetI (ge go gi : GE) (Γ : Env) (M : List MO) : gSetI ge go gi Γ M = ((ge Γ M).thenS Γ fun v M1 => (go Γ M1).thenS Γ fun o M2 => (gi Γ M2).thenS Γ fun i M3 => match setR M3 o i v with
  | some M4 => .nx Γ M4
  | none => .bad) := Eq.trans rfl rfl
@[simp] theorem u_gAug (i : Nat) (f : Int → Int → Int) (ge : GE) (Γ : Env) (M : List MO) : gAug i f ge Γ M = (match Γ[i]? with
  | some (some (.int a)) => (ge Γ M).thenS Γ fun y M1 => match y with
    | .int b => .nx (Γ.set i (some (.int (f a b)))) M1
    | _ => .bad
  | _ => .bad) := Eq.trans rfl rfl
@[simp] theorem u_gEnum (ge : GE) (Γ : Env) (M : List MO) : gEnum ge Γ M = (ge Γ M).bind fun d M1 => opR ((seqD d).map (enumL 0)) M1 := Eq.trans rfl rfl
@[simp] theorem u_gEnumK (ge : GE) (gk : GE) (Γ : Env) (M : List MO) : gEnumK ge gk Γ M = ((ge Γ M).bind fun d M1 => (gk Γ M1).bind fun k M2 => match k with
  | .int k => if decide (-(2 ^ 63) ≤ k) && decide (k < 2 ^ 63) then opR ((seqD d).map (enumL k)) M2 else .bad
  | _ => .bad) := Eq.trans rfl rfl
@[simp] theorem u_gZip (ga gb : GE) (Γ : Env) (M : List MO) : gZip ga gb Γ M = (ga Γ M).bind fun x M1 => (gb Γ M1).bind fun y M2 => opR (zipO x y) M2 := Eq.trans rfl rfl
@[simp] theorem u_gLcW (ge : GE) (gg : GG) (gt : GT) (gel : GE) (own : List Nat) (Γ : Env) (M : List MO) : gLcW ge gg gt gel own Γ M = ((ge Γ M).bind fun d M1 => match d with
  | .ref k => match M1[k]? with
    | some (.lst ds) => (gLcL gg gt gel (forget Γ own) ds [] M1).bind fun acc M2 => .ok (.lst acc) M2
    | _ => .bad
  | _ => .bad) := Eq.trans rfl rfl
@[simp] theorem u_gCallF (n : Nat) (F : List D → List MO → R D) (ga : GA) (Γ : Env) (M : List MO) : gCallF n F ga Γ M = (ga Γ M).bind fun ds M1 => if ds.length = n then callF F ds M1 else .bad := Eq.trans rfl rfl
@[simp] theorem u_gCallK (n : Nat) (F : List D → List MO → R D) (is : List Nat) (ga gk : GA) (Γ : Env) (M : List MO) : gCallK n F is ga gk Γ M = (ga Γ M).bind fun ds M1 => (gk Γ M1).bind fun es M2 => if (pick (ds ++ es) is).length = n then callF F (pick (ds ++ es) is) M2 else .bad := Eq.trans rfl rfl
@[simp] theorem u_gForL0 (gg : GG) (b : GS) (Γ : Env) (M : List MO) : gForL gg b [] Γ M = .nx Γ M := Eq.trans rfl rfl
@[simp] theorem u_gForLc (gg : GG) (b : GS) (d : D) (ds : List D) (Γ : Env) (M : List MO) : gForL gg b (d :: ds) Γ M = optS (gg d Γ) fun Γ1 => (b Γ1 M).turn (gForL gg b ds) := Eq.trans rfl rfl
@[simp] theorem u_forget0 (Γ : Env) : forget Γ [] = Γ := Eq.trans rfl rfl
@[simp] theorem u_forgetc (Γ : Env) (i : Nat) (is : List Nat) : forget Γ (i :: is) = forget (Γ.set i none) is := Eq.trans rfl rfl
@[simp] theorem u_toBl (b : Bool) : toBl (.bl b) = some b := Eq.trans rfl rfl
@[simp] theorem u_dNot (M : List MO) (b : Bool) : dNot M (.bl b) = some (.bl !b) := Eq.trans rfl rfl
@[simp] theorem u_toI (i : Int) : toI (.int i) = some i := Eq.trans rfl rfl
@[simp] theorem u_rng1 (j : Int) : rng1 [.int j] = if inR j then some (rngL 0 j.toNat) else none := Eq.trans rfl rfl
@[simp] theorem u_rng2 (i j : Int) : rng2 [.int i, .int j] = if inR i && inR j then some (rngL i (j - i).toNat) else none := Eq.trans rfl rfl
@[simp] theorem u_fn1 (f : List MO → D → Option D) (M : List MO) (d : D) : fn1 f M [d] = f M d := Eq.trans rfl rfl
@[simp] theorem u_fn2 (f : List MO → D → D → Option D) (M : List MO) (d e : D) : fn2 f M [d, e] = f M d e := Eq.trans rfl rfl
@[simp] theorem u_isListD (M : List MO) (d : D) : isListD M d = (listD M d).isSome := Eq.trans rfl rfl
@[simp] theorem u_pick0 {α : Type} (l : List α) : pick l [] = [] := Eq.trans rfl rfl
@[simp] theorem u_pickc {α : Type} (l : List α) (i : Nat) (is : List Nat) : pick l (i :: is) = (match l[i]? with
    | some a => a :: pick l is
    | none => pick l is) := Eq.trans rfl rfl
@[simp] theorem bl_non (m : Nat) : below m .non = true := Eq.trans rfl rfl
@[simp] theorem bl_bl (m : Nat) (b : Bool) : below m (.bl b) = true := Eq.trans rfl rfl
@[simp] theorem bl_int (m : Nat) (i : Int) : below m (.int i) = true := Eq.trans rfl rfl
@[simp] theorem bl_str (m : Nat) (x : Str) : below m (.str x) = true := Eq.trans rfl rfl
@[simp] theorem bl_tup (m : Nat) (ds : List D) : below m (.tup ds) = belows m ds := by simp [below]
@[simp] theorem bl_lst (m : Nat) (ds : List D) : below m (.lst ds) = belows m ds := by simp [below]
@[simp] theorem bl_ref (m k : Nat) : below m (.ref k) = decide (k < m) := by simp [below]
@[simp] theorem bls_nil (m : Nat) : belows m [] = true := Eq.trans rfl rfl
@[simp] theorem bls_cons (m : Nat) (d : D) (ds : List D) : belows m (d :: ds) = (below m d && belows m ds) := by simp [belows]
@[simp] theorem bls_app (m : Nat) (ds es : List D) : belows m (ds ++ es) = (belows m ds && belows m es) := by simp [belows_all]
@[simp] theorem blo_lst (m : Nat) (ds : List D) : belowO m (.lst ds) = belows m ds := Eq.trans rfl rfl
@[simp] theorem blo_dead (m : Nat) : belowO m .dead = true := Eq.trans rfl rfl
theorem fin_d {m : Nat} {d : D} {M : List MO} (h : m ≤ M.length) (hc : cutOk m M = true) (hr : ∀ k, d ≠ .ref k) (hd : below m d = true) : fin m (.rt d M) = .ok d (M.take m) := by
  show (if m ≤ M.length ∧ cutOk m M = true then retR m M d else .bad) = _
  rw [if_pos ⟨h, hc⟩]
  cases d with
  | ref k => exact absurd rfl (hr k)
  | _ => simp [retR, hd]
theorem fin_n {m : Nat} {Γ : Env} {M : List MO} (h : m ≤ M.length) (hc : cutOk m M = true) : fin m (.nx Γ M) = .ok .non (M.take m) := by
  show (if m ≤ M.length ∧ cutOk m M = true then R.ok D.non (M.take m) else .bad) = _
  rw [if_pos ⟨h, hc⟩]
theorem fin_new {m k : Nat} {ds : List D} {M : List MO} (h : m ≤ M.length) (hc : cutOk m M = true) (hk : m ≤ k) (e : M[k]? = some (.lst ds)) (hd : belows m ds = true) : fin m (.rt (.ref k) M) = .ok (.ref m) (M.take m ++ [.lst ds]) := by
  show (if m ≤ M.length ∧ cutOk m M = true then retR m M (.ref k) else .bad) = _
  rw [if_pos ⟨h, hc⟩]
  simp [retR, e, hd, Nat.not_lt_of_le hk]
@[simp] theorem cut_0 (M : List MO) : cutOk 0 M = true := by simp [cutOk]
@[simp] theorem cut_nil (m : Nat) : cutOk m [] = true := by simp [cutOk]
@[simp] theorem cut_s (m : Nat) (o : MO) (M : List MO) : cutOk (m + 1) (o :: M) = ((M.take m).all (belowO (m + 1)) && belowO (m + 1) o) := by simp [cutOk, Bool.and_comm]
@[simp] theorem sz_1 : 1 ≤ sizeLine := by decide
@[simp] theorem sz_2 : 2 ≤ sizeLine := by decide
@[simp] theorem sz_3 : 3 ≤ sizeLine := by decide
@[simp] theorem sz_4 : 4 ≤ sizeLine := by decide
@[simp] theorem sz_5 : 5 ≤ sizeLine := by decide
@[simp] theorem sz_6 : 6 ≤ sizeLine := by decide
@[simp] theorem sz_7 : 7 ≤ sizeLine := by decide
@[simp] theorem sz_8 : 8 ≤ sizeLine := by decide
@[simp] theorem sz_9 : 9 ≤ sizeLine := by decide
@[simp] theorem sz_10 : 10 ≤ sizeLine := by decide
@[simp] theorem sz_11 : 11 ≤ sizeLine := by decide
@[simp] theorem sz_12 : 12 ≤ sizeLine := by decide
@[simp] theorem sz_13 : 13 ≤ sizeLine := by decide
@[simp] theorem sz_14 : 14 ≤ sizeLine := by decide
@[simp] theorem sz_15 : 15 ≤ sizeLine := by decide
@[simp] theorem sz_16 : 16 ≤ sizeLine := by decide
@[simp] theorem sz_17 : 17 ≤ sizeLine := by decide
@[simp] theorem sz_18 : 18 ≤ sizeLine := by decide
@[simp] theorem sz_19 : 19 ≤ sizeLine := by decide
@[simp] theorem sz_20 : 20 ≤ sizeLine := by decide
@[simp] theorem szl_0 : 0 < sizeLine := by decide
@[simp] theorem szl_1 : 1 < sizeLine := by decide
@[simp] theorem szl_2 : 2 < sizeLine := by decide
@[simp] theorem szl_3 : 3 < sizeLine := by decide
@[simp] theorem szl_4 : 4 < sizeLine := by decide
@[simp] theorem szl_5 : 5 < sizeLine := by decide
@[simp] theorem szl_6 : 6 < sizeLine := by decide
@[simp] theorem szl_7 : 7 < sizeLine := by decide
@[simp] theorem szl_8 : 8 < sizeLine := by decide
@[simp] theorem szl_9 : 9 < sizeLine := by decide
@[simp] theorem szl_10 : 10 < sizeLine := by decide
@[simp] theorem szl_11 : 11 < sizeLine := by decide
@[simp] theorem szl_12 : 12 < sizeLine := by decide
@[simp] theorem szl_13 : 13 < sizeLine := by decide
@[simp] theorem szl_14 : 14 < sizeLine := by decide
@[simp] theorem szl_15 : 15 < sizeLine := by decide
@[simp] theorem szl_16 : 16 < sizeLine := by decide
@[simp] theorem szl_17 : 17 < sizeLine := by decide
@[simp] theorem szl_18 : 18 < sizeLine := by decide
@[simp] theorem szl_19 : 19 < sizeLine := by decide
@[simp] theorem szl_20 : 20 < sizeLine := by decide
@[simp] theorem gc_nx (m : Nat) (Γ : Env) (M : List MO) : gCut m (.nx Γ M) = if m ≤ M.length ∧ cutOk m M = true then .nx (clean m Γ) (M.take m) else .bad := Eq.trans rfl rfl
@[simp] theorem gc_ct (m : Nat) (Γ : Env) (M : List MO) : gCut m (.ct Γ M) = if m ≤ M.length ∧ cutOk m M = true then .ct (clean m Γ) (M.take m) else .bad := Eq.trans rfl rfl
@[simp] theorem gc_bk (m : Nat) (Γ : Env) (M : List MO) : gCut m (.bk Γ M) = .bk Γ M := Eq.trans rfl rfl
@[simp] theorem gc_rt (m : Nat) (d : D) (M : List MO) : gCut m (.rt d M) = .rt d M := Eq.trans rfl rfl
@[simp] theorem gc_ex (m c : Nat) (d : D) (Γ : Env) (M : List MO) : gCut m (.exc c d Γ M) = .exc c d Γ M := Eq.trans rfl rfl
@[simp] theorem fi_rt (m : Nat) (d : D) (M : List MO) : fin m (.rt d M) = if m ≤ M.length ∧ cutOk m M = true then retR m M d else .bad := Eq.trans rfl rfl
@[simp] theorem fi_nx (m : Nat) (Γ : Env) (M : List MO) : fin m (.nx Γ M) = if m ≤ M.length ∧ cutOk m M = true then R.ok D.non (M.take m) else .bad := Eq.trans rfl rfl
@[simp] theorem fi_ex (m c : Nat) (d : D) (Γ : Env) (M : List MO) : fin m (.exc c d Γ M) = if m ≤ M.length ∧ cutOk m M = true ∧ below m d = true then .exc c d (M.take m) else .bad := Eq.trans rfl rfl
@[simp] theorem re_non (m : Nat) (M : List MO) : retR m M .non = .ok .non (M.take m) := Eq.trans rfl rfl
@[simp] theorem re_bl (m : Nat) (M : List MO) (b : Bool) : retR m M (.bl b) = .ok (.bl b) (M.take m) := Eq.trans rfl rfl
@[simp] theorem re_int (m : Nat) (M : List MO) (i : Int) : retR m M (.int i) = .ok (.int i) (M.take m) := Eq.trans rfl rfl
@[simp] theorem re_str (m : Nat) (M : List MO) (x : Str) : retR m M (.str x) = .ok (.str x) (M.take m) := Eq.trans rfl rfl
@[simp] theorem re_tup (m : Nat) (M : List MO) (ds : List D) : retR m M (.tup ds) = if belows m ds = true then .ok (.tup ds) (M.take m) else .bad := by simp [retR]
@[simp] theorem re_lst (m : Nat) (M : List MO) (ds : List D) : retR m M (.lst ds) = if belows m ds = true then .ok (.lst ds) (M.take m) else .bad := by simp [retR]
@[simp] theorem re_ref (m : Nat) (M : List MO) (k : Nat) : retR m M (.ref k) = if k < m then .ok (.ref k) (M.take m) else match M[k]? with
    | some (.lst ds) => if belows m ds = true then .ok (.ref m) (M.take m ++ [.lst ds]) else .bad
    | _ => .bad := Eq.trans rfl rfl
@[simp] theorem seqD_l (ds : List D) : seqD (.lst ds) = some ds := Eq.trans rfl rfl
@[simp] theorem seqD_t (ds : List D) : seqD (.tup ds) = some ds := Eq.trans rfl rfl
@[simp] theorem listD_l (M : List MO) (ds : List D) : listD M (.lst ds) = some ds := Eq.trans rfl rfl
theorem listD_r {M : List MO} {k : Nat} {ds : List D} (h : M[k]? = some (.lst ds)) : listD M (.ref k) = some ds := by simp [listD, h]
@[simp] theorem itemsD_l (M : List MO) (ds : List D) : itemsD M (.lst ds) = some ds := Eq.trans rfl rfl
@[simp] theorem itemsD_t (M : List MO) (ds : List D) : itemsD M (.tup ds) = some ds := Eq.trans rfl rfl
@[simp] theorem itemsD_r (M : List MO) (k : Nat) : itemsD M (.ref k) = listD M (.ref k) := Eq.trans rfl rfl
@[simp] theorem e_add (M : List MO) (i j : Int) : dAdd M (.int i) (.int j) = some (.int (i + j)) := Eq.trans rfl rfl
@[simp] theorem e_addL (M : List MO) (a b : List D) : dAdd M (.lst a) (.lst b) = if a.length + b.length ≤ sizeLine then some (.lst (a ++ b)) else none := Eq.trans rfl rfl
@[simp] theorem e_addT (M : List MO) (a b : List D) : dAdd M (.tup a) (.tup b) = if a.length + b.length ≤ sizeLine then some (.tup (a ++ b)) else none := Eq.trans rfl rfl
@[simp] theorem e_sub (M : List MO) (i j : Int) : dSub M (.int i) (.int j) = some (.int (i - j)) := Eq.trans rfl rfl
theorem e_mul {i j : Int} (M : List MO) (h : mulOk i j = true) : dMulA M (.int i) (.int j) = some (.int (i * j)) := by
  show (if mulOk i j = true then some (D.int (i * j)) else none) = _
  rw [if_pos h]
@[simp] theorem e_mulR (M : List MO) (i : Int) : dMulA M (.int i) (.int 0) = some (.int 0) := by
  rw [e_mul M (by simp [mulOk])]
  simp
@[simp] theorem e_fdiv (M : List MO) (i j : Int) : dFdiv M (.int i) (.int j) = if fdivOk i j = true then some (.int (i / j)) else none := Eq.trans rfl rfl
@[simp] theorem e_mod (M : List MO) (i j : Int) : dMod M (.int i) (.int j) = if 0 < j then some (.int (i % j)) else none := by
  show (if modOk i j = true then _ else _) = _
  simp [modOk]
@[simp] theorem e_pow (M : List MO) (i j : Int) : dPow M (.int i) (.int j) = if powOk i j = true then some (.int (i ^ j.toNat)) else none := Eq.trans rfl rfl
@[simp] theorem e_lt (M : List MO) (i j : Int) : dLt M (.int i) (.int j) = some (.bl (decide (i < j))) := Eq.trans rfl rfl
@[simp] theorem e_le (M : List MO) (i j : Int) : dLe M (.int i) (.int j) = some (.bl (decide (i ≤ j))) := Eq.trans rfl rfl
@[simp] theorem e_gt (M : List MO) (i j : Int) : dGt M (.int i) (.int j) = some (.bl (decide (j < i))) := Eq.trans rfl rfl
@[simp] theorem e_ge (M : List MO) (i j : Int) : dGe M (.int i) (.int j) = some (.bl (decide (j ≤ i))) := Eq.trans rfl rfl
@[simp] theorem e_neg (M : List MO) (i : Int) : dNeg M (.int i) = some (.int (-i)) := Eq.trans rfl rfl
@[simp] theorem e_is0 (M : List MO) : dIsN M .non .non = some (.bl true) := Eq.trans rfl rfl
@[simp] theorem e_is1 (M : List MO) (i : Int) : dIsN M (.int i) .non = some (.bl false) := Eq.trans rfl rfl
@[simp] theorem e_is2 (M : List MO) (i : List D) : dIsN M (.tup i) .non = some (.bl false) := Eq.trans rfl rfl
@[simp] theorem e_is3 (M : List MO) (i : List D) : dIsN M (.lst i) .non = some (.bl false) := Eq.trans rfl rfl
@[simp] theorem e_is4 (M : List MO) (i : Str) : dIsN M (.str i) .non = some (.bl false) := Eq.trans rfl rfl
@[simp] theorem e_is5 (M : List MO) (i : Nat) : dIsN M (.ref i) .non = some (.bl false) := Eq.trans rfl rfl
@[simp] theorem e_ns0 (M : List MO) : dNotN M .non .non = some (.bl false) := Eq.trans rfl rfl
@[simp] theorem e_ns1 (M : List MO) (i : Int) : dNotN M (.int i) .non = some (.bl true) := Eq.trans rfl rfl
@[simp] theorem e_ns2 (M : List MO) (i : List D) : dNotN M (.tup i) .non = some (.bl true) := Eq.trans rfl rfl
@[simp] theorem e_ns3 (M : List MO) (i : List D) : dNotN M (.lst i) .non = some (.bl true) := Eq.trans rfl rfl
@[simp] theorem e_ns4 (M : List MO) (i : Str) : dNotN M (.str i) .non = some (.bl true) := Eq.trans rfl rfl
@[simp] theorem e_ns5 (M : List MO) (i : Nat) : dNotN M (.ref i) .non = some (.bl true) := Eq.trans rfl rfl
@[simp] theorem e_ix (M : List MO) (x : D) (i : Int) : dIx M x (.int i) = (itemsD M x).bind fun ds => atI ds i := Eq.trans rfl rfl
theorem atI_nat (ds : List D) (n : Nat) : atI ds (n : Int) = ds[n]? := by
  unfold atI ixN
  by_cases h : n < ds.length
  · simp [h]
  · simp [h]
@[simp] theorem atI_0 (a : D) (ds : List D) : atI (a :: ds) 0 = some a := (atI_nat _ 0).trans rfl
@[simp] theorem atI_1 (a b : D) (ds : List D) : atI (a :: b :: ds) 1 = some b := (atI_nat _ 1).trans rfl
@[simp] theorem atI_2 (a b c : D) (ds : List D) : atI (a :: b :: c :: ds) 2 = some c := (atI_nat _ 2).trans rfl
@[simp] theorem atI_3 (a b c d : D) (ds : List D) : atI (a :: b :: c :: d :: ds) 3 = some d := (atI_nat _ 3).trans rfl
@[simp] theorem atI_4 (a b c d e : D) (ds : List D) : atI (a :: b :: c :: d :: e :: ds) 4 = some e := (atI_nat _ 4).trans rfl
@[simp] theorem atI_5 (a b c d e f : D) (ds : List D) : atI (a :: b :: c :: d :: e :: f :: ds) 5 = some f := (atI_nat _ 5).trans rfl
@[simp] theorem e_lenL (M : List MO) (ds : List D) : dLen M (.lst ds) = some (.int ds.length) := Eq.trans rfl rfl
@[simp] theorem e_lenT (M : List MO) (ds : List D) : dLen M (.tup ds) = some (.int ds.length) := Eq.trans rfl rfl
@[simp] theorem e_lenR (M : List MO) (k : Nat) : dLen M (.ref k) = (listD M (.ref k)).map fun ds => .int ds.length := Eq.trans rfl rfl
@[simp] theorem e_lenS (M : List MO) (x : Str) : dLen M (.str x) = if x.length ≤ sizeLine then some (.int x.length) else none := Eq.trans rfl rfl
@[simp] theorem e_intI (M : List MO) (i : Int) : dInt M (.int i) = some (.int i) := Eq.trans rfl rfl
@[simp] theorem e_intB (M : List MO) (b : Bool) : dInt M (.bl b) = some (.int (if b then 1 else 0)) := Eq.trans rfl rfl
@[simp] theorem e_str (M : List MO) (i : Int) : dStr M (.int i) = if i.natAbs.log2 < 1920 then some (.str (toString i)) else none := Eq.trans rfl rfl
@[simp] theorem e_min2 (M : List MO) (i j : Int) : dMin2 M (.int i) (.int j) = some (.int (if j < i then j else i)) := Eq.trans rfl rfl
@[simp] theorem e_max2 (M : List MO) (i j : Int) : dMax2 M (.int i) (.int j) = some (.int (if i < j then j else i)) := Eq.trans rfl rfl
@[simp] theorem e_isi_ii (M : List MO) (i : Int) : dIsi "int" M (.int i) = some (.bl true) := Eq.trans rfl rfl
@[simp] theorem e_isi_ib (M : List MO) (i : Int) : dIsi "bool" M (.int i) = some (.bl false) := Eq.trans rfl rfl
@[simp] theorem e_isi_ll (M : List MO) (ds : List D) : dIsi "list" M (.lst ds) = some (.bl true) := Eq.trans rfl rfl
@[simp] theorem e_isi_tt (M : List MO) (ds : List D) : dIsi "tuple" M (.tup ds) = some (.bl true) := Eq.trans rfl rfl
@[simp] theorem e_isi_ss (M : List MO) (ds : Str) : dIsi "str" M (.str ds) = some (.bl true) := Eq.trans rfl rfl
@[simp] theorem e_isi_is (M : List MO) (i : Int) : dIsi "str" M (.int i) = some (.bl false) := Eq.trans rfl rfl
@[simp] theorem e_isiT_l (M : List MO) (ds : List D) : dIsiT ["list", "tuple"] M (.lst ds) = some (.bl true) := Eq.trans rfl rfl
@[simp] theorem e_isiT_t (M : List MO) (ds : List D) : dIsiT ["list", "tuple"] M (.tup ds) = some (.bl true) := Eq.trans rfl rfl
theorem e_isi_lr {M : List MO} {k : Nat} {ds : List D} (h : M[k]? = some (.lst ds)) : dIsi "list" M (.ref k) = some (.bl true) := by
  simp only [dIsi, tyName, h]
  rfl
theorem toVs_ints (is : List Int) : toVs (is.map D.int) = some (is.map V.int) := by
  induction is with
  | nil => rfl
  | cons i is ih => simp [toVs, toV, ih]
theorem inV_ints (i : Int) (is : List Int) : inV (V.int i) (is.map V.int) = decide (i ∈ is) := by
  induction is with
  | nil => rfl
  | cons j is ih =>
    have e : eqV (V.int j) (V.int i) = decide (j = i) := Eq.trans rfl rfl
    rw [List.map_cons]
    unfold inV at ih ⊢
    rw [List.any_cons, ih, e]
    by_cases h : j = i
    · subst h
      simp
    · have h' : ¬ i = j := fun e => h e.symm
      simp [h, h']
@[simp] theorem e_inL (M : List MO) (i : Int) (is : List Int) : dIn M (.int i) (.lst (is.map D.int)) = some (.bl (decide (i ∈ is))) := by
  simp [dIn, inP, toV, toVs_ints, inV_ints]
@[simp] theorem e_inT (M : List MO) (i : Int) (is : List Int) : dIn M (.int i) (.tup (is.map D.int)) = some (.bl (decide (i ∈ is))) := by
  simp [dIn, inP, toV, toVs_ints, inV_ints]
@[simp] theorem e_niL (M : List MO) (i : Int) (is : List Int) : dNotIn M (.int i) (.lst (is.map D.int)) = some (.bl (!decide (i ∈ is))) := by
  simp [dNotIn, inP, toV, toVs_ints, inV_ints]
@[simp] theorem e_niT (M : List MO) (i : Int) (is : List Int) : dNotIn M (.int i) (.tup (is.map D.int)) = some (.bl (!decide (i ∈ is))) := by
  simp [dNotIn, inP, toV, toVs_ints, inV_ints]
end Bk
namespace Bk
open PySem PySem.Spec PyProof.Rows L2
theorem mulOk_l {i : Int} (j : Int) (h1 : -(2 ^ 64) < i) (h2 : i < 2 ^ 64) : mulOk i j = true := by
  simp only [mulOk, Bool.or_eq_true, Bool.and_eq_true, decide_eq_true_eq]
  omega
theorem mulOk_r (i : Int) {j : Int} (h1 : -(2 ^ 64) < j) (h2 : j < 2 ^ 64) : mulOk i j = true := by
  simp only [mulOk, Bool.or_eq_true, Bool.and_eq_true, decide_eq_true_eq]
  omega
theorem mulOk_m (x y : Int) {n : Int} (h0 : 0 < n) (h : n ≤ 2 ^ 63) : mulOk (x % n) y = true := by
  have a := Int.emod_nonneg x (by omega : n ≠ 0)
  have b := Int.emod_lt_of_pos x h0
  exact mulOk_l y (by omega) (by omega)
theorem mulOk_m1 (x y : Int) {n : Int} (h0 : 0 < n) (h : n ≤ 2 ^ 63) : mulOk (x % n + 1) y = true := by
  have a := Int.emod_nonneg x (by omega : n ≠ 0)
  have b := Int.emod_lt_of_pos x h0
  exact mulOk_l y (by omega) (by omega)
end Bk

set_option Elab.async false
set_option linter.all false
set_option maxRecDepth 100000
set_option maxHeartbeats 2000000
namespace Bk
open PySem PySem.Spec PyProof.Rows L2
/-! ### calls that lend nothing -/
theorem lendK_nil : ∀ {ds : List D}, belows 0 ds = true → lendK ds = []
  | [], _ => rfl
  | d :: ds, h => by
    simp only [belows, Bool.and_eq_true] at h
    cases d with
    | ref k => simp [below] at h
    | _ =>
      have ih := lendK_nil h.2
      simpa [lendK] using ih
theorem lendA_nil : ∀ {m : Nat} {ds : List D}, belows 0 ds = true → lendA m ds = ds
  | _, [], _ => rfl
  | m, d :: ds, h => by
    simp only [belows, Bool.and_eq_true] at h
    cases d with
    | ref k => simp [below] at h
    | _ => simp [lendA, lendA_nil h.2]
theorem flatArgs_of : ∀ {ds : List D}, belows 0 ds = true → flatArgs ds = true
  | [], _ => rfl
  | d :: ds, h => by
    simp only [belows, Bool.and_eq_true] at h
    cases d with
    | ref k => simp [below] at h
    | _ => simp [flatArgs, flatArgs_of h.2, h.1]
theorem backD_flat {n : Nat} {d : D} (h : below 0 d = true) : backD [] n d = some d := by
  cases d with
  | ref k => simp [below] at h
  | _ => simp [backD, h]
theorem c_flat {F : List D → List MO → R D} {ds : List D} {d : D} (h : F ds [] = .ok d []) (M : List MO) (ha : belows 0 ds = true) (hd : below 0 d = true) : callF F ds M = .ok d M := by
  simp [callF, lendK_nil ha, getAll, flatArgs_of ha, lentOk, lendA_nil ha, h, backD_flat hd, setAll]
theorem c_flatO {F : List D → List MO → R D} {ds es : List D} (h : F ds [] = .ok (.ref 0) [.lst es]) (M : List MO) (ha : belows 0 ds = true) (hd : belows 0 es = true) : callF F ds M = .ok (.ref M.length) (M ++ [.lst es]) := by
  simp [callF, lendK_nil ha, getAll, flatArgs_of ha, lentOk, lendA_nil ha, h, backD, setAll, belowO, hd]
/-- a call that raises -/
theorem c_flatX {F : List D → List MO → R D} {ds : List D} {d : D} {c : Nat} (h : F ds [] = .exc c d []) (M : List MO) (ha : belows 0 ds = true) (hd : below 0 d = true) : callF F ds M = .exc c d M := by
  simp [callF, lendK_nil ha, getAll, flatArgs_of ha, lentOk, lendA_nil ha, h, hd, setAll]
/-! ### numbers in a row -/
def intR (lo : Int) : Nat → List Int
  | 0 => []
  | n + 1 => lo :: intR (lo + 1) n
theorem rngL_int : ∀ (n : Nat) (lo : Int), rngL lo n = (intR lo n).map D.int
  | 0, _ => rfl
  | n + 1, lo => by simp [rngL, intR, rngL_int n]
@[simp] theorem intR_length : ∀ (n : Nat) (lo : Int), (intR lo n).length = n
  | 0, _ => rfl
  | n + 1, lo => by simp [intR, intR_length n]
theorem mem_intR : ∀ {n : Nat} {lo i : Int}, i ∈ intR lo n ↔ lo ≤ i ∧ i < lo + n
  | 0, lo, i => by simp [intR]; try omega
  | n + 1, lo, i => by
    simp only [intR, List.mem_cons, mem_intR]
    omega
theorem intR_nodup : ∀ (n : Nat) (lo : Int), (intR lo n).Nodup
  | 0, _ => .nil
  | n + 1, lo => by
    simp only [intR, List.nodup_cons, mem_intR]
    exact ⟨by omega, intR_nodup n _⟩
theorem intR_get : ∀ {n : Nat} {lo : Int} {k : Nat}, k < n → (intR lo n)[k]? = some (lo + k)
  | n + 1, lo, 0, _ => by simp [intR]
  | n + 1, lo, k + 1, h => by
    simp only [intR, List.getElem?_cons_succ]
    rw [intR_get (by omega)]
    congr 1
    push_cast
    omega
theorem intR_succ : ∀ (n : Nat) (lo : Int), intR lo (n + 1) = intR lo n ++ [lo + n]
  | 0, lo => by simp [intR]
  | n + 1, lo => by
    rw [intR, intR_succ n (lo + 1), intR]
    simp only [List.cons_append]
    congr 3
    push_cast
    omega
/-! ### lists made by comprehensions -/
theorem lcL_map {gg : GG} {ge : GE} {Γ : Env} {M : List MO} {f : D → D} : ∀ (ds acc : List D), acc.length + ds.length ≤ sizeLine → (∀ d ∈ ds, ∃ Γ1, gg d Γ = some Γ1 ∧ ge Γ1 M = .ok (f d) M) → gLcL gg gYes ge Γ ds acc M = .ok (acc ++ ds.map f) M
  | [], acc, _, _ => by simp [gLcL]
  | d :: ds, acc, h, hf => by
    obtain ⟨Γ1, h1, h2⟩ := hf d (by simp)
    simp only [List.length_cons] at h
    have ih := lcL_map (gg := gg) (ge := ge) (Γ := Γ) (M := M) (f := f) ds (acc ++ [f d]) (by simp; omega) fun e he => hf e (by simp [he])
    have q : acc.length < sizeLine := by omega
    simp [gLcL, h1, h2, q, ih]
theorem lcL_filter {gg : GG} {gt : GT} {ge : GE} {Γ : Env} {M : List MO} {f : D → D} {c : D → Bool} : ∀ (ds acc : List D), acc.length + ds.length ≤ sizeLine → (∀ d ∈ ds, ∃ Γ1, gg d Γ = some Γ1 ∧ gt Γ1 M = .ok (c d) M ∧ (c d = true → ge Γ1 M = .ok (f d) M)) → gLcL gg gt ge Γ ds acc M = .ok (acc ++ (ds.filter c).map f) M
  | [], acc, _, _ => by simp [gLcL]
  | d :: ds, acc, h, hf => by
    obtain ⟨Γ1, h1, h2, h3⟩ := hf d (by simp)
    simp only [List.length_cons] at h
    have q : acc.length < sizeLine := by omega
    cases e : c d with
    | true =>
      have ih := lcL_filter (gg := gg) (gt := gt) (ge := ge) (Γ := Γ) (M := M) (f := f) (c := c) ds (acc ++ [f d]) (by simp; omega) fun e he => hf e (by simp [he])
      simp [gLcL, h1, h2, e, h3 e, q, ih]
    | false =>
      have ih := lcL_filter (gg := gg) (gt := gt) (ge := ge) (Γ := Γ) (M := M) (f := f) (c := c) ds acc (by omega) fun e he => hf e (by simp [he])
      simp [gLcL, h1, h2, e, ih]
/-! ### walks -/
theorem forL_cons {gg : GG} {b : GS} {d : D} {ds : List D} {Γ Γ1 Γ2 : Env} {M M2 : List MO} (h1 : gg d Γ = some Γ1) (h2 : b Γ1 M = .nx Γ2 M2) : gForL gg b (d :: ds) Γ M = gForL gg b ds Γ2 M2 := by simp [h1, h2]
theorem while_go {gt : GT} {b : GS} {n : Nat} {Γ Γ2 : Env} {M M1 M2 : List MO} (h1 : gt Γ M = .ok true M1) (h2 : b Γ M1 = .nx Γ2 M2) : gWhile gt b (n + 1) Γ M = gWhile gt b n Γ2 M2 := by simp [gWhile, h1, h2]
theorem while_end {gt : GT} {b : GS} {n : Nat} {Γ : Env} {M M1 : List MO} (h1 : gt Γ M = .ok false M1) : gWhile gt b (n + 1) Γ M = .nx Γ M1 := by simp [gWhile, h1]
theorem inR_of {i : Int} (h1 : -(2 ^ 62) ≤ i) (h2 : i < 2 ^ 62) : inR i = true := by simp [inR]; omega
theorem atI_pos {α : Type} {ds : List α} {i : Int} (h0 : 0 ≤ i) (h1 : i < ds.length) : atI ds i = ds[i.toNat]? := by
  have l : i.toNat < ds.length := by omega
  simp [atI, ixN, h0, h1]
theorem atI_lt {ds : List D} {i : Int} (h0 : 0 ≤ i) (h1 : i < ds.length) : ∃ d, atI ds i = some d ∧ ds[i.toNat]? = some d := by
  have l : i.toNat < ds.length := by omega
  exact ⟨ds[i.toNat], by rw [atI_pos h0 h1]; exact List.getElem?_eq_getElem l, List.getElem?_eq_getElem l⟩
theorem atI_ints {is : List Int} {i : Int} (h0 : 0 ≤ i) (h1 : i < is.length) : ∃ j, is[i.toNat]? = some j ∧ atI (is.map D.int) i = some (.int j) := by
  have l : i.toNat < is.length := by omega
  refine ⟨is[i.toNat], List.getElem?_eq_getElem l, ?_⟩
  rw [atI_pos h0 (by simpa using h1)]
  simp [l]
theorem ixN_lt {n : Nat} {i : Int} (h0 : 0 ≤ i) (h1 : i < n) : ixN n i = some i.toNat := by simp [ixN, h0, h1]
theorem popAt_run {M : List MO} {ds : List D} {i : Int} {d : D} (h0 : 0 ≤ i) (h1 : i < ds.length) (h : ds[i.toNat]? = some d) (h2 : i < 2 ^ 62) : mPopAt M ds (.int i) = some (ds.eraseIdx i.toNat, d) := by
  have a : -(2 ^ 63) ≤ i := by omega
  have b : i < 2 ^ 63 := by omega
  simp only [mPopAt, ixN_lt h0 h1, h]
  simp [a, b]
  omega
@[simp] theorem append_run (M : List MO) (ds : List D) (y : D) : mAppend M ds y = if ds.length < sizeLine then some (ds ++ [y], .non) else none := rfl
theorem cutD_upto {ds : List D} {n : Nat} : cutD ds none (some (n : Int)) = ds.take n := by
  unfold cutD
  rw [HT.sIx_none, HT.sIx_nat]
  simp
end Bk
namespace Bk
theorem erase_perm {α : Type} : ∀ (l : List α) (i : Nat) (h : i < l.length), (l[i] :: l.eraseIdx i).Perm l
  | [], _, h => by simp at h
  | a :: l, 0, _ => by simp
  | a :: l, i + 1, h => by
    simp only [List.getElem_cons_succ, List.eraseIdx_cons_succ]
    exact (List.Perm.swap _ _ _).trans (List.Perm.cons _ (erase_perm l i (by simpa using h)))
theorem map_erase {α β : Type} (f : α → β) : ∀ (l : List α) (i : Nat), (l.map f).eraseIdx i = (l.eraseIdx i).map f
  | [], _ => rfl
  | a :: l, 0 => rfl
  | a :: l, i + 1 => by simp [map_erase f l i]
end Bk

set_option Elab.async false
set_option linter.all false
set_option maxRecDepth 100000
set_option maxHeartbeats 2000000
namespace Bk
open PySem PySem.Spec PyProof.Rows L2
/-! ### zip of two lists or tuples of any kind -/
def Izz (K : PySem.W.Frag) (S1 S2 : Src) : It :=
  ⟨fun n H => ∃ (xs ys : List V) (x y : V), S1.here K H xs ∧ S2.here K H ys ∧ xs[n]? = some x ∧ ys[n]? = some y, fun n H v H' => ∃ T x y, v = .ref T ∧ H T = none ∧ H' = upd H T (.tup [x, y]) ∧ (∀ xs, S1.here K H xs → xs[n]? = some x) ∧ ∀ ys, S2.here K H ys → ys[n]? = some y, fun n H => ∃ xs ys : List V, S1.here K H xs ∧ S2.here K H ys ∧ min xs.length ys.length = n⟩
theorem turn_zz {P : Program} {w : World} {K : PySem.W.Frag} {elts : List Expr} {kk : Nat} {tpos : Pos} (S1 S2 : Src) (N : Nat) (lt1 : S1.addr < N) (lt2 : S2.addr < N) :
    Turn P w K (.Tuple elts kk tpos) (Izz K S1 S2) [N + 4, N + 2, N + 3, N, N + 1] (N + 4) (fun n h => IsZip h (N + 4) (N + 2) (N + 3) .none ∧ IsTupOf2 h (N + 2) (.ref N) (.ref (N + 1)) ∧ (∃ a1 a2, IsTupOf2 h (N + 3) a1 a2) ∧ S1.it h N n ∧ S2.it h (N + 1) n) where
  mem := List.mem_cons_self
  obj := fun n h st b hb => by
    obtain ⟨hz, hTI, ⟨x, y, hTO⟩, h1, h2⟩ := st
    have e' : b = N + 4 ∨ b = N + 2 ∨ b = N + 3 ∨ b = N ∨ b = N + 1 := by simpa using hb
    rcases e' with q | q | q | q | q
    · rw [q]; exact ⟨_, hz, fun v q => nomatch q⟩
    · rw [q]; exact ⟨_, hTI, fun v q => nomatch q⟩
    · rw [q]; exact ⟨_, hTO, fun v q => nomatch q⟩
    · rw [q]; exact Src.it_obj h1
    · rw [q]; exact Src.it_obj h2
  keep := fun n h h' st k => by
    obtain ⟨hz, hTI, ⟨x, y, hTO⟩, h1, h2⟩ := st
    exact ⟨k _ (by simp) _ hz, k _ (by simp) _ hTI, ⟨x, y, k _ (by simp) _ hTO⟩, Src.it_at h1 fun o q => k _ (by simp) o q, Src.it_at h2 fun o q => k _ (by simp) o q⟩
  item := by
    intro X hP hw hK hc n pins s σ H E I hf st hg
    subst hP hw hK
    obtain ⟨xs, ys, x, y, hqx, hqy, hx, hy⟩ := hg
    obtain ⟨hz, hTI, hTO, h1, h2⟩ := st
    obtain ⟨its1, rv1, har1⟩ := Src.inv I hqx
    obtain ⟨its2, rv2, har2⟩ := Src.inv I hqy
    obtain ⟨u1, hu1, ru1⟩ := rv1.get hx
    obtain ⟨u2, hu2, ru2⟩ := rv2.get hy
    have hh : X.A.in1.handled = none := I.ok.hd hc
    have Wk := WalksT.zipD2 (prog := X.prog) (w := X.w) (A := X.A) (zip_sep2 (N := N) (fp1 := [S1.addr]) (fp2 := [S2.addr]) (fun b hb => by rw [List.mem_singleton.mp hb]; exact lt1) (fun b hb => by rw [List.mem_singleton.mp hb]; exact lt2))
      (Src.draws hh S1 N (Nat.ne_of_lt lt1) its1.toArray) (Src.draws hh S2 (N + 1) (by have q : S2.addr ≠ N + 1 := Nat.ne_of_lt (Nat.lt_succ_of_lt lt2); exact q) its2.toArray)
    have ln1 : n < its1.toArray.size := by
      have := (List.getElem?_eq_some_iff.mp hu1).1
      simpa using this
    have ln2 : n < its2.toArray.size := by
      have := (List.getElem?_eq_some_iff.mp hu2).1
      simpa using this
    refine Wk.item n s _ E (by omega) ⟨hz, hTI, hTO, ⟨h1, har1⟩, ⟨h2, har2⟩⟩ fun T vals h' tk hP hT hTup hMid hk => ⟨_, rfl, Wk.go elts kk tpos n T _ _ _ hMid fun h2' hSt hk2 => ?_⟩
    obtain ⟨x1, x2, p1, p2, hvals⟩ := hP
    subst hvals
    have ex1 : x1 = u1 := by
      have q : its1.toArray[n]? = some u1 := by simpa using hu1
      rw [p1] at q
      exact Option.some.inj q
    have ex2 : x2 = u2 := by
      have q : its2.toArray[n]? = some u2 := by simpa using hu2
      rw [p2] at q
      exact Option.some.inj q
    subst ex1 ex2
    have out := Wk.apart n T _ hMid
    have tup2 : h2'.IsTuple T #[x1, x2] := hTup.at fun o q => hk2 T o out q
    have new : ObjOk X.prog X.w (upd H T (.tup [x, y])) h2' T (.tup [x, y]) :=
      ⟨by show 2 ≤ sizeLine; decide, [x1, x2], .cons ru1 (.cons ru2 .nil), tup2⟩
    have sub : ∀ c, c ∉ [N + 4, N + 2, N + 3, N, N + 1] → c ∉ [N + 4, N + 3, N, N + 1] := fun c hc q => hc (by
      have e' : c = N + 4 ∨ c = N + 3 ∨ c = N ∨ c = N + 1 := by simpa using q
      rcases e' with z | z | z | z <;> simp [z])
    have J := I.turnedNew (t' := tk) (ch := [N + 4, N + 2, N + 3, N, N + 1]) (fun b ob hb q => hk2 b ob (sub b hb) (hk b ob (sub b hb) q)) hf hT new
    refine ⟨.ref T, _, J, rfl, ⟨T, x, y, rfl, I.hok.fresh hT, rfl, fun ys' hy' => by rw [Src.inj I hy' hqx]; exact hx, fun ys' hy' => by rw [Src.inj I hy' hqy]; exact hy⟩, ?_, fun b hb => ?_⟩
    · obtain ⟨g1, g2, g3, ⟨g4, _⟩, ⟨g5, _⟩⟩ := hSt
      exact ⟨g1, g2, g3, g4, g5⟩
    · have hb' : b < s.heap.objs.size := by
        have e' : b = N + 4 ∨ b = N + 2 ∨ b = N + 3 ∨ b = N ∨ b = N + 1 := by simpa using hb
        rcases e' with q | q | q | q | q
        · rw [q]; exact Heap.lt_size hz
        · rw [q]; exact Heap.lt_size hTI
        · rw [q]; obtain ⟨_, _, q'⟩ := hTO; exact Heap.lt_size q'
        · rw [q]; obtain ⟨_, q', _⟩ := Src.it_obj h1; exact Heap.lt_size q'
        · rw [q]; obtain ⟨_, q', _⟩ := Src.it_obj h2; exact Heap.lt_size q'
      rw [upd_ne (Nat.ne_of_lt (Nat.lt_of_lt_of_le hb' hT))]
      exact (hf b hb).1
  done := by
    intro X hP hw hK hc n pins s σ H E I hf st hg
    subst hP hw hK
    obtain ⟨xs, ys, hqx, hqy, hl⟩ := hg
    obtain ⟨hz, hTI, hTO, h1, h2⟩ := st
    obtain ⟨its1, rv1, har1⟩ := Src.inv I hqx
    obtain ⟨its2, rv2, har2⟩ := Src.inv I hqy
    have hh : X.A.in1.handled = none := I.ok.hd hc
    have Wk := WalksT.zipD2 (prog := X.prog) (w := X.w) (A := X.A) (zip_sep2 (N := N) (fp1 := [S1.addr]) (fp2 := [S2.addr]) (fun b hb => by rw [List.mem_singleton.mp hb]; exact lt1) (fun b hb => by rw [List.mem_singleton.mp hb]; exact lt2))
      (Src.draws hh S1 N (Nat.ne_of_lt lt1) its1.toArray) (Src.draws hh S2 (N + 1) (by have q : S2.addr ≠ N + 1 := Nat.ne_of_lt (Nat.lt_succ_of_lt lt2); exact q) its2.toArray)
    have en : min its1.toArray.size its2.toArray.size = n := by rw [List.size_toArray, List.size_toArray, ← rv1.length, ← rv2.length]; exact hl
    rw [en] at Wk
    have sub : ∀ c, c ∉ [N + 4, N + 2, N + 3, N, N + 1] → c ∉ [N + 4, N + 3, N, N + 1] := fun c hc q => hc (by
      have e' : c = N + 4 ∨ c = N + 3 ∨ c = N ∨ c = N + 1 := by simpa using q
      rcases e' with z | z | z | z <;> simp [z])
    exact Wk.done s _ E ⟨hz, hTI, hTO, ⟨h1, har1⟩, ⟨h2, har2⟩⟩ fun h' tk hk => ⟨rfl, I.turnedL (t' := tk) (ch := [N + 4, N + 2, N + 3, N, N + 1]) (fun b ob hb q => hk b ob (sub b hb) q) hf⟩
  self := fun A n s Q E st h => wpAny_pyIter_zip st.1 h
theorem itr_zz {K : PySem.W.Frag} {Z : Hp} {ι : Nat → Addr} {n : Nat} {S1 S2 : Src} {xs ys : List V} {ds es : List D} (s1 : S1.here K Z xs) (s2 : S2.here K Z ys) (r1 : Rps K Z ι n ds xs) (r2 : Rps K Z ι n es ys) : ItR K (Izz K S1 S2) (zipL ds es) Z ι n := by
  intro i H' Z' ι' M' hz hi hn hr _
  have sH : S1.here K H' xs := here_sub (fun a o h => hr.sub _ _ (hz _ _ h)) s1
  have sK : S2.here K H' ys := here_sub (fun a o h => hr.sub _ _ (hz _ _ h)) s2
  refine ⟨fun hl => ⟨xs, ys, sH, sK, by rw [← r1.length, ← r2.length, ← zipL_len]; exact hl⟩, fun d hd => ?_⟩
  obtain ⟨d0, e0, h1, h2, rfl⟩ := zipL_get ds es i d hd
  obtain ⟨v, hv, rv⟩ := r1.get h1
  obtain ⟨u, hu, ru⟩ := r2.get h2
  refine ⟨⟨xs, ys, v, u, sH, sK, hv, hu⟩, fun x H2 hy => ?_⟩
  obtain ⟨T, x', y', rfl, hT, rfl, hx, hy⟩ := hy
  have ex : xs[i]? = some x' := hx _ sH
  rw [hv] at ex
  cases ex
  have ey : ys[i]? = some y' := hy _ sK
  rw [hu] at ey
  cases ey
  obtain ⟨q1, q2⟩ := hr.frozen (o := .tup [v, u]) hT
  refine ⟨_, q2, q1, .tup (.inl (.inl upd_same)) (.cons ?_ (.cons ?_ .nil))⟩
  · exact Rp.ext (Rp.mono hz hi hn _ _ rv) q2
  · exact Rp.ext (Rp.mono hz hi hn _ _ ru) q2
section
variable {X : Cx} {C : CT} {W : WX} {e e2 : Expr} {ga gb : GE} {p pos tpos : Pos} {elts : List Expr} {kk : Nat}
theorem qi_zip (hg : Gl X "zip") (hm : X.mg "zip" = none) (ha : QE X C W e ga) (hb : QE X C W e2 gb) (hs : starEach [e, e2] X.env = (false, eval e X.env) :: starEach [e2] X.env := by rfl) (hs2 : starEach [e2] X.env = (false, eval e2 X.env) :: starEach [] X.env := by rfl)
    (hpl : (backTo pos (starEach [e2] X.env)).any (·.1) = false := by rfl) : QI X C W (.Tuple elts kk tpos) (.Call (.Name "zip" p) [e, e2] [] pos) (gZip ga gb) := by
  obtain ⟨ta, pa, qa⟩ := ha
  obtain ⟨tb, pb, qb⟩ := hb
  refine ⟨fun σ H R => ta σ H fun v H1 => tb σ H1 fun u H2 => ∃ (S1 S2 : Src) (xs ys : List V), v = .ref S1.addr ∧ u = .ref S2.addr ∧ S1.here X.K H2 xs ∧ S2.here X.K H2 ys ∧ R (Izz X.K S1 S2) H2, ⟨fun pins s σ H R I h => ?_⟩,
    fun σ H Z ι Γ M Q sl hr h => qa σ H Z ι Γ M _ sl hr (Post.bind h fun x M1 v H1 Z1 ι1 e1 hr1 r1 h1 => qb σ H1 Z1 ι1 Γ M1 _ (sl.ext e1) hr1 (h1.bind fun y M2 u H2 Z2 ι2 e2 hr2 r2 h2 => ?_))⟩
  · refine Call_ (ld_blt I hg hm boot_zip (PyProof.Rows.callWith_type1 (thn ((pa_cons pa (pa_cons pb pa_nil hs2) hs).run pos pins s σ H (fun vs H1 => ∃ v u, vs = [v, u] ∧ ∃ (S1 S2 : Src) (xs ys : List V), v = .ref S1.addr ∧ u = .ref S2.addr ∧ S1.here X.K H1 xs ∧ S2.here X.K H1 ys ∧ R (Izz X.K S1 S2) H1) I ?_) fun us s1 hh => ?_) hs hpl))
    · have hmono : (fun x H1 => tb σ H1 fun y H2 => tNil σ H2 fun ys H3 => ∃ v u, x :: y :: ys = [v, u] ∧ ∃ (S1 S2 : Src) (xs zs : List V), v = .ref S1.addr ∧ u = .ref S2.addr ∧ S1.here X.K H3 xs ∧ S2.here X.K H3 zs ∧ R (Izz X.K S1 S2) H3) =
          fun (v : V) (H1 : Hp) => tb σ H1 fun u H2 => ∃ (S1 S2 : Src) (xs ys : List V), v = .ref S1.addr ∧ u = .ref S2.addr ∧ S1.here X.K H2 xs ∧ S2.here X.K H2 ys ∧ R (Izz X.K S1 S2) H2 := by
        funext x H1
        congr 1
        funext y H2
        apply propext
        constructor
        · rintro ⟨v, u, ev, q⟩
          cases ev
          exact q
        · intro q
          exact ⟨x, y, rfl, q⟩
      show ta σ H fun x H1 => tb σ H1 fun y H2 => tNil σ H2 fun ys H3 => ∃ v u, x :: y :: ys = [v, u] ∧ ∃ (S1 S2 : Src) (xs zs : List V), v = .ref S1.addr ∧ u = .ref S2.addr ∧ S1.here X.K H3 xs ∧ S2.here X.K H3 zs ∧ R (Izz X.K S1 S2) H3
      rw [hmono]
      exact h
    · obtain ⟨vs, H1, J, r1, v, u, rfl, S1, S2, xs, ys, rfl, rfl, hq1, hq2, q⟩ := hh
      obtain ⟨u1, u2, rfl, ru, ru2⟩ := Vals.two r1
      cases ru
      cases ru2
      obtain ⟨its1, rv1, har1⟩ := Src.inv J hq1
      obtain ⟨its2, rv2, har2⟩ := Src.inv J hq2
      refine zip_begins2 (S1.begins its1.toArray) (S2.begins its2.toArray) har1 har2 fun h' hz hTI hTO hi1 hi2 hsz hk => wpAny_pyIter_zip hz ?_
      have J2 : Inv X pins σ H1 { s1 with heap := h' } := J.kept (t' := s1.toks) hk
      refine ⟨s1.heap.objs.size + 4, [s1.heap.objs.size + 4, s1.heap.objs.size + 2, s1.heap.objs.size + 3, s1.heap.objs.size, s1.heap.objs.size + 1], _, _, H1, rfl, J2, turn_zz S1 S2 s1.heap.objs.size (Src.arr_lt har1) (Src.arr_lt har2), ⟨hz, hTI, ⟨_, _, hTO⟩, Src.start hi1, Src.start hi2⟩, fun b hb => ?_, q⟩
      have e' : b = s1.heap.objs.size + 4 ∨ b = s1.heap.objs.size + 2 ∨ b = s1.heap.objs.size + 3 ∨ b = s1.heap.objs.size ∨ b = s1.heap.objs.size + 1 := by simpa using hb
      have le : s1.heap.objs.size ≤ b := by
        rcases e' with z | z | z | z | z
        · rw [z]; exact Nat.le_add_right _ _
        · rw [z]; exact Nat.le_add_right _ _
        · rw [z]; exact Nat.le_add_right _ _
        · rw [z]; exact Nat.le_refl _
        · rw [z]; exact Nat.le_add_right _ _
      exact J.fpOk le (J.hok.fresh le)
  · obtain ⟨items, hd, h3⟩ := Post.of_opR (γ := D) (δ := V) h2
    unfold zipO at hd
    cases es : seqD x with
    | none => rw [es] at hd; cases hd
    | some ds =>
      cases et : seqD y with
      | none => rw [es, et] at hd; cases hd
      | some dt =>
        rw [es, et] at hd
        cases hd
        obtain ⟨S1, xs, rfl, hS1, q1⟩ := src_of hr2.sub (r1.ext e2) es
        obtain ⟨S2, ys, rfl, hS2, q2⟩ := src_of hr2.sub r2 et
        exact ⟨S1, S2, xs, ys, rfl, rfl, here_sub hr2.sub hS1, here_sub hr2.sub hS2, h3 _ H2 Z2 ι2 .refl hr2 (itr_zz hS1 hS2 q1 q2)⟩
end
end Bk

set_option Elab.async false
set_option linter.all false
set_option maxRecDepth 100000
set_option maxHeartbeats 2000000
namespace Bk
open PySem PySem.Spec PyProof.Rows L2
open PySem.W (kdx_alive)
/-! ### list(zip(a, b)): the zip's tuples stay, so each turn makes a new one -/
section
variable {prog : Program} {w : World} {A : Around} {E : Value → Shared → Prop} {s : Shared} {z TI TO i1 i2 T : Addr} {fp1 fp2 : List Addr} {n1 n2 i : Nat} {P1 P2 : Nat → Value → Prop} {St1 St2 : Nat → Heap → Prop} {f : Bool} {oT : Obj}
theorem zz_item {Q : Value → Shared → Prop} (S : ZipSep2 z TI TO i1 i2 fp1 fp2) (D1 : Draws prog w A i1 fp1 n1 P1 St1) (D2 : Draws prog w A i2 fp2 n2 P2 St2) (hz : IsZipHeld s.heap z TI TO T f) (hT : s.heap.get? T = some oT) (hTI : IsTupOf2 s.heap TI (.ref i1) (.ref i2)) (t1 : St1 i s.heap) (t2 : St2 i s.heap) (l1 : i < n1) (l2 : i < n2)
    (hQ : ∀ x1 x2 h' tk, P1 i x1 → P2 i x2 → IsZipHeld h' z TI TO T true → St1 (i + 1) h' → St2 (i + 1) h' → IsTupOf2 h' s.heap.objs.size x1 x2 → h'.objs.size = s.heap.objs.size + 1 → (∀ c o, c ≠ z → c ≠ i1 → c ≠ i2 → s.heap.get? c = some o → h'.get? c = some o) → Q (.ref s.heap.objs.size) { s with heap := h', toks := tk }) :
    wpAny (model prog w) A (Builtin.«zip.__next__» ⟨[.ref z], []⟩) (fun r s' => ∃ v, r = .done (.ret v) ∧ Q v s') E s := by
  obtain ⟨hp, gn, dr, tk0, os⟩ := s
  show wpAny _ _ (field (.ref z) 2 >>= _) _ _ _; refine wpAny_bind (wpAny_field hz rfl (x := .bool false) rfl ?_)
  show wpAny _ _ (field (.ref z) 3 >>= _) _ _ _; refine wpAny_bind (wpAny_field hz rfl (x := .ref TI) rfl ?_)
  refine wpAny_bind (wpAny_seqItems hTI rfl ?_); show wpAny _ _ (Builtin.SmallTypes.ownedTupleIsFree (.ref z) >>= _) _ _ _
  refine wpAny_bind (wpAny_tupleHeld_zip hz hT fun g0 zg0 sg0 => ?_); simp only [Bool.false_eq_true, if_false]; refine wpAny_bind ?_
  replace sg0 : Heap.SameBut z hp g0 := sg0
  rw [← Array.forIn_toList]; simp only [List.forIn_cons, List.forIn_nil]
  refine wpAny_bind (wpAny_bind (wpAny_holding ?_)); show wpAny _ _ (Builtin.SmallTypes.nextOf (.ref i1) >>= _) _ _ ⟨g0, gn, dr, tk0, os⟩
  refine wpAny_bind (D1.item i _ _ _ l1 (D1.over t1 sg0 S.zf1) fun x1 g1 k1 hx1 tn1 sg1 => wpAny_pure ?_)
  replace sg1 : Heap.SameBut i1 g0 g1 := sg1
  refine wpAny_pure ?_
  refine wpAny_bind (wpAny_bind (wpAny_holding ?_)); show wpAny _ _ (Builtin.SmallTypes.nextOf (.ref i2) >>= _) _ _ ⟨g1, gn, dr, k1, os⟩
  refine wpAny_bind (D2.item i _ _ _ l2 (D2.over (D2.over t2 sg0 S.zf2) sg1 S.sep1_2) fun x2 g2 k2 hx2 tn2 sg2 => wpAny_pure ?_)
  replace sg2 : Heap.SameBut i2 g1 g2 := sg2
  refine wpAny_pure (wpAny_pure ?_); show wpAny _ _ (newTuple [x1, x2] >>= _) _ _ _; refine wpAny_bind (wpAny_newTuple ?_)
  have sz : g2.objs.size = hp.objs.size := by rw [sg2.1, sg1.1, sg0.1]
  have zg2 : IsZipHeld g2 z TI TO T true := sg2.extBut _ _ S.zi2 (sg1.extBut _ _ S.zi1 zg0)
  have hk : ∀ c o, c ≠ z → c ≠ i1 → c ≠ i2 → hp.get? c = some o → g2.get? c = some o := fun c o c1 c2 c3 e => sg2.extBut _ _ c3 (sg1.extBut _ _ c2 (sg0.extBut _ _ c1 e))
  have q1 : St1 (i + 1) g2 := D1.over tn1 sg2 S.sep2_1
  refine wpAny_pure ⟨_, rfl, ?_⟩
  show Q (.ref g2.objs.size) _
  have hp2 : IsTupOf2 (g2.push { cls := .type "tuple", data := .seq #[x1, x2] }) g2.objs.size x1 x2 := Heap.get?_push_size _ rfl
  have sz2 : (g2.push { cls := .type "tuple", data := .seq #[x1, x2] }).objs.size = g2.objs.size + 1 := Heap.size_push ..
  rw [sz] at hp2 sz2 ⊢
  exact hQ x1 x2 _ k2 hx1 hx2 (Heap.get?_push_of_some _ zg2) (D1.frame _ _ _ q1 fun b _ o e => Heap.get?_push_of_some _ e) (D2.frame _ _ _ tn2 fun b _ o e => Heap.get?_push_of_some _ e) hp2 sz2 fun c o c1 c2 c3 e => Heap.get?_push_of_some _ (hk c o c1 c2 c3 e)
theorem zz_end {Q : Fin → Shared → Prop} (S : ZipSep2 z TI TO i1 i2 fp1 fp2) (D1 : Draws prog w A i1 fp1 n1 P1 St1) (D2 : Draws prog w A i2 fp2 n2 P2 St2) (hz : IsZipHeld s.heap z TI TO T f) (hT : s.heap.get? T = some oT) (hTI : IsTupOf2 s.heap TI (.ref i1) (.ref i2)) (t1 : St1 i s.heap) (t2 : St2 i s.heap) (l1 : i ≤ n1) (l2 : i ≤ n2) (hend : i = n1 ∨ i = n2)
    (hE : ∀ h' tk e, (∀ c o, c ≠ z → c ≠ i1 → c ≠ i2 → s.heap.get? c = some o → h'.get? c = some o) → (∃ o, h'.get? e = some o ∧ o.cls = .type "StopIteration") → E (.ref e) { s with heap := h', toks := tk }) :
    wpAny (model prog w) A (Builtin.«zip.__next__» ⟨[.ref z], []⟩) Q E s := by
  obtain ⟨hp, gn, dr, tk0, os⟩ := s
  show wpAny _ _ (field (.ref z) 2 >>= _) _ _ _; refine wpAny_bind (wpAny_field hz rfl (x := .bool false) rfl ?_)
  show wpAny _ _ (field (.ref z) 3 >>= _) _ _ _; refine wpAny_bind (wpAny_field hz rfl (x := .ref TI) rfl ?_)
  refine wpAny_bind (wpAny_seqItems hTI rfl ?_); show wpAny _ _ (Builtin.SmallTypes.ownedTupleIsFree (.ref z) >>= _) _ _ _
  refine wpAny_bind (wpAny_tupleHeld_zip hz hT fun g0 zg0 sg0 => ?_); simp only [Bool.false_eq_true, if_false]; refine wpAny_bind ?_
  replace sg0 : Heap.SameBut z hp g0 := sg0
  rw [← Array.forIn_toList]; simp only [List.forIn_cons, List.forIn_nil]
  refine wpAny_bind (wpAny_bind (wpAny_holding ?_)); show wpAny _ _ (Builtin.SmallTypes.nextOf (.ref i1) >>= _) _ _ ⟨g0, gn, dr, tk0, os⟩
  by_cases c : i < n1
  · refine wpAny_bind (D1.item i _ _ _ c (D1.over t1 sg0 S.zf1) fun x1 g1 k1 hx1 tn1 sg1 => wpAny_pure ?_)
    replace sg1 : Heap.SameBut i1 g0 g1 := sg1
    refine wpAny_pure ?_
    have c2 : i = n2 := by omega
    refine wpAny_bind (wpAny_bind (wpAny_holding ?_)); show wpAny _ _ (Builtin.SmallTypes.nextOf (.ref i2) >>= _) _ _ ⟨g1, gn, dr, k1, os⟩
    refine wpAny_bind (D2.done ⟨g1, gn, dr, k1, os⟩ _ _ (by rw [← c2]; exact D2.over (D2.over t2 sg0 S.zf2) sg1 S.sep1_2) fun q e hq he => ?_)
    replace hq : Heap.ExtBut i2 g1 q := hq
    exact hE q k1 e (fun c o cz c1 c2 x => hq _ _ c2 (sg1.extBut _ _ c1 (sg0.extBut _ _ cz x))) he
  · have c1 : i = n1 := by omega
    refine wpAny_bind (D1.done ⟨g0, gn, dr, tk0, os⟩ _ _ (by rw [← c1]; exact D1.over t1 sg0 S.zf1) fun q e hq he => ?_)
    replace hq : Heap.ExtBut i1 g0 q := hq
    exact hE q tk0 e (fun c o cz c1 _ x => hq _ _ c1 (sg0.extBut _ _ cz x)) he
/-- where a zip stands whose tuples are kept -/
def ZH (z TI TO : Addr) (no : List Addr) (h : Heap) : Prop := (IsZip h z TI TO .none ∧ ∃ a1 a2, IsTupOf2 h TO a1 a2) ∨ ∃ T f oT, IsZipHeld h z TI TO T f ∧ h.get? T = some oT ∧ T ∉ no
theorem zh_item {no : List Addr} {Q : Option Value → Shared → Prop} (S : ZipSep2 z TI TO i1 i2 fp1 fp2) (D1 : Draws prog w A.in1 i1 fp1 n1 P1 St1) (D2 : Draws prog w A.in1 i2 fp2 n2 P2 St2) (hz : ZH z TI TO no s.heap) (hn : z ∈ no ∧ i1 ∈ no ∧ i2 ∈ no) (hno : ∀ b ∈ no, b < s.heap.objs.size) (hTI : IsTupOf2 s.heap TI (.ref i1) (.ref i2)) (t1 : St1 i s.heap) (t2 : St2 i s.heap) (l1 : i < n1) (l2 : i < n2)
    (hQ : ∀ x1 x2 h' tk, P1 i x1 → P2 i x2 → ZH z TI TO no h' → St1 (i + 1) h' → St2 (i + 1) h' → IsTupOf2 h' s.heap.objs.size x1 x2 → h'.objs.size = s.heap.objs.size + 1 → (∀ c o, c ≠ z → c ≠ TO → c ≠ i1 → c ≠ i2 → s.heap.get? c = some o → h'.get? c = some o) → Q (some (.ref s.heap.objs.size)) { s with heap := h', toks := tk }) :
    wpAny (model prog w) A (pyNext (.ref z)) Q E s := by
  have fresh : s.heap.objs.size ∉ no := fun q => Nat.lt_irrefl _ (hno _ q)
  rcases hz with ⟨hz, a1, a2, hTO⟩ | ⟨T, f, oT, hz, hT, hTn⟩
  · exact wpAny_pyNext_zipD2_item S D1 D2 hz hTI hTO t1 t2 l1 l2 fun x1 x2 h' tk p1 p2 b1 b2 d1 d2 b5 b6 hk => hQ x1 x2 h' tk p1 p2 (.inr ⟨_, false, _, b1, b5, fresh⟩) d1 d2 b5 b6 hk
  · have hTy : s.TypeIs (.ref z) "zip" := ⟨_, hz, rfl⟩
    unfold pyNext
    refine wpAny_bind (wpAny_attempt (wpAny_callSpecial?_slot (name := Str.ofString "__next__") hTy F.slot_zip_next (wpAny_call_entry F.slot_zip_next hTy F.entry_zip_next
      (zz_item S D1 D2 hz hT hTI t1 t2 l1 l2 fun x1 x2 h' tk p1 p2 b1 d1 d2 b5 b6 hk => wpAny_pure (hQ x1 x2 h' tk p1 p2 (.inr ⟨T, true, oT, b1, hk T oT (fun q => hTn (q ▸ hn.1)) (fun q => hTn (q ▸ hn.2.1)) (fun q => hTn (q ▸ hn.2.2)) hT, hTn⟩) d1 d2 b5 b6 fun c o c1 _ c2 c3 e => hk c o c1 c2 c3 e)) (F.args_zip_next_1 _))))
theorem zh_end {no : List Addr} {Q : Option Value → Shared → Prop} (S : ZipSep2 z TI TO i1 i2 fp1 fp2) (D1 : Draws prog w A.in1 i1 fp1 n1 P1 St1) (D2 : Draws prog w A.in1 i2 fp2 n2 P2 St2) (hz : ZH z TI TO no s.heap) (hTI : IsTupOf2 s.heap TI (.ref i1) (.ref i2)) (t1 : St1 i s.heap) (t2 : St2 i s.heap) (l1 : i ≤ n1) (l2 : i ≤ n2) (hend : i = n1 ∨ i = n2)
    (hQ : ∀ h' tk, (∀ c o, c ≠ z → c ≠ TO → c ≠ i1 → c ≠ i2 → s.heap.get? c = some o → h'.get? c = some o) → Q none { s with heap := h', toks := tk }) : wpAny (model prog w) A (pyNext (.ref z)) Q E s := by
  rcases hz with ⟨hz, a1, a2, hTO⟩ | ⟨T, f, oT, hz, hT, hTn⟩
  · exact wpAny_pyNext_zipD2_end S D1 D2 hz hTI hTO t1 t2 l1 l2 hend hQ
  · have hTy : s.TypeIs (.ref z) "zip" := ⟨_, hz, rfl⟩
    unfold pyNext
    refine wpAny_bind (wpAny_attempt (wpAny_callSpecial?_slot (name := Str.ofString "__next__") hTy F.slot_zip_next (wpAny_call_entry F.slot_zip_next hTy F.entry_zip_next (zz_end S D1 D2 hz hT hTI t1 t2 l1 l2 hend fun h' tk e hk he => ?_) (F.args_zip_next_1 _))))
    obtain ⟨o, ho, hc⟩ := he
    exact wpAny_bind (wpAny_isInstance (T := "StopIteration") (b := true) ⟨o, ho, hc⟩ isSubtype_stop (wpAny_pure (hQ _ _ fun c o c1 _ c2 c3 e => hk c o c1 c2 c3 e)))
end
end Bk

set_option Elab.async false
set_option linter.all false
set_option maxRecDepth 100000
set_option maxHeartbeats 4000000
namespace Bk
open PySem PySem.Spec PyProof.Rows L2
/-- tuples laid one after the other -/
inductive Laid : Hp → List (V × V) → List Addr → Hp → Prop
  | nil (H : Hp) : Laid H [] [] H
  | snoc {H H1 : Hp} {ps : List (V × V)} {Ts : List Addr} {T : Addr} {x y : V} : Laid H ps Ts H1 → H1 T = none → Laid H (ps ++ [(x, y)]) (Ts ++ [T]) (upd H1 T (.tup [x, y]))
theorem zip_no_len : typeLookup (.type "zip") "__len__" = pure none := am_miss_of_fast (by decide +kernel)
theorem zip_no_hint : typeLookup (.type "zip") "__length_hint__" = pure none := am_miss_of_fast (by decide +kernel)
theorem zip_hint {prog : Program} {w : World} {A : Around} {E : Value → Shared → Prop} {s : Shared} {r : Addr} {Q : Bool → Shared → Prop} (hT : s.TypeIs (.ref r) "zip") (h : Q true s) : wpAny (model prog w) A (Builtin.List.listLengthHint (.ref r)) Q E s := by
  unfold Builtin.List.listLengthHint
  refine wpAny_bind (wpAny_specialOf hT zip_no_len ?_)
  refine wpAny_bind (wpAny_specialOf hT zip_no_hint ?_)
  exact wpAny_pure h
section
variable {X : Cx} {pins : List (Addr × Obj)} {σ : L2.St} {S1 S2 : Src} {N Sx : Nat} {its1 its2 : List Value} {xs ys : List V} {A : Around} {H0 : Hp} {R : Result → Shared → Prop}
abbrev zch (N Sx : Nat) : List Addr := [N + 4, N + 2, N + 3, N, N + 1, Sx]
theorem zl_loop (hh : A.handled = none) (rv1 : Vals xs its1) (rv2 : Vals ys its2) (lt1 : S1.addr < N) (lt2 : S2.addr < N) (hSx : N + 4 < Sx) (res : Value) (hlen : min xs.length ys.length ≤ sizeLine)
    (hR : ∀ (s' : Shared) (H' : Hp) (Ts : List Addr) (acc : Array Value) (c : Nat), Inv X pins σ H' s' → FpOk X pins H' Sx → Laid H0 (xs.zip ys) Ts H' → s'.heap.get? Sx = some { cls := .type "list", dict := none, data := .seq acc c, slots := #[] } → acc.toList = Ts.map Value.ref → R (.ok (.ret res)) s') :
    ∀ (k i : Nat) (s : Shared) (H : Hp) (c : Nat) (acc : Array Value) (Ts : List Addr), min xs.length ys.length - i = k → i ≤ min xs.length ys.length → Inv X pins σ H s → (∀ b ∈ zch N Sx, FpOk X pins H b) → ZH (N + 4) (N + 2) (N + 3) (zch N Sx) s.heap →
      IsTupOf2 s.heap (N + 2) (.ref N) (.ref (N + 1)) → S1.it s.heap N i → S2.it s.heap (N + 1) i → S1.arr s.heap its1.toArray → S2.arr s.heap its2.toArray → s.heap.get? Sx = some { cls := .type "list", dict := none, data := .seq acc c, slots := #[] } → acc.toList = Ts.map Value.ref → Ts.length = i →
      Laid H0 ((xs.zip ys).take i) Ts H → codeAny (model X.prog X.w) A (.builtin "list.extend.loop" ⟨[.ref Sx, .ref (N + 4), res], []⟩) R s := by
  have SS := zip_sep2 (N := N) (fp1 := [S1.addr]) (fp2 := [S2.addr]) (fun b hb => by rw [List.mem_singleton.mp hb]; exact lt1) (fun b hb => by rw [List.mem_singleton.mp hb]; exact lt2)
  have D1 := Src.draws (prog := X.prog) (w := X.w) (A := A.in1.in1) hh S1 N (Nat.ne_of_lt lt1) its1.toArray
  have D2 := Src.draws (prog := X.prog) (w := X.w) (A := A.in1.in1) hh S2 (N + 1) (by have q : S2.addr ≠ N + 1 := Nat.ne_of_lt (Nat.lt_succ_of_lt lt2); exact q) its2.toArray
  have len1 : its1.toArray.size = xs.length := by rw [List.size_toArray, ← rv1.length]
  have len2 : its2.toArray.size = ys.length := by rw [List.size_toArray, ← rv2.length]
  have far : ∀ {u : Nat}, u < N → ¬ (u = N + 4 ∨ u = N + 2 ∨ u = N + 3 ∨ u = N ∨ u = N + 1 ∨ u = Sx) := fun {u} a b => by omega
  have a1 : S1.addr ∉ zch N Sx := fun q => by
    have e' : S1.addr = N + 4 ∨ S1.addr = N + 2 ∨ S1.addr = N + 3 ∨ S1.addr = N ∨ S1.addr = N + 1 ∨ S1.addr = Sx := by simpa using q
    exact far lt1 e'
  have a2 : S2.addr ∉ zch N Sx := fun q => by
    have e' : S2.addr = N + 4 ∨ S2.addr = N + 2 ∨ S2.addr = N + 3 ∨ S2.addr = N ∨ S2.addr = N + 1 ∨ S2.addr = Sx := by simpa using q
    exact far lt2 e'
  have nz : Sx ≠ N + 4 ∧ Sx ≠ N + 2 ∧ Sx ≠ N + 3 ∧ Sx ≠ N ∧ Sx ≠ N + 1 := by omega
  intro k
  induction k with
  | zero =>
    intro i s H c acc Ts hk hi I hf hz hTI t1 t2 r1 r2 hS hacc hTs hL
    have ei : i = min xs.length ys.length := by omega
    refine codeAny_builtin PySem.F.entry_extend_loop ?_
    rw [Around.under_plainId PySem.F.plain_extend_loop _]
    show wpAny _ A.in1 (pyNext (.ref (N + 4)) >>= _) _ _ _
    refine wpAny_bind (zh_end SS D1 D2 hz hTI ⟨t1, r1⟩ ⟨t2, r2⟩ (by rw [len1]; omega) (by rw [len2]; omega) (by rw [len1, len2]; omega) fun h' tk hkp => ?_)
    refine wpAny_pure (hR _ H Ts acc c (I.turnedL (t' := tk) (ch := zch N Sx) (fun b o hb e => hkp b o (fun q => hb (by simp [q])) (fun q => hb (by simp [q])) (fun q => hb (by simp [q])) (fun q => hb (by simp [q])) e) hf) (hf Sx (by simp)) ?_ (hkp Sx _ nz.1 nz.2.2.1 nz.2.2.2.1 nz.2.2.2.2 hS) hacc)
    rw [List.take_of_length_le (by rw [List.length_zip]; omega)] at hL
    exact hL
  | succ k ih =>
    intro i s H c acc Ts hk hi I hf hz hTI t1 t2 r1 r2 hS hacc hTs hL
    have hlt : i < min xs.length ys.length := by omega
    have hsz : acc.size = i := by rw [← Array.length_toList, hacc, List.length_map, hTs]
    have l1 : i < xs.length := by omega
    have l2 : i < ys.length := by omega
    obtain ⟨u1, hu1, ru1⟩ := rv1.get (List.getElem?_eq_getElem l1)
    obtain ⟨u2, hu2, ru2⟩ := rv2.get (List.getElem?_eq_getElem l2)
    have hlive : ∀ b ∈ zch N Sx, b < s.heap.objs.size := fun b hb => by
      have e' : b = N + 4 ∨ b = N + 2 ∨ b = N + 3 ∨ b = N ∨ b = N + 1 ∨ b = Sx := by simpa using hb
      have hx : Sx < s.heap.objs.size := Heap.lt_size hS
      have h2 : ∀ {u v : Nat}, u < v → v < s.heap.objs.size → u < s.heap.objs.size := fun a b => Nat.lt_trans a b
      rcases e' with q | q | q | q | q | q <;> rw [q]
      · exact h2 hSx hx
      · exact h2 (Nat.lt_trans (by omega) hSx) hx
      · exact h2 (Nat.lt_trans (by omega) hSx) hx
      · exact h2 (Nat.lt_trans (by omega) hSx) hx
      · exact h2 (Nat.lt_trans (by omega) hSx) hx
      · exact hx
    refine codeAny_builtin PySem.F.entry_extend_loop ?_
    rw [Around.under_plainId PySem.F.plain_extend_loop _]
    show wpAny _ A.in1 (pyNext (.ref (N + 4)) >>= _) _ _ _
    refine wpAny_bind (zh_item SS D1 D2 hz ⟨by simp, by simp, by simp⟩ hlive hTI ⟨t1, r1⟩ ⟨t2, r2⟩ (by rw [len1]; omega) (by rw [len2]; omega) fun x1 x2 h' tk p1 p2 zh' ⟨t1', r1'⟩ ⟨t2', r2'⟩ hT hz' hkp => ?_)
    have ex1 : x1 = u1 := by
      have q : its1.toArray[i]? = some u1 := by simpa using hu1
      rw [p1] at q
      exact Option.some.inj q
    have ex2 : x2 = u2 := by
      have q : its2.toArray[i]? = some u2 := by simpa using hu2
      rw [p2] at q
      exact Option.some.inj q
    subst ex1 ex2
    have hS' : h'.get? Sx = _ := hkp Sx _ nz.1 nz.2.2.1 nz.2.2.2.1 nz.2.2.2.2 hS
    have up : ∀ b o, b ≠ Sx → h'.get? b = some o → (h'.update Sx (Obj.mapSeq (·.push (Value.ref s.heap.objs.size)))).get? b = some o := fun b o hb e => (Heap.get?_update_other _ _ (Ne.symm hb)).trans e
    have hSl : Sx < s.heap.objs.size := Heap.lt_size hS
    have neT : ∀ b ∈ zch N Sx, b ≠ s.heap.objs.size := fun b hb => Nat.ne_of_lt (hlive b hb)
    show wpAny _ A.in1 (updateSeq Sx (·.push (Value.ref s.heap.objs.size)) >>= _) _ _ _
    refine wpAny_bind ?_
    have hT2 : (h'.update Sx (Obj.mapSeq (·.push (Value.ref s.heap.objs.size)))).get? s.heap.objs.size = _ := up _ _ (Nat.ne_of_gt hSl) hT
    have hTn : H s.heap.objs.size = none := I.hok.fresh (Nat.le_refl _)
    have new : ObjOk X.prog X.w (upd H s.heap.objs.size (.tup [xs[i], ys[i]])) (h'.update Sx (Obj.mapSeq (·.push (Value.ref s.heap.objs.size)))) s.heap.objs.size (.tup [xs[i], ys[i]]) :=
      ⟨by show 2 ≤ sizeLine; decide, [x1, x2], .cons ru1 (.cons ru2 .nil), ⟨_, hT2, rfl, _, rfl⟩⟩
    have J := I.turnedNew (t' := tk) (ch := zch N Sx) (fun b o hb e => up b o (fun q => hb (by simp [q])) (hkp b o (fun q => hb (by simp [q])) (fun q => hb (by simp [q])) (fun q => hb (by simp [q])) (fun q => hb (by simp [q])) e)) hf (Nat.le_refl _) new
    have L2 : Laid H0 ((xs.zip ys).take (i + 1)) (Ts ++ [s.heap.objs.size]) (upd H s.heap.objs.size (.tup [xs[i], ys[i]])) := by
      have e : (xs.zip ys).take (i + 1) = (xs.zip ys).take i ++ [(xs[i], ys[i])] := by
        rw [List.take_add_one, List.getElem?_eq_getElem (by rw [List.length_zip]; omega), List.getElem_zip]
        rfl
      rw [e]
      exact .snoc hL hTn
    have zh2 : ZH (N + 4) (N + 2) (N + 3) (zch N Sx) (h'.update Sx (Obj.mapSeq (·.push (Value.ref s.heap.objs.size)))) := by
      rcases zh' with ⟨q, b1, b2, q2⟩ | ⟨T, f, oT, q, q2, q3⟩
      · exact .inl ⟨up _ _ nz.1.symm q, b1, b2, up _ _ nz.2.2.1.symm q2⟩
      · exact .inr ⟨T, f, oT, up _ _ nz.1.symm q, up _ _ (fun z => q3 (by simp [z])) q2, q3⟩
    refine wpAny_updateSeq hS' rfl (wpAny_pure ⟨plainId_quiet PySem.F.plain_extend_loop _, ih (i + 1) _ _ _ (acc.push (Value.ref s.heap.objs.size)) (Ts ++ [s.heap.objs.size]) (by omega) hlt J (fun b hb => ?_) zh2 (up _ _ nz.2.1.symm (hkp _ _ ?_ ?_ ?_ ?_ hTI)) (Src.it_at t1' fun o e => up _ _ nz.2.2.2.1.symm e) (Src.it_at t2' fun o e => up _ _ nz.2.2.2.2.symm e)
      ?_ ?_ (Heap.get?_update_self _ hS' rfl) (by rw [Array.toList_push, hacc, List.map_append]; rfl) (by rw [List.length_append, hTs]; rfl) L2⟩) (by rw [hsz]; omega) (by show (acc.push (Value.ref s.heap.objs.size)).size ≤ sizeLine + 1; rw [Array.size_push, hsz]; omega)
    · obtain ⟨f1, f2, f3, f4, f5, f6⟩ := hf b hb
      exact ⟨by rw [upd_ne (neT b hb)]; exact f1, f2, f3, f4, f5, f6⟩
    · show (N + 2 : Nat) ≠ N + 4; omega
    · show (N + 2 : Nat) ≠ N + 3; omega
    · show (N + 2 : Nat) ≠ N; omega
    · show (N + 2 : Nat) ≠ N + 1; omega
    · cases S1 with
      | l a => exact Heap.IsList.at r1' fun o e => up _ _ (fun q => a1 (by simp [Src.addr, q])) e
      | t a => exact Heap.IsTuple.at r1' fun o e => up _ _ (fun q => a1 (by simp [Src.addr, q])) e
    · cases S2 with
      | l a => exact Heap.IsList.at r2' fun o e => up _ _ (fun q => a2 (by simp [Src.addr, q])) e
      | t a => exact Heap.IsTuple.at r2' fun o e => up _ _ (fun q => a2 (by simp [Src.addr, q])) e
end
end Bk

set_option Elab.async false
set_option linter.all false
set_option maxRecDepth 100000
set_option maxHeartbeats 4000000
namespace Bk
open PySem PySem.Spec PyProof.Rows L2
theorem Laid.length {H H' : Hp} {ps : List (V × V)} {Ts : List Addr} (L : Laid H ps Ts H') : Ts.length = ps.length := by
  induction L with
  | nil => rfl
  | snoc _ _ ih => simp [ih]
section
variable {X : Cx} {pins : List (Addr × Obj)} {σ : L2.St} {S1 S2 : Src} {N : Nat} {its1 its2 : List Value} {xs ys : List V} {H : Hp}
/-- list(z) of a new zip z -/
theorem zl_call {s : Shared} {E : Value → Shared → Prop} {Q : VK} (hh : X.A.handled = none) (rv1 : Vals xs its1) (rv2 : Vals ys its2) (lt1 : S1.addr < N) (lt2 : S2.addr < N) (hlen : min xs.length ys.length ≤ sizeLine) (I : Inv X pins σ H s) (hf : ∀ b ∈ [N + 4, N + 2, N + 3, N, N + 1], FpOk X pins H b)
    (hz : IsZip s.heap (N + 4) (N + 2) (N + 3) .none) (hTI : IsTupOf2 s.heap (N + 2) (.ref N) (.ref (N + 1))) (hTO : ∃ a1 a2, IsTupOf2 s.heap (N + 3) a1 a2) (t1 : S1.it s.heap N 0) (t2 : S2.it s.heap (N + 1) 0) (r1 : S1.arr s.heap its1.toArray) (r2 : S2.arr s.heap its2.toArray)
    (hQ : ∀ (H' : Hp) (Ts : List Addr) (p : Addr), Laid H (xs.zip ys) Ts H' → H' p = none → Q (.ref p) (upd H' p (.lst (Ts.map V.ref)))) : wpAny (model X.prog X.w) X.A (call (.type "list") [.ref (N + 4)]) (EP X pins σ Q) E s := by
  refine callType_codes (Q₁ := fun obj s₁ => obj = .ref s.heap.objs.size ∧ s₁ = { s with heap := s.heap.push { cls := .type "list", data := .seq #[] } }) PySem.F.called_list (PySem.F.typeCall_list_1 _) PySem.F.entry_list_init (code_list_new _ ⟨rfl, rfl⟩) fun obj s₁ h₁ => ?_
  obtain ⟨rfl, rfl⟩ := h₁
  have hzl : N + 4 < s.heap.objs.size := Heap.lt_size hz
  have hS : (s.heap.push { cls := .type "list", data := .seq #[] }).get? s.heap.objs.size = some { cls := .type "list", data := .seq #[] } := Heap.get?_push_size _ rfl
  refine ⟨⟨_, hS, rfl⟩, PySem.F.args_list_init_2 _ _, ?_⟩
  have hSr : s.heap.objs.size ≠ N + 4 := Nat.ne_of_gt hzl
  have hSx : H s.heap.objs.size = none := I.hok.fresh (Nat.le_refl _)
  show wpAny _ _ (do let old ← Builtin.List.listItems (.ref s.heap.objs.size); Builtin.List.listUpdate (.ref s.heap.objs.size) (fun _ => #[]); letGo old.toList.reverse; Builtin.List.listExtendWith (.ref s.heap.objs.size) (.ref (N + 4)) .none) _ _ _
  refine wpAny_bind ?_; unfold Builtin.List.listItems; refine wpAny_bind (wpAny_seqItems hS rfl (wpAny_pure ?_))
  show wpAny _ _ (updateSeq s.heap.objs.size (fun _ => #[]) >>= fun _ => letGo (#[] : Array Value).toList.reverse >>= fun _ => Builtin.List.listExtendWith (.ref s.heap.objs.size) (.ref (N + 4)) .none) _ _ _
  refine wpAny_bind (wpAny_updateSeq hS rfl ?_)
  have hS2 := Heap.get?_update_self (Obj.mapSeq (fun _ => (#[] : Array Value))) hS rfl
  have o1 : ∀ b o, s.heap.get? b = some o → ((s.heap.push { cls := .type "list", data := .seq #[] }).update s.heap.objs.size (Obj.mapSeq (fun _ => (#[] : Array Value)))).get? b = some o := fun b o e => (Heap.get?_update_other _ _ (Nat.ne_of_gt (Heap.lt_size e))).trans (Heap.get?_push_of_some _ e)
  refine wpAny_bind (wpAny_letGo ?_)
  generalize (s.heap.push { cls := .type "list", data := .seq #[] }).update s.heap.objs.size (Obj.mapSeq (fun _ => (#[] : Array Value))) = g at hS2 o1
  unfold Builtin.List.listExtendWith
  have hT1 : Shared.TypeIs { s with heap := g } (.ref (N + 4)) "zip" := ⟨_, o1 _ _ hz, rfl⟩
  refine wpAny_bind (wpAny_typeOf (T := "zip") hT1 ?_)
  have h1 : Builtin.List.listSameRef (.ref s.heap.objs.size) (.ref (N + 4)) = false := by simp [Builtin.List.listSameRef, hSr]
  have h2 : (Value.type "zip" == Value.type "list") = false := by decide
  have h3 : (Value.type "zip" == Value.type "tuple") = false := by decide
  simp only [h1, h2, h3, Bool.or_false, Bool.false_eq_true, if_false]
  refine wpAny_bind (wpAny_pyIter_zip (o1 _ _ hz) ?_)
  refine wpAny_bind (wpAny_holding (zip_hint hT1 ?_))
  refine wpAny_ite_split (fun _ => ?_) (fun q => absurd rfl q)
  refine wpAny_bind (wpAny_rule ?_)
  refine wpAny_bind ?_
  show wpAny _ _ (updateSeq s.heap.objs.size (·.push .none) >>= fun _ => updateSeq s.heap.objs.size (·.pop)) _ _ _
  refine wpAny_bind (wpAny_updateSeq hS2 rfl ?_)
  have hS3 := Heap.get?_update_self (Obj.mapSeq (·.push Value.none)) hS2 rfl
  refine wpAny_updateSeq (hz := by seq_fits) hS3 rfl ?_
  have hS4 := Heap.get?_update_self (Obj.mapSeq (·.pop)) hS3 rfl
  have o2 : ∀ b o, s.heap.get? b = some o → ((g.update s.heap.objs.size (Obj.mapSeq (·.push Value.none))).update s.heap.objs.size (Obj.mapSeq (·.pop))).get? b = some o := fun b o e => (Heap.get?_update_other _ _ (Nat.ne_of_gt (Heap.lt_size e))).trans ((Heap.get?_update_other _ _ (Nat.ne_of_gt (Heap.lt_size e))).trans (o1 b o e))
  generalize (g.update s.heap.objs.size (Obj.mapSeq (·.push Value.none))).update s.heap.objs.size (Obj.mapSeq (·.pop)) = g2 at hS4 o2
  have I2 : Inv X pins σ H { s with heap := g2 } := I.kept (t' := s.toks) o2
  have fS : FpOk X pins H s.heap.objs.size := I.fpOk (Nat.le_refl _) hSx
  refine wpAny_pure ⟨plainId_quiet PySem.F.plain_extend_loop _, zl_loop (A := X.A.in1) (H0 := H) hh rv1 rv2 lt1 lt2 hzl .none hlen (fun s' H' Ts acc c I' f' L e ha => ?_) (min xs.length ys.length) 0 { s with heap := g2 } H _ #[] [] (Nat.sub_zero _) (Nat.zero_le _) I2 (fun b hb => ?_) (.inl ⟨o2 _ _ hz, ?_⟩) (o2 _ _ hTI) (Src.it_at t1 fun o e => o2 _ _ e) (Src.it_at t2 fun o e => o2 _ _ e) ?_ ?_ hS4 rfl rfl (.nil H)⟩
  · obtain ⟨f1, f2, f3, f4, f5, f6⟩ := f'
    have hl := L.length
    have new : ObjOk X.prog X.w (upd H' s.heap.objs.size (.lst (Ts.map V.ref))) s'.heap s.heap.objs.size (.lst (Ts.map V.ref)) := by
      refine ⟨by rw [List.length_map, hl, List.length_zip]; exact hlen, acc.toList, c, ?_, e⟩
      rw [ha]
      clear e ha L hl f1
      induction Ts with
      | nil => exact .nil
      | cons T Ts ih => exact .cons rfl ih
    refine ⟨rfl, .ref s.heap.objs.size, _, I'.step (g' := s'.gens) (t' := s'.toks) (d' := s'.drawn) (h' := s'.heap) (ch := [s.heap.objs.size]) (fun b hb => ?_) (fun b o _ _ hc q _ => q) (fun b o _ _ hc q _ => ⟨o.slots, q⟩) (fun b o hc q n => ?_) (fun b o hc q => ⟨o, q⟩) (fun b zs q => ?_) (fun b o u q => ?_) (fun b ps q => ⟨#[], ?_⟩) (fun m q => q) (fun b u q => ?_) I'.bare, rfl, hQ H' Ts _ L f1⟩
    · rw [List.mem_singleton.mp hb]; exact ⟨f4, f2, f5, f6⟩
    · rw [upd_ne (fun z => hc (by rw [z]; exact List.mem_singleton_self _))]; exact n
    · rw [upd_ne (ne_of_none q f1)]; exact q
    · rw [upd_ne (ne_of_none q f1)]; exact q
    · rw [upd_ne (ne_of_none q f1), q]; simp
    · by_cases hb : b = s.heap.objs.size
      · subst hb
        rw [upd_same] at q
        cases q
        exact new
      · rw [upd_ne hb] at q
        exact (I'.hok b u q).stay (fun _ _ _ z => z) (fun d z => by rw [upd_ne (ne_of_none z f1)]; exact z) fun d zs z => by rw [upd_ne (ne_of_none z f1)]; exact z
  · have e' : b = N + 4 ∨ b = N + 2 ∨ b = N + 3 ∨ b = N ∨ b = N + 1 ∨ b = s.heap.objs.size := by simpa using hb
    rcases e' with q | q | q | q | q | q
    · rw [q]; exact hf _ (by simp)
    · rw [q]; exact hf _ (by simp)
    · rw [q]; exact hf _ (by simp)
    · rw [q]; exact hf _ (by simp)
    · rw [q]; exact hf _ (by simp)
    · rw [q]; exact fS
  · obtain ⟨a1, a2, q⟩ := hTO; exact ⟨a1, a2, o2 _ _ q⟩
  · cases S1 with
    | l a => exact Heap.IsList.at r1 fun o e => o2 _ _ e
    | t a => exact Heap.IsTuple.at r1 fun o e => o2 _ _ e
  · cases S2 with
    | l a => exact Heap.IsList.at r2 fun o e => o2 _ _ e
    | t a => exact Heap.IsTuple.at r2 fun o e => o2 _ _ e
end
theorem Laid.read {K : PySem.W.Frag} {H H' : Hp} {ps : List (V × V)} {Ts : List Addr} (L : Laid H ps Ts H') : ∀ {dps : List (D × D)} {Z : Hp} {ι : Nat → Addr} {M : List MO}, HR K H Z ι M → dps.length = ps.length → (∀ (i : Nat) (dp : D × D) (vp : V × V), dps[i]? = some dp → ps[i]? = some vp → Rp K Z ι M.length dp.1 vp.1 ∧ Rp K Z ι M.length dp.2 vp.2) →
    ∃ Z', HR K H' Z' ι M ∧ Ext H Z ι M.length H' Z' ι M.length ∧ Rps K Z' ι M.length (dps.map fun dp => .tup [dp.1, dp.2]) (Ts.map V.ref) := by
  induction L with
  | nil =>
    intro dps Z ι M hr hl h
    have : dps = [] := List.length_eq_zero_iff.mp hl
    subst this
    exact ⟨Z, hr, .refl, .nil⟩
  | @snoc H1 ps Ts T x y L hT ih =>
    intro dps Z ι M hr hl h
    rcases List.eq_nil_or_concat dps with e | ⟨ds, d, e⟩
    · subst e
      simp at hl
    · rw [List.concat_eq_append] at e
      subst e
      have hl' : ds.length = ps.length := by simpa using hl
      obtain ⟨Z1, hr1, e1, r1⟩ := ih hr hl' fun i dp vp a b => h i dp vp (by rw [List.getElem?_append_left (List.getElem?_eq_some_iff.mp a).1]; exact a) (by rw [List.getElem?_append_left (List.getElem?_eq_some_iff.mp b).1]; exact b)
      obtain ⟨q1, q2⟩ := h ds.length d (x, y) (by simp) (by rw [hl']; simp)
      obtain ⟨p1, p2⟩ := hr1.frozen (o := .tup [x, y]) hT
      refine ⟨_, p1, e1.trans p2 hr1.ali, ?_⟩
      rw [List.map_append, List.map_append]
      exact (r1.ext p2).append (.cons (.tup (.inl (.inl upd_same)) (.cons ((q1.ext e1).ext p2) (.cons ((q2.ext e1).ext p2) .nil))) .nil)
theorem zipL_map : ∀ (ds es : List D), zipL ds es = (ds.zip es).map fun dp => .tup [dp.1, dp.2]
  | [], _ => by simp [zipL]
  | _ :: _, [] => by simp [zipL]
  | d :: ds, e :: es => by simp [zipL, zipL_map ds es]
def gLzip (own : Bool) (ga gb : GE) : GE := fun Γ M => (ga Γ M).bind fun x M1 => (gb Γ M1).bind fun y M2 => (opR (zipO x y) M2).bind fun ds M3 => if ds.length ≤ sizeLine then (if own = true then .ok (.ref M3.length) (M3 ++ [.lst ds]) else .ok (.lst ds) M3) else .bad
section
variable {X : Cx} {C : CT} {W : WX} {e e2 : Expr} {ga gb : GE} {p p2 pos pos2 : Pos}
theorem qe_lzip (own : Bool) (hc : X.calm = true) (hgl : Gl X "list") (hml : X.mg "list" = none) (hg : Gl X "zip") (hm : X.mg "zip" = none) (ha : QE X C W e ga) (hb : QE X C W e2 gb) (hs : starEach [e, e2] X.env = (false, eval e X.env) :: starEach [e2] X.env := by rfl) (hs2 : starEach [e2] X.env = (false, eval e2 X.env) :: starEach [] X.env := by rfl)
    (hpl : (backTo pos2 (starEach [e2] X.env)).any (·.1) = false := by rfl) (na : starEach [Expr.Call (.Name "zip" p2) [e, e2] [] pos2] X.env = (false, eval (Expr.Call (.Name "zip" p2) [e, e2] [] pos2) X.env) :: starEach [] X.env := by rfl) :
    QE X C W (.Call (.Name "list" p) [.Call (.Name "zip" p2) [e, e2] [] pos2] [] pos) (gLzip own ga gb) := by
  obtain ⟨ta, pa, qa⟩ := ha
  obtain ⟨tb, pb, qb⟩ := hb
  refine ⟨fun σ H Q => ta σ H fun v H1 => tb σ H1 fun u H2 => ∃ (S1 S2 : Src) (xs ys : List V), v = .ref S1.addr ∧ u = .ref S2.addr ∧ S1.here X.K H2 xs ∧ S2.here X.K H2 ys ∧ min xs.length ys.length ≤ sizeLine ∧ ∀ (H' : Hp) (Ts : List Addr) (q : Addr), Laid H2 (xs.zip ys) Ts H' → H' q = none → Q (.ref q) (upd H' q (.lst (Ts.map V.ref))), ⟨fun pins s σ H Q I h => ?_⟩,
    fun σ H Z ι Γ M Q sl hr h => qa σ H Z ι Γ M _ sl hr (Post.bind h fun x M1 v H1 Z1 ι1 e1 hr1 r1 h1 => qb σ H1 Z1 ι1 Γ M1 _ (sl.ext e1) hr1 (h1.bind fun y M2 u H2 Z2 ι2 e2 hr2 r2 h2 => ?_))⟩
  · refine Call_ (ld_blt I hgl hml boot_list (PyProof.Rows.callWith_type1 (args_cons (thn (Call_ (ld_blt I hg hm boot_zip (PyProof.Rows.callWith_type1 (thn ((pa_cons pa (pa_cons pb pa_nil hs2) hs).run pos2 pins s σ H (fun vs H1 => ∃ v u, vs = [v, u] ∧ ∃ (S1 S2 : Src) (xs ys : List V), v = .ref S1.addr ∧ u = .ref S2.addr ∧ S1.here X.K H1 xs ∧ S2.here X.K H1 ys ∧ min xs.length ys.length ≤ sizeLine ∧ ∀ (H' : Hp) (Ts : List Addr) (q : Addr), Laid H1 (xs.zip ys) Ts H' → H' q = none → Q (.ref q) (upd H' q (.lst (Ts.map V.ref)))) I ?_) fun us s1 hh => ?_) hs hpl)))
      fun z s1 (hz : ∃ (pins' : Unit) (N : Nat) (S1 S2 : Src) (xs ys : List V) (its1 its2 : List Value) (H1 : Hp), z = .ref (N + 4) ∧ Inv X pins σ H1 s1 ∧ Vals xs its1 ∧ Vals ys its2 ∧ S1.addr < N ∧ S2.addr < N ∧ min xs.length ys.length ≤ sizeLine ∧ (∀ b ∈ [N + 4, N + 2, N + 3, N, N + 1], FpOk X pins H1 b) ∧ IsZip s1.heap (N + 4) (N + 2) (N + 3) .none ∧ IsTupOf2 s1.heap (N + 2) (.ref N) (.ref (N + 1)) ∧ (∃ a1 a2, IsTupOf2 s1.heap (N + 3) a1 a2) ∧ S1.it s1.heap N 0 ∧ S2.it s1.heap (N + 1) 0 ∧ S1.arr s1.heap its1.toArray ∧ S2.arr s1.heap its2.toArray ∧
        ∀ (H' : Hp) (Ts : List Addr) (q : Addr), Laid H1 (xs.zip ys) Ts H' → H' q = none → Q (.ref q) (upd H' q (.lst (Ts.map V.ref)))) => args_nil ?_) na) na))
    · have hmono : (fun x H1 => tb σ H1 fun y H2 => tNil σ H2 fun ys H3 => ∃ v u, x :: y :: ys = [v, u] ∧ ∃ (S1 S2 : Src) (xs zs : List V), v = .ref S1.addr ∧ u = .ref S2.addr ∧ S1.here X.K H3 xs ∧ S2.here X.K H3 zs ∧ min xs.length zs.length ≤ sizeLine ∧ ∀ (H' : Hp) (Ts : List Addr) (q : Addr), Laid H3 (xs.zip zs) Ts H' → H' q = none → Q (.ref q) (upd H' q (.lst (Ts.map V.ref)))) =
          fun (v : V) (H1 : Hp) => tb σ H1 fun u H2 => ∃ (S1 S2 : Src) (xs ys : List V), v = .ref S1.addr ∧ u = .ref S2.addr ∧ S1.here X.K H2 xs ∧ S2.here X.K H2 ys ∧ min xs.length ys.length ≤ sizeLine ∧ ∀ (H' : Hp) (Ts : List Addr) (q : Addr), Laid H2 (xs.zip ys) Ts H' → H' q = none → Q (.ref q) (upd H' q (.lst (Ts.map V.ref))) := by
        funext x H1
        congr 1
        funext y H2
        apply propext
        constructor
        · rintro ⟨v, u, ev, q⟩
          cases ev
          exact q
        · intro q
          exact ⟨x, y, rfl, q⟩
      show ta σ H fun x H1 => tb σ H1 fun y H2 => tNil σ H2 fun ys H3 => ∃ v u, x :: y :: ys = [v, u] ∧ ∃ (S1 S2 : Src) (xs zs : List V), v = .ref S1.addr ∧ u = .ref S2.addr ∧ S1.here X.K H3 xs ∧ S2.here X.K H3 zs ∧ min xs.length zs.length ≤ sizeLine ∧ ∀ (H' : Hp) (Ts : List Addr) (q : Addr), Laid H3 (xs.zip zs) Ts H' → H' q = none → Q (.ref q) (upd H' q (.lst (Ts.map V.ref)))
      rw [hmono]
      exact h
    · obtain ⟨vs, H1, J, r1, v, u, rfl, S1, S2, xs, ys, rfl, rfl, hq1, hq2, hl, q⟩ := hh
      obtain ⟨u1, u2, rfl, ru, ru2⟩ := Vals.two r1
      cases ru
      cases ru2
      obtain ⟨its1, rv1, har1⟩ := Src.inv J hq1
      obtain ⟨its2, rv2, har2⟩ := Src.inv J hq2
      refine zip_begins2 (S1.begins its1.toArray) (S2.begins its2.toArray) har1 har2 fun h' hz hTI hTO hi1 hi2 hsz hk => ?_
      have J2 : Inv X pins σ H1 { s1 with heap := h' } := J.kept (t' := s1.toks) hk
      refine ⟨(), s1.heap.objs.size, S1, S2, xs, ys, its1, its2, H1, rfl, J2, rv1, rv2, Src.arr_lt har1, Src.arr_lt har2, hl, fun b hb => ?_, hz, hTI, ⟨_, _, hTO⟩, Src.start hi1, Src.start hi2, ?_, ?_, q⟩
      · have e' : b = s1.heap.objs.size + 4 ∨ b = s1.heap.objs.size + 2 ∨ b = s1.heap.objs.size + 3 ∨ b = s1.heap.objs.size ∨ b = s1.heap.objs.size + 1 := by simpa using hb
        have le : s1.heap.objs.size ≤ b := by
          rcases e' with z | z | z | z | z
          · rw [z]; exact Nat.le_add_right _ _
          · rw [z]; exact Nat.le_add_right _ _
          · rw [z]; exact Nat.le_add_right _ _
          · rw [z]; exact Nat.le_refl _
          · rw [z]; exact Nat.le_add_right _ _
        exact J.fpOk le (J.hok.fresh le)
      · cases S1 with
        | l a => exact Heap.IsList.at har1 fun o e => hk _ _ e
        | t a => exact Heap.IsTuple.at har1 fun o e => hk _ _ e
      · cases S2 with
        | l a => exact Heap.IsList.at har2 fun o e => hk _ _ e
        | t a => exact Heap.IsTuple.at har2 fun o e => hk _ _ e
    · obtain ⟨_, N, S1, S2, xs, ys, its1, its2, H1, rfl, J, rv1, rv2, lt1, lt2, hl, hf, hz, hTI, hTO, t1, t2, r1, r2, q⟩ := hz
      exact zl_call (J.ok.hd hc) rv1 rv2 lt1 lt2 hl J hf hz hTI hTO t1 t2 r1 r2 q
  · obtain ⟨items, M3, hd, h3⟩ : ∃ ds M3, opR (zipO x y) M2 = .ok ds M3 ∧ Post X C W (rpE X.K) σ H2 Z2 ι2 M2 (if ds.length ≤ sizeLine then (if own = true then .ok (.ref M3.length) (M3 ++ [.lst ds]) else .ok (.lst ds) M3) else .bad) Q := by
      cases ez : zipO x y with
      | none =>
        have h2' : Post X C W (rpE X.K) σ H2 Z2 ι2 M2 ((opR (zipO x y) M2).bind fun ds M3 => if ds.length ≤ sizeLine then (if own = true then .ok (.ref M3.length) (M3 ++ [.lst ds]) else .ok (.lst ds) M3) else .bad) Q := h2
        rw [ez] at h2'
        exact h2'.elim
      | some ds =>
        have h2' : Post X C W (rpE X.K) σ H2 Z2 ι2 M2 ((opR (zipO x y) M2).bind fun ds M3 => if ds.length ≤ sizeLine then (if own = true then .ok (.ref M3.length) (M3 ++ [.lst ds]) else .ok (.lst ds) M3) else .bad) Q := h2
        rw [ez] at h2'
        exact ⟨ds, M2, rfl, h2'⟩
    have e3 : M3 = M2 := opR_ok hd
    subst e3
    have hd' : zipO x y = some items := by
      cases ez : zipO x y with
      | none => rw [ez] at hd; cases hd
      | some ds => rw [ez] at hd; cases hd; rfl
    by_cases c : items.length ≤ sizeLine
    · rw [if_pos c] at h3
      unfold zipO at hd'
      cases es : seqD x with
      | none => rw [es] at hd'; cases hd'
      | some ds =>
        cases et : seqD y with
        | none => rw [es, et] at hd'; cases hd'
        | some dt =>
          rw [es, et] at hd'
          cases hd'
          obtain ⟨S1, xs, rfl, hS1, q1⟩ := src_of hr2.sub (r1.ext e2) es
          obtain ⟨S2, ys, rfl, hS2, q2⟩ := src_of hr2.sub r2 et
          have hl : min xs.length ys.length ≤ sizeLine := by rw [← q1.length, ← q2.length, ← zipL_len]; exact c
          refine ⟨S1, S2, xs, ys, rfl, rfl, here_sub hr2.sub hS1, here_sub hr2.sub hS2, hl, fun H' Ts q L hq => ?_⟩
          obtain ⟨Z3, hr3, e3, r3⟩ := L.read (dps := ds.zip dt) hr2 (by rw [List.length_zip, List.length_zip, q1.length, q2.length]) fun i dp vp a b => by
            rw [List.getElem?_zip_eq_some] at a b
            obtain ⟨v1, a1, a2⟩ := q1.get a.1
            obtain ⟨v2, b1, b2⟩ := q2.get a.2
            rw [b.1] at a1
            rw [b.2] at b1
            cases a1
            cases b1
            exact ⟨a2, b2⟩
          rw [← zipL_map] at r3
          by_cases ho : own = true
          · rw [if_pos ho] at h3
            obtain ⟨hr4, e4⟩ := hr3.owned hq r3
            have qq : Rp X.K Z3 (put ι2 M3.length q) (M3 ++ [MO.lst (zipL ds dt)]).length (.ref M3.length) (.ref (put ι2 M3.length q M3.length)) := .ref (by simp)
            rw [put_at] at qq
            exact h3 _ _ _ _ (e3.trans e4 hr3.ali) hr4 qq
          · rw [if_neg ho] at h3
            exact ((h3.shift e3 hr3).after).lst hr3 r3 q hq
    · rw [if_neg c] at h3
      exact h3.elim
end
end Bk

set_option Elab.async false
set_option linter.all false
set_option maxRecDepth 100000
set_option maxHeartbeats 2000000
namespace Bk
open PySem PySem.Spec PyProof.Rows L2
/-! ### a, b = x, y -/
def gPar2 (i j : Nat) (gs : GA) : GS := fun Γ M => (gs Γ M).thenS Γ fun ds M1 => match ds with
  | [d, e] => .nx ((Γ.set i (some d)).set j (some e)) M1
  | _ => .bad
def gPar3 (i j l : Nat) (gs : GA) : GS := fun Γ M => (gs Γ M).thenS Γ fun ds M1 => match ds with
  | [d, e, f] => .nx (((Γ.set i (some d)).set j (some e)).set l (some f)) M1
  | _ => .bad
section
variable {X : Cx} {C : CT} {W : WX} {gs : GA}
theorem rps3 {K : PySem.W.Frag} {Z : Hp} {ι : Nat → Addr} {n : Nat} {d e f : D} {vs : List V} (r : Rps K Z ι n [d, e, f] vs) : ∃ v u w, vs = [v, u, w] ∧ Rp K Z ι n d v ∧ Rp K Z ι n e u ∧ Rp K Z ι n f w := by
  cases r with
  | cons r1 r => obtain ⟨u, w, rfl, r2, r3⟩ := rps2 r; exact ⟨_, _, _, rfl, r1, r2, r3⟩
theorem qs_par2 (i j : Nat) {x y : Str} {a b : Expr} {px py pt pos : Pos} {kt k2 : Nat} {pt2 : Pos} (hc : X.calm = true) (hN : X.N.Nodup) (ha : QA X C W [a, b] gs) (hij : i ≠ j := by decide) (hi : X.N[i]? = some x := by rfl) (hj : X.N[j]? = some y := by rfl)
    (hx : X.env.scope.names.lookup x = some .local := by rfl) (hy : X.env.scope.names.lookup y = some .local := by rfl)
    (hw : swappedStores [.Tuple [.Name x px, .Name y py] kt pt] (.Tuple [a, b] k2 pt2) X.env = pure (some [x, y]) := by rfl)
    (hs : swapsWithSole [.Tuple [.Name x px, .Name y py] kt pt] (.Tuple [a, b] k2 pt2) pos.line X.env = pure false := by rfl) :
    QS X C W (.Assign [.Tuple [.Name x px, .Name y py] kt pt] (.Tuple [a, b] k2 pt2) pos) (gPar2 i j gs) := by
  obtain ⟨ta, pa, qa⟩ := ha
  refine ⟨_, ps_par hc hN hi hj hij hx hy pa hw hs, fun Dd σ H Z ι Γ M sl hr h => qa σ H Z ι Γ M _ sl hr (PostS.bind h sl fun ds M1 vs H1 Z1 ι1 e1 hr1 r1 h1 => ?_)⟩
  match ds, h1, r1 with
  | [d, e], h1, r1 =>
    obtain ⟨v, u, rfl, q1, q2⟩ := rps2 r1
    exact ⟨v, u, rfl, h1 _ H1 Z1 ι1 .refl hr1 (((sl.ext e1).set i q1).set j q2)⟩
theorem qs_par3 (i j l : Nat) {x y z : Str} {a b c : Expr} {px py pz pt pos : Pos} {kt k2 : Nat} {pt2 : Pos} (hc : X.calm = true) (hN : X.N.Nodup) (ha : QA X C W [a, b, c] gs) (hij : i ≠ j := by decide) (hil : i ≠ l := by decide) (hjl : j ≠ l := by decide) (hi : X.N[i]? = some x := by rfl) (hj : X.N[j]? = some y := by rfl) (hl : X.N[l]? = some z := by rfl)
    (hx : X.env.scope.names.lookup x = some .local := by rfl) (hy : X.env.scope.names.lookup y = some .local := by rfl) (hz : X.env.scope.names.lookup z = some .local := by rfl)
    (hw : swappedStores [.Tuple [.Name x px, .Name y py, .Name z pz] kt pt] (.Tuple [a, b, c] k2 pt2) X.env = pure (some [x, y, z]) := by rfl)
    (hs : swapsWithSole [.Tuple [.Name x px, .Name y py, .Name z pz] kt pt] (.Tuple [a, b, c] k2 pt2) pos.line X.env = pure false := by rfl) :
    QS X C W (.Assign [.Tuple [.Name x px, .Name y py, .Name z pz] kt pt] (.Tuple [a, b, c] k2 pt2) pos) (gPar3 i j l gs) := by
  obtain ⟨ta, pa, qa⟩ := ha
  refine ⟨_, ps_par3 hc hN hi hj hl hij hil hjl hx hy hz pa hw hs, fun Dd σ H Z ι Γ M sl hr h => qa σ H Z ι Γ M _ sl hr (PostS.bind h sl fun ds M1 vs H1 Z1 ι1 e1 hr1 r1 h1 => ?_)⟩
  match ds, h1, r1 with
  | [d, e, f], h1, r1 =>
    obtain ⟨v, u, w, rfl, q1, q2, q3⟩ := rps3 r1
    exact ⟨v, u, w, rfl, h1 _ H1 Z1 ι1 .refl hr1 ((((sl.ext e1).set i q1).set j q2).set l q3)⟩
end
@[simp] theorem u_gPar2 (i j : Nat) (gs : GA) (Γ : Env) (M : List MO) : gPar2 i j gs Γ M = (gs Γ M).thenS Γ fun ds M1 => (match ds with
  | [d, e] => .nx ((Γ.set i (some d)).set j (some e)) M1
  | _ => .bad) := Eq.trans rfl rfl
@[simp] theorem u_gPar3 (i j l : Nat) (gs : GA) (Γ : Env) (M : List MO) : gPar3 i j l gs Γ M = (gs Γ M).thenS Γ fun ds M1 => (match ds with
  | [d, e, f] => .nx (((Γ.set i (some d)).set j (some e)).set l (some f)) M1
  | _ => .bad) := Eq.trans rfl rfl
@[simp] theorem u_gLzip (own : Bool) (ga gb : GE) (Γ : Env) (M : List MO) : gLzip own ga gb Γ M = (ga Γ M).bind fun x M1 => (gb Γ M1).bind fun y M2 => (opR (zipO x y) M2).bind fun ds M3 => if ds.length ≤ sizeLine then (if own = true then .ok (.ref M3.length) (M3 ++ [.lst ds]) else .ok (.lst ds) M3) else .bad := Eq.trans rfl rfl
end Bk

set_option Elab.async false
set_option linter.all false
set_option maxRecDepth 100000
set_option maxHeartbeats 4000000
namespace Bk
open PySem PySem.Spec PyProof.Rows L2
/-! ### tuple * int, any count up to a thousand -/
theorem tuple_mul1 (l : Addr) (items : Array Value) (n : Nat) (dd : Option Addr) (sl : Array (Option Value)) (u : Tok) :
    Meets (Builtin.«tuple.__mul__» ⟨[.ref l, .int 1 u], []⟩) (fun _ R s => s.heap.get? l = some { cls := .type "tuple", dict := dd, data := .seq items n, slots := sl } ∧ R (.ok (.ret (Value.ref l))) s) :=
  .of_wp fun prog w A R s h => by
    obtain ⟨hp, g, d, tk, os⟩ := s
    obtain ⟨hl, h⟩ := h
    have f1 := AutoSeq1.idx_int
    have c0 : (decide ((1 : Int) < -(2 ^ 63)) || decide ((1 : Int) ≥ 2 ^ 63)) = false := by decide
    have c1 : (items.isEmpty || (1 : Int) == 1) = true := by simp
    wp_walk using wpAny_loadPart' hl
    repeat (first
      | (refine wpAny_ite_false (decide_eq_false (by rw [c0]; exact Bool.false_ne_true)) ?_; wp_walk using wpAny_loadPart' hl)
      | (refine wpAny_ite_true (decide_eq_true c1) ?_; wp_walk using wpAny_loadPart' hl))
    exact ⟨_, rfl, h⟩
theorem tuple_mul0 (l : Addr) (items : Array Value) (n : Nat) (dd : Option Addr) (sl : Array (Option Value)) (x : Int) (u : Tok) (c0 : (decide (x < -(2 ^ 63)) || decide (x ≥ 2 ^ 63)) = false) (c1 : (items.isEmpty || x == 1) = false) (c2 : (decide (x ≤ 0) || items.isEmpty) = true) :
    Meets (Builtin.«tuple.__mul__» ⟨[.ref l, .int x u], []⟩) (fun _ R s => s.heap.get? l = some { cls := .type "tuple", dict := dd, data := .seq items n, slots := sl } ∧
      R (.ok (.ret (Value.ref s.heap.objs.size))) { s with heap := s.heap.push { cls := Value.type "tuple", data := Data.seq #[] }, toks := s.toks }) :=
  .of_wp fun prog w A R s h => by
    obtain ⟨hp, g, d, tk, os⟩ := s
    obtain ⟨hl, h⟩ := h
    have f1 := AutoSeq1.idx_int
    wp_walk using wpAny_loadPart' hl
    repeat (first
      | (refine wpAny_ite_false (decide_eq_false (by rw [c0]; exact Bool.false_ne_true)) ?_; wp_walk using wpAny_loadPart' hl)
      | (refine wpAny_ite_false (decide_eq_false (by rw [c1]; exact Bool.false_ne_true)) ?_; wp_walk using wpAny_loadPart' hl)
      | (refine wpAny_ite_true (decide_eq_true c2) ?_; wp_walk using wpAny_loadPart' hl))
    exact ⟨_, rfl, h⟩
def rRepTA (K : PySem.W.Frag) : R2 := fun x y H Q => ∃ l k xs, x = .ref l ∧ y = .int k ∧ SqT K H l xs ∧ xs ≠ [] ∧ -1000 ≤ k ∧ k ≤ 1000 ∧ xs.length ≤ 1000 ∧ (k = 1 → Q (.ref l) H) ∧ (k ≠ 1 → ∀ p, H p = none → Q (.ref p) (upd H p (.tup (List.replicate k.toNat xs).flatten)))
section
variable {X : Cx}
theorem op_repTA : OpR X (binaryOp .Mult) (rRepTA X.K) := by
  intro pins s σ H x y v u Q I rx ry h
  obtain ⟨l, k, xs, rfl, rfl, hT, hne, h0, h1, hz, q1, q⟩ := h
  by_cases h2 : 2 ≤ k
  · exact op_repT pins s σ H _ _ v u Q I rx ry ⟨l, k, xs, rfl, rfl, hT, hne, h2, h1, hz, q (by omega)⟩
  cases rx
  obtain ⟨t, rfl⟩ := ry
  obtain ⟨its, r, ⟨⟨cls, dd, data, sl⟩, ho, hc, n, hd⟩, hs⟩ := I.tuple hT
  simp only at hc hd
  subst hc hd
  have hle : its.length = xs.length := r.length.symm
  have hn : its ≠ [] := fun e => hne (List.eq_nil_of_length_eq_zero (by rw [← hle, e]; rfl))
  have hi : its.toArray.isEmpty = false := by
    cases its with
    | nil => exact absurd rfl hn
    | cons a b => rfl
  by_cases e1 : k = 1
  · subst e1
    exact wpAny_binaryOp_repeat_ref (T := "tuple") (U := "int") (by decide) ⟨_, ho, rfl⟩ (fun s' => typeIs_int s' 1 t) noFill_tuple_mul F.fills_int_mul F.slot_int_rmul repeat_tuple F.slot_int_index.lookup
      (call_meets F.slot_int_rmul (typeIs_int s 1 t) F.entry_int_rmul (F.args_int_rmul_2 _ _) (int_rmul_tuple 1 t l its.toArray n dd sl) ⟨ho, rfl, ⟨_, ho, rfl⟩, call_meets F.slot_tuple_mul ⟨_, ho, rfl⟩ F.entry_tuple_mul (F.args_tuple_mul_2 _ _) (tuple_mul1 l its.toArray n dd sl t) ⟨ho, ⟨.ref l, H, I, rfl, q1 rfl⟩⟩⟩)
  · have c0 : (decide (k < -(2 ^ 63)) || decide (k ≥ 2 ^ 63)) = false := by
      rw [decide_eq_false (by omega), decide_eq_false (by omega)] <;> rfl
    have c1 : (its.toArray.isEmpty || k == 1) = false := by
      rw [hi, Bool.false_or]; exact beq_eq_false_iff_ne.mpr e1
    have c2 : (decide (k ≤ 0) || its.toArray.isEmpty) = true := by
      rw [hi, Bool.or_false]; exact decide_eq_true (by omega)
    have z : (List.replicate k.toNat xs).flatten = [] := by
      have : k.toNat = 0 := by omega
      rw [this]; rfl
    rw [z] at q
    refine wpAny_binaryOp_repeat_ref (T := "tuple") (U := "int") (by decide) ⟨_, ho, rfl⟩ (fun s' => typeIs_int s' k t) noFill_tuple_mul F.fills_int_mul F.slot_int_rmul repeat_tuple F.slot_int_index.lookup
      (call_meets F.slot_int_rmul (typeIs_int s k t) F.entry_int_rmul (F.args_int_rmul_2 _ _) (int_rmul_tuple k t l its.toArray n dd sl) ⟨ho, rfl, ⟨_, ho, rfl⟩, call_meets F.slot_tuple_mul ⟨_, ho, rfl⟩ F.entry_tuple_mul (F.args_tuple_mul_2 _ _) (tuple_mul0 l its.toArray n dd sl k t c0 c1 c2) ⟨ho, ?_⟩⟩)
    exact ⟨.ref s.heap.objs.size, _, I.laid (t' := s.toks) (o := .tup []) (fun b ob q => Heap.get?_push_of_some _ q) (Nat.le_refl _) ⟨by decide, [], .nil, IsTup.new _ _⟩, rfl, q e1 _ (I.hok.fresh (Nat.le_refl _))⟩
def dMulT (M : List MO) (x : D) (y : D) : Option D := match x, y with
  | .tup ds, .int k => if (decide (ds ≠ []) && decide (-1000 ≤ k) && decide (k ≤ 1000) && decide (ds.length ≤ 1000)) = true then some (.tup (List.replicate k.toNat ds).flatten) else none
  | x, y => dMulA M x y
theorem op_mulT : OpR X (binaryOp .Mult) (fun x y H Q => rMulA X.K x y H Q ∨ rRepTA X.K x y H Q) := op_mulL.or op_repTA
theorem ok_mulT : Ok2 X (fun x y H Q => rMulA X.K x y H Q ∨ rRepTA X.K x y H Q) dMulT := fun x y H Z ι M dx dy d Q hr rx ry e q => by
  unfold dMulT at e
  split at e
  · rename_i ds k
    split at e
    · rename_i c
      cases e
      simp only [Bool.and_eq_true, decide_eq_true_eq] at c
      obtain ⟨⟨⟨c1, c2⟩, c3⟩, c4⟩ := c
      cases ry
      cases rx with
      | tup s r =>
        have r' := r.rep k.toNat
        refine .inr ⟨_, k, _, rfl, rfl, subT hr.sub s, fun z => c1 ?_, c2, c3, by rw [← r.length]; exact c4, fun e1 => ?_, fun _ => ?_⟩
        · have := r.length
          rw [z] at this
          exact List.eq_nil_of_length_eq_zero this
        · subst e1
          refine q.now hr (.tup s ?_)
          simpa using r
        · exact q.tup hr r'
    · cases e
  · exact .inl (ok_mulL x y H Z ι M dx dy d Q hr rx ry e q)
end
@[simp] theorem e_mulT (M : List MO) (d : D) (ds : List D) (k : Int) (h1 : -1000 ≤ k) (h2 : k ≤ 1000) (h3 : ds.length < 1000) : dMulT M (.tup (d :: ds)) (.int k) = some (.tup (List.replicate k.toNat (d :: ds)).flatten) := by
  have : (d :: ds).length ≤ 1000 := by rw [List.length_cons]; omega
  simp only [dMulT]
  rw [if_pos]
  simp [h1, h2]
  omega
@[simp] theorem e_mulTi (M : List MO) (i : Int) (y : D) : dMulT M (.int i) y = dMulA M (.int i) y := Eq.trans rfl rfl
@[simp] theorem e_mulTl (M : List MO) (ds : List D) (y : D) : dMulT M (.lst ds) y = dMulA M (.lst ds) y := Eq.trans rfl rfl
theorem e_mulI {i j : Int} (M : List MO) (h : mulOk i j = true) : dMulT M (.int i) (.int j) = some (.int (i * j)) := e_mul M h
theorem e_mulL (M : List MO) (ds : List D) (k : Int) (h1 : -(2 ^ 63) ≤ k) (h2 : k < 2 ^ 63) (h3 : ds.length * k.toNat ≤ sizeLine) : dMulA M (.lst ds) (.int k) = some (.lst (List.replicate k.toNat ds).flatten) := by
  show repI M (.lst ds) (.int k) = _
  simp only [repI, listD]
  rw [if_pos]
  simp only [Bool.and_eq_true, decide_eq_true_eq]
  exact ⟨⟨h2, h1⟩, h3⟩
end Bk

set_option Elab.async false
set_option linter.all false
set_option maxRecDepth 100000
set_option maxHeartbeats 2000000
namespace Bk
open PySem PySem.Spec PyProof.Rows L2
theorem pure_chain {f f' : List MO → D → D → Option D} {ga gb gc : GE} (h1 : Pure ga) (h2 : Pure gb) (h3 : Pure gc) : Pure (gChain f f' ga gb gc) := fun Γ M d M' h => by
  obtain ⟨a, M1, e1, h⟩ := R.bind_ok h
  obtain ⟨b, M2, e2, h⟩ := R.bind_ok h
  obtain ⟨k, M3, e3, h⟩ := R.bind_ok h
  have z := opR_ok e3
  have z2 := h2 _ _ _ _ e2
  have z1 := h1 _ _ _ _ e1
  split at h
  · split at h
    · obtain ⟨c, M4, e4, h⟩ := R.bind_ok h
      rw [opR_ok h, h3 _ _ _ _ e4, z, z2, z1]
    · cases h
      rw [z, z2, z1]
  · cases h
theorem lcL_cons {gg : GG} {ge : GE} {d y : D} {ds acc : List D} {Γ Γ1 : Env} {M M2 : List MO} (h1 : gg d Γ = some Γ1) (h2 : ge Γ1 M = .ok y M2) (q : acc.length < sizeLine) : gLcL gg gYes ge Γ (d :: ds) acc M = gLcL gg gYes ge Γ ds (acc ++ [y]) M2 := by
  simp [gLcL, h1, h2, q]
theorem lcL_nil {gg : GG} {gt : GT} {ge : GE} {acc : List D} {Γ : Env} {M : List MO} : gLcL gg gt ge Γ [] acc M = .ok acc M := by simp [gLcL]
theorem lcL_take {gg : GG} {gt : GT} {ge : GE} {d y : D} {ds acc : List D} {Γ Γ1 : Env} {M M1 M2 : List MO} (h1 : gg d Γ = some Γ1) (ht : gt Γ1 M = .ok true M1) (h2 : ge Γ1 M1 = .ok y M2) (q : acc.length < sizeLine) : gLcL gg gt ge Γ (d :: ds) acc M = gLcL gg gt ge Γ ds (acc ++ [y]) M2 := by
  simp [gLcL, h1, ht, h2, q]
theorem lcL_skip {gg : GG} {gt : GT} {ge : GE} {d : D} {ds acc : List D} {Γ Γ1 : Env} {M M1 : List MO} (h1 : gg d Γ = some Γ1) (ht : gt Γ1 M = .ok false M1) : gLcL gg gt ge Γ (d :: ds) acc M = gLcL gg gt ge Γ ds acc M1 := by
  simp [gLcL, h1, ht]
/-- a list made item by item -/
theorem lcL_run {α : Type} {gg : GG} {ge : GE} {Γ : Env} {M : List MO} (f : α → D) (g : α → D) : ∀ (xs : List α) (acc : List D), acc.length + xs.length ≤ sizeLine → (∀ x ∈ xs, ∃ Γ1, gg (f x) Γ = some Γ1 ∧ ge Γ1 M = .ok (g x) M) → gLcL gg gYes ge Γ (xs.map f) acc M = .ok (acc ++ xs.map g) M
  | [], acc, _, _ => by simp [gLcL]
  | x :: xs, acc, h, hf => by
    obtain ⟨Γ1, h1, h2⟩ := hf x (by simp)
    simp only [List.length_cons] at h
    have ih := lcL_run (gg := gg) (ge := ge) (Γ := Γ) (M := M) f g xs (acc ++ [g x]) (by simp; omega) fun e he => hf e (by simp [he])
    rw [List.map_cons, lcL_cons h1 h2 (by omega), ih]
    simp
/-- items let go by a test -/
theorem lcL_sel {α : Type} {gg : GG} {gt : GT} {ge : GE} {Γ : Env} {M : List MO} (f : α → D) (g : α → D) (c : α → Bool) : ∀ (xs : List α) (acc : List D), acc.length + xs.length ≤ sizeLine → (∀ x ∈ xs, ∃ Γ1, gg (f x) Γ = some Γ1 ∧ gt Γ1 M = .ok (c x) M ∧ (c x = true → ge Γ1 M = .ok (g x) M)) → gLcL gg gt ge Γ (xs.map f) acc M = .ok (acc ++ (xs.filter c).map g) M
  | [], acc, _, _ => by simp [gLcL]
  | x :: xs, acc, h, hf => by
    obtain ⟨Γ1, h1, h2, h3⟩ := hf x (by simp)
    simp only [List.length_cons] at h
    have hf' : ∀ y ∈ xs, ∃ Γ1, gg (f y) Γ = some Γ1 ∧ gt Γ1 M = .ok (c y) M ∧ (c y = true → ge Γ1 M = .ok (g y) M) := fun e he => hf e (by simp [he])
    cases e : c x with
    | true =>
      have ih := lcL_sel (gg := gg) (gt := gt) (ge := ge) (Γ := Γ) (M := M) f g c xs (acc ++ [g x]) (by simp; omega) hf'
      rw [List.map_cons, lcL_take h1 (by rw [h2, e]) (h3 e) (by omega), ih]
      simp [e]
    | false =>
      have ih := lcL_sel (gg := gg) (gt := gt) (ge := ge) (Γ := Γ) (M := M) f g c xs acc (by omega) hf'
      rw [List.map_cons, lcL_skip h1 (by rw [h2, e]), ih]
      simp [e]
end Bk

set_option Elab.async false
set_option linter.all false
set_option maxRecDepth 100000
namespace My
open PySem PySem.Spec PyProof.Rows L2 Bk
/-! ### the text -/
def topS (i : Nat) : Stmt := PySem.Challenge.pw_breakrows_k03_pieces_added_and_least_sto.main.body.getD i (.Pass ⟨0, 0, 0, 0⟩)
abbrev s_is_integer : Stmt := topS 8
theorem sc_is_integer : FnScope ["value"] ["value"] (defScope s_is_integer) := ⟨rfl, rfl, rfl, by decide +kernel, rfl, by decide +kernel, by decide +kernel⟩
abbrev s_is_at_least : Stmt := topS 9
theorem sc_is_at_least : FnScope ["value", "low"] ["value", "low"] (defScope s_is_at_least) := ⟨rfl, rfl, rfl, by decide +kernel, rfl, by decide +kernel, by decide +kernel⟩
abbrev s_is_between : Stmt := topS 10
theorem sc_is_between : FnScope ["value", "low", "high"] ["value", "low", "high"] (defScope s_is_between) := ⟨rfl, rfl, rfl, by decide +kernel, rfl, by decide +kernel, by decide +kernel⟩
abbrev s_is_day : Stmt := topS 11
theorem sc_is_day : FnScope ["value", "day"] ["value", "day"] (defScope s_is_day) := ⟨rfl, rfl, rfl, by decide +kernel, rfl, by decide +kernel, by decide +kernel⟩
abbrev s_are_numbers : Stmt := topS 12
theorem sc_are_numbers : FnScope ["value", "entry"] ["value"] (defScope s_are_numbers) := ⟨rfl, rfl, rfl, by decide +kernel, rfl, by decide +kernel, by decide +kernel⟩
abbrev s_require_calendar : Stmt := topS 13
theorem sc_require_calendar : FnScope ["calendar", "index", "entry"] ["calendar"] (defScope s_require_calendar) := ⟨rfl, rfl, rfl, by decide +kernel, rfl, by decide +kernel, by decide +kernel⟩
abbrev s_require_row : Stmt := topS 14
theorem sc_require_row : FnScope ["calendar", "row", "index", "entry"] ["calendar", "row"] (defScope s_require_row) := ⟨rfl, rfl, rfl, by decide +kernel, rfl, by decide +kernel, by decide +kernel⟩
abbrev s_away_on : Stmt := topS 15
theorem sc_away_on : FnScope ["calendar", "numbers", "day", "found", "owned", "back", "number"] ["calendar", "numbers", "day"] (defScope s_away_on) := ⟨rfl, rfl, rfl, by decide +kernel, rfl, by decide +kernel, by decide +kernel⟩
abbrev s_first_over : Stmt := topS 16
theorem sc_first_over : FnScope ["calendar", "numbers", "day", "owned", "back", "breaking"] ["calendar", "numbers"] (defScope s_first_over) := ⟨rfl, rfl, rfl, by decide +kernel, rfl, by decide +kernel, by decide +kernel⟩
abbrev s_with_pieces : Stmt := topS 18
theorem sc_with_pieces : FnScope ["calendar", "first", "last", "pieces", "changed", "day", "owned", "back"] ["calendar", "first", "last", "pieces"] (defScope s_with_pieces) := ⟨rfl, rfl, rfl, by decide +kernel, rfl, by decide +kernel, by decide +kernel⟩
abbrev s_first_fault : Stmt := topS 19
theorem sc_first_fault : FnScope ["calendar", "row"] ["calendar", "row"] (defScope s_first_fault) := ⟨rfl, rfl, rfl, by decide +kernel, rfl, by decide +kernel, by decide +kernel⟩
abbrev s_least_owned : Stmt := topS 20
theorem sc_least_owned : FnScope ["calendar", "rows", "index", "row", "found", "day"] ["calendar", "rows"] (defScope s_least_owned) := ⟨rfl, rfl, rfl, by decide +kernel, rfl, by decide +kernel, by decide +kernel⟩
abbrev s_law_mixed : Stmt := topS 22
theorem sc_law_mixed : FnScope ["_law_cell", "_law_draw", "_law_figure"] ["_law_cell", "_law_draw"] (defScope s_law_mixed) := ⟨rfl, rfl, rfl, by decide +kernel, rfl, by decide +kernel, by decide +kernel⟩
abbrev s_law_source : Stmt := topS 23
theorem sc_law_source : FnScope ["_law_cell"] ["_law_cell"] (defScope s_law_source) := ⟨rfl, rfl, rfl, by decide +kernel, rfl, by decide +kernel, by decide +kernel⟩
abbrev s_law_take : Stmt := topS 24
theorem sc_law_take : FnScope ["_law_source_here", "_law_count", "_law_drawn"] ["_law_source_here", "_law_count"] (defScope s_law_take) := ⟨rfl, rfl, rfl, by decide +kernel, rfl, by decide +kernel, by decide +kernel⟩
abbrev s_law_stock : Stmt := topS 26
theorem sc_law_stock : FnScope ["_law_source_here", "_law_most", "_law_high", "_law_size", "_law_way", "_law_begin", "_law_mend", "_law_found", "_law_at", "_law_owned_here", "_law_later"] ["_law_source_here", "_law_most", "_law_high"] (defScope s_law_stock) := ⟨rfl, rfl, rfl, by decide +kernel, rfl, by decide +kernel, by decide +kernel⟩
abbrev s_law_gone : Stmt := topS 27
theorem sc_law_gone : FnScope ["_law_stock_here", "_law_line", "_law_today", "_law_total", "_law_owned_here", "_law_later", "_law_broke"] ["_law_stock_here", "_law_line", "_law_today"] (defScope s_law_gone) := ⟨rfl, rfl, rfl, by decide +kernel, rfl, by decide +kernel, by decide +kernel⟩
abbrev s_law_added_right : Stmt := topS 29
theorem sc_law_added_right : FnScope ["_law_source_here", "_law_stock_here", "_law_begin", "_law_end", "_law_some", "_law_change", "_law_due", "_law_at", "_law_owned_here", "_law_later", "_law_turn", "_law_found"] ["_law_source_here", "_law_stock_here"] (defScope s_law_added_right) := ⟨rfl, rfl, rfl, by decide +kernel, rfl, by decide +kernel, by decide +kernel⟩
abbrev s_law_least_right : Stmt := topS 30
theorem sc_law_least_right : FnScope ["_law_source_here", "_law_stock_here", "_law_high", "_law_lines", "_law_due", "_law_at", "_law_found", "_law_enough", "_law_amount", "_law_later", "_law_fewer", "_law_turn", "_law_owned_here", "_law_line", "_law_entry"] ["_law_source_here", "_law_stock_here"] (defScope s_law_least_right) := ⟨rfl, rfl, rfl, by decide +kernel, rfl, by decide +kernel, by decide +kernel⟩
abbrev s_law : Stmt := topS 31
theorem sc_law : FnScope ["_law_script", "_law_cell", "_law_source_here", "_law_stock_here", "_law_turn"] ["_law_script"] (defScope s_law) := ⟨rfl, rfl, rfl, by decide +kernel, rfl, by decide +kernel, by decide +kernel⟩
/-! ### what the bodies compute -/
def b_is_integer : GS := gRet (gAndV (gOp1 (dIsi "int") (gV 0)) (gOp1 dNot (gOp1 (dIsi "bool") (gV 0))))
def F_is_integer : List D → List MO → R D := runF 1 b_is_integer
def b_is_at_least : GS := gRet (gAndV (gCallF 1 F_is_integer (gCons (gV 0) (gNil))) (gOp2 dGe (gV 0) (gV 1)))
def F_is_at_least : List D → List MO → R D := runF 2 b_is_at_least
def b_is_between : GS := gRet (gAndV (gCallF 1 F_is_integer (gCons (gV 0) (gNil))) (gChain dLe dLe (gV 1) (gV 0) (gV 2)))
def F_is_between : List D → List MO → R D := runF 3 b_is_between
def b_is_day : GS := gSeq (gIf (gOrT (gNotT (gVal (gOp1 (dIsi "tuple") (gV 0)))) (gOrT (gVal (gOp2 dNeA (gCall (fn1 dLen) (gCons (gV 0) (gNil))) (gC (.int 2)))) (gNotT (gVal (gCallF 3 F_is_between (gCons (gOp2 dIx (gV 0) (gC (.int 0))) (gCons (gC (.int 0)) (gCons (gC (.int 12)) (gNil))))))))) (gRet (gC (.bl false))) (gPass)) (gRet (gOrV (gOp2 dIsN (gOp2 dIx (gV 0) (gC (.int 1))) (gC .non)) (gCallF 2 F_is_at_least (gCons (gOp2 dIx (gV 0) (gC (.int 1))) (gCons (gOp2 dAdd (gV 1) (gC (.int 1))) (gNil))))))
def F_is_day : List D → List MO → R D := runF 2 b_is_day
def le_are_numbers_1 : GE := gCallF 2 F_is_at_least (gCons (gV 1) (gCons (gC (.int 0)) (gNil)))
def b_are_numbers : GS := gRet (gAndV (gOp1 (dIsi "tuple") (gV 0)) (gCall (fn1 dAll) (gCons (gLc (gSeqI (gV 0)) (gTo 1) (gYes) (le_are_numbers_1) [1]) (gNil))))
def F_are_numbers : List D → List MO → R D := runF 2 b_are_numbers
def lb_require_calendar_1 : GS := gSeq (gIf (gNotT (gVal (gCallF 2 F_is_day (gCons (gV 2) (gCons (gOp2 dAdd (gV 1) (gC (.int 1))) (gNil)))))) (gBad) (gPass)) (gForget [1, 2])
def b_require_calendar : GS := gSeq (gIf (gOrT (gNotT (gVal (gOp1 (dIsiT ["list", "tuple"]) (gV 0)))) (gVal (gOp2 dGt (gCall (fn1 dLen) (gCons (gV 0) (gNil))) (gC (.int 100))))) (gBad) (gPass)) (gSeq (gSeq (gForget [1, 2]) (gFor (gEnum (gV 0)) (gToT (gToCons (gTo 1) (gToCons (gTo 2) (gToNil)))) (lb_require_calendar_1))) (gForget [1, 2]))
def F_require_calendar : List D → List MO → R D := runF 3 b_require_calendar
def lb_require_row_1 : GS := gSeq (gIf (gNotT (gVal (gCallF 2 F_is_at_least (gCons (gV 3) (gCons (gC (.int 0)) (gNil)))))) (gBad) (gPass)) (gForget [2, 3])
def b_require_row : GS := gSeq (gIf (gOrT (gNotT (gVal (gOp1 (dIsi "tuple") (gV 1)))) (gVal (gOp2 dNeA (gCall (fn1 dLen) (gCons (gV 1) (gNil))) (gCall (fn1 dLen) (gCons (gV 0) (gNil)))))) (gBad) (gPass)) (gSeq (gSeq (gForget [2, 3]) (gFor (gEnum (gV 1)) (gToT (gToCons (gTo 2) (gToCons (gTo 3) (gToNil)))) (lb_require_row_1))) (gForget [2, 3]))
def F_require_row : List D → List MO → R D := runF 4 b_require_row
def lb_away_on_1 : GS := gSeq (gIf (gOrT (gVal (gOp2 dIsN (gV 5) (gC .non))) (gVal (gOp2 dGt (gV 5) (gV 2)))) (gAug 3 (fun i j => i + j) (gV 6)) (gPass)) (gForget [4, 5, 6])
def b_away_on : GS := gSeq (gAsg (gC (.int 0)) (gTo 3)) (gSeq (gSeq (gSeq (gForget [4, 5, 6]) (gFor (gZip (gSl (gV 0) (gNoO) (gO (gOp2 dSub (gV 2) (gC (.int 1))))) (gV 1)) (gToT (gToCons (gToT (gToCons (gTo 4) (gToCons (gTo 5) (gToNil)))) (gToCons (gTo 6) (gToNil)))) (lb_away_on_1))) (gForget [4, 5, 6])) (gRet (gV 3)))
def F_away_on : List D → List MO → R D := runF 7 b_away_on
def lb_first_over_1 : GS := gSeq (gAsg (gIfE (gVal (gOp2 dLe (gV 2) (gCall (fn1 dLen) (gCons (gV 1) (gNil))))) (gOp2 dIx (gV 1) (gOp2 dSub (gV 2) (gC (.int 1)))) (gC (.int 0))) (gTo 5)) (gSeq (gIf (gVal (gOp2 dGt (gOp2 dAdd (gCallF 3 F_away_on (gCons (gV 0) (gCons (gV 1) (gCons (gV 2) (gNil))))) (gV 5)) (gV 3))) (gRet (gV 2)) (gPass)) (gForget [2, 3, 4, 5]))
def b_first_over : GS := gSeq (gSeq (gSeq (gForget [2, 3, 4, 5]) (gFor (gEnumK (gV 0) (gC (.int 1))) (gToT (gToCons (gTo 2) (gToCons (gToT (gToCons (gTo 3) (gToCons (gTo 4) (gToNil)))) (gToNil)))) (lb_first_over_1))) (gForget [2, 3, 4, 5])) (gRet (gC .non))
def F_first_over : List D → List MO → R D := runF 6 b_first_over
def le_with_pieces_1 : GE := gTup (gCons (gOp2 dAdd (gV 6) (gOp2 dMulT (gV 3) (gCall (fn1 dInt) (gCons (gChain dLe dLe (gV 1) (gV 5) (gV 2)) (gNil))))) (gCons (gV 7) (gNil)))
def le_with_pieces_2 : GE := gChain dLe dLe (gC (.int 0)) (gV 6) (gC (.int 12))
def b_with_pieces : GS := gSeq (gExpr (gCallF 1 F_require_calendar (gCons (gV 0) (gNil)))) (gSeq (gIf (gNotT (gVal (gCallF 3 F_is_between (gCons (gV 1) (gCons (gC (.int 1)) (gCons (gCall (fn1 dLen) (gCons (gV 0) (gNil))) (gNil))))))) (gBad) (gPass)) (gSeq (gIf (gNotT (gVal (gCallF 3 F_is_between (gCons (gV 2) (gCons (gV 1) (gCons (gCall (fn1 dLen) (gCons (gV 0) (gNil))) (gNil))))))) (gBad) (gPass)) (gSeq (gIf (gNotT (gVal (gCallF 1 F_is_integer (gCons (gV 3) (gNil))))) (gBad) (gPass)) (gSeq (gAsg (gLcO (gEnumK (gV 0) (gC (.int 1))) (gToT (gToCons (gTo 5) (gToCons (gToT (gToCons (gTo 6) (gToCons (gTo 7) (gToNil)))) (gToNil)))) (gYes) (le_with_pieces_1) [5, 6, 7]) (gTo 4)) (gSeq (gIf (gNotT (gVal (gCall (fn1 dAll) (gCons (gLcW (gV 4) (gToT (gToCons (gTo 6) (gToCons (gTo 7) (gToNil)))) (gYes) (le_with_pieces_2) [6, 7]) (gNil))))) (gBad) (gPass)) (gRet (gV 4)))))))
def F_with_pieces : List D → List MO → R D := runF 8 b_with_pieces
def b_first_fault : GS := gSeq (gExpr (gCallF 1 F_require_calendar (gCons (gV 0) (gNil)))) (gSeq (gExpr (gCallF 2 F_require_row (gCons (gV 0) (gCons (gV 1) (gNil))))) (gRet (gCallF 2 F_first_over (gCons (gV 0) (gCons (gV 1) (gNil))))))
def F_first_fault : List D → List MO → R D := runF 2 b_first_fault
def lb_least_owned_1 : GS := gSeq (gIf (gOrT (gNotT (gVal (gCallF 1 F_are_numbers (gCons (gV 3) (gNil))))) (gVal (gOp2 dNeA (gCall (fn1 dLen) (gCons (gV 3) (gNil))) (gCall (fn1 dLen) (gCons (gV 0) (gNil)))))) (gBad) (gPass)) (gForget [2, 3])
def le_least_owned_1 : GE := gOp2 dAdd (gCallF 3 F_away_on (gCons (gV 0) (gCons (gV 3) (gCons (gV 5) (gNil))))) (gOp2 dIx (gV 3) (gOp2 dSub (gV 5) (gC (.int 1))))
def lb_least_owned_2 : GS := gSeq (gExpr (gMeth1 mAppend (gV 4) (gCall (fn1 dMax) (gCons (gOp2 dAdd (gLst (gCons (gC (.int 0)) (gNil))) (gLc (gSeqI (gV 1)) (gTo 3) (gYes) (le_least_owned_1) [3])) (gNil))))) (gForget [5])
def b_least_owned : GS := gSeq (gExpr (gCallF 1 F_require_calendar (gCons (gV 0) (gNil)))) (gSeq (gIf (gNotT (gVal (gOp1 (dIsiT ["list", "tuple"]) (gV 1)))) (gBad) (gPass)) (gSeq (gSeq (gSeq (gForget [2, 3]) (gFor (gEnum (gV 1)) (gToT (gToCons (gTo 2) (gToCons (gTo 3) (gToNil)))) (lb_least_owned_1))) (gForget [2, 3])) (gSeq (gAsg (gLstO (gNil)) (gTo 4)) (gSeq (gSeq (gSeq (gForget [5]) (gFor (gRng2 (gCons (gC (.int 1)) (gCons (gOp2 dAdd (gCall (fn1 dLen) (gCons (gV 0) (gNil))) (gC (.int 1))) (gNil)))) (gTo 5) (lb_least_owned_2))) (gForget [5])) (gRet (gV 4))))))
def F_least_owned : List D → List MO → R D := runF 6 b_least_owned
def b_law_mixed : GS := gSeq (gAsg (gOp2 dMod (gOp2 dMulT (gOp2 dAdd (gOp2 dMod (gV 0) (gC (.int 2147483646))) (gC (.int 1))) (gOp2 dAdd (gOp2 dMulT (gV 1) (gC (.int 7919))) (gC (.int 104729)))) (gC (.int 2147483647))) (gTo 2)) (gSeq (gAsg (gOp2 dMod (gOp2 dMulT (gOp2 dAdd (gV 2) (gOp2 dMulT (gOp2 dMod (gOp2 dFdiv (gV 0) (gC (.int 2147483646))) (gC (.int 1000003))) (gOp2 dAdd (gV 1) (gC (.int 31))))) (gC (.int 48271))) (gC (.int 2147483629))) (gTo 2)) (gSeq (gAsg (gOp2 dMod (gOp2 dMulT (gV 2) (gOp2 dAdd (gOp2 dAdd (gOp2 dFdiv (gV 2) (gC (.int 1013))) (gC (.int 69621))) (gV 1))) (gC (.int 2147483587))) (gTo 2)) (gRet (gOp2 dMod (gOp2 dMulT (gV 2) (gOp2 dAdd (gOp2 dFdiv (gV 2) (gC (.int 2003))) (gC (.int 40692)))) (gC (.int 2147483563))))))
def F_law_mixed : List D → List MO → R D := runF 3 b_law_mixed
def b_law_source : GS := gRet (gLstO (gCons (gV 0) (gCons (gV 0) (gCons (gC (.int 0)) (gNil)))))
def F_law_source : List D → List MO → R D := runF 1 b_law_source
def b_law_take : GS := gSeq (gIf (gVal (gOp2 dGe (gOp2 dIx (gV 0) (gC (.int 0))) (gOp2 dPow (gC (.int 10)) (gC (.int 18))))) (gSeq (gAsg (gOp2 dMod (gOp2 dIx (gV 0) (gC (.int 0))) (gV 1)) (gTo 2)) (gSeq (gSetI (gOp2 dFdiv (gOp2 dIx (gV 0) (gC (.int 0))) (gV 1)) (gV 0) (gC (.int 0))) (gRet (gV 2)))) (gPass)) (gSeq (gSetI (gOp2 dAdd (gOp2 dIx (gV 0) (gC (.int 2))) (gC (.int 1))) (gV 0) (gC (.int 2))) (gRet (gOp2 dMod (gCallF 2 F_law_mixed (gCons (gOp2 dIx (gV 0) (gC (.int 1))) (gCons (gOp2 dIx (gV 0) (gC (.int 2))) (gNil)))) (gV 1))))
def F_law_take : List D → List MO → R D := runF 3 b_law_take
def lb_law_stock_1 : GS := gSeq (gAsg (gV 5) (gTo 9)) (gSeq (gIf (gVal (gOp2 dIn (gV 4) (gTup (gCons (gC (.int 1)) (gCons (gC (.int 3)) (gNil)))))) (gAsg (gCallF 2 F_law_take (gCons (gV 0) (gCons (gOp2 dAdd (gV 2) (gC (.int 1))) (gNil)))) (gTo 9)) (gPass)) (gSeq (gIf (gVal (gOp2 dEqA (gV 4) (gC (.int 2)))) (gAsg (gCall (fn2 dMax2) (gCons (gC (.int 0)) (gCons (gOp2 dSub (gV 5) (gOp2 dFdiv (gV 8) (gC (.int 2)))) (gNil)))) (gTo 9)) (gPass)) (gSeq (gAsg (gOp2 dAdd (gOp2 dAdd (gV 8) (gC (.int 2))) (gV 6)) (gTo 10)) (gSeq (gIf (gVal (gOp2 dGt (gV 4) (gC (.int 0)))) (gAsg (gOp2 dIx (gLst (gCons (gOp2 dAdd (gOp2 dAdd (gV 8) (gC (.int 2))) (gCallF 2 F_law_take (gCons (gV 0) (gCons (gC (.int 4)) (gNil))))) (gCons (gOp2 dAdd (gV 8) (gC (.int 2))) (gCons (gC .non) (gCons (gOp2 dAdd (gOp2 dAdd (gV 3) (gC (.int 1))) (gCallF 2 F_law_take (gCons (gV 0) (gCons (gC (.int 9)) (gNil))))) (gNil)))))) (gCallF 2 F_law_take (gCons (gV 0) (gCons (gC (.int 4)) (gNil))))) (gTo 10)) (gPass)) (gSeq (gExpr (gMeth1 mAppend (gV 7) (gTup (gCons (gV 9) (gCons (gV 10) (gNil)))))) (gForget [8, 9, 10]))))))
def b_law_stock : GS := gSeq (gPar2 3 4 (gCons (gCallF 2 F_law_take (gCons (gV 0) (gCons (gOp2 dAdd (gV 1) (gC (.int 1))) (gNil)))) (gCons (gCallF 2 F_law_take (gCons (gV 0) (gCons (gC (.int 5)) (gNil)))) (gNil)))) (gSeq (gPar2 5 6 (gCons (gCallF 2 F_law_take (gCons (gV 0) (gCons (gOp2 dAdd (gV 2) (gC (.int 1))) (gNil)))) (gCons (gCallF 2 F_law_take (gCons (gV 0) (gCons (gC (.int 4)) (gNil)))) (gNil)))) (gSeq (gAsg (gLstO (gNil)) (gTo 7)) (gSeq (gSeq (gSeq (gSeq (gForget [8, 9, 10]) (gFor (gRng1 (gCons (gV 3) (gNil))) (gTo 8) (lb_law_stock_1))) (gForget [8, 9, 10])) (gFz 7)) (gRet (gV 7)))))
def F_law_stock : List D → List MO → R D := runF 11 b_law_stock
def lb_law_gone_1 : GS := gSeq (gIf (gOrT (gVal (gOp2 dIsN (gV 5) (gC .non))) (gVal (gOp2 dGt (gV 5) (gV 2)))) (gAsg (gOp2 dAdd (gV 3) (gV 6)) (gTo 3)) (gPass)) (gForget [4, 5, 6])
def b_law_gone : GS := gSeq (gAsg (gC (.int 0)) (gTo 3)) (gSeq (gSeq (gSeq (gForget [4, 5, 6]) (gFor (gSeqI (gSl (gLzip false (gV 0) (gV 1)) (gNoO) (gO (gOp2 dSub (gV 2) (gC (.int 1)))))) (gToT (gToCons (gToT (gToCons (gTo 4) (gToCons (gTo 5) (gToNil)))) (gToCons (gTo 6) (gToNil)))) (lb_law_gone_1))) (gForget [4, 5, 6])) (gRet (gV 3)))
def F_law_gone : List D → List MO → R D := runF 7 b_law_gone
def lb_law_added_right_1 : GS := gSeq (gExpr (gMeth1 mAppend (gV 6) (gTup (gCons (gOp2 dAdd (gV 8) (gOp2 dMulT (gV 5) (gCall (fn1 dInt) (gCons (gChain dLe dLe (gV 2) (gOp2 dAdd (gV 7) (gC (.int 1))) (gV 3)) (gNil))))) (gCons (gV 9) (gNil)))))) (gForget [7, 8, 9])
def lb_law_added_right_2 : GS := gScope (gSeq (gAsg (gCallF 4 F_with_pieces (gCons (gV 1) (gCons (gV 2) (gCons (gV 3) (gCons (gV 5) (gNil)))))) (gTo 11)) (gSeq (gIf (gOrT (gVal (gOp2 dNeA (gV 11) (gV 6))) (gNotT (gVal (gOp1 (dIsi "list") (gV 11))))) (gRet (gC (.bl false))) (gPass)) (gSeq (gExpr (gMeth1 mAppend (gV 11) (gC .non))) (gForget [10, 11]))))
def b_law_added_right : GS := gSeq (gAsg (gOp2 dAdd (gC (.int 1)) (gCallF 2 F_law_take (gCons (gV 0) (gCons (gCall (fn1 dLen) (gCons (gV 1) (gNil))) (gNil))))) (gTo 2)) (gSeq (gAsg (gOp2 dAdd (gV 2) (gCallF 2 F_law_take (gCons (gV 0) (gCons (gOp2 dAdd (gOp2 dSub (gCall (fn1 dLen) (gCons (gV 1) (gNil))) (gV 2)) (gC (.int 1))) (gNil))))) (gTo 3)) (gSeq (gAsg (gLc (gSeqI (gSl (gV 1) (gO (gOp2 dSub (gV 2) (gC (.int 1)))) (gO (gV 3)))) (gToT (gToCons (gTo 8) (gToCons (gTo 9) (gToNil)))) (gYes) (gV 8) [8, 9]) (gTo 4)) (gSeq (gAsg (gOp2 dSub (gCallF 2 F_law_take (gCons (gV 0) (gCons (gOp2 dAdd (gOp2 dSub (gC (.int 13)) (gCall (fn1 dMax) (gCons (gV 4) (gNil)))) (gCall (fn1 dMin) (gCons (gV 4) (gNil)))) (gNil)))) (gCall (fn1 dMin) (gCons (gV 4) (gNil)))) (gTo 5)) (gSeq (gAsg (gLstO (gNil)) (gTo 6)) (gSeq (gSeq (gSeq (gSeq (gForget [7, 8, 9]) (gFor (gEnum (gV 1)) (gToT (gToCons (gTo 7) (gToCons (gToT (gToCons (gTo 8) (gToCons (gTo 9) (gToNil)))) (gToNil)))) (lb_law_added_right_1))) (gForget [7, 8, 9])) (gFz 6)) (gSeq (gSeq (gSeq (gForget [10, 11]) (gFor (gRng1 (gCons (gC (.int 2)) (gNil))) (gTo 10) (lb_law_added_right_2))) (gForget [10, 11])) (gRet (gOp2 dEqA (gCallK 4 F_with_pieces [3, 2, 1, 0] gNil (gCons (gV 5) (gCons (gV 3) (gCons (gV 2) (gCons (gCall (fn1 dTuple) (gCons (gV 1) (gNil))) (gNil)))))) (gV 6)))))))))
def F_law_added_right : List D → List MO → R D := runF 12 b_law_added_right
def le_law_least_right_1 : GE := gCallF 2 F_law_take (gCons (gV 0) (gCons (gV 2) (gNil)))
def le_law_least_right_2 : GE := gCall (fn1 dTuple) (gCons (gLc (gSeqI (gV 1)) (gTo 14) (gYes) (le_law_least_right_1) [14]) (gNil))
def le_law_least_right_3 : GE := gOp2 dAdd (gCallF 3 F_law_gone (gCons (gV 1) (gCons (gV 13) (gCons (gOp2 dAdd (gV 5) (gC (.int 1))) (gNil))))) (gOp2 dIx (gV 13) (gV 5))
def lb_law_least_right_1 : GS := gSeq (gExpr (gMeth1 mAppend (gV 4) (gCall (fn1 dMax) (gCons (gOp2 dAdd (gLst (gCons (gC (.int 0)) (gNil))) (gLc (gSeqI (gV 3)) (gTo 13) (gYes) (le_law_least_right_3) [13])) (gNil))))) (gForget [5])
def le_law_least_right_4 : GE := gTup (gCons (gV 8) (gCons (gV 9) (gNil)))
def lb_law_least_right_2 : GS := gSeq (gIf (gVal (gOp2 dGt (gV 8) (gC (.int 0)))) (gSeq (gAsg (gOp2 dAdd (gOp2 dAdd (gSl (gV 7) (gNoO) (gO (gV 5))) (gLst (gCons (gTup (gCons (gOp2 dSub (gV 8) (gC (.int 1))) (gCons (gV 9) (gNil)))) (gNil)))) (gSl (gV 7) (gO (gOp2 dAdd (gV 5) (gC (.int 1)))) (gNoO))) (gTo 10)) (gIf (gVal (gOp2 dEqA (gLc (gSeqI (gV 3)) (gTo 13) (gVal (gOp2 dEqA (gCallF 2 F_first_fault (gCons (gV 10) (gCons (gV 13) (gNil)))) (gOp2 dAdd (gV 5) (gC (.int 1))))) (gV 13) [13]) (gLst (gNil)))) (gRet (gC (.bl false))) (gPass))) (gPass)) (gForget [5, 8, 9, 10])
def b_law_least_right : GS := gSeq (gAsg (gOp2 dIx (gLst (gCons (gC (.int 2)) (gCons (gC (.int 4)) (gCons (gOp2 dPow (gC (.int 10)) (gC (.int 20))) (gNil))))) (gCallF 2 F_law_take (gCons (gV 0) (gCons (gC (.int 3)) (gNil))))) (gTo 2)) (gSeq (gAsg (gLc (gRng1 (gCons (gCallF 2 F_law_take (gCons (gV 0) (gCons (gC (.int 7)) (gNil)))) (gNil))) (gTo 11) (gYes) (le_law_least_right_2) [11]) (gTo 3)) (gSeq (gAsg (gLstO (gNil)) (gTo 4)) (gSeq (gSeq (gSeq (gSeq (gForget [5]) (gFor (gRng1 (gCons (gCall (fn1 dLen) (gCons (gV 1) (gNil))) (gNil))) (gTo 5) (lb_law_least_right_1))) (gForget [5])) (gFz 4)) (gSeq (gAsg (gCallF 2 F_least_owned (gCons (gV 1) (gCons (gV 3) (gNil)))) (gTo 6)) (gSeq (gIf (gOrT (gVal (gOp2 dNeA (gV 6) (gV 4))) (gNotT (gVal (gOp1 (dIsi "list") (gV 6))))) (gRet (gC (.bl false))) (gPass)) (gSeq (gExpr (gMeth1 mAppend (gV 6) (gC .non))) (gSeq (gIf (gVal (gOp2 dNeA (gCallK 2 F_least_owned [1, 0] gNil (gCons (gCall (fn1 dTuple) (gCons (gV 3) (gNil))) (gCons (gCall (fn1 dTuple) (gCons (gV 1) (gNil))) (gNil)))) (gV 4))) (gRet (gC (.bl false))) (gPass)) (gSeq (gIf (gVal (gOp2 dGt (gCall (fn1 dMax) (gCons (gV 4) (gNil))) (gC (.int 12)))) (gRet (gC (.bl true))) (gPass)) (gSeq (gAsg (gLc (gZip (gV 4) (gV 1)) (gToT (gToCons (gTo 8) (gToCons (gToT (gToCons (gTo 12) (gToCons (gTo 9) (gToNil)))) (gToNil)))) (gYes) (le_law_least_right_4) [8, 12, 9]) (gTo 7)) (gSeq (gIf (gVal (gOp2 dNeA (gLc (gSeqI (gV 3)) (gTo 13) (gVal (gOp2 dNotN (gCallF 2 F_first_fault (gCons (gV 7) (gCons (gV 13) (gNil)))) (gC .non))) (gV 13) [13]) (gLst (gNil)))) (gRet (gC (.bl false))) (gPass)) (gSeq (gSeq (gSeq (gForget [5, 8, 9, 10]) (gFor (gEnum (gV 7)) (gToT (gToCons (gTo 5) (gToCons (gToT (gToCons (gTo 8) (gToCons (gTo 9) (gToNil)))) (gToNil)))) (lb_law_least_right_2))) (gForget [5, 8, 9, 10])) (gRet (gC (.bl true))))))))))))))
def F_law_least_right : List D → List MO → R D := runF 15 b_law_least_right
def lb_law_2 : GS := gSeq (gIf (gOrT (gNotT (gVal (gCallF 2 F_law_added_right (gCons (gV 2) (gCons (gV 3) (gNil)))))) (gNotT (gVal (gCallF 2 F_law_least_right (gCons (gV 2) (gCons (gV 3) (gNil))))))) (gRet (gC (.bl false))) (gPass)) (gForget [4])
def lb_law_1 : GS := gScope (gSeq (gAsg (gCallF 1 F_law_source (gCons (gV 1) (gNil))) (gTo 2)) (gSeq (gAsg (gOp2 dAdd (gCallF 3 F_law_stock (gCons (gV 2) (gCons (gC (.int 9)) (gCons (gC (.int 7)) (gNil))))) (gLst (gCons (gTup (gCons (gCallF 2 F_law_take (gCons (gV 2) (gCons (gC (.int 8)) (gNil)))) (gCons (gC .non) (gNil)))) (gNil)))) (gTo 3)) (gSeq (gSeq (gSeq (gForget [4]) (gFor (gRng1 (gCons (gC (.int 3)) (gNil))) (gTo 4) (lb_law_2))) (gForget [4])) (gForget [1, 2, 3, 4]))))
def b_law : GS := gSeq (gSeq (gSeq (gForget [1, 2, 3, 4]) (gFor (gSeqI (gSl (gOp2 dAdd (gV 0) (gLst (gCons (gC (.int 0)) (gNil)))) (gNoO) (gO (gC (.int 5))))) (gTo 1) (lb_law_1))) (gForget [1, 2, 3, 4])) (gRet (gC (.bl true)))
def F_law : List D → List MO → R D := runF 5 b_law
/-! ### where everything stands -/
structure Ad where
  f_is_integer : Addr
  fd_is_integer : FuncData
  f_is_at_least : Addr
  fd_is_at_least : FuncData
  f_is_between : Addr
  fd_is_between : FuncData
  f_is_day : Addr
  fd_is_day : FuncData
  f_are_numbers : Addr
  fd_are_numbers : FuncData
  f_require_calendar : Addr
  fd_require_calendar : FuncData
  f_require_row : Addr
  fd_require_row : FuncData
  f_away_on : Addr
  fd_away_on : FuncData
  f_first_over : Addr
  fd_first_over : FuncData
  f_with_pieces : Addr
  fd_with_pieces : FuncData
  f_first_fault : Addr
  fd_first_fault : FuncData
  f_least_owned : Addr
  fd_least_owned : FuncData
  f_law_mixed : Addr
  fd_law_mixed : FuncData
  f_law_source : Addr
  fd_law_source : FuncData
  f_law_take : Addr
  fd_law_take : FuncData
  f_law_stock : Addr
  fd_law_stock : FuncData
  f_law_gone : Addr
  fd_law_gone : FuncData
  f_law_added_right : Addr
  fd_law_added_right : FuncData
  f_law_least_right : Addr
  fd_law_least_right : FuncData
  f_law : Addr
  fd_law : FuncData
  t_MAX_DAYS : Tok
  t_MAX_OWNED : Tok
structure Tx (K : PySem.W.Frag) (mg : Str → Option Value) (A : Ad) : Prop where
  F_is_integer : Fun K "is_integer" "is_integer" s_is_integer A.f_is_integer A.fd_is_integer
  g_is_integer : mg "is_integer" = some (.ref A.f_is_integer)
  b_is_integer : Binds K A.fd_is_integer ["value"] []
  F_is_at_least : Fun K "is_at_least" "is_at_least" s_is_at_least A.f_is_at_least A.fd_is_at_least
  g_is_at_least : mg "is_at_least" = some (.ref A.f_is_at_least)
  b_is_at_least : Binds K A.fd_is_at_least ["value", "low"] []
  F_is_between : Fun K "is_between" "is_between" s_is_between A.f_is_between A.fd_is_between
  g_is_between : mg "is_between" = some (.ref A.f_is_between)
  b_is_between : Binds K A.fd_is_between ["value", "low", "high"] []
  F_is_day : Fun K "is_day" "is_day" s_is_day A.f_is_day A.fd_is_day
  g_is_day : mg "is_day" = some (.ref A.f_is_day)
  b_is_day : Binds K A.fd_is_day ["value", "day"] []
  F_are_numbers : Fun K "are_numbers" "are_numbers" s_are_numbers A.f_are_numbers A.fd_are_numbers
  g_are_numbers : mg "are_numbers" = some (.ref A.f_are_numbers)
  b_are_numbers : Binds K A.fd_are_numbers ["value"] []
  F_require_calendar : Fun K "require_calendar" "require_calendar" s_require_calendar A.f_require_calendar A.fd_require_calendar
  g_require_calendar : mg "require_calendar" = some (.ref A.f_require_calendar)
  b_require_calendar : Binds K A.fd_require_calendar ["calendar"] []
  F_require_row : Fun K "require_row" "require_row" s_require_row A.f_require_row A.fd_require_row
  g_require_row : mg "require_row" = some (.ref A.f_require_row)
  b_require_row : Binds K A.fd_require_row ["calendar", "row"] []
  F_away_on : Fun K "away_on" "away_on" s_away_on A.f_away_on A.fd_away_on
  g_away_on : mg "away_on" = some (.ref A.f_away_on)
  b_away_on : Binds K A.fd_away_on ["calendar", "numbers", "day"] []
  F_first_over : Fun K "first_over" "first_over" s_first_over A.f_first_over A.fd_first_over
  g_first_over : mg "first_over" = some (.ref A.f_first_over)
  b_first_over : Binds K A.fd_first_over ["calendar", "numbers"] []
  F_with_pieces : Fun K "with_pieces" "with_pieces" s_with_pieces A.f_with_pieces A.fd_with_pieces
  g_with_pieces : mg "with_pieces" = some (.ref A.f_with_pieces)
  b_with_pieces : Binds K A.fd_with_pieces ["calendar", "first", "last", "pieces"] []
  F_first_fault : Fun K "first_fault" "first_fault" s_first_fault A.f_first_fault A.fd_first_fault
  g_first_fault : mg "first_fault" = some (.ref A.f_first_fault)
  b_first_fault : Binds K A.fd_first_fault ["calendar", "row"] []
  F_least_owned : Fun K "least_owned" "least_owned" s_least_owned A.f_least_owned A.fd_least_owned
  g_least_owned : mg "least_owned" = some (.ref A.f_least_owned)
  b_least_owned : Binds K A.fd_least_owned ["calendar", "rows"] []
  F_law_mixed : Fun K "_law_mixed" "_law_mixed" s_law_mixed A.f_law_mixed A.fd_law_mixed
  g_law_mixed : mg "_law_mixed" = some (.ref A.f_law_mixed)
  b_law_mixed : Binds K A.fd_law_mixed ["_law_cell", "_law_draw"] []
  F_law_source : Fun K "_law_source" "_law_source" s_law_source A.f_law_source A.fd_law_source
  g_law_source : mg "_law_source" = some (.ref A.f_law_source)
  b_law_source : Binds K A.fd_law_source ["_law_cell"] []
  F_law_take : Fun K "_law_take" "_law_take" s_law_take A.f_law_take A.fd_law_take
  g_law_take : mg "_law_take" = some (.ref A.f_law_take)
  b_law_take : Binds K A.fd_law_take ["_law_source_here", "_law_count"] []
  F_law_stock : Fun K "_law_stock" "_law_stock" s_law_stock A.f_law_stock A.fd_law_stock
  g_law_stock : mg "_law_stock" = some (.ref A.f_law_stock)
  b_law_stock : Binds K A.fd_law_stock ["_law_source_here", "_law_most", "_law_high"] []
  F_law_gone : Fun K "_law_gone" "_law_gone" s_law_gone A.f_law_gone A.fd_law_gone
  g_law_gone : mg "_law_gone" = some (.ref A.f_law_gone)
  b_law_gone : Binds K A.fd_law_gone ["_law_stock_here", "_law_line", "_law_today"] []
  F_law_added_right : Fun K "_law_added_right" "_law_added_right" s_law_added_right A.f_law_added_right A.fd_law_added_right
  g_law_added_right : mg "_law_added_right" = some (.ref A.f_law_added_right)
  b_law_added_right : Binds K A.fd_law_added_right ["_law_source_here", "_law_stock_here"] []
  F_law_least_right : Fun K "_law_least_right" "_law_least_right" s_law_least_right A.f_law_least_right A.fd_law_least_right
  g_law_least_right : mg "_law_least_right" = some (.ref A.f_law_least_right)
  b_law_least_right : Binds K A.fd_law_least_right ["_law_source_here", "_law_stock_here"] []
  F_law : Fun K "law" "law" s_law A.f_law A.fd_law
  g_law : mg "law" = some (.ref A.f_law)
  b_law : Binds K A.fd_law ["_law_script"] []
  k_least_owned_rows_calendar : KwBinds K A.fd_least_owned ["calendar", "rows"] ["rows", "calendar"] 0 [1, 0]
  k_with_pieces_pieces_last_first_calendar : KwBinds K A.fd_with_pieces ["calendar", "first", "last", "pieces"] ["pieces", "last", "first", "calendar"] 0 [3, 2, 1, 0]
  m_all : mg "all" = none
  m_bool : mg "bool" = none
  m_enumerate : mg "enumerate" = none
  m_int : mg "int" = none
  m_isinstance : mg "isinstance" = none
  m_len : mg "len" = none
  m_list : mg "list" = none
  m_max : mg "max" = none
  m_min : mg "min" = none
  m_range : mg "range" = none
  m_tuple : mg "tuple" = none
  m_zip : mg "zip" = none
  c_MAX_DAYS : mg "MAX_DAYS" = some (.int 100 A.t_MAX_DAYS)
  c_MAX_OWNED : mg "MAX_OWNED" = some (.int 12 A.t_MAX_OWNED)
/-! ### each def computes its function -/
section
variable {P : Program} {w : World} {K : PySem.W.Frag} {mg : Str → Option Value} {base : Heap} {C : CT} {A : Ad}
set_option maxHeartbeats 4000000 in
theorem ok_is_integer (T : Tx K mg A) : FnQ P w K mg base C 2 A.f_is_integer A.fd_is_integer ["value"] F_is_integer := by
  refine fq_of T.F_is_integer sc_is_integer fun cdv A' outer s H E hr hgu => ?_
  exact qss_one (qs_ret (qe_and (qe_isi rfl T.m_isinstance rfl T.m_int (by decide +kernel) (qe_v 0)) (qe_one (qe_not (qe_isi rfl T.m_isinstance rfl T.m_bool (by decide +kernel) (qe_v 0))))))
set_option maxHeartbeats 4000000 in
theorem ok_is_at_least (T : Tx K mg A) : FnQ P w K mg base C 3 A.f_is_at_least A.fd_is_at_least ["value", "low"] F_is_at_least := by
  have c_is_integer := ok_is_integer (P := P) (w := w) (base := base) (C := C) T
  refine fq_of T.F_is_at_least sc_is_at_least fun cdv A' outer s H E hr hgu => ?_
  exact qss_one (qs_ret (qe_and (qe_call c_is_integer (hr.mono (by decide)) hgu (takes_of rfl rfl rfl rfl) rfl T.g_is_integer T.F_is_integer.kp T.b_is_integer (qa_cons (qe_v 0) (qa_nil))) (qe_one (qe_cmp op_ge ok_ge (qe_v 0) (qe_v 1) rfl))))
set_option maxHeartbeats 4000000 in
theorem ok_is_between (T : Tx K mg A) : FnQ P w K mg base C 3 A.f_is_between A.fd_is_between ["value", "low", "high"] F_is_between := by
  have c_is_integer := ok_is_integer (P := P) (w := w) (base := base) (C := C) T
  refine fq_of T.F_is_between sc_is_between fun cdv A' outer s H E hr hgu => ?_
  exact qss_one (qs_ret (qe_and (qe_call c_is_integer (hr.mono (by decide)) hgu (takes_of rfl rfl rfl rfl) rfl T.g_is_integer T.F_is_integer.kp T.b_is_integer (qa_cons (qe_v 0) (qa_nil))) (qe_one (qe_chain op_le ok_le op_le ok_le (qe_v 1) (qe_v 0) (qe_v 2)))))
set_option maxHeartbeats 4000000 in
theorem ok_is_day (T : Tx K mg A) : FnQ P w K mg base C 4 A.f_is_day A.fd_is_day ["value", "day"] F_is_day := by
  have c_is_at_least := ok_is_at_least (P := P) (w := w) (base := base) (C := C) T
  have c_is_between := ok_is_between (P := P) (w := w) (base := base) (C := C) T
  refine fq_of T.F_is_day sc_is_day fun cdv A' outer s H E hr hgu => ?_
  exact qss_cons (qs_if (qt_of (qw_or (qt_not (qt_val (qe_isi rfl T.m_isinstance rfl T.m_tuple (by decide +kernel) (qe_v 0)))) (qw_or (qt_cmp (op_neA hr.units) ok_neA (qe_callB call_len (.of1 ok_len) rfl T.m_len (by decide +kernel) (qa_cons (qe_v 0) (qa_nil))) (qe_int) rfl) (qw_or1 (qt_not (qt_val (qe_call c_is_between (hr.mono (by decide)) hgu (takes_of rfl rfl rfl rfl) rfl T.g_is_between T.F_is_between.kp T.b_is_between (qa_cons (qe_ix ix_A ok_ix (qe_v 0) (qe_int)) (qa_cons (qe_int) (qa_cons (qe_gint rfl T.c_MAX_OWNED) (qa_nil))))))))))) (qss_one (qs_ret (qe_bl))) (qss_nil)) (qss_one (qs_ret (qe_or (qe_cmp op_isN ok_isN (qe_ix ix_A ok_ix (qe_v 0) (qe_int)) (qe_non) rfl) (qe_one (qe_call c_is_at_least (hr.mono (by decide)) hgu (takes_of rfl rfl rfl rfl) rfl T.g_is_at_least T.F_is_at_least.kp T.b_is_at_least (qa_cons (qe_ix ix_A ok_ix (qe_v 0) (qe_int)) (qa_cons (qe_bin op_addA ok_add (qe_v 1) (qe_int)) (qa_nil))))))))
set_option maxHeartbeats 4000000 in
theorem ok_are_numbers (T : Tx K mg A) : FnQ P w K mg base C 4 A.f_are_numbers A.fd_are_numbers ["value"] F_are_numbers := by
  have c_is_at_least := ok_is_at_least (P := P) (w := w) (base := base) (C := C) T
  refine fq_of T.F_are_numbers sc_are_numbers fun cdv A' outer s H E hr hgu => ?_
  exact qss_one (qs_ret (qe_and (qe_isi rfl T.m_isinstance rfl T.m_tuple (by decide +kernel) (qe_v 0)) (qe_one (qe_callB (cr_all rfl) (.of1 ok_all) rfl T.m_all (by decide +kernel) (qa_cons (qe_lc rfl sc_are_numbers.nd (qi_seq (qe_v 0)) (blkOk_by (N := ["value", "entry"]) (sc := defScope s_are_numbers) (own := [("entry", 1)]) (by decide +kernel)) (fun _ _ _ _ _ => qg_name 1 sc_are_numbers.nd) (fun _ _ _ _ _ => qts_nil) (fun _ _ _ _ _ => qe_call c_is_at_least (hr.mono (by decide)) hgu takes_no rfl T.g_is_at_least T.F_is_at_least.kp T.b_is_at_least (qa_cons (qe_v 1) (qa_cons (qe_int) (qa_nil))))) (qa_nil))))))
set_option maxHeartbeats 4000000 in
theorem ok_require_calendar (T : Tx K mg A) : FnQ P w K mg base C 5 A.f_require_calendar A.fd_require_calendar ["calendar"] F_require_calendar := by
  have c_is_day := ok_is_day (P := P) (w := w) (base := base) (C := C) T
  refine fq_of T.F_require_calendar sc_require_calendar fun cdv A' outer s H E hr hgu => ?_
  exact qss_cons (qs_if (qt_of (qw_or (qt_not (qt_val (qe_isi2 rfl T.m_isinstance rfl T.m_list (by decide +kernel) rfl T.m_tuple (by decide +kernel) (qe_v 0)))) (qw_or1 (qt_cmp op_gt ok_gt (qe_callB call_len (.of1 ok_len) rfl T.m_len (by decide +kernel) (qa_cons (qe_v 0) (qa_nil))) (qe_gint rfl T.c_MAX_DAYS) rfl)))) (qss_never) (qss_nil)) (qss_one (qs_forget [1, 2] (qs_pre [1, 2] (qs_for (passes_of rfl) rfl (qi_enum rfl T.m_enumerate (qe_v 0)) (qg_tup rfl (qgs_cons (qg_name 1 sc_require_calendar.nd) (qgs_cons (qg_name 2 sc_require_calendar.nd) (qgs_nil))) (hlen := len_cons (len_cons (len_nil)))) (qss_one (qs_forget [1, 2] (qs_if (qt_not (qt_val (qe_call c_is_day (hr.mono (by decide)) hgu (takes_of rfl rfl rfl rfl) rfl T.g_is_day T.F_is_day.kp T.b_is_day (qa_cons (qe_v 2) (qa_cons (qe_bin op_addA ok_add (qe_v 1) (qe_int)) (qa_nil)))))) (qss_never) (qss_nil))))))))
set_option maxHeartbeats 4000000 in
theorem ok_require_row (T : Tx K mg A) : FnQ P w K mg base C 4 A.f_require_row A.fd_require_row ["calendar", "row"] F_require_row := by
  have c_is_at_least := ok_is_at_least (P := P) (w := w) (base := base) (C := C) T
  refine fq_of T.F_require_row sc_require_row fun cdv A' outer s H E hr hgu => ?_
  exact qss_cons (qs_if (qt_of (qw_or (qt_not (qt_val (qe_isi rfl T.m_isinstance rfl T.m_tuple (by decide +kernel) (qe_v 1)))) (qw_or1 (qt_cmp (op_neA hr.units) ok_neA (qe_callB call_len (.of1 ok_len) rfl T.m_len (by decide +kernel) (qa_cons (qe_v 1) (qa_nil))) (qe_callB call_len (.of1 ok_len) rfl T.m_len (by decide +kernel) (qa_cons (qe_v 0) (qa_nil))) rfl)))) (qss_never) (qss_nil)) (qss_one (qs_forget [2, 3] (qs_pre [2, 3] (qs_for (passes_of rfl) rfl (qi_enum rfl T.m_enumerate (qe_v 1)) (qg_tup rfl (qgs_cons (qg_name 2 sc_require_row.nd) (qgs_cons (qg_name 3 sc_require_row.nd) (qgs_nil))) (hlen := len_cons (len_cons (len_nil)))) (qss_one (qs_forget [2, 3] (qs_if (qt_not (qt_val (qe_call c_is_at_least (hr.mono (by decide)) hgu (takes_of rfl rfl rfl rfl) rfl T.g_is_at_least T.F_is_at_least.kp T.b_is_at_least (qa_cons (qe_v 3) (qa_cons (qe_int) (qa_nil)))))) (qss_never) (qss_nil))))))))
set_option maxHeartbeats 4000000 in
theorem ok_away_on (T : Tx K mg A) : FnQ P w K mg base C 2 A.f_away_on A.fd_away_on ["calendar", "numbers", "day"] F_away_on := by
  refine fq_of T.F_away_on sc_away_on fun cdv A' outer s H E hr hgu => ?_
  exact qss_cons (qs_asg (qe_int) (qg_name 3 sc_away_on.nd)) (qss_cons (qs_forget [4, 5, 6] (qs_pre [4, 5, 6] (qs_for (passes_of rfl) rfl (qi_zip rfl T.m_zip (qe_slice (qe_v 0) (qo_none) (qo_some (qe_bin op_sub ok_sub (qe_v 2) (qe_int)))) (qe_v 1)) (qg_tup rfl (qgs_cons (qg_tup rfl (qgs_cons (qg_name 4 sc_away_on.nd) (qgs_cons (qg_name 5 sc_away_on.nd) (qgs_nil))) (hlen := len_cons (len_cons (len_nil)))) (qgs_cons (qg_name 6 sc_away_on.nd) (qgs_nil))) (hlen := len_cons (len_cons (len_nil)))) (qss_one (qs_forget [4, 5, 6] (qs_if (qt_of (qw_or (qt_cmp op_isN ok_isN (qe_v 5) (qe_non) rfl) (qw_or1 (qt_cmp op_gt ok_gt (qe_v 5) (qe_v 2) rfl)))) (qss_one (qs_aug 3 sc_away_on.nd ip_add (qe_v 6))) (qss_nil))))))) (qss_one (qs_ret (qe_v 3))))
set_option maxHeartbeats 4000000 in
theorem ok_first_over (T : Tx K mg A) : FnQ P w K mg base C 3 A.f_first_over A.fd_first_over ["calendar", "numbers"] F_first_over := by
  have c_away_on := ok_away_on (P := P) (w := w) (base := base) (C := C) T
  refine fq_of T.F_first_over sc_first_over fun cdv A' outer s H E hr hgu => ?_
  exact qss_cons (qs_forget [2, 3, 4, 5] (qs_pre [2, 3, 4, 5] (qs_for (passes_of rfl) rfl (qi_enumK rfl T.m_enumerate (qe_v 0) (qe_int)) (qg_tup rfl (qgs_cons (qg_name 2 sc_first_over.nd) (qgs_cons (qg_tup rfl (qgs_cons (qg_name 3 sc_first_over.nd) (qgs_cons (qg_name 4 sc_first_over.nd) (qgs_nil))) (hlen := len_cons (len_cons (len_nil)))) (qgs_nil))) (hlen := len_cons (len_cons (len_nil)))) (qss_cons (qs_asg (qe_if (qt_cmp op_le ok_le (qe_v 2) (qe_callB call_len (.of1 ok_len) rfl T.m_len (by decide +kernel) (qa_cons (qe_v 1) (qa_nil))) rfl) (qe_ix ix_A ok_ix (qe_v 1) (qe_bin op_sub ok_sub (qe_v 2) (qe_int))) (qe_int)) (qg_name 5 sc_first_over.nd)) (qss_one (qs_forget [2, 3, 4, 5] (qs_if (qt_cmp op_gt ok_gt (qe_bin op_addA ok_add (qe_call c_away_on (hr.mono (by decide)) hgu (takes_of rfl rfl rfl rfl) rfl T.g_away_on T.F_away_on.kp T.b_away_on (qa_cons (qe_v 0) (qa_cons (qe_v 1) (qa_cons (qe_v 2) (qa_nil))))) (qe_v 5)) (qe_v 3) rfl) (qss_one (qs_ret (qe_v 2))) (qss_nil)))))))) (qss_one (qs_ret (qe_non)))
set_option maxHeartbeats 4000000 in
theorem ok_with_pieces (T : Tx K mg A) : FnQ P w K mg base C 6 A.f_with_pieces A.fd_with_pieces ["calendar", "first", "last", "pieces"] F_with_pieces := by
  have c_is_between := ok_is_between (P := P) (w := w) (base := base) (C := C) T
  have c_is_integer := ok_is_integer (P := P) (w := w) (base := base) (C := C) T
  have c_require_calendar := ok_require_calendar (P := P) (w := w) (base := base) (C := C) T
  refine fq_of T.F_with_pieces sc_with_pieces fun cdv A' outer s H E hr hgu => ?_
  exact qss_cons (qs_expr (qe_call c_require_calendar (hr.mono (by decide)) hgu (takes_of rfl rfl rfl rfl) rfl T.g_require_calendar T.F_require_calendar.kp T.b_require_calendar (qa_cons (qe_v 0) (qa_nil)))) (qss_cons (qs_if (qt_not (qt_val (qe_call c_is_between (hr.mono (by decide)) hgu (takes_of rfl rfl rfl rfl) rfl T.g_is_between T.F_is_between.kp T.b_is_between (qa_cons (qe_v 1) (qa_cons (qe_int) (qa_cons (qe_callB call_len (.of1 ok_len) rfl T.m_len (by decide +kernel) (qa_cons (qe_v 0) (qa_nil))) (qa_nil))))))) (qss_never) (qss_nil)) (qss_cons (qs_if (qt_not (qt_val (qe_call c_is_between (hr.mono (by decide)) hgu (takes_of rfl rfl rfl rfl) rfl T.g_is_between T.F_is_between.kp T.b_is_between (qa_cons (qe_v 2) (qa_cons (qe_v 1) (qa_cons (qe_callB call_len (.of1 ok_len) rfl T.m_len (by decide +kernel) (qa_cons (qe_v 0) (qa_nil))) (qa_nil))))))) (qss_never) (qss_nil)) (qss_cons (qs_if (qt_not (qt_val (qe_call c_is_integer (hr.mono (by decide)) hgu (takes_of rfl rfl rfl rfl) rfl T.g_is_integer T.F_is_integer.kp T.b_is_integer (qa_cons (qe_v 3) (qa_nil))))) (qss_never) (qss_nil)) (qss_cons (qs_lcO (i := 4) rfl sc_with_pieces.nd rfl rfl (sw_true rfl rfl rfl (by decide +kernel)) (qi_enumK rfl T.m_enumerate (qe_v 0) (qe_int)) (blkOk_by (N := ["calendar", "first", "last", "pieces", "changed", "day", "owned", "back"]) (sc := defScope s_with_pieces) (own := [("day", 5), ("owned", 6), ("back", 7)]) (by decide +kernel)) (fun _ _ _ _ _ => qg_tup rfl (qgs_cons (qg_name 5 sc_with_pieces.nd) (qgs_cons (qg_tup rfl (qgs_cons (qg_name 6 sc_with_pieces.nd) (qgs_cons (qg_name 7 sc_with_pieces.nd) (qgs_nil))) (hlen := len_cons (len_cons (len_nil)))) (qgs_nil))) (hlen := len_cons (len_cons (len_nil)))) (fun _ _ _ _ _ => qts_nil) (fun _ _ _ _ _ => qe_tup (qa_cons (qe_bin op_addA ok_add (qe_v 6) (qe_bin op_mulT ok_mulT (qe_v 3) (qe_callTy (T := "") call_int1 (.of1 ok_int) rfl T.m_int (by decide +kernel) (qa_cons (qe_chain op_le ok_le op_le ok_le (qe_v 1) (qe_v 5) (qe_v 2)) (qa_nil))))) (qa_cons (qe_v 7) (qa_nil))))) (qss_cons (qs_if (qt_not (qt_val (qe_callB (cr_all rfl) (.of1 ok_all) rfl T.m_all (by decide +kernel) (qa_cons (qe_lcW rfl sc_with_pieces.nd (qe_v 4) (blkOk_by (N := ["calendar", "first", "last", "pieces", "changed", "day", "owned", "back"]) (sc := defScope s_with_pieces) (own := [("owned", 6), ("back", 7)]) (by decide +kernel)) (fun _ _ _ _ _ => qg_tup rfl (qgs_cons (qg_name 6 sc_with_pieces.nd) (qgs_cons (qg_name 7 sc_with_pieces.nd) (qgs_nil))) (hlen := len_cons (len_cons (len_nil)))) (fun _ _ _ _ _ => qts_nil) (fun _ _ _ _ _ => qe_chain op_le ok_le op_le ok_le (qe_int) (qe_v 6) (qe_gint rfl T.c_MAX_OWNED)) pure_yes (pure_chain (pure_c _) (pure_v _) (pure_c _))) (qa_nil))))) (qss_never) (qss_nil)) (qss_one (qs_ret (qe_v 4))))))))
set_option maxHeartbeats 4000000 in
theorem ok_first_fault (T : Tx K mg A) : FnQ P w K mg base C 6 A.f_first_fault A.fd_first_fault ["calendar", "row"] F_first_fault := by
  have c_first_over := ok_first_over (P := P) (w := w) (base := base) (C := C) T
  have c_require_calendar := ok_require_calendar (P := P) (w := w) (base := base) (C := C) T
  have c_require_row := ok_require_row (P := P) (w := w) (base := base) (C := C) T
  refine fq_of T.F_first_fault sc_first_fault fun cdv A' outer s H E hr hgu => ?_
  exact qss_cons (qs_expr (qe_call c_require_calendar (hr.mono (by decide)) hgu (takes_of rfl rfl rfl rfl) rfl T.g_require_calendar T.F_require_calendar.kp T.b_require_calendar (qa_cons (qe_v 0) (qa_nil)))) (qss_cons (qs_expr (qe_call c_require_row (hr.mono (by decide)) hgu (takes_of rfl rfl rfl rfl) rfl T.g_require_row T.F_require_row.kp T.b_require_row (qa_cons (qe_v 0) (qa_cons (qe_v 1) (qa_nil))))) (qss_one (qs_ret (qe_call c_first_over (hr.mono (by decide)) hgu (takes_of rfl rfl rfl rfl) rfl T.g_first_over T.F_first_over.kp T.b_first_over (qa_cons (qe_v 0) (qa_cons (qe_v 1) (qa_nil)))))))
set_option maxHeartbeats 4000000 in
theorem ok_least_owned (T : Tx K mg A) : FnQ P w K mg base C 6 A.f_least_owned A.fd_least_owned ["calendar", "rows"] F_least_owned := by
  have c_are_numbers := ok_are_numbers (P := P) (w := w) (base := base) (C := C) T
  have c_away_on := ok_away_on (P := P) (w := w) (base := base) (C := C) T
  have c_require_calendar := ok_require_calendar (P := P) (w := w) (base := base) (C := C) T
  refine fq_of T.F_least_owned sc_least_owned fun cdv A' outer s H E hr hgu => ?_
  exact qss_cons (qs_expr (qe_call c_require_calendar (hr.mono (by decide)) hgu (takes_of rfl rfl rfl rfl) rfl T.g_require_calendar T.F_require_calendar.kp T.b_require_calendar (qa_cons (qe_v 0) (qa_nil)))) (qss_cons (qs_if (qt_not (qt_val (qe_isi2 rfl T.m_isinstance rfl T.m_list (by decide +kernel) rfl T.m_tuple (by decide +kernel) (qe_v 1)))) (qss_never) (qss_nil)) (qss_cons (qs_forget [2, 3] (qs_pre [2, 3] (qs_for (passes_of rfl) rfl (qi_enum rfl T.m_enumerate (qe_v 1)) (qg_tup rfl (qgs_cons (qg_name 2 sc_least_owned.nd) (qgs_cons (qg_name 3 sc_least_owned.nd) (qgs_nil))) (hlen := len_cons (len_cons (len_nil)))) (qss_one (qs_forget [2, 3] (qs_if (qt_of (qw_or (qt_not (qt_val (qe_call c_are_numbers (hr.mono (by decide)) hgu (takes_of rfl rfl rfl rfl) rfl T.g_are_numbers T.F_are_numbers.kp T.b_are_numbers (qa_cons (qe_v 3) (qa_nil))))) (qw_or1 (qt_cmp (op_neA hr.units) ok_neA (qe_callB call_len (.of1 ok_len) rfl T.m_len (by decide +kernel) (qa_cons (qe_v 3) (qa_nil))) (qe_callB call_len (.of1 ok_len) rfl T.m_len (by decide +kernel) (qa_cons (qe_v 0) (qa_nil))) rfl)))) (qss_never) (qss_nil))))))) (qss_cons (qs_asg (qe_lstO (qa_nil)) (qg_name 4 sc_least_owned.nd)) (qss_cons (qs_forget [5] (qs_pre [5] (qs_for (passes_of rfl) rfl (qi_rng2 rfl T.m_range (qa_cons (qe_int) (qa_cons (qe_bin op_addA ok_add (qe_callB call_len (.of1 ok_len) rfl T.m_len (by decide +kernel) (qa_cons (qe_v 0) (qa_nil))) (qe_int)) (qa_nil)))) (qg_name 5 sc_least_owned.nd) (qss_one (qs_forget [5] (qs_expr (qe_meth1 PySem.F.slot_list_append PySem.F.type_list_append mt_append ok_append (qe_v 4) (qe_callB (cr_max rfl) (.of1 ok_max) rfl T.m_max (by decide +kernel) (qa_cons (qe_bin op_addA ok_add (qe_lst (qa_cons (qe_int) (qa_nil))) (qe_lc rfl sc_least_owned.nd (qi_seq (qe_v 1)) (blkOk_by (N := ["calendar", "rows", "index", "row", "found", "day"]) (sc := defScope s_least_owned) (own := [("row", 3)]) (by decide +kernel)) (fun _ _ _ _ _ => qg_name 3 sc_least_owned.nd) (fun _ _ _ _ _ => qts_nil) (fun _ _ _ _ _ => qe_bin op_addA ok_add (qe_call c_away_on (hr.mono (by decide)) hgu takes_no rfl T.g_away_on T.F_away_on.kp T.b_away_on (qa_cons (qe_v 0) (qa_cons (qe_v 3) (qa_cons (qe_v 5) (qa_nil))))) (qe_ix ix_A ok_ix (qe_v 3) (qe_bin op_sub ok_sub (qe_v 5) (qe_int)))))) (qa_nil)))))))))) (qss_one (qs_ret (qe_v 4)))))))
set_option maxHeartbeats 4000000 in
theorem ok_law_mixed (T : Tx K mg A) : FnQ P w K mg base C 2 A.f_law_mixed A.fd_law_mixed ["_law_cell", "_law_draw"] F_law_mixed := by
  refine fq_of T.F_law_mixed sc_law_mixed fun cdv A' outer s H E hr hgu => ?_
  exact qss_cons (qs_asg (qe_bin op_modP ok_mod (qe_bin op_mulT ok_mulT (qe_bin op_addA ok_add (qe_bin op_modP ok_mod (qe_v 0) (qe_int)) (qe_int)) (qe_bin op_addA ok_add (qe_bin op_mulT ok_mulT (qe_v 1) (qe_int)) (qe_int))) (qe_int)) (qg_name 2 sc_law_mixed.nd)) (qss_cons (qs_asg (qe_bin op_modP ok_mod (qe_bin op_mulT ok_mulT (qe_bin op_addA ok_add (qe_v 2) (qe_bin op_mulT ok_mulT (qe_bin op_modP ok_mod (qe_bin op_fdivW ok_fdiv (qe_v 0) (qe_int)) (qe_int)) (qe_bin op_addA ok_add (qe_v 1) (qe_int)))) (qe_int)) (qe_int)) (qg_name 2 sc_law_mixed.nd)) (qss_cons (qs_asg (qe_bin op_modP ok_mod (qe_bin op_mulT ok_mulT (qe_v 2) (qe_bin op_addA ok_add (qe_bin op_addA ok_add (qe_bin op_fdivW ok_fdiv (qe_v 2) (qe_int)) (qe_int)) (qe_v 1))) (qe_int)) (qg_name 2 sc_law_mixed.nd)) (qss_one (qs_ret (qe_bin op_modP ok_mod (qe_bin op_mulT ok_mulT (qe_v 2) (qe_bin op_addA ok_add (qe_bin op_fdivW ok_fdiv (qe_v 2) (qe_int)) (qe_int))) (qe_int))))))
set_option maxHeartbeats 4000000 in
theorem ok_law_source (T : Tx K mg A) : FnQ P w K mg base C 2 A.f_law_source A.fd_law_source ["_law_cell"] F_law_source := by
  refine fq_of T.F_law_source sc_law_source fun cdv A' outer s H E hr hgu => ?_
  exact qss_one (qs_ret (qe_lstO (qa_cons (qe_v 0) (qa_cons (qe_v 0) (qa_cons (qe_int) (qa_nil))))))
set_option maxHeartbeats 4000000 in
theorem ok_law_take (T : Tx K mg A) : FnQ P w K mg base C 3 A.f_law_take A.fd_law_take ["_law_source_here", "_law_count"] F_law_take := by
  have c_law_mixed := ok_law_mixed (P := P) (w := w) (base := base) (C := C) T
  refine fq_of T.F_law_take sc_law_take fun cdv A' outer s H E hr hgu => ?_
  exact qss_cons (qs_if (qt_cmp op_ge ok_ge (qe_ix ix_A ok_ix (qe_v 0) (qe_int)) (qe_bin op_pow ok_pow (qe_int) (qe_int)) rfl) (qss_cons (qs_asg (qe_bin op_modP ok_mod (qe_ix ix_A ok_ix (qe_v 0) (qe_int)) (qe_v 1)) (qg_name 2 sc_law_take.nd)) (qss_cons (qs_setI (qe_bin op_fdivW ok_fdiv (qe_ix ix_A ok_ix (qe_v 0) (qe_int)) (qe_v 1)) (qe_v 0) (qe_int)) (qss_one (qs_ret (qe_v 2))))) (qss_nil)) (qss_cons (qs_setI (qe_bin op_addA ok_add (qe_ix ix_A ok_ix (qe_v 0) (qe_int)) (qe_int)) (qe_v 0) (qe_int)) (qss_one (qs_ret (qe_bin op_modP ok_mod (qe_call c_law_mixed (hr.mono (by decide)) hgu (takes_of rfl rfl rfl rfl) rfl T.g_law_mixed T.F_law_mixed.kp T.b_law_mixed (qa_cons (qe_ix ix_A ok_ix (qe_v 0) (qe_int)) (qa_cons (qe_ix ix_A ok_ix (qe_v 0) (qe_int)) (qa_nil)))) (qe_v 1)))))
set_option maxHeartbeats 4000000 in
theorem ok_law_stock (T : Tx K mg A) : FnQ P w K mg base C 4 A.f_law_stock A.fd_law_stock ["_law_source_here", "_law_most", "_law_high"] F_law_stock := by
  have c_law_take := ok_law_take (P := P) (w := w) (base := base) (C := C) T
  refine fq_of T.F_law_stock sc_law_stock fun cdv A' outer s H E hr hgu => ?_
  exact qss_cons (qs_par2 3 4 rfl sc_law_stock.nd (qa_cons (qe_call c_law_take (hr.mono (by decide)) hgu (takes_of rfl rfl rfl rfl) rfl T.g_law_take T.F_law_take.kp T.b_law_take (qa_cons (qe_v 0) (qa_cons (qe_bin op_addA ok_add (qe_v 1) (qe_int)) (qa_nil)))) (qa_cons (qe_call c_law_take (hr.mono (by decide)) hgu (takes_of rfl rfl rfl rfl) rfl T.g_law_take T.F_law_take.kp T.b_law_take (qa_cons (qe_v 0) (qa_cons (qe_int) (qa_nil)))) (qa_nil)))) (qss_cons (qs_par2 5 6 rfl sc_law_stock.nd (qa_cons (qe_call c_law_take (hr.mono (by decide)) hgu (takes_of rfl rfl rfl rfl) rfl T.g_law_take T.F_law_take.kp T.b_law_take (qa_cons (qe_v 0) (qa_cons (qe_bin op_addA ok_add (qe_v 2) (qe_int)) (qa_nil)))) (qa_cons (qe_call c_law_take (hr.mono (by decide)) hgu (takes_of rfl rfl rfl rfl) rfl T.g_law_take T.F_law_take.kp T.b_law_take (qa_cons (qe_v 0) (qa_cons (qe_int) (qa_nil)))) (qa_nil)))) (qss_cons (qs_asg (qe_lstO (qa_nil)) (qg_name 7 sc_law_stock.nd)) (qss_cons (qs_fz 7 (qs_forget [8, 9, 10] (qs_pre [8, 9, 10] (qs_for (passes_of rfl) rfl (qi_rng1 rfl T.m_range (qa_cons (qe_v 3) (qa_nil))) (qg_name 8 sc_law_stock.nd) (qss_cons (qs_asg (qe_v 5) (qg_name 9 sc_law_stock.nd)) (qss_cons (qs_if (qt_cmp op_in_seq ok_in (qe_v 4) (qe_tup (qa_cons (qe_int) (qa_cons (qe_int) (qa_nil)))) rfl) (qss_one (qs_asg (qe_call c_law_take (hr.mono (by decide)) hgu (takes_of rfl rfl rfl rfl) rfl T.g_law_take T.F_law_take.kp T.b_law_take (qa_cons (qe_v 0) (qa_cons (qe_bin op_addA ok_add (qe_v 2) (qe_int)) (qa_nil)))) (qg_name 9 sc_law_stock.nd))) (qss_nil)) (qss_cons (qs_if (qt_cmp (op_eqA hr.units) ok_eqA (qe_v 4) (qe_int) rfl) (qss_one (qs_asg (qe_callB (call_max2 rfl) (.of2 ok_max2) rfl T.m_max (by decide +kernel) (qa_cons (qe_int) (qa_cons (qe_bin op_sub ok_sub (qe_v 5) (qe_bin op_fdivW ok_fdiv (qe_v 8) (qe_int))) (qa_nil)))) (qg_name 9 sc_law_stock.nd))) (qss_nil)) (qss_cons (qs_asg (qe_bin op_addA ok_add (qe_bin op_addA ok_add (qe_v 8) (qe_int)) (qe_v 6)) (qg_name 10 sc_law_stock.nd)) (qss_cons (qs_if (qt_cmp op_gt ok_gt (qe_v 4) (qe_int) rfl) (qss_one (qs_asg (qe_ix ix_A ok_ix (qe_lst (qa_cons (qe_bin op_addA ok_add (qe_bin op_addA ok_add (qe_v 8) (qe_int)) (qe_call c_law_take (hr.mono (by decide)) hgu (takes_of rfl rfl rfl rfl) rfl T.g_law_take T.F_law_take.kp T.b_law_take (qa_cons (qe_v 0) (qa_cons (qe_int) (qa_nil))))) (qa_cons (qe_bin op_addA ok_add (qe_v 8) (qe_int)) (qa_cons (qe_non) (qa_cons (qe_bin op_addA ok_add (qe_bin op_addA ok_add (qe_v 3) (qe_int)) (qe_call c_law_take (hr.mono (by decide)) hgu (takes_of rfl rfl rfl rfl) rfl T.g_law_take T.F_law_take.kp T.b_law_take (qa_cons (qe_v 0) (qa_cons (qe_int) (qa_nil))))) (qa_nil)))))) (qe_call c_law_take (hr.mono (by decide)) hgu (takes_of rfl rfl rfl rfl) rfl T.g_law_take T.F_law_take.kp T.b_law_take (qa_cons (qe_v 0) (qa_cons (qe_int) (qa_nil))))) (qg_name 10 sc_law_stock.nd))) (qss_nil)) (qss_one (qs_forget [8, 9, 10] (qs_expr (qe_meth1 PySem.F.slot_list_append PySem.F.type_list_append mt_append ok_append (qe_v 7) (qe_tup (qa_cons (qe_v 9) (qa_cons (qe_v 10) (qa_nil))))))))))))))))) (qss_one (qs_ret (qe_v 7))))))
set_option maxHeartbeats 4000000 in
theorem ok_law_gone (T : Tx K mg A) : FnQ P w K mg base C 2 A.f_law_gone A.fd_law_gone ["_law_stock_here", "_law_line", "_law_today"] F_law_gone := by
  refine fq_of T.F_law_gone sc_law_gone fun cdv A' outer s H E hr hgu => ?_
  exact qss_cons (qs_asg (qe_int) (qg_name 3 sc_law_gone.nd)) (qss_cons (qs_forget [4, 5, 6] (qs_pre [4, 5, 6] (qs_for (passes_of rfl) rfl (qi_seq (qe_slice (qe_lzip false rfl rfl T.m_list rfl T.m_zip (qe_v 0) (qe_v 1)) (qo_none) (qo_some (qe_bin op_sub ok_sub (qe_v 2) (qe_int))))) (qg_tup rfl (qgs_cons (qg_tup rfl (qgs_cons (qg_name 4 sc_law_gone.nd) (qgs_cons (qg_name 5 sc_law_gone.nd) (qgs_nil))) (hlen := len_cons (len_cons (len_nil)))) (qgs_cons (qg_name 6 sc_law_gone.nd) (qgs_nil))) (hlen := len_cons (len_cons (len_nil)))) (qss_one (qs_forget [4, 5, 6] (qs_if (qt_of (qw_or (qt_cmp op_isN ok_isN (qe_v 5) (qe_non) rfl) (qw_or1 (qt_cmp op_gt ok_gt (qe_v 5) (qe_v 2) rfl)))) (qss_one (qs_asg (qe_bin op_addA ok_add (qe_v 3) (qe_v 6)) (qg_name 3 sc_law_gone.nd))) (qss_nil))))))) (qss_one (qs_ret (qe_v 3))))
set_option maxHeartbeats 4000000 in
theorem ok_law_added_right (T : Tx K mg A) : FnQ P w K mg base C 7 A.f_law_added_right A.fd_law_added_right ["_law_source_here", "_law_stock_here"] F_law_added_right := by
  have c_law_take := ok_law_take (P := P) (w := w) (base := base) (C := C) T
  have c_with_pieces := ok_with_pieces (P := P) (w := w) (base := base) (C := C) T
  refine fq_of T.F_law_added_right sc_law_added_right fun cdv A' outer s H E hr hgu => ?_
  exact qss_cons (qs_asg (qe_bin op_addA ok_add (qe_int) (qe_call c_law_take (hr.mono (by decide)) hgu (takes_of rfl rfl rfl rfl) rfl T.g_law_take T.F_law_take.kp T.b_law_take (qa_cons (qe_v 0) (qa_cons (qe_callB call_len (.of1 ok_len) rfl T.m_len (by decide +kernel) (qa_cons (qe_v 1) (qa_nil))) (qa_nil))))) (qg_name 2 sc_law_added_right.nd)) (qss_cons (qs_asg (qe_bin op_addA ok_add (qe_v 2) (qe_call c_law_take (hr.mono (by decide)) hgu (takes_of rfl rfl rfl rfl) rfl T.g_law_take T.F_law_take.kp T.b_law_take (qa_cons (qe_v 0) (qa_cons (qe_bin op_addA ok_add (qe_bin op_sub ok_sub (qe_callB call_len (.of1 ok_len) rfl T.m_len (by decide +kernel) (qa_cons (qe_v 1) (qa_nil))) (qe_v 2)) (qe_int)) (qa_nil))))) (qg_name 3 sc_law_added_right.nd)) (qss_cons (qs_lc (i := 4) rfl sc_law_added_right.nd rfl rfl (sw_true rfl rfl rfl (by decide +kernel)) (qi_seq (qe_slice (qe_v 1) (qo_some (qe_bin op_sub ok_sub (qe_v 2) (qe_int))) (qo_some (qe_v 3)))) (blkOk_by (N := ["_law_source_here", "_law_stock_here", "_law_begin", "_law_end", "_law_some", "_law_change", "_law_due", "_law_at", "_law_owned_here", "_law_later", "_law_turn", "_law_found"]) (sc := defScope s_law_added_right) (own := [("_law_owned_here", 8), ("_law_later", 9)]) (by decide +kernel)) (fun _ _ _ _ _ => qg_tup rfl (qgs_cons (qg_name 8 sc_law_added_right.nd) (qgs_cons (qg_name 9 sc_law_added_right.nd) (qgs_nil))) (hlen := len_cons (len_cons (len_nil)))) (fun _ _ _ _ _ => qts_nil) (fun _ _ _ _ _ => qe_v 8)) (qss_cons (qs_asg (qe_bin op_sub ok_sub (qe_call c_law_take (hr.mono (by decide)) hgu (takes_of rfl rfl rfl rfl) rfl T.g_law_take T.F_law_take.kp T.b_law_take (qa_cons (qe_v 0) (qa_cons (qe_bin op_addA ok_add (qe_bin op_sub ok_sub (qe_int) (qe_callB (cr_max rfl) (.of1 ok_max) rfl T.m_max (by decide +kernel) (qa_cons (qe_v 4) (qa_nil)))) (qe_callB (cr_min rfl) (.of1 ok_min) rfl T.m_min (by decide +kernel) (qa_cons (qe_v 4) (qa_nil)))) (qa_nil)))) (qe_callB (cr_min rfl) (.of1 ok_min) rfl T.m_min (by decide +kernel) (qa_cons (qe_v 4) (qa_nil)))) (qg_name 5 sc_law_added_right.nd)) (qss_cons (qs_asg (qe_lstO (qa_nil)) (qg_name 6 sc_law_added_right.nd)) (qss_cons (qs_fz 6 (qs_forget [7, 8, 9] (qs_pre [7, 8, 9] (qs_for (passes_of rfl) rfl (qi_enum rfl T.m_enumerate (qe_v 1)) (qg_tup rfl (qgs_cons (qg_name 7 sc_law_added_right.nd) (qgs_cons (qg_tup rfl (qgs_cons (qg_name 8 sc_law_added_right.nd) (qgs_cons (qg_name 9 sc_law_added_right.nd) (qgs_nil))) (hlen := len_cons (len_cons (len_nil)))) (qgs_nil))) (hlen := len_cons (len_cons (len_nil)))) (qss_one (qs_forget [7, 8, 9] (qs_expr (qe_meth1 PySem.F.slot_list_append PySem.F.type_list_append mt_append ok_append (qe_v 6) (qe_tup (qa_cons (qe_bin op_addA ok_add (qe_v 8) (qe_bin op_mulT ok_mulT (qe_v 5) (qe_callTy (T := "") call_int1 (.of1 ok_int) rfl T.m_int (by decide +kernel) (qa_cons (qe_chain op_le ok_le op_le ok_le (qe_v 2) (qe_bin op_addA ok_add (qe_v 7) (qe_int)) (qe_v 3)) (qa_nil))))) (qa_cons (qe_v 9) (qa_nil)))))))))))) (qss_cons (qs_forget [10, 11] (qs_pre [10, 11] (qs_for (passes_of rfl) rfl (qi_rng1 rfl T.m_range (qa_cons (qe_int) (qa_nil))) (qg_name 10 sc_law_added_right.nd) (qss_scope (qss_cons (qs_asg (qe_call c_with_pieces (hr.mono (by decide)) hgu (takes_of rfl rfl rfl rfl) rfl T.g_with_pieces T.F_with_pieces.kp T.b_with_pieces (qa_cons (qe_v 1) (qa_cons (qe_v 2) (qa_cons (qe_v 3) (qa_cons (qe_v 5) (qa_nil)))))) (qg_name 11 sc_law_added_right.nd)) (qss_cons (qs_if (qt_of (qw_or (qt_cmp (op_neA hr.units) ok_neA (qe_v 11) (qe_v 6) rfl) (qw_or1 (qt_not (qt_val (qe_isi rfl T.m_isinstance rfl T.m_list (by decide +kernel) (qe_v 11))))))) (qss_one (qs_ret (qe_bl))) (qss_nil)) (qss_one (qs_forget [10, 11] (qs_expr (qe_meth1 PySem.F.slot_list_append PySem.F.type_list_append mt_append ok_append (qe_v 11) (qe_non))))))))))) (qss_one (qs_ret (qe_cmp (op_eqA hr.units) ok_eqA (qe_callK0 c_with_pieces (hr.mono (by decide)) hgu (takes_of rfl rfl rfl rfl) rfl T.g_with_pieces T.F_with_pieces.kp T.k_with_pieces_pieces_last_first_calendar (qk_cons (qe_v 5) (qk_cons (qe_v 3) (qk_cons (qe_v 2) (qk_cons (qe_callTy (T := "") call_tuple_of (.of1 ok_tuple) rfl T.m_tuple (by decide +kernel) (qa_cons (qe_v 1) (qa_nil))) (qk_nil))))) (gCons_len (gCons_len (gCons_len (gCons_len (fun _ _ _ _ h => gNil_len h)))))) (qe_v 6) rfl)))))))))
set_option maxHeartbeats 4000000 in
theorem ok_law_least_right (T : Tx K mg A) : FnQ P w K mg base C 7 A.f_law_least_right A.fd_law_least_right ["_law_source_here", "_law_stock_here"] F_law_least_right := by
  have c_law_gone := ok_law_gone (P := P) (w := w) (base := base) (C := C) T
  have c_law_take := ok_law_take (P := P) (w := w) (base := base) (C := C) T
  have c_first_fault := ok_first_fault (P := P) (w := w) (base := base) (C := C) T
  have c_least_owned := ok_least_owned (P := P) (w := w) (base := base) (C := C) T
  refine fq_of T.F_law_least_right sc_law_least_right fun cdv A' outer s H E hr hgu => ?_
  exact qss_cons (qs_asg (qe_ix ix_A ok_ix (qe_lst (qa_cons (qe_int) (qa_cons (qe_int) (qa_cons (qe_bin op_pow ok_pow (qe_int) (qe_int)) (qa_nil))))) (qe_call c_law_take (hr.mono (by decide)) hgu (takes_of rfl rfl rfl rfl) rfl T.g_law_take T.F_law_take.kp T.b_law_take (qa_cons (qe_v 0) (qa_cons (qe_int) (qa_nil))))) (qg_name 2 sc_law_least_right.nd)) (qss_cons (qs_lc (i := 3) rfl sc_law_least_right.nd rfl rfl (sw_true rfl rfl rfl (by decide +kernel)) (qi_rng1 rfl T.m_range (qa_cons (qe_call c_law_take (hr.mono (by decide)) hgu (takes_of rfl rfl rfl rfl) rfl T.g_law_take T.F_law_take.kp T.b_law_take (qa_cons (qe_v 0) (qa_cons (qe_int) (qa_nil)))) (qa_nil))) (blkOk_by (N := ["_law_source_here", "_law_stock_here", "_law_high", "_law_lines", "_law_due", "_law_at", "_law_found", "_law_enough", "_law_amount", "_law_later", "_law_fewer", "_law_turn", "_law_owned_here", "_law_line", "_law_entry"]) (sc := defScope s_law_least_right) (own := [("_law_turn", 11)]) (by decide +kernel)) (fun _ _ _ _ _ => qg_name 11 sc_law_least_right.nd) (fun _ _ _ _ _ => qts_nil) (fun _ _ _ _ _ => qe_callTy (T := "") call_tuple_of (.of1 ok_tuple) rfl T.m_tuple (by decide +kernel) (qa_cons (qe_lc rfl sc_law_least_right.nd (qi_seq (qe_v 1)) (blkOk_by (N := ["_law_source_here", "_law_stock_here", "_law_high", "_law_lines", "_law_due", "_law_at", "_law_found", "_law_enough", "_law_amount", "_law_later", "_law_fewer", "_law_turn", "_law_owned_here", "_law_line", "_law_entry"]) (sc := relS _ (defScope s_law_least_right)) (own := [("_law_entry", 14)]) (by decide +kernel)) (fun _ _ _ _ _ => qg_name 14 sc_law_least_right.nd) (fun _ _ _ _ _ => qts_nil) (fun _ _ _ _ _ => qe_call c_law_take (hr.mono (by decide)) hgu takes_no rfl T.g_law_take T.F_law_take.kp T.b_law_take (qa_cons (qe_v 0) (qa_cons (qe_v 2) (qa_nil))))) (qa_nil)))) (qss_cons (qs_asg (qe_lstO (qa_nil)) (qg_name 4 sc_law_least_right.nd)) (qss_cons (qs_fz 4 (qs_forget [5] (qs_pre [5] (qs_for (passes_of rfl) rfl (qi_rng1 rfl T.m_range (qa_cons (qe_callB call_len (.of1 ok_len) rfl T.m_len (by decide +kernel) (qa_cons (qe_v 1) (qa_nil))) (qa_nil))) (qg_name 5 sc_law_least_right.nd) (qss_one (qs_forget [5] (qs_expr (qe_meth1 PySem.F.slot_list_append PySem.F.type_list_append mt_append ok_append (qe_v 4) (qe_callB (cr_max rfl) (.of1 ok_max) rfl T.m_max (by decide +kernel) (qa_cons (qe_bin op_addA ok_add (qe_lst (qa_cons (qe_int) (qa_nil))) (qe_lc rfl sc_law_least_right.nd (qi_seq (qe_v 3)) (blkOk_by (N := ["_law_source_here", "_law_stock_here", "_law_high", "_law_lines", "_law_due", "_law_at", "_law_found", "_law_enough", "_law_amount", "_law_later", "_law_fewer", "_law_turn", "_law_owned_here", "_law_line", "_law_entry"]) (sc := defScope s_law_least_right) (own := [("_law_line", 13)]) (by decide +kernel)) (fun _ _ _ _ _ => qg_name 13 sc_law_least_right.nd) (fun _ _ _ _ _ => qts_nil) (fun _ _ _ _ _ => qe_bin op_addA ok_add (qe_call c_law_gone (hr.mono (by decide)) hgu takes_no rfl T.g_law_gone T.F_law_gone.kp T.b_law_gone (qa_cons (qe_v 1) (qa_cons (qe_v 13) (qa_cons (qe_bin op_addA ok_add (qe_v 5) (qe_int)) (qa_nil))))) (qe_ix ix_A ok_ix (qe_v 13) (qe_v 5))))) (qa_nil))))))))))) (qss_cons (qs_asg (qe_call c_least_owned (hr.mono (by decide)) hgu (takes_of rfl rfl rfl rfl) rfl T.g_least_owned T.F_least_owned.kp T.b_least_owned (qa_cons (qe_v 1) (qa_cons (qe_v 3) (qa_nil)))) (qg_name 6 sc_law_least_right.nd)) (qss_cons (qs_if (qt_of (qw_or (qt_cmp (op_neA hr.units) ok_neA (qe_v 6) (qe_v 4) rfl) (qw_or1 (qt_not (qt_val (qe_isi rfl T.m_isinstance rfl T.m_list (by decide +kernel) (qe_v 6))))))) (qss_one (qs_ret (qe_bl))) (qss_nil)) (qss_cons (qs_expr (qe_meth1 PySem.F.slot_list_append PySem.F.type_list_append mt_append ok_append (qe_v 6) (qe_non))) (qss_cons (qs_if (qt_cmp (op_neA hr.units) ok_neA (qe_callK0 c_least_owned (hr.mono (by decide)) hgu (takes_of rfl rfl rfl rfl) rfl T.g_least_owned T.F_least_owned.kp T.k_least_owned_rows_calendar (qk_cons (qe_callTy (T := "") call_tuple_of (.of1 ok_tuple) rfl T.m_tuple (by decide +kernel) (qa_cons (qe_v 3) (qa_nil))) (qk_cons (qe_callTy (T := "") call_tuple_of (.of1 ok_tuple) rfl T.m_tuple (by decide +kernel) (qa_cons (qe_v 1) (qa_nil))) (qk_nil))) (gCons_len (gCons_len (fun _ _ _ _ h => gNil_len h)))) (qe_v 4) rfl) (qss_one (qs_ret (qe_bl))) (qss_nil)) (qss_cons (qs_if (qt_cmp op_gt ok_gt (qe_callB (cr_max rfl) (.of1 ok_max) rfl T.m_max (by decide +kernel) (qa_cons (qe_v 4) (qa_nil))) (qe_int) rfl) (qss_one (qs_ret (qe_bl))) (qss_nil)) (qss_cons (qs_asg (qe_lc rfl sc_law_least_right.nd (qi_zip rfl T.m_zip (qe_v 4) (qe_v 1)) (blkOk_by (N := ["_law_source_here", "_law_stock_here", "_law_high", "_law_lines", "_law_due", "_law_at", "_law_found", "_law_enough", "_law_amount", "_law_later", "_law_fewer", "_law_turn", "_law_owned_here", "_law_line", "_law_entry"]) (sc := defScope s_law_least_right) (own := [("_law_amount", 8), ("_law_owned_here", 12), ("_law_later", 9)]) (by decide +kernel)) (fun _ _ _ _ _ => qg_tup rfl (qgs_cons (qg_name 8 sc_law_least_right.nd) (qgs_cons (qg_tup rfl (qgs_cons (qg_name 12 sc_law_least_right.nd) (qgs_cons (qg_name 9 sc_law_least_right.nd) (qgs_nil))) (hlen := len_cons (len_cons (len_nil)))) (qgs_nil))) (hlen := len_cons (len_cons (len_nil)))) (fun _ _ _ _ _ => qts_nil) (fun _ _ _ _ _ => qe_tup (qa_cons (qe_v 8) (qa_cons (qe_v 9) (qa_nil))))) (qg_name 7 sc_law_least_right.nd)) (qss_cons (qs_if (qt_cmp (op_neA hr.units) ok_neA (qe_lc rfl sc_law_least_right.nd (qi_seq (qe_v 3)) (blkOk_by (N := ["_law_source_here", "_law_stock_here", "_law_high", "_law_lines", "_law_due", "_law_at", "_law_found", "_law_enough", "_law_amount", "_law_later", "_law_fewer", "_law_turn", "_law_owned_here", "_law_line", "_law_entry"]) (sc := defScope s_law_least_right) (own := [("_law_line", 13)]) (by decide +kernel)) (fun _ _ _ _ _ => qg_name 13 sc_law_least_right.nd) (fun _ _ _ _ _ => qts_one (qt_cmp op_notN ok_notN (qe_call c_first_fault (hr.mono (by decide)) hgu takes_no rfl T.g_first_fault T.F_first_fault.kp T.b_first_fault (qa_cons (qe_v 7) (qa_cons (qe_v 13) (qa_nil)))) (qe_non) rfl)) (fun _ _ _ _ _ => qe_v 13)) (qe_lst (qa_nil)) rfl) (qss_one (qs_ret (qe_bl))) (qss_nil)) (qss_cons (qs_forget [5, 8, 9, 10] (qs_pre [5, 8, 9, 10] (qs_for (passes_of rfl) rfl (qi_enum rfl T.m_enumerate (qe_v 7)) (qg_tup rfl (qgs_cons (qg_name 5 sc_law_least_right.nd) (qgs_cons (qg_tup rfl (qgs_cons (qg_name 8 sc_law_least_right.nd) (qgs_cons (qg_name 9 sc_law_least_right.nd) (qgs_nil))) (hlen := len_cons (len_cons (len_nil)))) (qgs_nil))) (hlen := len_cons (len_cons (len_nil)))) (qss_one (qs_forget [5, 8, 9, 10] (qs_if (qt_cmp op_gt ok_gt (qe_v 8) (qe_int) rfl) (qss_cons (qs_asg (qe_bin op_addA ok_add (qe_bin op_addA ok_add (qe_slice (qe_v 7) (qo_none) (qo_some (qe_v 5))) (qe_lst (qa_cons (qe_tup (qa_cons (qe_bin op_sub ok_sub (qe_v 8) (qe_int)) (qa_cons (qe_v 9) (qa_nil)))) (qa_nil)))) (qe_slice (qe_v 7) (qo_some (qe_bin op_addA ok_add (qe_v 5) (qe_int))) (qo_none))) (qg_name 10 sc_law_least_right.nd)) (qss_one (qs_if (qt_cmp (op_eqA hr.units) ok_eqA (qe_lc rfl sc_law_least_right.nd (qi_seq (qe_v 3)) (blkOk_by (N := ["_law_source_here", "_law_stock_here", "_law_high", "_law_lines", "_law_due", "_law_at", "_law_found", "_law_enough", "_law_amount", "_law_later", "_law_fewer", "_law_turn", "_law_owned_here", "_law_line", "_law_entry"]) (sc := defScope s_law_least_right) (own := [("_law_line", 13)]) (by decide +kernel)) (fun _ _ _ _ _ => qg_name 13 sc_law_least_right.nd) (fun _ _ _ _ _ => qts_one (qt_cmp (op_eqA hr.units) ok_eqA (qe_call c_first_fault (hr.mono (by decide)) hgu takes_no rfl T.g_first_fault T.F_first_fault.kp T.b_first_fault (qa_cons (qe_v 10) (qa_cons (qe_v 13) (qa_nil)))) (qe_bin op_addA ok_add (qe_v 5) (qe_int)) rfl)) (fun _ _ _ _ _ => qe_v 13)) (qe_lst (qa_nil)) rfl) (qss_one (qs_ret (qe_bl))) (qss_nil)))) (qss_nil))))))) (qss_one (qs_ret (qe_bl))))))))))))))
set_option maxHeartbeats 4000000 in
theorem ok_law (T : Tx K mg A) : FnQ P w K mg base C 8 A.f_law A.fd_law ["_law_script"] F_law := by
  have c_law_added_right := ok_law_added_right (P := P) (w := w) (base := base) (C := C) T
  have c_law_least_right := ok_law_least_right (P := P) (w := w) (base := base) (C := C) T
  have c_law_source := ok_law_source (P := P) (w := w) (base := base) (C := C) T
  have c_law_stock := ok_law_stock (P := P) (w := w) (base := base) (C := C) T
  have c_law_take := ok_law_take (P := P) (w := w) (base := base) (C := C) T
  refine fq_of T.F_law sc_law fun cdv A' outer s H E hr hgu => ?_
  exact qss_cons (qs_forget [1, 2, 3, 4] (qs_pre [1, 2, 3, 4] (qs_for (passes_of rfl) rfl (qi_seq (qe_slice (qe_bin op_addA ok_add (qe_v 0) (qe_lst (qa_cons (qe_int) (qa_nil)))) (qo_none) (qo_some (qe_int)))) (qg_name 1 sc_law.nd) (qss_scope (qss_cons (qs_asg (qe_call c_law_source (hr.mono (by decide)) hgu (takes_of rfl rfl rfl rfl) rfl T.g_law_source T.F_law_source.kp T.b_law_source (qa_cons (qe_v 1) (qa_nil))) (qg_name 2 sc_law.nd)) (qss_cons (qs_asg (qe_bin op_addA ok_add (qe_call c_law_stock (hr.mono (by decide)) hgu (takes_of rfl rfl rfl rfl) rfl T.g_law_stock T.F_law_stock.kp T.b_law_stock (qa_cons (qe_v 2) (qa_cons (qe_int) (qa_cons (qe_int) (qa_nil))))) (qe_lst (qa_cons (qe_tup (qa_cons (qe_call c_law_take (hr.mono (by decide)) hgu (takes_of rfl rfl rfl rfl) rfl T.g_law_take T.F_law_take.kp T.b_law_take (qa_cons (qe_v 2) (qa_cons (qe_int) (qa_nil)))) (qa_cons (qe_non) (qa_nil)))) (qa_nil)))) (qg_name 3 sc_law.nd)) (qss_one (qs_forget [1, 2, 3, 4] (qs_forget [4] (qs_pre [4] (qs_for (passes_of rfl) rfl (qi_rng1 rfl T.m_range (qa_cons (qe_int) (qa_nil))) (qg_name 4 sc_law.nd) (qss_one (qs_forget [4] (qs_if (qt_of (qw_or (qt_not (qt_val (qe_call c_law_added_right (hr.mono (by decide)) hgu (takes_of rfl rfl rfl rfl) rfl T.g_law_added_right T.F_law_added_right.kp T.b_law_added_right (qa_cons (qe_v 2) (qa_cons (qe_v 3) (qa_nil)))))) (qw_or1 (qt_not (qt_val (qe_call c_law_least_right (hr.mono (by decide)) hgu (takes_of rfl rfl rfl rfl) rfl T.g_law_least_right T.F_law_least_right.kp T.b_law_least_right (qa_cons (qe_v 2) (qa_cons (qe_v 3) (qa_nil))))))))) (qss_one (qs_ret (qe_bl))) (qss_nil))))))))))))))) (qss_one (qs_ret (qe_bl)))
end
end My

set_option Elab.async false
set_option linter.all false
set_option maxRecDepth 100000
set_option maxHeartbeats 4000000
namespace My
open PySem PySem.Spec PyProof.Rows L2 Bk
/-! ### the law's draws -/
def mixI (b c : Int) : Int :=
  let f := (b % 2147483646 + 1) * (c * 7919 + 104729) % 2147483647
  let f := (f + b / 2147483646 % 1000003 * (c + 31)) * 48271 % 2147483629
  let f := f * (f / 1013 + 69621 + c) % 2147483587
  f * (f / 2003 + 40692) % 2147483563
theorem fd_small {i j : Int} (h0 : 0 < j) (h : j < 2 ^ 62) : fdivOk i j = true := by
  have a : j.natAbs < 2 ^ 62 := by omega
  have b : j.natAbs.log2 < 62 := by
    by_cases z : j.natAbs = 0
    · omega
    · exact (Nat.log2_lt z).mpr a
  simp [fdivOk, h0]
  omega
theorem m_mixed (b c : Int) : F_law_mixed [.int b, .int c] [] = .ok (.int (mixI b c)) [] := by
  have r1 : ∀ x : Int, mulOk x 7919 = true := fun x => mulOk_r x (by decide) (by decide)
  have r2 : ∀ x : Int, mulOk x 48271 = true := fun x => mulOk_r x (by decide) (by decide)
  have r3 : ∀ x y : Int, mulOk (x % 2147483646 + 1) y = true := fun x y => mulOk_m1 x y (by decide) (by decide)
  have r4 : ∀ x y : Int, mulOk (x % 1000003) y = true := fun x y => mulOk_m x y (by decide) (by decide)
  have r5 : ∀ x y : Int, mulOk (x % 2147483629) y = true := fun x y => mulOk_m x y (by decide) (by decide)
  have r6 : ∀ x y : Int, mulOk (x % 2147483587) y = true := fun x y => mulOk_m x y (by decide) (by decide)
  have d1 : ∀ x : Int, fdivOk x 2147483646 = true := fun x => fd_small (by decide) (by decide)
  have d2 : ∀ x : Int, fdivOk x 1013 = true := fun x => fd_small (by decide) (by decide)
  have d3 : ∀ x : Int, fdivOk x 2003 = true := fun x => fd_small (by decide) (by decide)
  simp [F_law_mixed, b_law_mixed, runF, e_mul, r1, r2, r3, r4, r5, r6, d1, d2, d3, fin, cutOk, retR, below]
  rfl
theorem mix_pos (b c : Int) : 0 ≤ mixI b c := Int.emod_nonneg _ (by decide)
theorem m_source (v : Int) : F_law_source [.int v] [] = .ok (.ref 0) [.lst [.int v, .int v, .int 0]] := by
  simp [F_law_source, b_law_source, runF, fin, cutOk, retR, belows, below]
/-- a source: what is left of the number, the number, how often it was drawn anew -/
abbrev Src3 := Int × Int × Int
def srcO (s : Src3) : MO := .lst [.int s.1, .int s.2.1, .int s.2.2]
@[simp] theorem srcO_bl (m : Nat) (s : Src3) : belowO m (srcO s) = true := rfl
def tk (s : Src3) (n : Int) : Int := if 1000000000000000000 ≤ s.1 then s.1 % n else mixI s.2.1 (s.2.2 + 1) % n
def tn (s : Src3) (n : Int) : Src3 := if 1000000000000000000 ≤ s.1 then (s.1 / n, s.2.1, s.2.2) else (s.1, s.2.1, s.2.2 + 1)
theorem m_take (s : Src3) {n : Int} (h0 : 0 < n) (h : n < 2 ^ 62) : F_law_take [.ref 0, .int n] [srcO s] = .ok (.int (tk s n)) [srcO (tn s n)] := by
  have d := fun i => fd_small (i := i) h0 h
  have p : powOk 10 18 = true := by decide
  have c : callF F_law_mixed [.int s.2.1, .int (s.2.2 + 1)] [.lst [.int s.1, .int s.2.1, .int (s.2.2 + 1)]] = .ok (.int (mixI s.2.1 (s.2.2 + 1))) [.lst [.int s.1, .int s.2.1, .int (s.2.2 + 1)]] := by
    simp [callF, lendK, getAll, flatArgs, below, lentOk, lendA, m_mixed, backD, setAll]
  have e : (10 : Int) ^ (18 : Int).toNat = 10 ^ 18 := rfl
  simp only [tk, tn]
  by_cases q : (1000000000000000000 : Int) ≤ s.1
  · simp [F_law_take, b_law_take, runF, srcO, listD, setR, ixN, p, d, h0, fin, cutOk, retR, below, belowO, belows, q, e]
  · simp [F_law_take, b_law_take, runF, srcO, listD, setR, ixN, p, d, h0, fin, cutOk, retR, below, belowO, belows, q, c, e]
theorem tk_lo (s : Src3) {n : Int} (h : 0 < n) : 0 ≤ tk s n := by
  unfold tk
  split <;> exact Int.emod_nonneg _ (by omega)
theorem tk_hi (s : Src3) {n : Int} (h : 0 < n) : tk s n < n := by
  unfold tk
  split <;> exact Int.emod_lt_of_pos _ h
/-- a draw from a source that is ours -/
theorem c_take {k : Nat} {M : List MO} {s : Src3} {n : Int} (hk : M[k]? = some (srcO s)) (h0 : 0 < n) (h : n < 2 ^ 62) : callF F_law_take [.ref k, .int n] M = .ok (.int (tk s n)) (M.set k (srcO (tn s n))) := by
  have e : lentOk [srcO s] = true := rfl
  have e2 : ∀ t : Src3, belowO 0 (srcO t) = true := fun t => rfl
  simp [callF, lendK, getAll, flatArgs, below, hk, e, e2, lendA, m_take s h0 h, backD, setAll]
theorem c_source (v : Int) (M : List MO) : callF F_law_source [.int v] M = .ok (.ref M.length) (M ++ [srcO (v, v, 0)]) := by
  simp [callF, lendK, getAll, flatArgs, below, lentOk, lendA, m_source, backD, setAll, srcO, belowO, belows]
end My

set_option Elab.async false
set_option linter.all false
set_option maxRecDepth 100000
set_option maxHeartbeats 4000000
namespace My
open PySem PySem.Spec PyProof.Rows L2 Bk
/-! ### numbers -/
theorem m_isint (i : Int) : F_is_integer [.int i] [] = .ok (.bl true) [] := by
  simp [F_is_integer, b_is_integer, runF]
theorem m_atleast (i lo : Int) : F_is_at_least [.int i, .int lo] [] = .ok (.bl (decide (lo ≤ i))) [] := by
  have c := fun M => c_flat (m_isint i) M (by simp) (by simp)
  simp [F_is_at_least, b_is_at_least, runF, c]
theorem m_between (i lo hi : Int) : F_is_between [.int i, .int lo, .int hi] [] = .ok (.bl (decide (lo ≤ i ∧ i ≤ hi))) [] := by
  have c := fun M => c_flat (m_isint i) M (by simp) (by simp)
  by_cases h : lo ≤ i
  · by_cases h' : i ≤ hi <;> simp [F_is_between, b_is_between, runF, c, h, h']
  · simp [F_is_between, b_is_between, runF, c, h]
theorem c_between (i lo hi : Int) (M : List MO) : callF F_is_between [.int i, .int lo, .int hi] M = .ok (.bl (decide (lo ≤ i ∧ i ≤ hi))) M := c_flat (m_between i lo hi) M (by simp) (by simp)
theorem c_atleast (i lo : Int) (M : List MO) : callF F_is_at_least [.int i, .int lo] M = .ok (.bl (decide (lo ≤ i))) M := c_flat (m_atleast i lo) M (by simp) (by simp)
end My

set_option Elab.async false
set_option linter.all false
set_option maxRecDepth 100000
set_option maxHeartbeats 4000000
namespace My
open PySem PySem.Spec PyProof.Rows L2 Bk
/-! ### the drawn calendar -/
theorem t_0 (s : Src3) (n : Int) (R : List MO) (h0 : 0 < n) (h : n < 4611686018427387904) : callF F_law_take [.ref 0, .int n] (srcO s :: R) = .ok (.int (tk s n)) (srcO (tn s n) :: R) := by
  rw [c_take (k := 0) (s := s) rfl h0 (by omega)]
  rfl
theorem backD_any {ks : List Nat} {n : Nat} {d : D} (h : below 0 d = true) : backD ks n d = some d := by
  cases d with
  | ref k => simp [below] at h
  | _ => simp [backD, h]
theorem c_lend1 {F : List D → List MO → Bk.R D} {ds : List D} {d : D} {o o' : MO} {k : Nat} {M : List MO} (h : F (.ref 0 :: ds) [o] = .ok d [o']) (hk : M[k]? = some o) (ho : isDead o = false) (hb : belowO 0 o = true) (hb' : belowO 0 o' = true) (ha : belows 0 ds = true) (hd : below 0 d = true) : callF F (.ref k :: ds) M = .ok d (M.set k o') := by
  have l1 := lendK_nil ha
  have l2 : lendA 1 ds = ds := lendA_nil ha
  have l3 := flatArgs_of ha
  simp [callF, lendK, l1, l2, l3, getAll, hk, flatArgs, lentOk, ho, hb, lendA, h, hb', backD_any hd, setAll]
/-- a list of draws -/
theorem lc_draws {gg : GG} {ge : GE} {Γ : Bk.Env} {R : List MO} {P : D → D → Prop} : ∀ (ds acc : List D) (s : Src3), acc.length + ds.length ≤ sizeLine → (∀ d ∈ ds, ∀ s : Src3, ∃ Γ1 e s2, gg d Γ = some Γ1 ∧ ge Γ1 (srcO s :: R) = .ok e (srcO s2 :: R) ∧ P d e) →
    ∃ (es : List D) (s' : Src3), gLcL gg gYes ge Γ ds acc (srcO s :: R) = .ok (acc ++ es) (srcO s' :: R) ∧ es.length = ds.length ∧ ∀ (i : Nat) d e, ds[i]? = some d → es[i]? = some e → P d e
  | [], acc, s, _, _ => ⟨[], s, by simp [gLcL], rfl, by simp⟩
  | d :: ds, acc, s, h, hf => by
    obtain ⟨Γ1, e, s2, h1, h2, h3⟩ := hf d (by simp) s
    simp only [List.length_cons] at h
    obtain ⟨es, s', e', l', p'⟩ := lc_draws (gg := gg) (ge := ge) (Γ := Γ) (R := R) (P := P) ds (acc ++ [e]) s2 (by simp; omega) fun x hx => hf x (by simp [hx])
    have q : acc.length < sizeLine := by omega
    refine ⟨e :: es, s', ?_, by simp [l'], fun i x y hx hy => ?_⟩
    · simp [gLcL, h1, h2, q, e']
    · cases i with
      | zero =>
        have a : d = x := by simpa using hx
        have b : e = y := by simpa using hy
        rw [← a, ← b]
        exact h3
      | succ i => exact p' i x y (by simpa using hx) (by simpa using hy)
theorem tri_ix {a b c i : Int} (h0 : 0 ≤ i) (h3 : i < 3) : ∃ v : Int, atI [D.int a, .int b, .int c] i = some (.int v) ∧ (v = a ∨ v = b ∨ v = c) := by
  obtain rfl | rfl | rfl : i = 0 ∨ i = 1 ∨ i = 2 := by omega
  · exact ⟨a, by simp, by simp⟩
  · exact ⟨b, by simp, by simp⟩
  · exact ⟨c, by simp, by simp⟩
/-- a wide calendar -/
theorem ints_of : ∀ (es : List D), (∀ (i : Nat) e, es[i]? = some e → ∃ v : Int, e = .int v ∧ 0 ≤ v) → ∃ vs : List Int, es = vs.map D.int ∧ ∀ v ∈ vs, 0 ≤ v
  | [], _ => ⟨[], rfl, by simp⟩
  | e :: es, h => by
    obtain ⟨v, hv, h0⟩ := h 0 e rfl
    obtain ⟨vs, hvs, hp⟩ := ints_of es fun i x hx => h (i + 1) x (by simpa using hx)
    refine ⟨v :: vs, by rw [hv, hvs]; rfl, fun x hx => ?_⟩
    rcases List.mem_cons.mp hx with w | w
    · rw [w]; exact h0
    · exact hp x w
theorem inR_i {i : Int} (h0 : 0 ≤ i) (h : i ≤ 100000) : Bk.inR i = true := inR_of (by omega) (by omega)
theorem big_i {i : Int} (h0 : 0 ≤ i) (h : i ≤ 100000) : -9223372036854775808 ≤ i ∧ i < 9223372036854775808 := ⟨by omega, by omega⟩
theorem cutD_from {ds : List D} {n : Nat} : Bk.cutD ds (some (n : Int)) none = ds.drop n := by
  unfold Bk.cutD
  rw [HT.sIx_none, HT.sIx_nat]
  by_cases h : n ≤ ds.length
  · rw [Nat.min_eq_left h, List.take_of_length_le (by simp)]
  · rw [Nat.min_eq_right (by omega), List.drop_eq_nil_of_le (by omega), List.drop_eq_nil_of_le (by omega)]
    simp
theorem cutD_most {α : D} (ds : List D) : Bk.cutD (ds ++ [α]) none (some (-1)) = ds := by
  have e : Bk.cutD (ds ++ [α]) none (some (-1)) = Bk.cutD (ds ++ [α]) none (some (ds.length : Int)) := by
    unfold Bk.cutD
    congr 2
    simp [HT.sIx]
    rw [if_neg (by omega)]
    omega
  rw [e, cutD_upto]
  simp
theorem intR_up : ∀ (n : Nat) (lo : Int), intR (lo + 1) n = (intR lo n).map (· + 1)
  | 0, _ => rfl
  | n + 1, lo => by simp [intR, intR_up n]
theorem intR_sorted : ∀ (n : Nat) (lo : Int), (intR lo n).Pairwise (· < ·)
  | 0, _ => .nil
  | n + 1, lo => List.pairwise_cons.mpr ⟨fun y hy => by have := mem_intR.mp hy; omega, intR_sorted n _⟩
theorem zip_take_long {α β : Type} : ∀ (a : List α) (b : List β) (k : Nat), b.length ≤ k → (a.take k).zip b = a.zip b
  | [], _, _, _ => by simp
  | _ :: _, [], _, _ => by simp
  | x :: a, y :: b, 0, h => by simp at h
  | x :: a, y :: b, k + 1, h => by simp [zip_take_long a b k (by simpa using h)]
theorem zip_take_in {α β : Type} : ∀ (a : List α) (b e : List β) (k : Nat), k ≤ b.length → (a.take k).zip (b ++ e) = (a.take k).zip b
  | _, _, _, 0, _ => by simp
  | [], _, _, _ + 1, _ => by simp
  | _ :: _, [], _, k + 1, h => by simp at h
  | x :: a, y :: b, e, k + 1, h => by simp [zip_take_in a b e k (by simpa using h)]
/-! ### one number more -/
theorem zip_snoc {α β : Type} : ∀ (a : List α) (b : List β) (k : β) (p : α), a[b.length]? = some p → a.zip (b ++ [k]) = a.zip b ++ [(p, k)]
  | [], b, k, p, h => by simp at h
  | x :: a, [], k, p, h => by
    have : x = p := by simpa using h
    subst this
    simp
  | x :: a, y :: b, k, p, h => by
    have := zip_snoc a b k p (by simpa using h)
    simp [this]
theorem take_zip1 {α β : Type} : ∀ (a : List α) (b : List β) (k : Nat), (a.zip b).take k = (a.take k).zip b
  | [], _, _ => by simp
  | _ :: _, [], _ => by simp
  | _ :: _, _ :: _, 0 => by simp
  | x :: a, y :: b, k + 1 => by simp [take_zip1 a b k]
def nth (ns : List Int) (i : Nat) : Int := ns.getD i 0
theorem nth_ix (M : List MO) (ns : List Int) (i : Nat) (h : i < ns.length) : dIx M (.tup (ns.map D.int)) (.int i) = some (.int (nth ns i)) := by
  have e : ns.getD i 0 = ns[i] := by simp [h]
  simp [Bk.atI_nat, h, nth]
theorem nth_in {ns es : List Int} {j : Nat} (h : j < ns.length) : nth (ns ++ es) j = nth ns j := by
  unfold nth
  rw [List.getD_eq_getElem?_getD, List.getD_eq_getElem?_getD, List.getElem?_append_left h]
theorem nth_end {ns : List Int} {k : Int} : nth (ns ++ [k]) ns.length = k := by
  unfold nth
  rw [List.getD_eq_getElem?_getD]
  simp
theorem nth_off {ns : List Int} {j : Nat} (h : ns.length ≤ j) : nth ns j = 0 := by
  unfold nth
  rw [List.getD_eq_getElem?_getD, List.getElem?_eq_none h]
  rfl
theorem minI_le : ∀ {is : List Int}, is ≠ [] → minI is ∈ is ∧ ∀ y ∈ is, minI is ≤ y
  | [], h => absurd rfl h
  | [i], _ => ⟨by simp [minI], fun y hy => by
      have e : y = i := by simpa using hy
      rw [e]
      exact Int.le_refl i⟩
  | i :: j :: r, _ => by
    obtain ⟨h1, h2⟩ := minI_le (is := j :: r) (by simp)
    have e : minI (i :: j :: r) = if i ≤ minI (j :: r) then i else minI (j :: r) := rfl
    rw [e]
    split
    · rename_i q
      refine ⟨by simp, fun y hy => ?_⟩
      rcases List.mem_cons.mp hy with z | z
      · omega
      · have := h2 y z
        omega
    · rename_i q
      refine ⟨List.mem_cons_of_mem _ h1, fun y hy => ?_⟩
      rcases List.mem_cons.mp hy with z | z
      · omega
      · exact h2 y z
theorem ints_bl (f : Int → Int) (l : List Int) : belows 0 (l.map fun d => D.int (f d)) = true := by
  have := belows_ints 0 (l.map f)
  rw [List.map_map] at this
  exact this
end My

set_option Elab.async false
set_option linter.all false
set_option maxRecDepth 100000
set_option maxHeartbeats 4000000
namespace My
open PySem PySem.Spec PyProof.Rows L2 Bk
/-! ### calendars -/
abbrev Cal := List (Int × Option Int)
def optD : Option Int → D
  | none => .non
  | some r => .int r
@[simp] theorem optD_below (m : Nat) (o : Option Int) : below m (optD o) = true := by cases o <;> rfl
def entD (p : Int × Option Int) : D := .tup [.int p.1, optD p.2]
def calD (t : Bool) (c : Cal) : D := if t = true then .tup (c.map entD) else .lst (c.map entD)
theorem ent_below (m : Nat) (p : Int × Option Int) : below m (entD p) = true := by simp [entD]
@[simp] theorem ents_below (m : Nat) (c : Cal) : belows m (c.map entD) = true := by
  rw [belows_all, List.all_map, List.all_eq_true]
  exact fun p _ => ent_below m p
@[simp] theorem calD_below (m : Nat) (t : Bool) (c : Cal) : below m (calD t c) = true := by cases t <;> simp [calD]
@[simp] theorem calD_items (M : List MO) (t : Bool) (c : Cal) : itemsD M (calD t c) = some (c.map entD) := by cases t <;> rfl
@[simp] theorem calD_seq (t : Bool) (c : Cal) : seqD (calD t c) = some (c.map entD) := by cases t <;> rfl
@[simp] theorem calD_len (M : List MO) (t : Bool) (c : Cal) : dLen M (calD t c) = some (.int c.length) := by cases t <;> simp [calD]
@[simp] theorem calD_isi (M : List MO) (t : Bool) (c : Cal) : dIsiT ["list", "tuple"] M (calD t c) = some (.bl true) := by cases t <;> rfl
theorem calD_cut (M : List MO) (t : Bool) (c : Cal) (n : Nat) : dCut M none (some (n : Int)) (calD t c) = some (calD t (c.take n)) := by
  cases t <;> simp [calD, dCut, cutD_upto, List.map_take]
/-- an entry that may stand at a day -/
def okE (p : Int × Option Int) (day : Int) : Prop := 0 ≤ p.1 ∧ p.1 ≤ 12 ∧ ∀ b, p.2 = some b → day + 1 ≤ b
/-- how many of those that broke on one day are away on a day -/
def gone1 (day : Int) (e : Option Int) (n : Int) : Int := match e with
  | none => n
  | some b => if day < b then n else 0
def awayZ (day : Int) (zs : List ((Int × Option Int) × Int)) : Int := (zs.map fun z => gone1 day z.1.2 z.2).sum
def awayV (c : Cal) (ns : List Int) (day : Int) : Int := awayZ day ((c.take (day.toNat - 1)).zip ns)
theorem zip_ents : ∀ (c : Cal) (ns : List Int), zipL (c.map entD) (ns.map D.int) = (c.zip ns).map fun z => .tup [entD z.1, .int z.2]
  | [], _ => by simp [zipL]
  | _ :: _, [] => by simp [zipL]
  | p :: c, n :: ns => by simp [zipL, zip_ents c ns]
end My

set_option Elab.async false
set_option linter.all false
set_option maxRecDepth 100000
set_option maxHeartbeats 4000000
namespace My
open PySem PySem.Spec PyProof.Rows L2 Bk
theorem m_isday {p : Int × Option Int} {day : Int} (h : okE p day) : F_is_day [entD p, .int day] [] = .ok (.bl true) [] := by
  obtain ⟨h1, h2, h3⟩ := h
  obtain ⟨a, b⟩ := p
  cases b with
  | none => simp at h1 h2; simp [F_is_day, b_is_day, runF, entD, optD, c_between, h1, h2]
  | some b =>
    have := h3 b rfl
    simp at h1 h2
    simp [F_is_day, b_is_day, runF, entD, optD, c_between, c_atleast, h1, h2, this]
theorem m_reqcal (t : Bool) (c : Cal) (hl : c.length ≤ 100) (hv : ∀ (i : Nat) p, c[i]? = some p → okE p (i + 1)) : F_require_calendar [calD t c] [] = .ok .non [] := by
  have key : ∀ (post : Cal) (n : Nat), (∀ (i : Nat) p, post[i]? = some p → okE p ((n + i : Nat) + 1)) →
      gForL (gToT (gToCons (gTo 1) (gToCons (gTo 2) (gToNil)))) lb_require_calendar_1 (enumL n (post.map entD)) [some (calD t c), none, none] [] = .nx [some (calD t c), none, none] [] := by
    intro post
    induction post with
    | nil => intro n _; simp [enumL]
    | cons p post ih =>
      intro n h
      have h0 := h 0 p rfl
      have e2 := ih (n + 1) fun i q hq => by
        have := h (i + 1) q (by simpa using hq)
        have e : n + 1 + i = n + (i + 1) := by omega
        rw [e]
        exact this
      have cd := c_flat (m_isday h0) [] (by simp [ent_below]) (by simp)
      simp only [Nat.add_zero] at cd
      rw [List.map_cons, enumL]
      refine (forL_cons (Γ1 := [some (calD t c), some (.int n), some (entD p)]) (by simp) ?_).trans (by simpa using e2)
      simp [lb_require_calendar_1, cd]
  have k := key c 0 fun i p h => by simpa using hv i p h
  have z : ¬ (100 : Int) < c.length := by omega
  have k0 : gForL (gToT (gToCons (gTo 1) (gToCons (gTo 2) (gToNil)))) lb_require_calendar_1 (enumL 0 (c.map entD)) [some (calD t c), none, none] [] = _ := k
  simp [F_require_calendar, b_require_calendar, runF, z, k0]
end My

set_option Elab.async false
set_option linter.all false
set_option maxRecDepth 100000
set_option maxHeartbeats 4000000
namespace My
open PySem PySem.Spec PyProof.Rows L2 Bk
theorem m_nums (ns : List Int) (hl : ns.length ≤ 1000) (h : ∀ n ∈ ns, 0 ≤ n) : F_are_numbers [.tup (ns.map D.int)] [] = .ok (.bl true) [] := by
  have key := lcL_map (gg := gTo 1) (ge := le_are_numbers_1) (Γ := [some (.tup (ns.map D.int)), none]) (M := []) (f := fun _ => .bl true) (ns.map D.int) [] (by rw [List.length_map]; exact Nat.le_trans (by simpa using hl) (by decide)) fun d hd => by
    obtain ⟨i, hi, rfl⟩ := List.mem_map.mp hd
    exact ⟨_, rfl, by simp [le_are_numbers_1, c_atleast, h i hi]⟩
  have e : (ns.map D.int).map (fun _ => D.bl true) = (ns.map fun _ => true).map D.bl := by simp
  have q : ((ns.map fun _ => true).all id) = true := by simp
  rw [e, List.nil_append] at key
  simp [F_are_numbers, b_are_numbers, runF, key, dAll, ofBls, blsD_map, -List.map_map]
end My

set_option Elab.async false
set_option linter.all false
set_option maxRecDepth 100000
set_option maxHeartbeats 4000000
namespace My
open PySem PySem.Spec PyProof.Rows L2 Bk
theorem m_reqrow (t : Bool) (c : Cal) (ns : List Int) (hl : ns.length = c.length) (h : ∀ n ∈ ns, 0 ≤ n) : F_require_row [calD t c, .tup (ns.map D.int)] [] = .ok .non [] := by
  have key : ∀ (post : List Int) (n : Nat), (∀ i ∈ post, 0 ≤ i) →
      gForL (gToT (gToCons (gTo 2) (gToCons (gTo 3) (gToNil)))) lb_require_row_1 (enumL n (post.map D.int)) [some (calD t c), some (.tup (ns.map D.int)), none, none] [] = .nx [some (calD t c), some (.tup (ns.map D.int)), none, none] [] := by
    intro post
    induction post with
    | nil => intro n _; simp [enumL]
    | cons p post ih =>
      intro n h
      have h0 := h p (by simp)
      have e2 := ih (n + 1) fun i hi => h i (by simp [hi])
      rw [List.map_cons, enumL]
      refine (forL_cons (Γ1 := [some (calD t c), some (.tup (ns.map D.int)), some (.int n), some (.int p)]) (by simp) ?_).trans (by simpa using e2)
      simp [lb_require_row_1, c_atleast, h0]
  have k0 : gForL (gToT (gToCons (gTo 2) (gToCons (gTo 3) (gToNil)))) lb_require_row_1 (enumL 0 (ns.map D.int)) [some (calD t c), some (.tup (ns.map D.int)), none, none] [] = _ := key ns 0 h
  simp [F_require_row, b_require_row, runF, hl, k0]
end My

set_option Elab.async false
set_option linter.all false
set_option maxRecDepth 100000
set_option maxHeartbeats 4000000
namespace My
open PySem PySem.Spec PyProof.Rows L2 Bk
theorem m_away (t : Bool) (c : Cal) (ns : List Int) (day : Int) (hd : 1 ≤ day) : F_away_on [calD t c, .tup (ns.map D.int), .int day] [] = .ok (.int (awayV c ns day)) [] := by
  have key : ∀ (zs : List ((Int × Option Int) × Int)) (acc : Int),
      gForL (gToT (gToCons (gToT (gToCons (gTo 4) (gToCons (gTo 5) (gToNil)))) (gToCons (gTo 6) (gToNil)))) lb_away_on_1 (zs.map fun z => .tup [entD z.1, .int z.2]) [some (calD t c), some (.tup (ns.map D.int)), some (.int day), some (.int acc), none, none, none] []
      = .nx [some (calD t c), some (.tup (ns.map D.int)), some (.int day), some (.int (acc + awayZ day zs)), none, none, none] [] := by
    intro zs
    induction zs with
    | nil => intro acc; simp [awayZ]
    | cons z zs ih =>
      intro acc
      obtain ⟨⟨o, b⟩, n⟩ := z
      have e2 := ih (acc + gone1 day b n)
      have e3 : acc + gone1 day b n + awayZ day zs = acc + awayZ day (((o, b), n) :: zs) := by simp [awayZ]; omega
      rw [e3] at e2
      rw [List.map_cons]
      refine (forL_cons (Γ1 := [some (calD t c), some (.tup (ns.map D.int)), some (.int day), some (.int acc), some (.int o), some (optD b), some (.int n)]) (by simp [entD]) ?_).trans e2
      cases b with
      | none => simp [lb_away_on_1, optD, gone1]
      | some b => by_cases h : day < b <;> simp [lb_away_on_1, optD, gone1, h]
  have e : day - 1 = ((day.toNat - 1 : Nat) : Int) := by omega
  have ct := calD_cut [] t c (day.toNat - 1)
  rw [← e] at ct
  have k := key ((c.take (day.toNat - 1)).zip ns) 0
  rw [← zip_ents, Int.zero_add] at k
  have k' : gForL _ _ (zipL ((c.take (day.toNat - 1)).map entD) (ns.map D.int)) _ _ = _ := k
  simp only [List.map_take] at k'
  simp [F_away_on, b_away_on, runF, ct, zipO, List.map_take, k', awayV]
theorem c_away (t : Bool) (c : Cal) (ns : List Int) (day : Int) (hd : 1 ≤ day) (M : List MO) : callF F_away_on [calD t c, .tup (ns.map D.int), .int day] M = .ok (.int (awayV c ns day)) M := c_flat (m_away t c ns day hd) M (by simp) (by simp)
end My

set_option Elab.async false
set_option linter.all false
set_option maxRecDepth 100000
set_option maxHeartbeats 4000000
namespace My
open PySem PySem.Spec PyProof.Rows L2 Bk
def optP : Option Int → PyData
  | none => .none
  | some r => .int r
theorem optD_dt (n : Nat) (o : Option Int) : Dt n (optD o) (optP o) := by
  cases o
  · exact .non n
  · exact .int n _
def entP (p : Int × Option Int) : PyData := .tuple [.int p.1, optP p.2]
theorem ent_dt (n : Nat) (p : Int × Option Int) : Dt (n + 1) (entD p) (entP p) := Dts.tup (.cons (.int n p.1) (.cons (optD_dt n _) (.nil n)))
theorem ents_dt (n : Nat) (c : Cal) : Dts (n + 1) (c.map entD) (c.map entP) := .map _ fun p _ => ent_dt n p
theorem optD_eqP (M : List MO) (a b : Option Int) : eqP M (optD a) (optD b) = some (decide (a = b)) := by
  rw [eqP_of (optD_dt 0 a) (optD_dt 0 b) (optD_dt 0 a).deref (optD_dt 0 b).deref (by decide) (by decide)]
  congr 1
  cases a with
  | none => cases b <;> simp [optP, PyData.eqv]
  | some a => cases b <;> simp [optP, PyData.eqv, Bool.beq_eq_decide_eq]
theorem optD_eq (M : List MO) (a b : Option Int) : dEqA M (optD a) (optD b) = some (.bl (decide (a = b))) := dEqA_p (optD_eqP M a b) (fun _ h => by cases a <;> cases h)
theorem optD_ne (M : List MO) (a b : Option Int) : dNeA M (optD a) (optD b) = some (.bl !(decide (a = b))) := dNeA_p (optD_eqP M a b) (fun _ h => by cases a <;> cases h)
theorem ne_ref {M : List MO} {k n : Nat} {L : List D} {ps : List PyData} (dt : Dts n L ps) (hn : n ≤ 63) (h : M[k]? = some (.lst L)) : dNeA M (.ref k) (.lst L) = some (.bl false) :=
  dNeA_p (eqP_same dt.lst (dt.derefR h) dt.lst.deref (by omega)) (fun _ h => by cases h)
theorem eq_ref {M : List MO} {k n : Nat} {L : List D} {ps : List PyData} (dt : Dts n L ps) (hn : n ≤ 63) (h : M[k]? = some (.lst L)) : dEqA M (.ref k) (.lst L) = some (.bl true) :=
  dEqA_p (eqP_same dt.lst (dt.derefR h) dt.lst.deref (by omega)) (fun _ h => by cases h)
theorem cal_of {Q : Nat → Int × Option Int → Prop} : ∀ (es : List D) (k : Nat), (∀ (i : Nat) e, es[i]? = some e → ∃ p : Int × Option Int, e = entD p ∧ Q (k + i) p) → ∃ c : Cal, es = c.map entD ∧ ∀ (i : Nat) p, c[i]? = some p → Q (k + i) p
  | [], _, _ => ⟨[], rfl, by simp⟩
  | e :: es, k, h => by
    obtain ⟨p, hp, h2⟩ := h 0 e rfl
    obtain ⟨c, hc, h3⟩ := cal_of es (k + 1) fun i x hx => by
      have := h (i + 1) x (by simpa using hx)
      have e : k + 1 + i = k + (i + 1) := by omega
      rw [e]
      exact this
    refine ⟨p :: c, by rw [hp, hc]; rfl, fun i x hx => ?_⟩
    cases i with
    | zero =>
      have : p = x := by simpa using hx
      rw [← this]
      exact h2
    | succ i =>
      have := h3 i x (by simpa using hx)
      have e : k + 1 + i = k + (i + 1) := by omega
      rw [e] at this
      exact this
theorem two_ix {b i : Int} (h0 : 0 ≤ i) (h2 : i < 2) : ∃ o : Option Int, atI [D.non, .int b] i = some (optD o) ∧ (o = none ∨ o = some b) := by
  obtain rfl | rfl : i = 0 ∨ i = 1 := by omega
  · exact ⟨none, by simp [optD], by simp⟩
  · exact ⟨some b, by simp [optD], by simp⟩
theorem later_ix {a b c i : Int} (h0 : 0 ≤ i) (h4 : i < 4) : ∃ o : Option Int, atI [D.int a, .int b, .non, .int c] i = some (optD o) ∧ (o = none ∨ o = some a ∨ o = some b ∨ o = some c) := by
  obtain rfl | rfl | rfl | rfl : i = 0 ∨ i = 1 ∨ i = 2 ∨ i = 3 := by omega
  · exact ⟨some a, by simp [optD], by simp⟩
  · exact ⟨some b, by simp [optD], by simp⟩
  · exact ⟨none, by simp [optD], by simp⟩
  · exact ⟨some c, by simp [optD], by simp⟩
end My

set_option Elab.async false
set_option linter.all false
set_option maxRecDepth 100000
set_option maxHeartbeats 4000000
namespace My
open PySem PySem.Spec PyProof.Rows L2 Bk
/-- the first day with too many pieces away or broken -/
def fo (c : Cal) (ns : List Int) : Nat → Cal → Option Int
  | _, [] => none
  | i, p :: r => if p.1 < awayV c ns ((i : Int) + 1) + nth ns i then some ((i : Int) + 1) else fo c ns (i + 1) r
/-- a calendar as it may be handed over -/
structure OkC (c : Cal) : Prop where
  l : c.length ≤ 100
  v : ∀ (i : Nat) p, c[i]? = some p → okE p (i + 1)
/-- numbers of broken pieces that may have been -/
structure OkP (c : Cal) (ns : List Int) : Prop where
  l : ns.length ≤ c.length
  p : ∀ n ∈ ns, 0 ≤ n
  f : fo c ns 0 c = none
end My

set_option Elab.async false
set_option linter.all false
set_option maxRecDepth 100000
set_option maxHeartbeats 4000000
namespace My
open PySem PySem.Spec PyProof.Rows L2 Bk
theorem m_fover (t : Bool) (c : Cal) (ns : List Int) : F_first_over [calD t c, .tup (ns.map D.int)] [] = .ok (optD (fo c ns 0 c)) [] := by
  have key : ∀ (post : Cal) (i : Nat),
      gForL (gToT (gToCons (gTo 2) (gToCons (gToT (gToCons (gTo 3) (gToCons (gTo 4) (gToNil)))) (gToNil)))) lb_first_over_1 (enumL ((i : Int) + 1) (post.map entD)) [some (calD t c), some (.tup (ns.map D.int)), none, none, none, none] []
      = match fo c ns i post with
        | none => .nx [some (calD t c), some (.tup (ns.map D.int)), none, none, none, none] []
        | some d => .rt (.int d) [] := by
    intro post
    induction post with
    | nil => intro i; simp [enumL, fo]
    | cons p post ih =>
      intro i
      obtain ⟨o, b⟩ := p
      have e2 := ih (i + 1)
      have e3 : ((i + 1 : Nat) : Int) + 1 = (i : Int) + 1 + 1 := by omega
      rw [e3] at e2
      have ca := c_away t c ns ((i : Int) + 1) (by omega) []
      have go : (gSeq (gAsg (gIfE (gVal (gOp2 dLe (gV 2) (gCall (fn1 dLen) (gCons (gV 1) (gNil))))) (gOp2 dIx (gV 1) (gOp2 dSub (gV 2) (gC (.int 1)))) (gC (.int 0))) (gTo 5)) gPass) [some (calD t c), some (.tup (ns.map D.int)), some (.int ((i : Int) + 1)), some (.int o), some (optD b), none] []
          = .nx [some (calD t c), some (.tup (ns.map D.int)), some (.int ((i : Int) + 1)), some (.int o), some (optD b), some (.int (nth ns i))] [] := by
        by_cases h : i < ns.length
        · have h' : (i : Int) + 1 ≤ ns.length := by omega
          have ix := nth_ix [] ns i h
          have s : (i : Int) + 1 - 1 = i := by omega
          simp [-e_ix, h', s, ix]
        · have h' : ¬ (i : Int) + 1 ≤ ns.length := by omega
          have z : nth ns i = 0 := by simp [nth, h]
          simp [h', z]
      rw [List.map_cons, enumL, u_gForLc]
      simp only [u_gToT, u_gToCons, u_gToNil, u_gTo, entD, Option.bind_some, optS_some, List.set_cons_succ, List.set_cons_zero]
      simp only [u_gSeq, u_gPass] at go
      unfold lb_first_over_1
      rw [u_gSeq]
      have go2 : ∀ k : GS, ((gAsg (gIfE (gVal (gOp2 dLe (gV 2) (gCall (fn1 dLen) (gCons (gV 1) (gNil))))) (gOp2 dIx (gV 1) (gOp2 dSub (gV 2) (gC (.int 1)))) (gC (.int 0))) (gTo 5)) [some (calD t c), some (.tup (ns.map D.int)), some (.int ((i : Int) + 1)), some (.int o), some (optD b), none] []).next k
          = k [some (calD t c), some (.tup (ns.map D.int)), some (.int ((i : Int) + 1)), some (.int o), some (optD b), some (.int (nth ns i))] [] := by
        intro k
        cases er : (gAsg (gIfE (gVal (gOp2 dLe (gV 2) (gCall (fn1 dLen) (gCons (gV 1) (gNil))))) (gOp2 dIx (gV 1) (gOp2 dSub (gV 2) (gC (.int 1)))) (gC (.int 0))) (gTo 5)) [some (calD t c), some (.tup (ns.map D.int)), some (.int ((i : Int) + 1)), some (.int o), some (optD b), none] [] with
        | nx Γ M => rw [er] at go; simp at go; simp [go]
        | _ => rw [er] at go; simp [RS.next] at go
      rw [go2]
      by_cases h : o < awayV c ns ((i : Int) + 1) + nth ns i
      · simp [ca, h, fo]
      · simp only [fo, if_neg h]
        simpa [ca, h, lb_first_over_1] using e2
  have k := key c 0
  have k0 : gForL (gToT (gToCons (gTo 2) (gToCons (gToT (gToCons (gTo 3) (gToCons (gTo 4) (gToNil)))) (gToNil)))) lb_first_over_1 (enumL 1 (c.map entD)) [some (calD t c), some (.tup (ns.map D.int)), none, none, none, none] [] = _ := k
  cases e : fo c ns 0 c with
  | none =>
    rw [e] at k0
    simp [F_first_over, b_first_over, runF, k0, optD]
  | some d =>
    rw [e] at k0
    simp [F_first_over, b_first_over, runF, k0, optD]
theorem c_fover (t : Bool) (c : Cal) (ns : List Int) (M : List MO) : callF F_first_over [calD t c, .tup (ns.map D.int)] M = .ok (optD (fo c ns 0 c)) M := c_flat (m_fover t c ns) M (by simp) (by simp)
end My

set_option Elab.async false
set_option linter.all false
set_option maxRecDepth 100000
set_option maxHeartbeats 4000000
namespace My
open PySem PySem.Spec PyProof.Rows L2 Bk
theorem c_reqcal (t : Bool) {c : Cal} (h : OkC c) (M : List MO) : callF F_require_calendar [calD t c] M = .ok .non M := c_flat (m_reqcal t c h.l h.v) M (by simp) (by simp)
end My

set_option Elab.async false
set_option linter.all false
set_option maxRecDepth 100000
set_option maxHeartbeats 4000000
namespace My
open PySem PySem.Spec PyProof.Rows L2 Bk
theorem c_reqrow (t : Bool) (c : Cal) (ns : List Int) (hl : ns.length = c.length) (h : ∀ n ∈ ns, 0 ≤ n) (M : List MO) : callF F_require_row [calD t c, .tup (ns.map D.int)] M = .ok .non M := c_flat (m_reqrow t c ns hl h) M (by simp) (by simp)
end My

set_option Elab.async false
set_option linter.all false
set_option maxRecDepth 100000
set_option maxHeartbeats 4000000
namespace My
open PySem PySem.Spec PyProof.Rows L2 Bk
theorem m_fault (t : Bool) {c : Cal} {ns : List Int} (hc : OkC c) (hl : ns.length = c.length) (h : ∀ n ∈ ns, 0 ≤ n) : F_first_fault [calD t c, .tup (ns.map D.int)] [] = .ok (optD (fo c ns 0 c)) [] := by
  simp [F_first_fault, b_first_fault, runF, c_reqcal t hc, c_reqrow t c ns hl h, c_fover]
  cases fo c ns 0 c <;> simp [optD]
end My

set_option Elab.async false
set_option linter.all false
set_option maxRecDepth 100000
set_option maxHeartbeats 4000000
namespace My
open PySem PySem.Spec PyProof.Rows L2 Bk
/-- what is left of a calendar -/
def restF (c : Cal) (ns : List Int) : Nat → Cal → Cal
  | _, [] => []
  | i, p :: r => (p.1 - awayV c ns ((i : Int) + 1), p.2.map fun (x : Int) => x - (ns.length : Int)) :: restF c ns (i + 1) r
theorem restF_length (c : Cal) (ns : List Int) : ∀ (r : Cal) (i : Nat), (restF c ns i r).length = r.length
  | [], _ => rfl
  | p :: r, i => by simp [restF, restF_length c ns r]
/-- the pieces that may break at once -/
def ent (c : Cal) (i : Nat) : Int × Option Int := c.getD i (0, none)
def own (c : Cal) (d : Int) : Int := (ent c (d.toNat - 1)).1
def sp (c : Cal) (ns : List Int) : List Int → Int → List Int
  | [], _ => []
  | d :: r, least => if own c d < least then (own c d - awayV c ns d) :: sp c ns r (own c d) else sp c ns r least
def spL (c : Cal) : List Int → Int → Int
  | [], least => least
  | d :: r, least => if own c d < least then spL c r (own c d) else spL c r least
def endI (c : Cal) (n : Nat) : Int := match (ent c n).2 with
  | none => c.length
  | some b => if (c.length : Int) < b - 1 then c.length else b - 1
def daysI (c : Cal) (ns : List Int) : List Int := intR ((ns.length : Int) + 1) (endI c ns.length - ns.length).toNat
theorem cal_ix (M : List MO) (t : Bool) (c : Cal) (i : Int) (h0 : 1 ≤ i) (h1 : i ≤ c.length) : dIx M (calD t c) (.int (i - 1)) = some (entD (ent c (i.toNat - 1))) := by
  have l : i.toNat - 1 < c.length := by omega
  have e : i - 1 = ((i.toNat - 1 : Nat) : Int) := by omega
  rw [e]
  simp [Bk.atI_nat, l, ent]
end My

set_option Elab.async false
set_option linter.all false
set_option maxRecDepth 100000
set_option maxHeartbeats 4000000
namespace My
open PySem PySem.Spec PyProof.Rows L2 Bk
/-! ### the greatest number that may break next -/
theorem fo_none {c : Cal} {ns : List Int} : ∀ {r : Cal} {i : Nat}, fo c ns i r = none ↔ ∀ (j : Nat) p, r[j]? = some p → awayV c ns (((i + j : Nat) : Int) + 1) + nth ns (i + j) ≤ p.1
  | [], i => by simp [fo]
  | p :: r, i => by
    rw [fo]
    by_cases h : p.1 < awayV c ns ((i : Int) + 1) + nth ns i
    · rw [if_pos h]
      constructor
      · intro e; cases e
      · intro e
        have := e 0 p rfl
        simp only [Nat.add_zero] at this
        omega
    · rw [if_neg h, fo_none]
      constructor
      · intro e j q hq
        cases j with
        | zero =>
          have : p = q := by simpa using hq
          subst this
          simp only [Nat.add_zero]
          omega
        | succ j =>
          have := e j q (by simpa using hq)
          have e2 : i + 1 + j = i + (j + 1) := by omega
          rw [e2] at this
          exact this
      · intro e j q hq
        have := e (j + 1) q (by simpa using hq)
        have e2 : i + 1 + j = i + (j + 1) := by omega
        rw [e2]
        exact this
theorem awayV_late {c : Cal} {ns : List Int} {d : Int} (h : (ns.length : Int) < d) : awayV c ns d = awayZ d (c.zip ns) := by
  unfold awayV
  rw [zip_take_long]
  omega
theorem gone1_fall {d e : Int} (h : d ≤ e) (o : Option Int) {n : Int} (hn : 0 ≤ n) : gone1 e o n ≤ gone1 d o n := by
  cases o with
  | none => exact Int.le_refl _
  | some b =>
    simp only [gone1]
    split <;> split <;> omega
theorem awayZ_fall {d e : Int} (h : d ≤ e) : ∀ (zs : List ((Int × Option Int) × Int)), (∀ z ∈ zs, 0 ≤ z.2) → awayZ e zs ≤ awayZ d zs
  | [], _ => Int.le_refl _
  | z :: zs, hz => by
    have h1 := gone1_fall h z.1.2 (hz z (by simp))
    have h2 := awayZ_fall h zs fun x hx => hz x (by simp [hx])
    simp only [awayZ, List.map_cons, List.sum_cons] at h2 ⊢
    omega
theorem awayV_fall {c : Cal} {ns : List Int} (hp : ∀ n ∈ ns, 0 ≤ n) {d e : Int} (h0 : (ns.length : Int) < d) (h : d ≤ e) : awayV c ns e ≤ awayV c ns d := by
  rw [awayV_late h0, awayV_late (by omega)]
  refine awayZ_fall h _ fun z hz => hp z.2 ?_
  exact (List.of_mem_zip hz).2
theorem sp_mem {c : Cal} {ns : List Int} : ∀ {ds : List Int} {least y : Int}, y ∈ sp c ns ds least → ∃ d ∈ ds, y = own c d - awayV c ns d
  | [], _, _, h => by simp [sp] at h
  | d :: ds, least, y, h => by
    rw [sp] at h
    split at h
    · rcases List.mem_cons.mp h with e | h
      · exact ⟨d, by simp, e⟩
      · obtain ⟨x, hx, e⟩ := sp_mem h
        exact ⟨x, by simp [hx], e⟩
    · obtain ⟨x, hx, e⟩ := sp_mem h
      exact ⟨x, by simp [hx], e⟩
theorem sp_low {c : Cal} {ns : List Int} : ∀ {ds : List Int} {least : Int}, (∀ d ∈ ds, ∀ e ∈ ds, d ≤ e → awayV c ns e ≤ awayV c ns d) → ds.Pairwise (· < ·) → ∀ d ∈ ds, least ≤ own c d ∨ ∃ y ∈ sp c ns ds least, y ≤ own c d - awayV c ns d
  | [], _, _, _, d, h => by simp at h
  | a :: ds, least, hm, hs, d, h => by
    have hm' : ∀ d ∈ ds, ∀ e ∈ ds, d ≤ e → awayV c ns e ≤ awayV c ns d := fun x hx y hy => hm x (by simp [hx]) y (by simp [hy])
    obtain ⟨h1, h2⟩ := List.pairwise_cons.mp hs
    rw [sp]
    by_cases q : own c a < least
    · rw [if_pos q]
      right
      rcases List.mem_cons.mp h with e | hd
      · subst e
        exact ⟨_, by simp, Int.le_refl _⟩
      · rcases sp_low (least := own c a) hm' h2 d hd with z | ⟨y, hy, z⟩
        · have := hm a (by simp) d (by simp [hd]) (Int.le_of_lt (h1 d hd))
          exact ⟨_, List.mem_cons_self, by omega⟩
        · exact ⟨y, by simp [hy], z⟩
    · rw [if_neg q]
      rcases List.mem_cons.mp h with e | hd
      · subst e
        left
        omega
      · exact sp_low hm' h2 d hd
/-- what ready answers -/
def gnx (c : Cal) (ns : List Int) : Int := minI (sp c ns (daysI c ns) 13)
theorem ent_get {c : Cal} {i : Nat} {p : Int × Option Int} (h : c[i]? = some p) : ent c i = p := by
  unfold ent
  rw [List.getD_eq_getElem?_getD, h]
  rfl
theorem endI_in {c : Cal} {n : Nat} (hc : OkC c) (hl : n < c.length) : (n : Int) + 1 ≤ endI c n ∧ endI c n ≤ c.length := by
  obtain ⟨p, hp⟩ : ∃ p, c[n]? = some p := ⟨c[n], List.getElem?_eq_getElem hl⟩
  have pv := (hc.v _ _ hp).2.2
  unfold endI
  rw [ent_get hp]
  cases hb : p.2 with
  | none => simp; omega
  | some b =>
    have := pv b hb
    simp only
    split <;> omega
theorem mem_days {c : Cal} {ns : List Int} {d : Int} : d ∈ daysI c ns ↔ (ns.length : Int) + 1 ≤ d ∧ d ≤ endI c ns.length := by
  unfold daysI
  rw [mem_intR]
  omega
theorem gnx_facts {c : Cal} {ns : List Int} (hc : OkC c) (h : OkP c ns) (hl : ns.length < c.length) :
    sp c ns (daysI c ns) 13 ≠ [] ∧ (∃ d, (ns.length : Int) + 1 ≤ d ∧ d ≤ endI c ns.length ∧ gnx c ns = own c d - awayV c ns d) ∧ ∀ d, (ns.length : Int) + 1 ≤ d → d ≤ endI c ns.length → gnx c ns ≤ own c d - awayV c ns d := by
  obtain ⟨q1, q2⟩ := endI_in hc hl
  have small : ∀ d ∈ daysI c ns, own c d < 13 := fun d hd => by
    obtain ⟨a, b⟩ := mem_days.mp hd
    have l : d.toNat - 1 < c.length := by omega
    have := (hc.v _ _ (List.getElem?_eq_getElem l)).2.1
    have e : own c d = c[d.toNat - 1].1 := by unfold own; rw [ent_get (List.getElem?_eq_getElem l)]
    omega
  have low := sp_low (c := c) (ns := ns) (ds := daysI c ns) (least := 13) (fun d hd e he hde => awayV_fall h.p (by have := mem_days.mp hd; omega) hde) (intR_sorted _ _)
  have low2 : ∀ d ∈ daysI c ns, ∃ y ∈ sp c ns (daysI c ns) 13, y ≤ own c d - awayV c ns d := fun d hd => (low d hd).resolve_left (by have := small d hd; omega)
  have ne : sp c ns (daysI c ns) 13 ≠ [] := by
    obtain ⟨y, hy, _⟩ := low2 ((ns.length : Int) + 1) (mem_days.mpr ⟨by omega, q1⟩)
    intro e
    rw [e] at hy
    cases hy
  have mn := minI_le ne
  refine ⟨ne, ?_, fun d a b => ?_⟩
  · obtain ⟨d, hd, e⟩ := sp_mem mn.1
    exact ⟨d, (mem_days.mp hd).1, (mem_days.mp hd).2, e⟩
  · obtain ⟨y, hy, z⟩ := low2 d (mem_days.mpr ⟨a, b⟩)
    exact Int.le_trans (mn.2 y hy) z
end My

set_option Elab.async false
set_option linter.all false
set_option maxRecDepth 100000
set_option maxHeartbeats 4000000
namespace My
open PySem PySem.Spec PyProof.Rows L2 Bk
theorem awayV_in {c : Cal} {ns es : List Int} {j : Nat} (h : j ≤ ns.length) : awayV c (ns ++ es) ((j : Int) + 1) = awayV c ns ((j : Int) + 1) := by
  have e : ((j : Int) + 1).toNat - 1 = j := by omega
  unfold awayV
  rw [e, zip_take_in _ _ _ _ h]
theorem awayV_snoc {c : Cal} {ns : List Int} {k d : Int} {p : Int × Option Int} (hp : c[ns.length]? = some p) (h : (ns.length : Int) + 1 < d) : awayV c (ns ++ [k]) d = awayV c ns d + gone1 d p.2 k := by
  rw [awayV_late (by simp; omega), awayV_late (by omega), zip_snoc _ _ _ _ hp]
  simp [awayZ]
theorem own_get {c : Cal} {j : Nat} {p : Int × Option Int} (h : c[j]? = some p) : own c ((j : Int) + 1) = p.1 := by
  unfold own
  have e : ((j : Int) + 1).toNat - 1 = j := by omega
  rw [e, ent_get h]
theorem fo_snoc {c : Cal} {ns : List Int} (hc : OkC c) (h : OkP c ns) (hl : ns.length < c.length) (k : Int) : fo c (ns ++ [k]) 0 c = none ↔ k ≤ gnx c ns := by
  obtain ⟨_, ⟨d0, a0, b0, e0⟩, low⟩ := gnx_facts hc h hl
  have hf := fo_none.mp h.f
  obtain ⟨p, hp⟩ : ∃ p, c[ns.length]? = some p := ⟨c[ns.length], List.getElem?_eq_getElem hl⟩
  have pv := (hc.v _ _ hp).2.2
  obtain ⟨q1, q2⟩ := endI_in hc hl
  have fin : ∀ d : Int, d ≤ c.length → (endI c ns.length < d ↔ ∃ b, p.2 = some b ∧ b ≤ d) := fun d hd => by
    unfold endI
    rw [ent_get hp]
    cases hb : p.2 with
    | none => simp; omega
    | some b => simp only; constructor
                · intro z; exact ⟨b, rfl, by split at z <;> omega⟩
                · rintro ⟨b', e, z⟩; cases e; split <;> omega
  rw [fo_none]
  constructor
  · intro z
    rw [e0]
    have l : d0.toNat - 1 < c.length := by omega
    have g := List.getElem?_eq_getElem l
    have z1 := z (d0.toNat - 1) _ g
    have ed : ((0 + (d0.toNat - 1) : Nat) : Int) + 1 = d0 := by omega
    have og := own_get g
    have ed2 : ((d0.toNat - 1 : Nat) : Int) + 1 = d0 := by omega
    rw [ed2] at og
    rw [ed, ← og] at z1
    by_cases q : d0.toNat - 1 = ns.length
    · have e1 : d0 = (ns.length : Int) + 1 := by omega
      rw [Nat.zero_add, q, nth_end, e1, awayV_in (Nat.le_refl _)] at z1
      rw [e1]
      omega
    · rw [awayV_snoc hp (by omega), Nat.zero_add, nth_off (by simp; omega)] at z1
      have gk : gone1 d0 p.2 k = k := by
        cases hb : p.2 with
        | none => rfl
        | some b =>
          simp only [gone1]
          rw [if_pos]
          have := fin d0 (by omega)
          rw [hb] at this
          have n1 : ¬ ∃ b', some b = some b' ∧ b' ≤ d0 := fun w => by have := this.mpr w; omega
          exact Int.not_le.mp fun w => n1 ⟨b, rfl, w⟩
      omega
  · intro z j q hq
    have lj : j < c.length := by
      rcases Nat.lt_or_ge j c.length with w | w
      · exact w
      · rw [List.getElem?_eq_none w] at hq; cases hq
    have f0 := hf j q hq
    have og := own_get hq
    rw [Nat.zero_add] at f0 ⊢
    rcases Nat.lt_trichotomy j ns.length with w | w | w
    · rw [awayV_in (by omega), nth_in w]
      exact f0
    · subst w
      rw [awayV_in (Nat.le_refl _), nth_end]
      have := low ((ns.length : Int) + 1) (Int.le_refl _) q1
      rw [og] at this
      omega
    · rw [awayV_snoc hp (by omega), nth_off (by simp; omega)]
      rw [nth_off (by omega)] at f0
      by_cases y : endI c ns.length < (j : Int) + 1
      · obtain ⟨b, hb, w2⟩ := (fin _ (by omega)).mp y
        have g0 : gone1 ((j : Int) + 1) p.2 k = 0 := by
          rw [hb]
          simp only [gone1]
          rw [if_neg (by omega)]
        omega
      · have := low ((j : Int) + 1) (by omega) (by omega)
        rw [og] at this
        have g1 : gone1 ((j : Int) + 1) p.2 k = k := by
          cases hb : p.2 with
          | none => rfl
          | some b =>
            simp only [gone1]
            rw [if_pos]
            have fj := fin ((j : Int) + 1) (by omega)
            rw [hb] at fj
            exact Int.not_le.mp fun w => y (fj.mpr ⟨b, rfl, w⟩)
        omega
theorem gnx_pos {c : Cal} {ns : List Int} (hc : OkC c) (h : OkP c ns) (hl : ns.length < c.length) : 0 ≤ gnx c ns := by
  obtain ⟨_, ⟨d0, a0, b0, e0⟩, low⟩ := gnx_facts hc h hl
  obtain ⟨q1, q2⟩ := endI_in hc hl
  have hf := fo_none.mp h.f
  have l : d0.toNat - 1 < c.length := by omega
  have g := List.getElem?_eq_getElem l
  have z1 := hf (d0.toNat - 1) _ g
  have ed : ((0 + (d0.toNat - 1) : Nat) : Int) + 1 = d0 := by omega
  have og := own_get g
  have ed2 : ((d0.toNat - 1 : Nat) : Int) + 1 = d0 := by omega
  rw [ed2] at og
  rw [ed, ← og, nth_off (by omega)] at z1
  omega
theorem gnx_le {c : Cal} {ns : List Int} (hc : OkC c) (h : OkP c ns) (hl : ns.length < c.length) (hz : ∀ d, 0 ≤ awayV c ns d) : gnx c ns ≤ 12 := by
  obtain ⟨_, ⟨d0, a0, b0, e0⟩, low⟩ := gnx_facts hc h hl
  obtain ⟨q1, q2⟩ := endI_in hc hl
  have l : d0.toNat - 1 < c.length := by omega
  have g := List.getElem?_eq_getElem l
  have := (hc.v _ _ g).2.1
  have og := own_get g
  have ed2 : ((d0.toNat - 1 : Nat) : Int) + 1 = d0 := by omega
  rw [ed2] at og
  have := hz d0
  omega
theorem OkP.snoc {c : Cal} {ns : List Int} (hc : OkC c) (h : OkP c ns) (hl : ns.length < c.length) {k : Int} (h0 : 0 ≤ k) (hk : k ≤ gnx c ns) : OkP c (ns ++ [k]) :=
  ⟨by simp; omega, fun n hn => by
    rcases List.mem_append.mp hn with w | w
    · exact h.p n w
    · have e : n = k := by simpa using w
      rw [e]
      exact h0, (fo_snoc hc h hl k).mpr hk⟩
theorem awayZ_pos {d : Int} : ∀ (zs : List ((Int × Option Int) × Int)), (∀ z ∈ zs, 0 ≤ z.2) → 0 ≤ awayZ d zs
  | [], _ => Int.le_refl _
  | z :: zs, hz => by
    have h1 : 0 ≤ gone1 d z.1.2 z.2 := by
      have := hz z (by simp)
      unfold gone1
      split
      · exact this
      · split <;> omega
    have h2 := awayZ_pos (d := d) zs fun x hx => hz x (by simp [hx])
    simp only [awayZ, List.map_cons, List.sum_cons] at h2 ⊢
    omega
theorem awayV_pos {c : Cal} {ns : List Int} (hp : ∀ n ∈ ns, 0 ≤ n) (d : Int) : 0 ≤ awayV c ns d :=
  awayZ_pos _ fun z hz => hp z.2 (List.of_mem_zip hz).2
/-- how many are away on the later days -/
def aw (c : Cal) (ns : List Int) : List Int := (intR ((ns.length : Int) + 1) (c.length - ns.length)).map (awayV c ns)
def rst (c : Cal) (ns : List Int) : Cal := restF c ns ns.length (c.drop ns.length)
def rdy (c : Cal) (ns : List Int) : Option Int := if ns.length < c.length then some (gnx c ns) else none
end My

set_option Elab.async false
set_option linter.all false
set_option maxRecDepth 100000
set_option maxHeartbeats 4000000
namespace My
open PySem PySem.Spec PyProof.Rows L2 Bk
theorem c_fault (t : Bool) {c : Cal} {ns : List Int} (hc : OkC c) (hl : ns.length = c.length) (h : ∀ n ∈ ns, 0 ≤ n) (M : List MO) : callF F_first_fault [calD t c, .tup (ns.map D.int)] M = .ok (optD (fo c ns 0 c)) M := c_flat (m_fault t hc hl h) M (by simp) (by simp)
end My

set_option Elab.async false
set_option linter.all false
set_option maxRecDepth 100000
set_option maxHeartbeats 4000000
namespace My
open PySem PySem.Spec PyProof.Rows L2 Bk
theorem m_gone (t : Bool) (c : Cal) (ns : List Int) (day : Int) (hd : 1 ≤ day) (hc : c.length ≤ 1000) : F_law_gone [calD t c, .tup (ns.map D.int), .int day] [] = .ok (.int (awayV c ns day)) [] := by
  have key : ∀ (zs : List ((Int × Option Int) × Int)) (acc : Int),
      gForL (gToT (gToCons (gToT (gToCons (gTo 4) (gToCons (gTo 5) (gToNil)))) (gToCons (gTo 6) (gToNil)))) lb_law_gone_1 (zs.map fun z => .tup [entD z.1, .int z.2]) [some (calD t c), some (.tup (ns.map D.int)), some (.int day), some (.int acc), none, none, none] []
      = .nx [some (calD t c), some (.tup (ns.map D.int)), some (.int day), some (.int (acc + awayZ day zs)), none, none, none] [] := by
    intro zs
    induction zs with
    | nil => intro acc; simp [awayZ]
    | cons z zs ih =>
      intro acc
      obtain ⟨⟨o, b⟩, n⟩ := z
      have e2 := ih (acc + gone1 day b n)
      have e3 : acc + gone1 day b n + awayZ day zs = acc + awayZ day (((o, b), n) :: zs) := by simp [awayZ]; omega
      rw [e3] at e2
      rw [List.map_cons]
      refine (forL_cons (Γ1 := [some (calD t c), some (.tup (ns.map D.int)), some (.int day), some (.int acc), some (.int o), some (optD b), some (.int n)]) (by simp [entD]) ?_).trans e2
      cases b with
      | none => simp [lb_law_gone_1, optD, gone1]
      | some b => by_cases h : day < b <;> simp [lb_law_gone_1, optD, gone1, h]
  have e : day - 1 = ((day.toNat - 1 : Nat) : Int) := by omega
  have sz : 1000 ≤ sizeLine := by rw [sizeLine_eq]; omega
  have zl : (zipL (c.map entD) (ns.map D.int)).length ≤ sizeLine := by rw [zipL_len, List.length_map]; omega
  have k := key ((c.take (day.toNat - 1)).zip ns) 0
  rw [← take_zip1, List.map_take, ← zip_ents, Int.zero_add, take_zip1] at k
  have cu : dCut [] none (some (day - 1)) (.lst (zipL (c.map entD) (ns.map D.int))) = some (.lst ((zipL (c.map entD) (ns.map D.int)).take (day.toNat - 1))) := by
    rw [e]
    simp only [dCut, listD, Option.map_some, cutD_upto]
  simp [F_law_gone, b_law_gone, runF, zipO, zl, cu, k, awayV]
theorem c_gone (t : Bool) (c : Cal) (ns : List Int) (day : Int) (hd : 1 ≤ day) (hc : c.length ≤ 1000) (M : List MO) : callF F_law_gone [calD t c, .tup (ns.map D.int), .int day] M = .ok (.int (awayV c ns day)) M := c_flat (m_gone t c ns day hd hc) M (by simp) (by simp)
end My

set_option Elab.async false
set_option linter.all false
set_option maxRecDepth 100000
set_option maxHeartbeats 4000000
namespace My
open PySem PySem.Spec PyProof.Rows L2 Bk
/-- a drawn entry -/
def drE (high : Int) (p : Int × Option Int) (day : Int) : Prop := okE p day ∧ p.1 ≤ high ∧ ∀ b, p.2 = some b → b ≤ 1000
theorem stock_step (s : Src3) {most high size way beg mend : Int} {n : Nat} (acc : List D) (hq : acc.length < sizeLine) (hh : 0 ≤ high) (hh2 : high ≤ 12) (hw : 0 ≤ way) (hw5 : way < 5) (hb : 0 ≤ beg) (hb2 : beg ≤ high) (hm : 0 ≤ mend) (hm2 : mend < 4) (hz : size ≤ 100) (hn : (n : Int) < size) :
    ∃ (p : Int × Option Int) (s2 : Src3), drE high p ((n : Int) + 1) ∧ lb_law_stock_1 [some (.ref 0), some (.int most), some (.int high), some (.int size), some (.int way), some (.int beg), some (.int mend), some (.ref 1), some (.int n), none, none] [srcO s, .lst acc]
      = .nx [some (.ref 0), some (.int most), some (.int high), some (.int size), some (.int way), some (.int beg), some (.int mend), some (.ref 1), none, none, none] [srcO s2, .lst (acc ++ [entD p])] := by
  have i2 : ∀ M, dIn M (.int way) (.tup [.int 1, .int 3]) = some (.bl (decide (way = 1 ∨ way = 3))) := fun M => by
    have := e_inT M way [1, 3]
    simpa using this
  have t := fun s n R h0 h => t_0 s n R h0 h
  have z1 : 0 < high + 1 := by omega
  have z2 : high + 1 < 4611686018427387904 := by omega
  have fd : fdivOk (n : Int) 2 = true := fd_small (by decide) (by decide)
  by_cases w0 : way = 0
  · subst w0
    refine ⟨(beg, some ((n : Int) + 2 + mend)), s, ⟨⟨hb, by omega, fun b e => by cases e; omega⟩, hb2, fun b e => by cases e; omega⟩, ?_⟩
    simp [lb_law_stock_1, i2, listD, mutR, hq, entD, optD]
  · have wp : 0 < way := by omega
    by_cases w13 : way = 1 ∨ way = 3
    · have w2 : ¬ way = 2 := by omega
      obtain ⟨o, e1, e2⟩ := later_ix (a := (n : Int) + 2 + tk (tn s (high + 1)) 4) (b := (n : Int) + 2) (c := size + 1 + tk (tn (tn s (high + 1)) 4) 9) (i := tk (tn (tn (tn s (high + 1)) 4) 9) 4) (tk_lo _ (by decide)) (tk_hi _ (by decide))
      have a1 := tk_lo (tn s (high + 1)) (n := 4) (by decide)
      have a2 := tk_lo (tn (tn s (high + 1)) 4) (n := 9) (by decide)
      have b1 := tk_lo s z1
      have b2 := tk_hi s z1
      have a3 := tk_hi (tn s (high + 1)) (n := 4) (by decide)
      have a4 := tk_hi (tn (tn s (high + 1)) 4) (n := 9) (by decide)
      refine ⟨(tk s (high + 1), o), tn (tn (tn (tn s (high + 1)) 4) 9) 4, ⟨⟨b1, by simp only; omega, fun b e => by
        rcases e2 with e2 | e2 | e2 | e2 <;> rw [e2] at e <;> cases e <;> omega⟩, by simp only; omega, fun b e => by
        rcases e2 with e2 | e2 | e2 | e2 <;> rw [e2] at e <;> cases e <;> omega⟩, ?_⟩
      simp [lb_law_stock_1, i2, listD, mutR, hq, entD, t, z1, z2, w13, w2, wp, e1]
    · obtain ⟨o, e1, e2⟩ := later_ix (a := (n : Int) + 2 + tk s 4) (b := (n : Int) + 2) (c := size + 1 + tk (tn s 4) 9) (i := tk (tn (tn s 4) 9) 4) (tk_lo _ (by decide)) (tk_hi _ (by decide))
      have a1 := tk_lo s (n := 4) (by decide)
      have a2 := tk_lo (tn s 4) (n := 9) (by decide)
      have a3 := tk_hi s (n := 4) (by decide)
      have a4 := tk_hi (tn s 4) (n := 9) (by decide)
      have ob : ∀ b, o = some b → (n : Int) + 1 + 1 ≤ b := fun b e => by
        rcases e2 with e2 | e2 | e2 | e2 <;> rw [e2] at e <;> cases e <;> omega
      have ob2 : ∀ b, o = some b → b ≤ 1000 := fun b e => by
        rcases e2 with e2 | e2 | e2 | e2 <;> rw [e2] at e <;> cases e <;> omega
      by_cases w2 : way = 2
      · refine ⟨(if 0 < beg - (n : Int) / 2 then beg - (n : Int) / 2 else 0, o), tn (tn (tn s 4) 9) 4, ⟨⟨by simp only; split <;> omega, by simp only; split <;> omega, ob⟩, by simp only; split <;> omega, ob2⟩, ?_⟩
        subst w2
        simp [lb_law_stock_1, i2, listD, mutR, hq, entD, t, fd, e1]
      · refine ⟨(beg, o), tn (tn (tn s 4) 9) 4, ⟨⟨hb, by simp only; omega, ob⟩, hb2, ob2⟩, ?_⟩
        simp [lb_law_stock_1, i2, listD, mutR, hq, entD, t, w13, w2, wp, e1]
theorem stock_loop {most high size way beg mend : Int} (hh : 0 ≤ high) (hh2 : high ≤ 12) (hw : 0 ≤ way) (hw5 : way < 5) (hb : 0 ≤ beg) (hb2 : beg ≤ high) (hm : 0 ≤ mend) (hm2 : mend < 4) (hz : size ≤ 100) :
    ∀ (n : Nat) (s : Src3) (acc : Cal), (acc.length : Int) + n ≤ size → (∀ (i : Nat) p, acc[i]? = some p → drE high p ((i : Int) + 1)) →
    ∃ (acc' : Cal) (s' : Src3), gForL (gTo 8) lb_law_stock_1 (rngL acc.length n) [some (.ref 0), some (.int most), some (.int high), some (.int size), some (.int way), some (.int beg), some (.int mend), some (.ref 1), none, none, none] [srcO s, .lst (acc.map entD)]
      = .nx [some (.ref 0), some (.int most), some (.int high), some (.int size), some (.int way), some (.int beg), some (.int mend), some (.ref 1), none, none, none] [srcO s', .lst (acc'.map entD)] ∧ acc'.length = acc.length + n ∧ (∀ (i : Nat) p, acc'[i]? = some p → drE high p ((i : Int) + 1)) := by
  have sz : 1000 ≤ sizeLine := by rw [sizeLine_eq]; omega
  intro n
  induction n with
  | zero => intro s acc _ h; exact ⟨acc, s, by simp [rngL], rfl, h⟩
  | succ n ih =>
    intro s acc h1 h2
    obtain ⟨p, s2, hp, e⟩ := stock_step s (most := most) (high := high) (size := size) (way := way) (beg := beg) (mend := mend) (n := acc.length) (acc.map entD) (by simp; omega) hh hh2 hw hw5 hb hb2 hm hm2 hz (by omega)
    obtain ⟨acc', s', e', l', f'⟩ := ih s2 (acc ++ [p]) (by simp; omega) fun i q hq => by
      by_cases hi : i < acc.length
      · exact h2 i q (by rw [List.getElem?_append_left hi] at hq; exact hq)
      · rw [List.getElem?_append_right (by omega)] at hq
        have : i = acc.length := by
          rcases Nat.lt_or_ge acc.length i with w | w
          · rw [List.getElem?_eq_none (by simp; omega)] at hq; cases hq
          · omega
        subst this
        have : p = q := by simpa using hq
        subst this
        exact hp
    refine ⟨acc', s', ?_, by simp at l'; omega, f'⟩
    have el : ((acc ++ [p]).length : Int) = (acc.length : Int) + 1 := by simp
    rw [el, List.map_append, List.map_cons, List.map_nil] at e'
    rw [rngL]
    exact (forL_cons (Γ1 := [some (.ref 0), some (.int most), some (.int high), some (.int size), some (.int way), some (.int beg), some (.int mend), some (.ref 1), some (.int acc.length), none, none]) (by simp) e).trans e'
theorem m_stock (s : Src3) {most high : Int} (h0 : 0 ≤ most) (h1 : most ≤ 99) (hh : 0 ≤ high) (hh2 : high ≤ 12) : ∃ (c : Cal) (s' : Src3), F_law_stock [.ref 0, .int most, .int high] [srcO s] = .ok (calD false c) [srcO s'] ∧ OkC c ∧ (c.length : Int) ≤ most ∧ ∀ p ∈ c, p.1 ≤ high ∧ ∀ b, p.2 = some b → b ≤ 1000 := by
  have t := fun s n R h0 h => t_0 s n R h0 h
  have a0 := tk_lo s (n := most + 1) (by omega)
  have a1 := tk_hi s (n := most + 1) (by omega)
  obtain ⟨acc', s', e, l, f⟩ := stock_loop (most := most) (high := high) (size := tk s (most + 1)) (way := tk (tn s (most + 1)) 5) (beg := tk (tn (tn s (most + 1)) 5) (high + 1)) (mend := tk (tn (tn (tn s (most + 1)) 5) (high + 1)) 4) hh hh2 (tk_lo _ (by decide)) (tk_hi _ (by decide)) (tk_lo _ (by omega)) (by have := tk_hi (tn (tn s (most + 1)) 5) (n := high + 1) (by omega); omega) (tk_lo _ (by decide)) (tk_hi _ (by decide)) (by omega) (tk s (most + 1)).toNat (tn (tn (tn (tn s (most + 1)) 5) (high + 1)) 4) [] (by simp; omega) (by simp)
  have k0 : gForL _ _ (rngL 0 (tk s (most + 1)).toNat) _ [_, .lst []] = _ := e
  have i1 : Bk.inR (tk s (most + 1)) = true := inR_i (by omega) (by omega)
  have z1 : 0 < most + 1 := by omega
  have z2 : most + 1 < 4611686018427387904 := by omega
  have z3 : 0 < high + 1 := by omega
  have z4 : high + 1 < 4611686018427387904 := by omega
  simp only [List.length_nil, Nat.zero_add] at l
  refine ⟨acc', s', ?_, ⟨by omega, fun i p hp => (f i p hp).1⟩, by omega, fun p hp => ?_⟩
  · simp [F_law_stock, b_law_stock, runF, t, z1, z2, z3, z4, i1, k0, calD]
  · obtain ⟨i, hi⟩ := List.mem_iff_getElem?.mp hp
    exact (f i p hi).2
theorem c_stock {k : Nat} {M : List MO} (s : Src3) {most high : Int} (hk : M[k]? = some (srcO s)) (h0 : 0 ≤ most) (h1 : most ≤ 99) (hh : 0 ≤ high) (hh2 : high ≤ 12) : ∃ (c : Cal) (s' : Src3), callF F_law_stock [.ref k, .int most, .int high] M = .ok (calD false c) (M.set k (srcO s')) ∧ OkC c ∧ (c.length : Int) ≤ most ∧ ∀ p ∈ c, p.1 ≤ high ∧ ∀ b, p.2 = some b → b ≤ 1000 := by
  obtain ⟨c, s', e, h⟩ := m_stock s h0 h1 hh hh2
  refine ⟨c, s', ?_, h⟩
  have q : lentOk [srcO s] = true := rfl
  have e2 : ∀ t : Src3, belowO 0 (srcO t) = true := fun t => rfl
  simp [callF, lendK, getAll, flatArgs, below, hk, q, e2, lendA, e, backD_any, setAll]
end My

set_option Elab.async false
set_option linter.all false
set_option maxRecDepth 100000
set_option maxHeartbeats 4000000
namespace My
open PySem PySem.Spec PyProof.Rows L2 Bk
/-! ### pieces added -/
def addL (f l p : Int) : Nat → Cal → Cal
  | _, [] => []
  | i, e :: r => (e.1 + p * (if f ≤ (i : Int) + 1 ∧ (i : Int) + 1 ≤ l then 1 else 0), e.2) :: addL f l p (i + 1) r
theorem addL_length (f l p : Int) : ∀ (i : Nat) (r : Cal), (addL f l p i r).length = r.length
  | _, [] => rfl
  | i, e :: r => by simp [addL, addL_length f l p (i + 1) r]
theorem mul_ix (M : List MO) (p : Int) (b : Bool) : dMulT M (.int p) (.int (if b = true then 1 else 0)) = some (.int (p * (if b = true then 1 else 0))) := by
  cases b
  · exact e_mulI M (mulOk_r p (by decide) (by decide))
  · exact e_mulI M (mulOk_r p (by decide) (by decide))
theorem m_with (t : Bool) {c : Cal} {f l p : Int} (hc : OkC c) (h1 : 1 ≤ f) (h2 : f ≤ l) (h3 : l ≤ c.length) (hr : ∀ e ∈ addL f l p 0 c, 0 ≤ e.1 ∧ e.1 ≤ 12) : F_with_pieces [calD t c, .int f, .int l, .int p] [] = .ok (.ref 0) [.lst ((addL f l p 0 c).map entD)] := by
  have sz : 1000 ≤ sizeLine := by rw [sizeLine_eq]; omega
  have hl := hc.l
  have key : ∀ (post : Cal) (i : Nat) (acc : List D), acc.length + post.length ≤ 100 →
      gLcL (gToT (gToCons (gTo 5) (gToCons (gToT (gToCons (gTo 6) (gToCons (gTo 7) (gToNil)))) (gToNil)))) gYes le_with_pieces_1 [some (calD t c), some (.int f), some (.int l), some (.int p), none, none, none, none] (enumL ((i : Int) + 1) (post.map entD)) acc [] = .ok (acc ++ (addL f l p i post).map entD) [] := by
    intro post
    induction post with
    | nil => intro i acc _; simp [enumL, addL, gLcL]
    | cons e post ih =>
      intro i acc hq
      obtain ⟨o, b⟩ := e
      simp only [List.length_cons] at hq
      have ih2 := ih (i + 1) (acc ++ [entD (o + p * (if f ≤ (i : Int) + 1 ∧ (i : Int) + 1 ≤ l then 1 else 0), b)]) (by simp; omega)
      have e3 : ((i + 1 : Nat) : Int) + 1 = (i : Int) + 1 + 1 := by omega
      rw [e3] at ih2
      rw [List.map_cons, enumL]
      refine (lcL_cons (Γ1 := [some (calD t c), some (.int f), some (.int l), some (.int p), none, some (.int ((i : Int) + 1)), some (.int o), some (optD b)]) (y := entD (o + p * (if f ≤ (i : Int) + 1 ∧ (i : Int) + 1 ≤ l then 1 else 0), b)) (M2 := []) (by simp [entD]) ?_ (by omega)).trans (ih2.trans (by simp [addL]))
      have m0 : mulOk p 0 = true := mulOk_r p (by decide) (by decide)
      have m1 : mulOk p 1 = true := mulOk_r p (by decide) (by decide)
      by_cases q1 : f ≤ (i : Int) + 1
      · by_cases q2 : (i : Int) + 1 ≤ l <;> simp [le_with_pieces_1, entD, q1, q2, e_mul, m0, m1]
      · simp [le_with_pieces_1, entD, q1, e_mul, m0, m1]
  have k := key c 0 [] (by simp; omega)
  rw [List.nil_append] at k
  have k0 : gLcL (gToT (gToCons (gTo 5) (gToCons (gToT (gToCons (gTo 6) (gToCons (gTo 7) (gToNil)))) (gToNil)))) gYes le_with_pieces_1 [some (calD t c), some (.int f), some (.int l), some (.int p), none, none, none, none] (enumL 1 (c.map entD)) [] [] = _ := k
  have kb := lcL_run (gg := gToT (gToCons (gTo 6) (gToCons (gTo 7) (gToNil)))) (ge := le_with_pieces_2) (Γ := [some (calD t c), some (.int f), some (.int l), some (.int p), some (.ref 0), none, none, none]) (M := [.lst ((addL f l p 0 c).map entD)]) entD (fun _ => D.bl true) (addL f l p 0 c) [] (by simp [addL_length]; omega) fun e he => by
    obtain ⟨a, b⟩ := hr e he
    exact ⟨[some (calD t c), some (.int f), some (.int l), some (.int p), some (.ref 0), none, some (.int e.1), some (optD e.2)], by simp [entD], by simp [le_with_pieces_2, a, b]⟩
  rw [List.nil_append] at kb
  have al : ∀ M (n : Nat), dAll M (.lst ((addL f l p 0 c).map fun _ => D.bl true)) = some (.bl true) := fun M n => by
    have e : ((addL f l p 0 c).map fun _ => D.bl true) = ((addL f l p 0 c).map fun _ => true).map D.bl := by simp
    rw [e]
    simp [dAll, ofBls, blsD_map, -List.map_map]
  have al' : ∀ M, dAll M (.lst ((addL f l p 0 c).map fun _ => D.bl true)) = some (.bl true) := fun M => al M 0
  have ci : ∀ i M, callF F_is_integer [.int i] M = .ok (.bl true) M := fun i M => c_flat (m_isint i) M (by simp) (by simp)
  have hfl : f ≤ (c.length : Int) := by omega
  generalize addL f l p 0 c = A at *
  simp [F_with_pieces, b_with_pieces, runF, c_reqcal t hc, c_between, ci, h1, h2, h3, hfl, k0, kb, al']
theorem c_with (t : Bool) {c : Cal} {f l p : Int} (hc : OkC c) (h1 : 1 ≤ f) (h2 : f ≤ l) (h3 : l ≤ c.length) (hr : ∀ e ∈ addL f l p 0 c, 0 ≤ e.1 ∧ e.1 ≤ 12) (M : List MO) : callF F_with_pieces [calD t c, .int f, .int l, .int p] M = .ok (.ref M.length) (M ++ [.lst ((addL f l p 0 c).map entD)]) := c_flatO (m_with t hc h1 h2 h3 hr) M (by simp) (by simp)
/-! ### the least stocks -/
def rowD (r : List Int) : D := .tup (r.map D.int)
def rowsD (u : Bool) (rs : List (List Int)) : D := if u = true then .tup (rs.map rowD) else .lst (rs.map rowD)
def rowP (r : List Int) : PyData := .tuple (r.map PyData.int)
theorem row_dt (n : Nat) (r : List Int) : Dt (n + 1) (rowD r) (rowP r) := (Dts.ints n r).tup
theorem rows_dt (n : Nat) (rs : List (List Int)) : Dts (n + 1) (rs.map rowD) (rs.map rowP) := .map _ fun r _ => row_dt n r
@[simp] theorem rows_below (m : Nat) (rs : List (List Int)) : belows m (rs.map rowD) = true := (rows_dt 0 rs).belows
@[simp] theorem row_below (m : Nat) (r : List Int) : below m (rowD r) = true := (row_dt 0 r).below
@[simp] theorem rowsD_below (m : Nat) (u : Bool) (rs : List (List Int)) : below m (rowsD u rs) = true := by cases u <;> simp [rowsD]
@[simp] theorem rowsD_seq (u : Bool) (rs : List (List Int)) : seqD (rowsD u rs) = some (rs.map rowD) := by cases u <;> rfl
@[simp] theorem rowsD_isi (M : List MO) (u : Bool) (rs : List (List Int)) : dIsiT ["list", "tuple"] M (rowsD u rs) = some (.bl true) := by cases u <;> rfl
/-- what is used on a day by the rows -/
def usedL (c : Cal) (rs : List (List Int)) (i : Nat) : List Int := 0 :: rs.map fun r => awayV c r ((i : Int) + 1) + nth r i
def leastV (c : Cal) (rs : List (List Int)) : List Int := (List.range c.length).map fun i => maxI (usedL c rs i)
theorem intR_range : ∀ (n : Nat) (lo : Int), intR lo n = (List.range n).map fun (i : Nat) => lo + (i : Int)
  | 0, _ => rfl
  | n + 1, lo => by
    rw [intR_succ, intR_range n lo, List.range_succ, List.map_append]
    rfl
theorem dMax_ints (M : List MO) (is : List Int) (h : is ≠ []) : dMax M (.lst (is.map D.int)) = some (.int (maxI is)) := by simp [dMax, ofInts, intsD_map, h]
theorem m_least (t u : Bool) {c : Cal} {rs : List (List Int)} (hc : OkC c) (hr : ∀ r ∈ rs, r.length = c.length ∧ ∀ n ∈ r, 0 ≤ n) (hz : rs.length ≤ 1000) : F_least_owned [calD t c, rowsD u rs] [] = .ok (.ref 0) [.lst ((leastV c rs).map D.int)] := by
  have sz : 2000 ≤ sizeLine := by rw [sizeLine_eq]; omega
  have hl := hc.l
  have k1 : ∀ (post : List (List Int)) (i : Int), (∀ r ∈ post, r.length = c.length ∧ ∀ n ∈ r, 0 ≤ n) →
      gForL (gToT (gToCons (gTo 2) (gToCons (gTo 3) (gToNil)))) lb_least_owned_1 (enumL i (post.map rowD)) [some (calD t c), some (rowsD u rs), none, none, none, none] [] = .nx [some (calD t c), some (rowsD u rs), none, none, none, none] [] := by
    intro post
    induction post with
    | nil => intro i _; simp [enumL]
    | cons r post ih =>
      intro i h
      obtain ⟨a, b⟩ := h r (by simp)
      have cn := c_flat (m_nums r (by omega) b) [] (by simp) (by simp)
      have al : ((r.length : Int) = c.length) = True := eq_true (by omega)
      rw [List.map_cons, enumL]
      refine (forL_cons (Γ1 := [some (calD t c), some (rowsD u rs), some (.int i), some (rowD r), none, none]) (by simp) ?_).trans (ih (i + 1) fun x hx => h x (by simp [hx]))
      simp [lb_least_owned_1, rowD, cn, al]
  have k2 : ∀ (n i : Nat) (acc : List Int), acc.length + n ≤ 100 → i + n ≤ c.length →
      gForL (gTo 5) lb_least_owned_2 (rngL ((i : Int) + 1) n) [some (calD t c), some (rowsD u rs), none, none, some (.ref 0), none] [.lst (acc.map D.int)]
      = .nx [some (calD t c), some (rowsD u rs), none, none, some (.ref 0), none] [.lst ((acc ++ ((List.range' i n).map fun i => maxI (usedL c rs i))).map D.int)] := by
    intro n
    induction n with
    | zero => intro i acc _ _; simp [rngL]
    | succ n ih =>
      intro i acc hq hi
      have hq' : acc.length < sizeLine := by omega
      have e2 := ih (i + 1) (acc ++ [maxI (usedL c rs i)]) (by simp; omega) (by omega)
      have e3 : ((i + 1 : Nat) : Int) + 1 = (i : Int) + 1 + 1 := by omega
      rw [e3] at e2
      have kc := lcL_run (gg := gTo 3) (ge := le_least_owned_1) (Γ := [some (calD t c), some (rowsD u rs), none, none, some (.ref 0), some (.int ((i : Int) + 1))]) (M := [.lst (acc.map D.int)]) rowD (fun r => D.int (awayV c r ((i : Int) + 1) + nth r i)) rs [] (by simp; omega) fun r hr' => by
        obtain ⟨a, b⟩ := hr r hr'
        have ca := c_away t c r ((i : Int) + 1) (by omega) [.lst (acc.map D.int)]
        have ix := nth_ix [.lst (acc.map D.int)] r i (by omega)
        have ei : (i : Int) + 1 - 1 = i := by omega
        exact ⟨_, rfl, by simp [-e_ix, le_least_owned_1, rowD, ca, ei, ix]⟩
      rw [List.nil_append] at kc
      have em : (D.int 0 :: rs.map fun r => D.int (awayV c r ((i : Int) + 1) + nth r i)) = (usedL c rs i).map D.int := by simp [usedL]
      have mx := fun M => dMax_ints M (usedL c rs i) (by simp [usedL])
      rw [← em] at mx
      have q2 : 1 + rs.length ≤ sizeLine := by omega
      have q3 : rs.length + 1 ≤ sizeLine := by omega
      rw [rngL]
      refine (forL_cons (Γ1 := [some (calD t c), some (rowsD u rs), none, none, some (.ref 0), some (.int ((i : Int) + 1))]) (by simp) ?_).trans (e2.trans (by simp [List.range'_succ]))
      simp [lb_least_owned_2, listD, mutR, hq', kc, mx, q2, q3]
  have a := k1 rs 0 hr
  have b := k2 c.length 0 [] (by simp; omega) (by omega)
  have b0 : gForL (gTo 5) lb_least_owned_2 (rngL 1 c.length) [some (calD t c), some (rowsD u rs), none, none, some (.ref 0), none] [.lst []] = _ := b
  have i1 : Bk.inR 1 = true := rfl
  have i2 : Bk.inR ((c.length : Int) + 1) = true := inR_i (by omega) (by omega)
  have e1 : ((c.length : Int) + 1 - 1).toNat = c.length := by omega
  have ev : (List.range' 0 c.length).map (fun i => maxI (usedL c rs i)) = leastV c rs := by rw [leastV, List.range_eq_range']
  rw [List.nil_append, ev] at b0
  have bl := belows_ints 0 (leastV c rs)
  simp [F_least_owned, b_least_owned, runF, c_reqcal t hc, a, b0, i1, i2, e1]
theorem c_least (t u : Bool) {c : Cal} {rs : List (List Int)} (hc : OkC c) (hr : ∀ r ∈ rs, r.length = c.length ∧ ∀ n ∈ r, 0 ≤ n) (hz : rs.length ≤ 1000) (M : List MO) : callF F_least_owned [calD t c, rowsD u rs] M = .ok (.ref M.length) (M ++ [.lst ((leastV c rs).map D.int)]) := c_flatO (m_least t u hc hr hz) M (by simp) (by simp)
end My

set_option Elab.async false
set_option linter.all false
set_option maxRecDepth 100000
set_option maxHeartbeats 4000000
namespace My
open PySem PySem.Spec PyProof.Rows L2 Bk
theorem maxI_ge : ∀ {is : List Int}, is ≠ [] → maxI is ∈ is ∧ ∀ y ∈ is, y ≤ maxI is
  | [], h => absurd rfl h
  | [i], _ => ⟨by simp [maxI], fun y hy => by
      have e : y = i := by simpa using hy
      rw [e]
      exact Int.le_refl i⟩
  | i :: j :: r, _ => by
    obtain ⟨h1, h2⟩ := maxI_ge (is := j :: r) (by simp)
    have e : maxI (i :: j :: r) = if maxI (j :: r) ≤ i then i else maxI (j :: r) := rfl
    rw [e]
    split
    · rename_i q
      refine ⟨by simp, fun y hy => ?_⟩
      rcases List.mem_cons.mp hy with z | z
      · omega
      · have := h2 y z
        omega
    · rename_i q
      refine ⟨List.mem_cons_of_mem _ h1, fun y hy => ?_⟩
      rcases List.mem_cons.mp hy with z | z
      · omega
      · exact h2 y z
theorem cutD_mid {ds : List D} {a k : Nat} (h1 : a ≤ k) (h2 : k ≤ ds.length) : Bk.cutD ds (some (a : Int)) (some (k : Int)) = (ds.drop a).take (k - a) := by
  unfold Bk.cutD
  rw [HT.sIx_nat, HT.sIx_nat, Nat.min_eq_left h2, Nat.min_eq_left (by omega)]
theorem addL_get (f l p : Int) : ∀ (r : Cal) (i j : Nat), (addL f l p i r)[j]? = r[j]?.map fun e => (e.1 + p * (if f ≤ ((i + j : Nat) : Int) + 1 ∧ ((i + j : Nat) : Int) + 1 ≤ l then 1 else 0), e.2)
  | [], _, _ => by simp [addL]
  | e :: r, i, 0 => by simp [addL]
  | e :: r, i, j + 1 => by
    have := addL_get f l p r (i + 1) j
    have e2 : i + 1 + j = i + (j + 1) := by omega
    rw [e2] at this
    simpa [addL] using this
theorem dMin_ints (M : List MO) (is : List Int) (h : is ≠ []) : dMin M (.lst (is.map D.int)) = some (.int (minI is)) := by simp [dMin, ofInts, intsD_map, h]
end My

set_option Elab.async false
set_option linter.all false
set_option maxRecDepth 100000
set_option maxHeartbeats 4000000
namespace My
open PySem PySem.Spec PyProof.Rows L2 Bk
theorem m_added {c : Cal} (hc : OkC c) (h1 : 1 ≤ c.length) (h2 : c.length ≤ 20) (s : Src3) : ∃ s' : Src3, F_law_added_right [.ref 0, calD false c] [srcO s] = .ok (.bl true) [srcO s'] := by
  have sz : 2000 ≤ sizeLine := by rw [sizeLine_eq]; omega
  have t := fun s n R h0 h => t_0 s n R h0 h
  have z1 : (0 : Int) < c.length := by omega
  have z2 : (c.length : Int) < 4611686018427387904 := by omega
  have b0 := tk_lo s z1
  have b1 := tk_hi s z1
  obtain ⟨b, hb⟩ : ∃ b, 1 + tk s c.length = b := ⟨_, rfl⟩
  have z3 : 0 < (c.length : Int) - b + 1 := by omega
  have z4 : (c.length : Int) - b + 1 < 4611686018427387904 := by omega
  have e0 := tk_lo (tn s c.length) z3
  have e1 := tk_hi (tn s c.length) z3
  obtain ⟨e, he⟩ : ∃ e, b + tk (tn s c.length) ((c.length : Int) - b + 1) = e := ⟨_, rfl⟩
  obtain ⟨s2, hs2⟩ : ∃ s2, tn (tn s c.length) ((c.length : Int) - b + 1) = s2 := ⟨_, rfl⟩
  obtain ⟨seg, hseg⟩ : ∃ seg, (c.drop (b.toNat - 1)).take (e.toNat - (b.toNat - 1)) = seg := ⟨_, rfl⟩
  have cut : ∀ M, dCut M (some (b - 1)) (some e) (calD false c) = some (calD false seg) := fun M => by
    have q1 : b - 1 = ((b.toNat - 1 : Nat) : Int) := by omega
    have q2 : e = (e.toNat : Int) := by omega
    rw [q1, q2]
    simp only [calD, if_neg (show ¬ false = true by decide), dCut, listD, Option.map_some]
    rw [cutD_mid (by omega) (by simp; omega), ← hseg]
    simp [List.map_drop, List.map_take]
  have segl : seg.length = e.toNat - (b.toNat - 1) := by rw [← hseg]; simp; omega
  have ne : seg.map (·.1) ≠ [] := by
    intro z
    have := congrArg List.length z
    simp [segl] at this
    omega
  have segm : ∀ (i : Nat) x, c[i]? = some x → b ≤ (i : Int) + 1 → (i : Int) + 1 ≤ e → x ∈ seg := fun i x hx g1 g2 => by
    rw [← hseg]
    refine List.mem_iff_getElem?.mpr ⟨i - (b.toNat - 1), ?_⟩
    rw [List.getElem?_take_of_lt (by omega), List.getElem?_drop]
    have : b.toNat - 1 + (i - (b.toNat - 1)) = i := by omega
    rw [this]
    exact hx
  have segc : ∀ x ∈ seg, 0 ≤ x.1 ∧ x.1 ≤ 12 := fun x hx => by
    rw [← hseg] at hx
    obtain ⟨i, hi⟩ := List.mem_iff_getElem?.mp (List.mem_of_mem_drop (List.mem_of_mem_take hx))
    have := hc.v i x hi
    exact ⟨this.1, this.2.1⟩
  obtain ⟨mx, hmx⟩ : ∃ mx, maxI (seg.map (·.1)) = mx := ⟨_, rfl⟩
  obtain ⟨mn, hmn⟩ : ∃ mn, minI (seg.map (·.1)) = mn := ⟨_, rfl⟩
  have fx := maxI_ge ne
  have fn := minI_le ne
  rw [hmx] at fx
  rw [hmn] at fn
  obtain ⟨xx, xm, xe⟩ := List.mem_map.mp fx.1
  obtain ⟨nx, nm, ne2⟩ := List.mem_map.mp fn.1
  have x1 := segc xx xm
  have n1 := segc nx nm
  have mm := fx.2 mn fn.1
  have d1 : ∀ M, dMax M (.lst (seg.map fun e => D.int e.1)) = some (.int mx) := fun M => by
    have := dMax_ints M _ ne
    rw [List.map_map, hmx] at this
    exact this
  have d2 : ∀ M, dMin M (.lst (seg.map fun e => D.int e.1)) = some (.int mn) := fun M => by
    have := dMin_ints M _ ne
    rw [List.map_map, hmn] at this
    exact this
  have z5 : 0 < 13 - mx + mn := by omega
  have z6 : 13 - mx + mn < 4611686018427387904 := by omega
  have c0 := tk_lo s2 z5
  have c1 := tk_hi s2 z5
  obtain ⟨p, hp⟩ : ∃ p, tk s2 (13 - mx + mn) - mn = p := ⟨_, rfl⟩
  obtain ⟨s3, hs3⟩ : ∃ s3, tn s2 (13 - mx + mn) = s3 := ⟨_, rfl⟩
  have ks := fun M => lcL_run (gg := gToT (gToCons (gTo 8) (gToCons (gTo 9) (gToNil)))) (ge := gV 8) (Γ := [some (.ref 0), some (calD false c), some (.int b), some (.int e), none, none, none, none, none, none, none, none]) (M := M) entD (fun x => D.int x.1) seg [] (by simp; omega) fun x hx =>
    ⟨[some (.ref 0), some (calD false c), some (.int b), some (.int e), none, none, none, none, some (.int x.1), some (optD x.2), none, none], by simp [entD], by simp⟩
  simp only [List.nil_append] at ks
  have hr : ∀ x ∈ addL b e p 0 c, 0 ≤ x.1 ∧ x.1 ≤ 12 := fun x hx => by
    obtain ⟨i, hi⟩ := List.mem_iff_getElem?.mp hx
    rw [addL_get] at hi
    cases hci : c[i]? with
    | none => rw [hci] at hi; cases hi
    | some y =>
      rw [hci] at hi
      have := Option.some.inj hi
      rw [← this]
      have y1 := hc.v i y hci
      simp only [Nat.zero_add]
      by_cases q : b ≤ (i : Int) + 1 ∧ (i : Int) + 1 ≤ e
      · rw [if_pos q]
        have ym := segm i y hci q.1 q.2
        have a1 := fx.2 y.1 (List.mem_map.mpr ⟨y, ym, rfl⟩)
        have a2 := fn.2 y.1 (List.mem_map.mpr ⟨y, ym, rfl⟩)
        omega
      · rw [if_neg q]
        have := y1.1
        have := y1.2.1
        omega
  have kd : ∀ (post : Cal) (i : Nat) (acc : List D) (v4 : D), acc.length + post.length ≤ 100 →
      gForL (gToT (gToCons (gTo 7) (gToCons (gToT (gToCons (gTo 8) (gToCons (gTo 9) (gToNil)))) (gToNil)))) lb_law_added_right_1 (enumL (i : Int) (post.map entD)) [some (.ref 0), some (calD false c), some (.int b), some (.int e), some v4, some (.int p), some (.ref 1), none, none, none, none, none] [srcO s3, .lst acc]
      = .nx [some (.ref 0), some (calD false c), some (.int b), some (.int e), some v4, some (.int p), some (.ref 1), none, none, none, none, none] [srcO s3, .lst (acc ++ (addL b e p i post).map entD)] := by
    intro post
    induction post with
    | nil => intro i acc v4 _; simp [enumL, addL]
    | cons x post ih =>
      intro i acc v4 hq
      obtain ⟨o, bk⟩ := x
      simp only [List.length_cons] at hq
      have ih2 := ih (i + 1) (acc ++ [entD (o + p * (if b ≤ (i : Int) + 1 ∧ (i : Int) + 1 ≤ e then 1 else 0), bk)]) v4 (by simp; omega)
      have e3 : ((i + 1 : Nat) : Int) = (i : Int) + 1 := by omega
      rw [e3] at ih2
      have q : acc.length < sizeLine := by omega
      rw [List.map_cons, enumL]
      refine (forL_cons (Γ1 := [some (.ref 0), some (calD false c), some (.int b), some (.int e), some v4, some (.int p), some (.ref 1), some (.int i), some (.int o), some (optD bk), none, none]) (by simp [entD]) ?_).trans (ih2.trans (by simp [addL]))
      have m0 : mulOk p 0 = true := mulOk_r p (by decide) (by decide)
      have m1 : mulOk p 1 = true := mulOk_r p (by decide) (by decide)
      by_cases q1 : b ≤ (i : Int) + 1
      · by_cases q2 : (i : Int) + 1 ≤ e <;> simp [lb_law_added_right_1, entD, q1, q2, e_mul, m0, m1, listD, mutR, q]
      · simp [lb_law_added_right_1, entD, q1, e_mul, m0, m1, listD, mutR, q]
  have k := kd c 0 [] (.lst (seg.map fun e => D.int e.1)) (by simp; omega)
  rw [List.nil_append] at k
  have k0 : gForL _ _ (enumL 0 (c.map entD)) _ _ = _ := k
  have cw := fun t M => c_with t (p := p) hc (by omega) (by omega) (by omega) hr M
  have dt := ents_dt 0 (addL b e p 0 c)
  have al : (addL b e p 0 c).length < sizeLine := by rw [addL_length]; omega
  have bl : ∀ m, belows m ((addL b e p 0 c).map entD) = true := fun m => ents_below m _
  have tq : ∀ M, dTuple M (calD false c) = some (calD true c) := fun M => rfl
  have i2 : Bk.inR 2 = true := rfl
  have rp : p = p := rfl
  have ba : b + tk (tn s c.length) ((c.length : Int) - b + 1) = e := he
  generalize addL b e p 0 c = A at *
  have f1 : ∀ a x R, dNeA (a :: x :: MO.lst (A.map entD) :: R) (.ref 2) (.lst (A.map entD)) = some (.bl false) := fun a x R => ne_ref dt (by decide) rfl
  have f2 : ∀ a x R, dIsi "list" (a :: x :: MO.lst (A.map entD) :: R) (.ref 2) = some (.bl true) := fun a x R => e_isi_lr rfl
  have f3 : ∀ a x R, dEqA (a :: x :: MO.lst (A.map entD) :: R) (.ref 2) (.lst (A.map entD)) = some (.bl true) := fun a x R => eq_ref dt (by decide) rfl
  have tu : ∀ (x : Int) (v4 : D), below 2 v4 = true → lb_law_added_right_2 [some (.ref 0), some (calD false c), some (.int b), some (.int e), some v4, some (.int p), some (.lst (A.map entD)), none, none, none, some (.int x), none] [srcO s3, .dead] = .nx [some (.ref 0), some (calD false c), some (.int b), some (.int e), some v4, some (.int p), some (.lst (A.map entD)), none, none, none, none, none] [srcO s3, .dead] := fun x v4 hv => by
    simp [lb_law_added_right_2, cw, f1, f2, listD, mutR, al, clean, hv]
  have vb : below 2 (.lst (seg.map fun e => D.int e.1)) = true := by
    have := belows_ints 2 (seg.map (·.1))
    rw [List.map_map] at this
    rw [bl_lst]
    exact this
  have tu' := fun x => tu x _ vb
  have t1 := fun s R => t_0 s _ R z1 z2
  refine ⟨s3, ?_⟩
  simp [F_law_added_right, b_law_added_right, runF, t, t1, hb, z3, z4, ba, hs2, cut, ks, d1, d2, z5, z6, hp, hs3, k0, i2, rngL, tu', cw, tq, f3]
  done
end My

set_option Elab.async false
set_option linter.all false
set_option maxRecDepth 100000
set_option maxHeartbeats 4000000
namespace My
open PySem PySem.Spec PyProof.Rows L2 Bk
/-! ### draws of large numbers -/
theorem m_takeB (s : Src3) {n : Int} (h0 : 0 < n) (d : ∀ i, fdivOk i n = true) : F_law_take [.ref 0, .int n] [srcO s] = .ok (.int (tk s n)) [srcO (tn s n)] := by
  have p : powOk 10 18 = true := by decide
  have c : callF F_law_mixed [.int s.2.1, .int (s.2.2 + 1)] [.lst [.int s.1, .int s.2.1, .int (s.2.2 + 1)]] = .ok (.int (mixI s.2.1 (s.2.2 + 1))) [.lst [.int s.1, .int s.2.1, .int (s.2.2 + 1)]] := by
    simp [callF, lendK, getAll, flatArgs, below, lentOk, lendA, m_mixed, backD, setAll]
  have e : (10 : Int) ^ (18 : Int).toNat = 10 ^ 18 := rfl
  simp only [tk, tn]
  by_cases q : (1000000000000000000 : Int) ≤ s.1
  · simp [F_law_take, b_law_take, runF, srcO, listD, setR, ixN, p, d, h0, fin, cutOk, retR, below, belowO, belows, q, e]
  · simp [F_law_take, b_law_take, runF, srcO, listD, setR, ixN, p, d, h0, fin, cutOk, retR, below, belowO, belows, q, c, e]
theorem t_B (s : Src3) (n : Int) (R : List MO) (h0 : 0 < n) (d : ∀ i, fdivOk i n = true) : callF F_law_take [.ref 0, .int n] (srcO s :: R) = .ok (.int (tk s n)) (srcO (tn s n) :: R) := by
  have e : lentOk [srcO s] = true := rfl
  have e2 : ∀ t : Src3, belowO 0 (srcO t) = true := fun t => rfl
  simp [callF, lendK, getAll, flatArgs, below, e, e2, lendA, m_takeB s h0 d, backD, setAll]
end My

set_option Elab.async false
set_option linter.all false
set_option maxRecDepth 100000
set_option maxHeartbeats 4000000
namespace My
open PySem PySem.Spec PyProof.Rows L2 Bk
theorem least_length (c : Cal) (rs : List (List Int)) : (leastV c rs).length = c.length := by simp [leastV]
theorem least_get {c : Cal} {rs : List (List Int)} {j : Nat} (h : j < c.length) : (leastV c rs)[j]? = some (maxI (usedL c rs j)) := by simp [leastV, h]
theorem used_max {c : Cal} {rs : List (List Int)} (j : Nat) : maxI (usedL c rs j) ∈ usedL c rs j ∧ ∀ y ∈ usedL c rs j, y ≤ maxI (usedL c rs j) := maxI_ge (by simp [usedL])
end My

set_option Elab.async false
set_option linter.all false
set_option maxRecDepth 100000
set_option maxHeartbeats 4000000
namespace My
open PySem PySem.Spec PyProof.Rows L2 Bk
/-! ### calendars with other stocks -/
theorem awayZ_backs (d : Int) : ∀ (a b : Cal) (ns : List Int), a.map (·.2) = b.map (·.2) → awayZ d (a.zip ns) = awayZ d (b.zip ns)
  | [], [], _, _ => rfl
  | [], _ :: _, _, h => by simp at h
  | _ :: _, [], _, h => by simp at h
  | p :: a, q :: b, [], _ => by simp
  | p :: a, q :: b, n :: ns, h => by
    simp only [List.map_cons, List.cons.injEq] at h
    have := awayZ_backs d a b ns h.2
    simp only [awayZ] at this
    simp [awayZ, h.1, this]
theorem awayV_backs {a b : Cal} (h : a.map (·.2) = b.map (·.2)) (ns : List Int) (d : Int) : awayV a ns d = awayV b ns d := by
  unfold awayV
  exact awayZ_backs d _ _ _ (by rw [List.map_take, List.map_take, h])
def setO (os : List Int) (c : Cal) : Cal := (os.zip c).map fun z => (z.1, z.2.2)
theorem setO_backs : ∀ (os : List Int) (c : Cal), os.length = c.length → (setO os c).map (·.2) = c.map (·.2)
  | [], [], _ => rfl
  | [], _ :: _, h => by simp at h
  | _ :: _, [], h => by simp at h
  | o :: os, p :: c, h => by
    have := setO_backs os c (by simpa using h)
    simp only [setO] at this
    simp [setO, this]
theorem setO_length {os : List Int} {c : Cal} (h : os.length = c.length) : (setO os c).length = c.length := by simp [setO, h]
theorem setO_get : ∀ (os : List Int) (c : Cal) (j : Nat) p, (setO os c)[j]? = some p → os[j]? = some p.1 ∧ ∃ q, c[j]? = some q ∧ q.2 = p.2
  | [], _, _, _, h => by simp [setO] at h
  | _ :: _, [], _, _, h => by simp [setO] at h
  | o :: os, q :: c, 0, p, h => by
    have : (o, q.2) = p := by simpa [setO] using h
    subst this
    exact ⟨rfl, q, rfl, rfl⟩
  | o :: os, q :: c, j + 1, p, h => by
    have := setO_get os c j p (by simpa [setO] using h)
    simpa using this
theorem zip_ints_ents : ∀ (os : List Int) (c : Cal), zipL (os.map D.int) (c.map entD) = (os.zip c).map fun z => .tup [.int z.1, entD z.2]
  | [], _ => by simp [zipL]
  | _ :: _, [] => by simp [zipL]
  | o :: os, p :: c => by simp [zipL, zip_ints_ents os c]
theorem fo_some {c : Cal} {ns : List Int} : ∀ {r : Cal} {i j : Nat} {p : Int × Option Int}, (∀ (k : Nat) q, k < j → r[k]? = some q → awayV c ns (((i + k : Nat) : Int) + 1) + nth ns (i + k) ≤ q.1) → r[j]? = some p → p.1 < awayV c ns (((i + j : Nat) : Int) + 1) + nth ns (i + j) → fo c ns i r = some (((i + j : Nat) : Int) + 1)
  | [], i, j, p, _, h, _ => by simp at h
  | q :: r, i, 0, p, _, h, hp => by
    have : q = p := by simpa using h
    subst this
    rw [fo]
    simp only [Nat.add_zero] at hp ⊢
    rw [if_pos hp]
  | q :: r, i, j + 1, p, h0, h, hp => by
    have a := h0 0 q (by omega) rfl
    simp only [Nat.add_zero] at a
    rw [fo, if_neg (by omega)]
    have e : i + 1 + j = i + (j + 1) := by omega
    have := fo_some (c := c) (ns := ns) (r := r) (i := i + 1) (j := j) (p := p) (fun k x hk hx => by
      have := h0 (k + 1) x (by omega) (by simpa using hx)
      have e2 : i + 1 + k = i + (k + 1) := by omega
      rw [e2]
      exact this) (by simpa using h) (by rw [e]; exact hp)
    rw [e] at this
    exact this
theorem rows_eq_nil (M : List MO) (rs : List (List Int)) : eqP M (.lst (rs.map rowD)) (.lst []) = some (decide (rs = [])) := by
  rw [eqP_of (rows_dt 0 rs).lst (Dts.lst (Dts.nil 0)) (Dt.deref (rows_dt 0 rs).lst) (Dt.deref (Dts.nil 0).lst) (by decide) (by decide)]
  cases rs <;> simp [PyData.eqv, PyData.eqvAll]
theorem rows_eq (M : List MO) (rs : List (List Int)) : dEqA M (.lst (rs.map rowD)) (.lst []) = some (.bl (decide (rs = []))) := dEqA_p (rows_eq_nil M rs) (fun _ h => by cases h)
theorem rows_ne (M : List MO) (rs : List (List Int)) : dNeA M (.lst (rs.map rowD)) (.lst []) = some (.bl !(decide (rs = []))) := dNeA_p (rows_eq_nil M rs) (fun _ h => by cases h)
/-- with the least stocks every row is allowed -/
theorem enough_ok {c : Cal} {rs : List (List Int)} {r : List Int} (h : r ∈ rs) : fo (setO (leastV c rs) c) r 0 (setO (leastV c rs) c) = none := by
  rw [fo_none]
  intro j p hp
  obtain ⟨h1, q, h2, _⟩ := setO_get _ _ _ _ hp
  have lj : j < c.length := (List.getElem?_eq_some_iff.mp h2).1
  rw [least_get lj] at h1
  have e : maxI (usedL c rs j) = p.1 := Option.some.inj h1
  rw [Nat.zero_add, awayV_backs (setO_backs _ _ (least_length c rs)), ← e]
  exact (used_max j).2 _ (by simp only [usedL]; exact List.mem_cons_of_mem _ (List.mem_map.mpr ⟨r, h, rfl⟩))
/-- with one piece less on a day some row is not -/
theorem fewer_bad {c e : Cal} {rs : List (List Int)} {j : Nat} (hb : e.map (·.2) = c.map (·.2)) (hj : j < c.length) (h0 : 0 < maxI (usedL c rs j)) (he : ∀ (k : Nat) p, e[k]? = some p → p.1 = if k = j then maxI (usedL c rs k) - 1 else maxI (usedL c rs k)) : ∃ r ∈ rs, fo e r 0 e = some ((j : Int) + 1) := by
  obtain ⟨m1, m2⟩ := used_max (c := c) (rs := rs) j
  rcases List.mem_cons.mp m1 with z | z
  · omega
  · obtain ⟨r, hr, er⟩ := List.mem_map.mp z
    refine ⟨r, hr, ?_⟩
    have le : j < e.length := by
      have := congrArg List.length hb
      simp only [List.length_map] at this
      omega
    have gj := List.getElem?_eq_getElem le
    have pj := he j _ gj
    rw [if_pos rfl] at pj
    have := fo_some (c := e) (ns := r) (r := e) (i := 0) (j := j) (p := e[j]) (fun k q hk hq => by
      have := he k q hq
      rw [if_neg (by omega)] at this
      rw [Nat.zero_add, this, awayV_backs hb]
      exact (used_max k).2 _ (by simp only [usedL]; exact List.mem_cons_of_mem _ (List.mem_map.mpr ⟨r, hr, rfl⟩))) gj (by rw [Nat.zero_add, pj, awayV_backs hb, er]; omega)
    rw [Nat.zero_add] at this
    exact this
end My

set_option Elab.async false
set_option linter.all false
set_option maxRecDepth 100000
set_option maxHeartbeats 4000000
namespace My
open PySem PySem.Spec PyProof.Rows L2 Bk
abbrev EL (c : Cal) (v2 v3 v4 v5 v6 v7 v8 v9 : Option D) : Bk.Env := [some (.ref 0), some (calD false c), v2, v3, v4, v5, v6, v7, v8, v9, none, none, none, none, none]
theorem big_d : ∀ i, fdivOk i 100000000000000000000 = true := fun i => by
  show (decide ((0 : Int) < 100000000000000000000) && decide ((100000000000000000000 : Int).natAbs.log2 < 9000)) = true
  decide +kernel
theorem hi_ix {i : Int} (h0 : 0 ≤ i) (h3 : i < 3) : ∃ v : Int, atI [D.int 2, .int 4, .int 100000000000000000000] i = some (.int v) ∧ 0 < v ∧ ∀ i, fdivOk i v = true := by
  obtain rfl | rfl | rfl : i = 0 ∨ i = 1 ∨ i = 2 := by omega
  · exact ⟨2, by simp, by decide, fun i => fd_small (by decide) (by decide)⟩
  · exact ⟨4, by simp, by decide, fun i => fd_small (by decide) (by decide)⟩
  · exact ⟨100000000000000000000, by simp, by decide, big_d⟩
theorem rows_of : ∀ (es : List D) (n : Nat), (∀ (i : Nat) e, es[i]? = some e → ∃ r : List Int, e = rowD r ∧ r.length = n ∧ ∀ v ∈ r, 0 ≤ v) → ∃ rs : List (List Int), es = rs.map rowD ∧ ∀ r ∈ rs, r.length = n ∧ ∀ v ∈ r, 0 ≤ v
  | [], n, _ => ⟨[], rfl, by simp⟩
  | e :: es, n, h => by
    obtain ⟨r, hr, h0⟩ := h 0 e rfl
    obtain ⟨rs, hrs, hp⟩ := rows_of es n fun i x hx => h (i + 1) x (by simpa using hx)
    refine ⟨r :: rs, by rw [hr, hrs]; rfl, fun x hx => ?_⟩
    rcases List.mem_cons.mp hx with w | w
    · rw [w]; exact h0
    · exact hp x w
/-- the drawn rows -/
theorem draw_rows {c : Cal} (hl : c.length ≤ 20) (s : Src3) {v : Int} (hv : 0 < v) (hd : ∀ i, fdivOk i v = true) (n : Nat) (hn : n ≤ 100) : ∃ (rs : List (List Int)) (s' : Src3), gLcL (gTo 11) gYes le_law_least_right_2 (EL c (some (.int v)) none none none none none none none) (rngL 0 n) [] [srcO s] = .ok (rs.map rowD) [srcO s'] ∧ rs.length = n ∧ ∀ r ∈ rs, r.length = c.length ∧ ∀ v ∈ r, 0 ≤ v := by
  have sz : 2000 ≤ sizeLine := by rw [sizeLine_eq]; omega
  obtain ⟨es, s', e1, l1, p1⟩ := lc_draws (gg := gTo 11) (ge := le_law_least_right_2) (Γ := EL c (some (.int v)) none none none none none none none) (R := []) (P := fun _ e => ∃ r : List Int, e = rowD r ∧ r.length = c.length ∧ ∀ v ∈ r, 0 ≤ v) (rngL 0 n) [] s (by rw [rngL_length]; show 0 + n ≤ sizeLine; omega) fun d hd' s => by
    obtain ⟨fs, s2, e2, l2, p2⟩ := lc_draws (gg := gTo 14) (ge := le_law_least_right_1) (Γ := [some (.ref 0), some (calD false c), some (.int v), none, none, none, none, none, none, none, none, some d, none, none, none]) (R := []) (P := fun _ e => ∃ v : Int, e = .int v ∧ 0 ≤ v) (c.map entD) [] s (by simp; omega) fun x hx s =>
      ⟨_, .int (tk s v), tn s v, rfl, by
        have t1 := t_B s v [] hv hd
        simp [le_law_least_right_1, t1], _, rfl, tk_lo s hv⟩
    obtain ⟨vs, rfl, hvs⟩ := ints_of fs fun j e he => by
      have l : j < (c.map entD).length := by rw [← l2]; exact (List.getElem?_eq_some_iff.mp he).1
      exact p2 j _ e (List.getElem?_eq_getElem l) he
    simp only [List.length_map, List.nil_append] at l2 e2
    have tp : ∀ M ds, dTuple M (.lst ds) = some (.tup ds) := fun M ds => rfl
    exact ⟨_, rowD vs, s2, rfl, by simp [le_law_least_right_2, e2, tp, rowD], vs, rfl, l2, hvs⟩
  rw [rngL_length] at l1
  obtain ⟨rs, rfl, hrs⟩ := rows_of es c.length fun j e he => by
    have l : j < (rngL 0 n).length := by rw [rngL_length, ← l1]; exact (List.getElem?_eq_some_iff.mp he).1
    exact p1 j _ e (List.getElem?_eq_getElem l) he
  simp only [List.length_map, List.nil_append] at l1 e1
  exact ⟨rs, s', e1, l1, hrs⟩
theorem due_loop {c : Cal} (hl : c.length ≤ 20) (s : Src3) (v : Int) {rs : List (List Int)} (hr : ∀ r ∈ rs, r.length = c.length ∧ ∀ n ∈ r, 0 ≤ n) (hz : rs.length ≤ 100) : ∀ (n i : Nat) (acc : List Int), acc.length + n ≤ 100 → i + n ≤ c.length →
      gForL (gTo 5) lb_law_least_right_1 (rngL (i : Int) n) (EL c (some (.int v)) (some (rowsD false rs)) (some (.ref 1)) none none none none none) [srcO s, .lst (acc.map D.int)]
      = .nx (EL c (some (.int v)) (some (rowsD false rs)) (some (.ref 1)) none none none none none) [srcO s, .lst ((acc ++ ((List.range' i n).map fun i => maxI (usedL c rs i))).map D.int)] := by
  have sz : 2000 ≤ sizeLine := by rw [sizeLine_eq]; omega
  intro n
  induction n with
  | zero => intro i acc _ _; simp [rngL]
  | succ n ih =>
    intro i acc hq hi
    have hq' : acc.length < sizeLine := by omega
    have e2 := ih (i + 1) (acc ++ [maxI (usedL c rs i)]) (by simp; omega) (by omega)
    have e3 : ((i + 1 : Nat) : Int) = (i : Int) + 1 := by omega
    rw [e3] at e2
    have kc := lcL_run (gg := gTo 13) (ge := le_law_least_right_3) (Γ := EL c (some (.int v)) (some (rowsD false rs)) (some (.ref 1)) (some (.int i)) none none none none) (M := [srcO s, .lst (acc.map D.int)]) rowD (fun r => D.int (awayV c r ((i : Int) + 1) + nth r i)) rs [] (by simp; omega) fun r hr' => by
      obtain ⟨a, b⟩ := hr r hr'
      have ca := c_gone false c r ((i : Int) + 1) (by omega) (by omega) [srcO s, .lst (acc.map D.int)]
      have ix := nth_ix [srcO s, .lst (acc.map D.int)] r i (by omega)
      exact ⟨_, rfl, by simp [-e_ix, le_law_least_right_3, rowD, ca, ix]⟩
    rw [List.nil_append] at kc
    have em : (D.int 0 :: rs.map fun r => D.int (awayV c r ((i : Int) + 1) + nth r i)) = (usedL c rs i).map D.int := by simp [usedL]
    have mx := fun M => dMax_ints M (usedL c rs i) (by simp [usedL])
    rw [← em] at mx
    have q2 : 1 + rs.length ≤ sizeLine := by omega
    have q3 : rs.length + 1 ≤ sizeLine := by omega
    rw [rngL]
    refine (forL_cons (Γ1 := EL c (some (.int v)) (some (rowsD false rs)) (some (.ref 1)) (some (.int i)) none none none none) (by simp) ?_).trans (e2.trans (by simp [List.range'_succ]))
    simp [lb_law_least_right_1, listD, mutR, hq', kc, mx, q2, q3]
/-- a list cut and glued anew, one entry changed -/
theorem cut_at {α : Type} : ∀ (l : List α) (j : Nat) (y : α), j < l.length → l.take j ++ y :: l.drop (j + 1) = l.set j y
  | [], _, _, h => by simp at h
  | a :: l, 0, y, _ => by simp
  | a :: l, j + 1, y, h => by simp [cut_at l j y (by simpa using h)]
theorem least_turns {c : Cal} (hc : OkC c) (hl : c.length ≤ 20) (s : Src3) (v : Int) {rs : List (List Int)} (hr : ∀ r ∈ rs, r.length = c.length ∧ ∀ n ∈ r, 0 ≤ n) (hz : rs.length ≤ 100) (h12 : ∀ j, j < c.length → maxI (usedL c rs j) ≤ 12) {M : List MO} {w4 w6 : D} :
    ∀ (post : Cal) (j : Nat), post = (setO (leastV c rs) c).drop j →
      gForL (gToT (gToCons (gTo 5) (gToCons (gToT (gToCons (gTo 8) (gToCons (gTo 9) (gToNil)))) (gToNil)))) lb_law_least_right_2 (enumL (j : Int) (post.map entD)) (EL c (some (.int v)) (some (rowsD false rs)) (some w4) none (some w6) (some (calD false (setO (leastV c rs) c))) none none) M
      = .nx (EL c (some (.int v)) (some (rowsD false rs)) (some w4) none (some w6) (some (calD false (setO (leastV c rs) c))) none none) M := by
  have sz : 2000 ≤ sizeLine := by rw [sizeLine_eq]; omega
  have eL : (setO (leastV c rs) c).length = c.length := setO_length (least_length c rs)
  have eB : (setO (leastV c rs) c).map (·.2) = c.map (·.2) := setO_backs _ _ (least_length c rs)
  have used0 : ∀ j, 0 ≤ maxI (usedL c rs j) := fun j => (used_max j).2 0 (by simp [usedL])
  have eG : ∀ (k : Nat) p, (setO (leastV c rs) c)[k]? = some p → p.1 = maxI (usedL c rs k) ∧ k < c.length ∧ ∃ q, c[k]? = some q ∧ q.2 = p.2 := fun k p hp => by
    obtain ⟨h1, q, h2, h3⟩ := setO_get _ _ _ _ hp
    have lj : k < c.length := (List.getElem?_eq_some_iff.mp h2).1
    rw [least_get lj] at h1
    exact ⟨(Option.some.inj h1).symm, lj, q, h2, h3⟩
  intro post
  induction post with
  | nil => intro j _; simp [enumL]
  | cons p post ih =>
    intro j hp
    have lj : j < (setO (leastV c rs) c).length := by
      rcases Nat.lt_or_ge j (setO (leastV c rs) c).length with w | w
      · exact w
      · rw [List.drop_eq_nil_of_le w] at hp; cases hp
    rw [List.drop_eq_getElem_cons lj] at hp
    simp only [List.cons.injEq] at hp
    obtain ⟨hp1, hp2⟩ := hp
    have gj : (setO (leastV c rs) c)[j]? = some p := by rw [hp1]; exact List.getElem?_eq_getElem lj
    obtain ⟨a1, a2, q, a3, a4⟩ := eG j p gj
    have e3 : ((j + 1 : Nat) : Int) = (j : Int) + 1 := by omega
    have e2 := ih (j + 1) hp2
    rw [e3] at e2
    rw [List.map_cons, enumL]
    obtain ⟨o, b⟩ := p
    refine (forL_cons (Γ1 := EL c (some (.int v)) (some (rowsD false rs)) (some w4) (some (.int j)) (some w6) (some (calD false (setO (leastV c rs) c))) (some (.int o)) (some (optD b))) (by simp [entD]) ?_).trans e2
    by_cases ho : 0 < o
    · have cut1 : ∀ M, dCut M none (some (j : Int)) (calD false (setO (leastV c rs) c)) = some (.lst (((setO (leastV c rs) c).take j).map entD)) := fun M => by
        rw [calD_cut]
        rfl
      have cut2 : ∀ M, dCut M (some ((j : Int) + 1)) none (calD false (setO (leastV c rs) c)) = some (.lst (((setO (leastV c rs) c).drop (j + 1)).map entD)) := fun M => by
        have q1 : (j : Int) + 1 = ((j + 1 : Nat) : Int) := by omega
        rw [q1]
        simp only [calD, if_neg (show ¬ false = true by decide), dCut, listD, Option.map_some, cutD_from, List.map_drop]
      have glue : ((setO (leastV c rs) c).take j).map entD ++ entD (o - 1, b) :: ((setO (leastV c rs) c).drop (j + 1)).map entD = ((setO (leastV c rs) c).set j (o - 1, b)).map entD := by
        rw [← cut_at _ _ _ lj]
        simp
      have fB : ((setO (leastV c rs) c).set j (o - 1, b)).map (·.2) = c.map (·.2) := by
        rw [← eB, List.map_set]
        refine List.ext_getElem? fun k => ?_
        by_cases hk : k = j
        · subst hk
          rw [List.getElem?_set_self (by simpa using lj), List.getElem?_map, gj]
          rfl
        · rw [List.getElem?_set_ne (Ne.symm hk)]
      have fG : ∀ (k : Nat) p, ((setO (leastV c rs) c).set j (o - 1, b))[k]? = some p → p.1 = if k = j then maxI (usedL c rs k) - 1 else maxI (usedL c rs k) := fun k p hp => by
        by_cases hk : k = j
        · subst hk
          rw [List.getElem?_set_self lj] at hp
          have := Option.some.inj hp
          rw [if_pos rfl, ← this, ← a1]
        · rw [List.getElem?_set_ne (Ne.symm hk)] at hp
          rw [if_neg hk]
          exact (eG k p hp).1
      have fL : ((setO (leastV c rs) c).set j (o - 1, b)).length = c.length := by rw [List.length_set, eL]
      have fC : OkC ((setO (leastV c rs) c).set j (o - 1, b)) := ⟨by rw [fL]; exact hc.l, fun k p hp => by
        have g := fG k p hp
        have lk : k < c.length := by rw [← fL]; exact (List.getElem?_eq_some_iff.mp hp).1
        have u0 := used0 k
        have u1 := h12 k lk
        have bk : ∃ q, c[k]? = some q ∧ q.2 = p.2 := by
          have := congrArg (fun l => l[k]?) fB
          simp only [List.getElem?_map, hp, Option.map_some] at this
          rw [List.getElem?_eq_getElem lk] at this ⊢
          exact ⟨_, rfl, (Option.some.inj this).symm⟩
        obtain ⟨q, hq, hq2⟩ := bk
        refine ⟨?_, ?_, fun x hx => (hc.v k q hq).2.2 x (by rw [hq2]; exact hx)⟩
        · rw [g]
          split
          · rename_i ek
            subst ek
            simp only at a1
            omega
          · exact u0
        · rw [g]
          split <;> omega⟩
      obtain ⟨r, hr1, hr2⟩ := fewer_bad (e := (setO (leastV c rs) c).set j (o - 1, b)) (rs := rs) fB a2 (by simp only at a1; omega) fG
      have cf : ∀ r ∈ rs, callF F_first_fault [calD false ((setO (leastV c rs) c).set j (o - 1, b)), rowD r] M = .ok (optD (fo ((setO (leastV c rs) c).set j (o - 1, b)) r 0 ((setO (leastV c rs) c).set j (o - 1, b)))) M := fun r hr' => c_fault false fC (by rw [fL]; exact (hr r hr').1) (hr r hr').2 M
      generalize (setO (leastV c rs) c).set j (o - 1, b) = Fw at *
      have ks := lcL_sel (gg := gTo 13) (gt := gVal (gOp2 dEqA (gCallF 2 F_first_fault (gCons (gV 10) (gCons (gV 13) (gNil)))) (gOp2 dAdd (gV 5) (gC (.int 1))))) (ge := gV 13) (Γ := [some (.ref 0), some (calD false c), some (.int v), some (rowsD false rs), some w4, some (.int j), some w6, some (calD false (setO (leastV c rs) c)), some (.int o), some (optD b), some (calD false Fw), none, none, none, none]) (M := M) rowD rowD (fun r => decide (fo Fw r 0 Fw = some ((j : Int) + 1))) rs [] (by simp; omega) fun r hr' => by
        have c1 := cf r hr'
        have oo := optD_eq M (fo Fw r 0 Fw) (some ((j : Int) + 1))
        have o1 : optD (some ((j : Int) + 1)) = .int ((j : Int) + 1) := rfl
        rw [o1] at oo
        exact ⟨[some (.ref 0), some (calD false c), some (.int v), some (rowsD false rs), some w4, some (.int j), some w6, some (calD false (setO (leastV c rs) c)), some (.int o), some (optD b), some (calD false Fw), none, none, some (rowD r), none], by simp, by simp [c1, oo], by simp⟩
      have ne : rs.filter (fun r => decide (fo Fw r 0 Fw = some ((j : Int) + 1))) ≠ [] := fun z => by
        have : r ∈ rs.filter (fun r => decide (fo Fw r 0 Fw = some ((j : Int) + 1))) := List.mem_filter.mpr ⟨hr1, by simpa using hr2⟩
        rw [z] at this
        cases this
      have re := rows_eq M (rs.filter (fun r => decide (fo Fw r 0 Fw = some ((j : Int) + 1))))
      rw [decide_eq_false ne] at re
      rw [List.nil_append] at ks
      have g1 : D.lst (((setO (leastV c rs) c).take j).map entD ++ entD (o - 1, b) :: ((setO (leastV c rs) c).drop (j + 1)).map entD) = calD false Fw := by rw [glue]; rfl
      have z1 : min j (setO (leastV c rs) c).length + 1 ≤ sizeLine := by omega
      have z2 : min j (setO (leastV c rs) c).length + 1 + ((setO (leastV c rs) c).length - (j + 1)) ≤ sizeLine := by omega
      have ad1 : ∀ M, dAdd M (.lst (((setO (leastV c rs) c).take j).map entD)) (.lst [entD (o - 1, b)]) = some (.lst (((setO (leastV c rs) c).take j).map entD ++ [entD (o - 1, b)])) := fun M => by
        rw [e_addL, if_pos (by simp; omega)]
      have ad2 : ∀ M, dAdd M (.lst (((setO (leastV c rs) c).take j).map entD ++ [entD (o - 1, b)])) (.lst (((setO (leastV c rs) c).drop (j + 1)).map entD)) = some (calD false Fw) := fun M => by
        rw [e_addL, if_pos (by simp; omega), ← g1]
        simp
      have ent1 : D.tup [.int (o - 1), optD b] = entD (o - 1, b) := rfl
      simp only [List.map_take, List.map_drop] at cut1 cut2 ad1 ad2
      simp [-e_addL, lb_law_least_right_2, ho, cut1, cut2, ent1, ad1, ad2, ks, re]
    · simp [lb_law_least_right_2, ho]
end My

set_option Elab.async false
set_option linter.all false
set_option maxRecDepth 100000
set_option maxHeartbeats 4000000
namespace My
open PySem PySem.Spec PyProof.Rows L2 Bk
theorem m_least_right {c : Cal} (hc : OkC c) (h1 : 1 ≤ c.length) (hl : c.length ≤ 20) (s : Src3) : ∃ s' : Src3, F_law_least_right [.ref 0, calD false c] [srcO s] = .ok (.bl true) [srcO s'] := by
  have sz : 2000 ≤ sizeLine := by rw [sizeLine_eq]; omega
  have t1 := fun R => t_0 s 3 R (by decide) (by decide)
  have t2 := fun R => t_0 (tn s 3) 7 R (by decide) (by decide)
  obtain ⟨v, ev, v0, vd⟩ := hi_ix (i := tk s 3) (tk_lo _ (by decide)) (tk_hi _ (by decide))
  have n0 := tk_lo (tn s 3) (n := 7) (by decide)
  have n1 := tk_hi (tn s 3) (n := 7) (by decide)
  obtain ⟨rs, s3, w1, l1, hr⟩ := draw_rows hl (tn (tn s 3) 7) v0 vd (tk (tn s 3) 7).toNat (by omega)
  have hz : rs.length ≤ 100 := by omega
  have i1 : Bk.inR (tk (tn s 3) 7) = true := inR_i (by omega) (by omega)
  have i2 : Bk.inR (c.length : Int) = true := inR_i (by omega) (by omega)
  have d1 := due_loop hl s3 v hr hz c.length 0 [] (by simp; omega) (by omega)
  have e0 : ((List.range' 0 c.length).map fun i => maxI (usedL c rs i)) = leastV c rs := by rw [leastV, List.range_eq_range']
  rw [List.nil_append, e0] at d1
  have d1' : gForL (gTo 5) lb_law_least_right_1 (rngL 0 c.length) _ [srcO s3, .lst []] = _ := d1
  have er : D.lst (rs.map rowD) = rowsD false rs := rfl
  have tq : ∀ M, dTuple M (calD false c) = some (calD true c) := fun M => rfl
  have tr : ∀ M, dTuple M (rowsD false rs) = some (rowsD true rs) := fun M => rfl
  have cl := fun t u M => c_least t u hc hr (by omega) M
  have lL := least_length c rs
  have nL : leastV c rs ≠ [] := fun z => by rw [z] at lL; simp at lL; omega
  have mxL := fun M => dMax_ints M _ nL
  have mge := (maxI_ge nL).2
  have dta : Dts 0 ((leastV c rs).map D.int) _ := Dts.ints 0 _
  have f1 : ∀ a x R, dNeA (a :: x :: MO.lst ((leastV c rs).map D.int) :: R) (.ref 2) (.lst ((leastV c rs).map D.int)) = some (.bl false) := fun a x R => ne_ref dta (by decide) rfl
  have f2 : ∀ a x R, dIsi "list" (a :: x :: MO.lst ((leastV c rs).map D.int) :: R) (.ref 2) = some (.bl true) := fun a x R => e_isi_lr rfl
  have f3 : ∀ a x y R, dNeA (a :: x :: y :: MO.lst ((leastV c rs).map D.int) :: R) (.ref 3) (.lst ((leastV c rs).map D.int)) = some (.bl false) := fun a x y R => ne_ref dta (by decide) rfl
  have lz : (leastV c rs).length < sizeLine := by omega
  by_cases big : 12 < maxI (leastV c rs)
  · refine ⟨s3, ?_⟩
    generalize leastV c rs = L at *
    simp [F_law_least_right, b_law_least_right, runF, t1, t2, ev, powOk, i1, i2, w1, er, d1', cl, f1, f2, f3, listD, mutR, lz, tq, tr, mxL, big]
  · have h12 : ∀ j, j < c.length → maxI (usedL c rs j) ≤ 12 := fun j hj => by
      have := mge _ (List.mem_iff_getElem?.mpr ⟨j, least_get hj⟩)
      omega
    have used0 : ∀ j, 0 ≤ maxI (usedL c rs j) := fun j => (used_max j).2 0 (by simp [usedL])
    have eC : OkC (setO (leastV c rs) c) := ⟨by rw [setO_length lL]; exact hc.l, fun k p hp => by
      obtain ⟨h1, q, h2, h3⟩ := setO_get _ _ _ _ hp
      have lj : k < c.length := (List.getElem?_eq_some_iff.mp h2).1
      rw [least_get lj] at h1
      have e : maxI (usedL c rs k) = p.1 := Option.some.inj h1
      have u0 := used0 k
      have u1 := h12 k lj
      exact ⟨by omega, by omega, fun x hx => (hc.v k q h2).2.2 x (by rw [h3]; exact hx)⟩⟩
    have zo : ∀ M : List MO, zipO (.lst ((leastV c rs).map D.int)) (calD false c) = some (((leastV c rs).zip c).map fun z => .tup [.int z.1, entD z.2]) := fun M => by
      rw [← zip_ints_ents]
      rfl
    have zo' := zo []
    have M' : ∀ M, gLcL (gToT (gToCons (gTo 8) (gToCons (gToT (gToCons (gTo 12) (gToCons (gTo 9) (gToNil)))) (gToNil)))) gYes le_law_least_right_4 (EL c (some (.int v)) (some (rowsD false rs)) (some (.lst ((leastV c rs).map D.int))) none (some (.ref 2)) none none none) (((leastV c rs).zip c).map fun z => .tup [.int z.1, entD z.2]) [] M = .ok ((setO (leastV c rs) c).map entD) M := fun M => by
      have := lcL_run (gg := gToT (gToCons (gTo 8) (gToCons (gToT (gToCons (gTo 12) (gToCons (gTo 9) (gToNil)))) (gToNil)))) (ge := le_law_least_right_4) (Γ := EL c (some (.int v)) (some (rowsD false rs)) (some (.lst ((leastV c rs).map D.int))) none (some (.ref 2)) none none none) (M := M) (fun z => .tup [.int z.1, entD z.2]) (fun z => entD (z.1, z.2.2)) ((leastV c rs).zip c) [] (by simp; omega) fun z hz =>
        ⟨[some (.ref 0), some (calD false c), some (.int v), some (rowsD false rs), some (.lst ((leastV c rs).map D.int)), none, some (.ref 2), none, some (.int z.1), some (optD z.2.2), none, none, some (.int z.2.1), none, none], by simp [entD], by simp [le_law_least_right_4, entD]⟩
      rw [this]
      simp [setO]
    have bad : ∀ M, gLcL (gTo 13) (gVal (gOp2 dNotN (gCallF 2 F_first_fault (gCons (gV 7) (gCons (gV 13) (gNil)))) (gC .non))) (gV 13) (EL c (some (.int v)) (some (rowsD false rs)) (some (.lst ((leastV c rs).map D.int))) none (some (.ref 2)) (some (calD false (setO (leastV c rs) c))) none none) (rs.map rowD) [] M = .ok [] M := fun M => by
      have := lcL_sel (gg := gTo 13) (gt := gVal (gOp2 dNotN (gCallF 2 F_first_fault (gCons (gV 7) (gCons (gV 13) (gNil)))) (gC .non))) (ge := gV 13) (Γ := EL c (some (.int v)) (some (rowsD false rs)) (some (.lst ((leastV c rs).map D.int))) none (some (.ref 2)) (some (calD false (setO (leastV c rs) c))) none none) (M := M) rowD rowD (fun r => false) rs [] (by simp; omega) fun r hr' => by
        have cf := c_fault false eC (by rw [setO_length lL]; exact (hr r hr').1) (hr r hr').2 M
        rw [enough_ok hr'] at cf
        exact ⟨[some (.ref 0), some (calD false c), some (.int v), some (rowsD false rs), some (.lst ((leastV c rs).map D.int)), none, some (.ref 2), some (calD false (setO (leastV c rs) c)), none, none, none, none, none, some (rowD r), none], by simp, by simp [rowD, cf, optD], by simp⟩
      rw [this]
      simp
    have re : ∀ M, dNeA M (.lst []) (.lst []) = some (.bl false) := fun M => rows_ne M []
    have lt := fun M => least_turns hc hl s3 v hr hz h12 (M := M) (w4 := .lst ((leastV c rs).map D.int)) (w6 := .ref 2) (setO (leastV c rs) c) 0 (by simp)
    have lt0 : ∀ M, gForL _ _ (enumL 0 ((setO (leastV c rs) c).map entD)) _ _ = _ := lt
    have ec : D.lst ((setO (leastV c rs) c).map entD) = calD false (setO (leastV c rs) c) := rfl
    refine ⟨s3, ?_⟩
    generalize setO (leastV c rs) c = E at *
    generalize leastV c rs = L at *
    simp [F_law_least_right, b_law_least_right, runF, t1, t2, ev, powOk, i1, i2, w1, er, d1', cl, f1, f2, f3, listD, mutR, lz, tq, tr, mxL, big, zo', M', ec, bad, re, lt0]
theorem law_turn (d : D) (i : Int) (hb : below 0 d = true) : lb_law_1 [some d, some (.int i), none, none, none] [] = .nx [some d, none, none, none, none] [] := by
  have c0 := c_source i []
  obtain ⟨c, s1, e1, h1, l1, b1⟩ := c_stock (k := 0) (M := [srcO (i, i, 0)]) (i, i, 0) rfl (most := 9) (high := 7) (by decide) (by decide) (by decide) (by decide)
  have t1 := fun R => t_0 s1 8 R (by decide) (by decide)
  have x0 := tk_lo s1 (n := 8) (by decide)
  have x1 := tk_hi s1 (n := 8) (by decide)
  have sz : 2000 ≤ sizeLine := by rw [sizeLine_eq]; omega
  have okc : OkC (c ++ [(tk s1 8, none)]) := ⟨by simp; omega, fun j p hp => by
    by_cases q : j < c.length
    · rw [List.getElem?_append_left q] at hp
      exact h1.v j p hp
    · rw [List.getElem?_append_right (by omega)] at hp
      cases hj : j - c.length with
      | zero =>
        rw [hj] at hp
        have : (tk s1 8, (none : Option Int)) = p := by simpa using hp
        rw [← this]
        exact ⟨x0, by simp only; omega, fun b hb => by cases hb⟩
      | succ n => rw [hj] at hp; simp at hp⟩
  have ad : ∀ M, dAdd M (calD false c) (.lst [.tup [.int (tk s1 8), .non]]) = some (calD false (c ++ [(tk s1 8, none)])) := fun M => by
    show dAdd M (.lst (c.map entD)) _ = _
    rw [e_addL, if_pos (by simp; omega)]
    simp [calD, entD, optD]
  have tn1 : ∀ (x : Int) (s : Src3), ∃ s', lb_law_2 [some d, some (.int i), some (.ref 0), some (calD false (c ++ [(tk s1 8, none)])), some (.int x)] [srcO s] = .nx [some d, some (.int i), some (.ref 0), some (calD false (c ++ [(tk s1 8, none)])), none] [srcO s'] := fun x s => by
    obtain ⟨s2, e2⟩ := m_added okc (by simp) (by simp; omega) s
    obtain ⟨s3, e3⟩ := m_least_right okc (by simp) (by simp; omega) s2
    have c2 := c_lend1 (k := 0) (M := [srcO s]) e2 rfl rfl rfl rfl (by simp) (by simp)
    have c3 := c_lend1 (k := 0) (M := [srcO s2]) e3 rfl rfl rfl rfl (by simp) (by simp)
    simp only [List.set_cons_zero] at c2 c3
    exact ⟨s3, by simp [lb_law_2, c2, c3]⟩
  obtain ⟨a1, g1⟩ := tn1 0 (tn s1 8)
  obtain ⟨a2, g2⟩ := tn1 1 a1
  obtain ⟨a3, g3⟩ := tn1 2 a2
  have i3 : Bk.inR 3 = true := rfl
  simp at e1
  simp [lb_law_1, c0, e1, t1, ad, clean, hb, i3, rngL, g1, g2, g3]
theorem lawLoop (d : D) (hb : below 0 d = true) : ∀ is : List Int, gForL (gTo 1) lb_law_1 (is.map D.int) [some d, none, none, none, none] [] = .nx [some d, none, none, none, none] []
  | [] => by simp
  | i :: is => by
    rw [List.map_cons]
    exact (forL_cons (Γ1 := [some d, some (.int i), none, none, none]) (by simp) (law_turn d i hb)).trans (lawLoop d hb is)
theorem law_true (ns : List Int) (h : ns.length ≤ 63) : F_law [.lst (ns.map D.int)] [] = .ok (.bl true) [] := by
  have e1 : dAdd [] (.lst (ns.map D.int)) (.lst [.int 0]) = some (.lst ((ns ++ [0]).map D.int)) := by
    have q : ns.length + 1 ≤ sizeLine := Nat.le_trans (by omega : ns.length + 1 ≤ 64) (by decide)
    simp [q]
  have e2 : dCut [] none (some 5) (.lst ((ns ++ [0]).map D.int)) = some (.lst (((ns ++ [0]).take 5).map D.int)) := by
    have : cutD ((ns ++ [0]).map D.int) none (some ((5 : Nat) : Int)) = _ := cutD_upto
    have z : ((5 : Nat) : Int) = 5 := rfl
    rw [z] at this
    simp only [dCut, listD, Option.map_some, this, List.map_take]
  have e4 : below 0 (D.lst (ns.map D.int)) = true := by simp
  have k := lawLoop (.lst (ns.map D.int)) e4 ((ns ++ [0]).take 5)
  simp only [List.map_take, List.map_append, List.map_cons, List.map_nil] at e1 e2 k
  simp [-e_addL, F_law, b_law, runF, e1, e2, k]
  done
end My

set_option Elab.async false
set_option linter.all false
set_option maxRecDepth 100000
set_option maxHeartbeats 8000000
namespace My
open PySem PySem.Spec PyProof.Rows L2 Bk
theorem all_mk {l : PySem.W.OpenLaw} {w : World} {K : PySem.W.Frag} {h : Heap} {mg : Str → Option Value} {fa : Addr} (X : K.In h) (G : h.Ns mainGlobals mg) (hfa : mg "law" = some (.ref fa))
    {f_is_integer : Addr} {od_is_integer an_is_integer : Option Addr} {sl_is_integer : Array (Option Value)} {oc_is_integer kV_is_integer dc_is_integer pm_is_integer cd_is_integer ct_is_integer : Value}
    (a_is_integer : PySem.W.nsIn K mainGlobals "is_integer" = some (some (.ref f_is_integer))) (l_is_integer : K.lookup f_is_integer = some ⟨oc_is_integer, od_is_integer, .func (PySem.W.fnOf "is_integer" "is_integer" (defArgs s_is_integer) (defBody s_is_integer) (defScope s_is_integer) .none kV_is_integer dc_is_integer pm_is_integer an_is_integer cd_is_integer ct_is_integer), sl_is_integer⟩) (c_is_integer : PySem.W.codeIn K cd_is_integer "is_integer" = true) (k_is_integer : PySem.W.keepIn K (.ref f_is_integer) = true)
    {f_is_at_least : Addr} {od_is_at_least an_is_at_least : Option Addr} {sl_is_at_least : Array (Option Value)} {oc_is_at_least kV_is_at_least dc_is_at_least pm_is_at_least cd_is_at_least ct_is_at_least : Value}
    (a_is_at_least : PySem.W.nsIn K mainGlobals "is_at_least" = some (some (.ref f_is_at_least))) (l_is_at_least : K.lookup f_is_at_least = some ⟨oc_is_at_least, od_is_at_least, .func (PySem.W.fnOf "is_at_least" "is_at_least" (defArgs s_is_at_least) (defBody s_is_at_least) (defScope s_is_at_least) .none kV_is_at_least dc_is_at_least pm_is_at_least an_is_at_least cd_is_at_least ct_is_at_least), sl_is_at_least⟩) (c_is_at_least : PySem.W.codeIn K cd_is_at_least "is_at_least" = true) (k_is_at_least : PySem.W.keepIn K (.ref f_is_at_least) = true)
    {f_is_between : Addr} {od_is_between an_is_between : Option Addr} {sl_is_between : Array (Option Value)} {oc_is_between kV_is_between dc_is_between pm_is_between cd_is_between ct_is_between : Value}
    (a_is_between : PySem.W.nsIn K mainGlobals "is_between" = some (some (.ref f_is_between))) (l_is_between : K.lookup f_is_between = some ⟨oc_is_between, od_is_between, .func (PySem.W.fnOf "is_between" "is_between" (defArgs s_is_between) (defBody s_is_between) (defScope s_is_between) .none kV_is_between dc_is_between pm_is_between an_is_between cd_is_between ct_is_between), sl_is_between⟩) (c_is_between : PySem.W.codeIn K cd_is_between "is_between" = true) (k_is_between : PySem.W.keepIn K (.ref f_is_between) = true)
    {f_is_day : Addr} {od_is_day an_is_day : Option Addr} {sl_is_day : Array (Option Value)} {oc_is_day kV_is_day dc_is_day pm_is_day cd_is_day ct_is_day : Value}
    (a_is_day : PySem.W.nsIn K mainGlobals "is_day" = some (some (.ref f_is_day))) (l_is_day : K.lookup f_is_day = some ⟨oc_is_day, od_is_day, .func (PySem.W.fnOf "is_day" "is_day" (defArgs s_is_day) (defBody s_is_day) (defScope s_is_day) .none kV_is_day dc_is_day pm_is_day an_is_day cd_is_day ct_is_day), sl_is_day⟩) (c_is_day : PySem.W.codeIn K cd_is_day "is_day" = true) (k_is_day : PySem.W.keepIn K (.ref f_is_day) = true)
    {f_are_numbers : Addr} {od_are_numbers an_are_numbers : Option Addr} {sl_are_numbers : Array (Option Value)} {oc_are_numbers kV_are_numbers dc_are_numbers pm_are_numbers cd_are_numbers ct_are_numbers : Value}
    (a_are_numbers : PySem.W.nsIn K mainGlobals "are_numbers" = some (some (.ref f_are_numbers))) (l_are_numbers : K.lookup f_are_numbers = some ⟨oc_are_numbers, od_are_numbers, .func (PySem.W.fnOf "are_numbers" "are_numbers" (defArgs s_are_numbers) (defBody s_are_numbers) (defScope s_are_numbers) .none kV_are_numbers dc_are_numbers pm_are_numbers an_are_numbers cd_are_numbers ct_are_numbers), sl_are_numbers⟩) (c_are_numbers : PySem.W.codeIn K cd_are_numbers "are_numbers" = true) (k_are_numbers : PySem.W.keepIn K (.ref f_are_numbers) = true)
    {f_require_calendar : Addr} {od_require_calendar an_require_calendar : Option Addr} {sl_require_calendar : Array (Option Value)} {oc_require_calendar kV_require_calendar dc_require_calendar pm_require_calendar cd_require_calendar ct_require_calendar : Value}
    (a_require_calendar : PySem.W.nsIn K mainGlobals "require_calendar" = some (some (.ref f_require_calendar))) (l_require_calendar : K.lookup f_require_calendar = some ⟨oc_require_calendar, od_require_calendar, .func (PySem.W.fnOf "require_calendar" "require_calendar" (defArgs s_require_calendar) (defBody s_require_calendar) (defScope s_require_calendar) .none kV_require_calendar dc_require_calendar pm_require_calendar an_require_calendar cd_require_calendar ct_require_calendar), sl_require_calendar⟩) (c_require_calendar : PySem.W.codeIn K cd_require_calendar "require_calendar" = true) (k_require_calendar : PySem.W.keepIn K (.ref f_require_calendar) = true)
    {f_require_row : Addr} {od_require_row an_require_row : Option Addr} {sl_require_row : Array (Option Value)} {oc_require_row kV_require_row dc_require_row pm_require_row cd_require_row ct_require_row : Value}
    (a_require_row : PySem.W.nsIn K mainGlobals "require_row" = some (some (.ref f_require_row))) (l_require_row : K.lookup f_require_row = some ⟨oc_require_row, od_require_row, .func (PySem.W.fnOf "require_row" "require_row" (defArgs s_require_row) (defBody s_require_row) (defScope s_require_row) .none kV_require_row dc_require_row pm_require_row an_require_row cd_require_row ct_require_row), sl_require_row⟩) (c_require_row : PySem.W.codeIn K cd_require_row "require_row" = true) (k_require_row : PySem.W.keepIn K (.ref f_require_row) = true)
    {f_away_on : Addr} {od_away_on an_away_on : Option Addr} {sl_away_on : Array (Option Value)} {oc_away_on kV_away_on dc_away_on pm_away_on cd_away_on ct_away_on : Value}
    (a_away_on : PySem.W.nsIn K mainGlobals "away_on" = some (some (.ref f_away_on))) (l_away_on : K.lookup f_away_on = some ⟨oc_away_on, od_away_on, .func (PySem.W.fnOf "away_on" "away_on" (defArgs s_away_on) (defBody s_away_on) (defScope s_away_on) .none kV_away_on dc_away_on pm_away_on an_away_on cd_away_on ct_away_on), sl_away_on⟩) (c_away_on : PySem.W.codeIn K cd_away_on "away_on" = true) (k_away_on : PySem.W.keepIn K (.ref f_away_on) = true)
    {f_first_over : Addr} {od_first_over an_first_over : Option Addr} {sl_first_over : Array (Option Value)} {oc_first_over kV_first_over dc_first_over pm_first_over cd_first_over ct_first_over : Value}
    (a_first_over : PySem.W.nsIn K mainGlobals "first_over" = some (some (.ref f_first_over))) (l_first_over : K.lookup f_first_over = some ⟨oc_first_over, od_first_over, .func (PySem.W.fnOf "first_over" "first_over" (defArgs s_first_over) (defBody s_first_over) (defScope s_first_over) .none kV_first_over dc_first_over pm_first_over an_first_over cd_first_over ct_first_over), sl_first_over⟩) (c_first_over : PySem.W.codeIn K cd_first_over "first_over" = true) (k_first_over : PySem.W.keepIn K (.ref f_first_over) = true)
    {f_with_pieces : Addr} {od_with_pieces an_with_pieces : Option Addr} {sl_with_pieces : Array (Option Value)} {oc_with_pieces kV_with_pieces dc_with_pieces pm_with_pieces cd_with_pieces ct_with_pieces : Value}
    (a_with_pieces : PySem.W.nsIn K mainGlobals "with_pieces" = some (some (.ref f_with_pieces))) (l_with_pieces : K.lookup f_with_pieces = some ⟨oc_with_pieces, od_with_pieces, .func (PySem.W.fnOf "with_pieces" "with_pieces" (defArgs s_with_pieces) (defBody s_with_pieces) (defScope s_with_pieces) .none kV_with_pieces dc_with_pieces pm_with_pieces an_with_pieces cd_with_pieces ct_with_pieces), sl_with_pieces⟩) (c_with_pieces : PySem.W.codeIn K cd_with_pieces "with_pieces" = true) (k_with_pieces : PySem.W.keepIn K (.ref f_with_pieces) = true)
    {f_first_fault : Addr} {od_first_fault an_first_fault : Option Addr} {sl_first_fault : Array (Option Value)} {oc_first_fault kV_first_fault dc_first_fault pm_first_fault cd_first_fault ct_first_fault : Value}
    (a_first_fault : PySem.W.nsIn K mainGlobals "first_fault" = some (some (.ref f_first_fault))) (l_first_fault : K.lookup f_first_fault = some ⟨oc_first_fault, od_first_fault, .func (PySem.W.fnOf "first_fault" "first_fault" (defArgs s_first_fault) (defBody s_first_fault) (defScope s_first_fault) .none kV_first_fault dc_first_fault pm_first_fault an_first_fault cd_first_fault ct_first_fault), sl_first_fault⟩) (c_first_fault : PySem.W.codeIn K cd_first_fault "first_fault" = true) (k_first_fault : PySem.W.keepIn K (.ref f_first_fault) = true)
    {f_least_owned : Addr} {od_least_owned an_least_owned : Option Addr} {sl_least_owned : Array (Option Value)} {oc_least_owned kV_least_owned dc_least_owned pm_least_owned cd_least_owned ct_least_owned : Value}
    (a_least_owned : PySem.W.nsIn K mainGlobals "least_owned" = some (some (.ref f_least_owned))) (l_least_owned : K.lookup f_least_owned = some ⟨oc_least_owned, od_least_owned, .func (PySem.W.fnOf "least_owned" "least_owned" (defArgs s_least_owned) (defBody s_least_owned) (defScope s_least_owned) .none kV_least_owned dc_least_owned pm_least_owned an_least_owned cd_least_owned ct_least_owned), sl_least_owned⟩) (c_least_owned : PySem.W.codeIn K cd_least_owned "least_owned" = true) (k_least_owned : PySem.W.keepIn K (.ref f_least_owned) = true)
    {f_law_mixed : Addr} {od_law_mixed an_law_mixed : Option Addr} {sl_law_mixed : Array (Option Value)} {oc_law_mixed kV_law_mixed dc_law_mixed pm_law_mixed cd_law_mixed ct_law_mixed : Value}
    (a_law_mixed : PySem.W.nsIn K mainGlobals "_law_mixed" = some (some (.ref f_law_mixed))) (l_law_mixed : K.lookup f_law_mixed = some ⟨oc_law_mixed, od_law_mixed, .func (PySem.W.fnOf "_law_mixed" "_law_mixed" (defArgs s_law_mixed) (defBody s_law_mixed) (defScope s_law_mixed) .none kV_law_mixed dc_law_mixed pm_law_mixed an_law_mixed cd_law_mixed ct_law_mixed), sl_law_mixed⟩) (c_law_mixed : PySem.W.codeIn K cd_law_mixed "_law_mixed" = true) (k_law_mixed : PySem.W.keepIn K (.ref f_law_mixed) = true)
    {f_law_source : Addr} {od_law_source an_law_source : Option Addr} {sl_law_source : Array (Option Value)} {oc_law_source kV_law_source dc_law_source pm_law_source cd_law_source ct_law_source : Value}
    (a_law_source : PySem.W.nsIn K mainGlobals "_law_source" = some (some (.ref f_law_source))) (l_law_source : K.lookup f_law_source = some ⟨oc_law_source, od_law_source, .func (PySem.W.fnOf "_law_source" "_law_source" (defArgs s_law_source) (defBody s_law_source) (defScope s_law_source) .none kV_law_source dc_law_source pm_law_source an_law_source cd_law_source ct_law_source), sl_law_source⟩) (c_law_source : PySem.W.codeIn K cd_law_source "_law_source" = true) (k_law_source : PySem.W.keepIn K (.ref f_law_source) = true)
    {f_law_take : Addr} {od_law_take an_law_take : Option Addr} {sl_law_take : Array (Option Value)} {oc_law_take kV_law_take dc_law_take pm_law_take cd_law_take ct_law_take : Value}
    (a_law_take : PySem.W.nsIn K mainGlobals "_law_take" = some (some (.ref f_law_take))) (l_law_take : K.lookup f_law_take = some ⟨oc_law_take, od_law_take, .func (PySem.W.fnOf "_law_take" "_law_take" (defArgs s_law_take) (defBody s_law_take) (defScope s_law_take) .none kV_law_take dc_law_take pm_law_take an_law_take cd_law_take ct_law_take), sl_law_take⟩) (c_law_take : PySem.W.codeIn K cd_law_take "_law_take" = true) (k_law_take : PySem.W.keepIn K (.ref f_law_take) = true)
    {f_law_stock : Addr} {od_law_stock an_law_stock : Option Addr} {sl_law_stock : Array (Option Value)} {oc_law_stock kV_law_stock dc_law_stock pm_law_stock cd_law_stock ct_law_stock : Value}
    (a_law_stock : PySem.W.nsIn K mainGlobals "_law_stock" = some (some (.ref f_law_stock))) (l_law_stock : K.lookup f_law_stock = some ⟨oc_law_stock, od_law_stock, .func (PySem.W.fnOf "_law_stock" "_law_stock" (defArgs s_law_stock) (defBody s_law_stock) (defScope s_law_stock) .none kV_law_stock dc_law_stock pm_law_stock an_law_stock cd_law_stock ct_law_stock), sl_law_stock⟩) (c_law_stock : PySem.W.codeIn K cd_law_stock "_law_stock" = true) (k_law_stock : PySem.W.keepIn K (.ref f_law_stock) = true)
    {f_law_gone : Addr} {od_law_gone an_law_gone : Option Addr} {sl_law_gone : Array (Option Value)} {oc_law_gone kV_law_gone dc_law_gone pm_law_gone cd_law_gone ct_law_gone : Value}
    (a_law_gone : PySem.W.nsIn K mainGlobals "_law_gone" = some (some (.ref f_law_gone))) (l_law_gone : K.lookup f_law_gone = some ⟨oc_law_gone, od_law_gone, .func (PySem.W.fnOf "_law_gone" "_law_gone" (defArgs s_law_gone) (defBody s_law_gone) (defScope s_law_gone) .none kV_law_gone dc_law_gone pm_law_gone an_law_gone cd_law_gone ct_law_gone), sl_law_gone⟩) (c_law_gone : PySem.W.codeIn K cd_law_gone "_law_gone" = true) (k_law_gone : PySem.W.keepIn K (.ref f_law_gone) = true)
    {f_law_added_right : Addr} {od_law_added_right an_law_added_right : Option Addr} {sl_law_added_right : Array (Option Value)} {oc_law_added_right kV_law_added_right dc_law_added_right pm_law_added_right cd_law_added_right ct_law_added_right : Value}
    (a_law_added_right : PySem.W.nsIn K mainGlobals "_law_added_right" = some (some (.ref f_law_added_right))) (l_law_added_right : K.lookup f_law_added_right = some ⟨oc_law_added_right, od_law_added_right, .func (PySem.W.fnOf "_law_added_right" "_law_added_right" (defArgs s_law_added_right) (defBody s_law_added_right) (defScope s_law_added_right) .none kV_law_added_right dc_law_added_right pm_law_added_right an_law_added_right cd_law_added_right ct_law_added_right), sl_law_added_right⟩) (c_law_added_right : PySem.W.codeIn K cd_law_added_right "_law_added_right" = true) (k_law_added_right : PySem.W.keepIn K (.ref f_law_added_right) = true)
    {f_law_least_right : Addr} {od_law_least_right an_law_least_right : Option Addr} {sl_law_least_right : Array (Option Value)} {oc_law_least_right kV_law_least_right dc_law_least_right pm_law_least_right cd_law_least_right ct_law_least_right : Value}
    (a_law_least_right : PySem.W.nsIn K mainGlobals "_law_least_right" = some (some (.ref f_law_least_right))) (l_law_least_right : K.lookup f_law_least_right = some ⟨oc_law_least_right, od_law_least_right, .func (PySem.W.fnOf "_law_least_right" "_law_least_right" (defArgs s_law_least_right) (defBody s_law_least_right) (defScope s_law_least_right) .none kV_law_least_right dc_law_least_right pm_law_least_right an_law_least_right cd_law_least_right ct_law_least_right), sl_law_least_right⟩) (c_law_least_right : PySem.W.codeIn K cd_law_least_right "_law_least_right" = true) (k_law_least_right : PySem.W.keepIn K (.ref f_law_least_right) = true)
    {f_law : Addr} {od_law an_law : Option Addr} {sl_law : Array (Option Value)} {oc_law kV_law dc_law pm_law cd_law ct_law : Value}
    (a_law : PySem.W.nsIn K mainGlobals "law" = some (some (.ref f_law))) (l_law : K.lookup f_law = some ⟨oc_law, od_law, .func (PySem.W.fnOf "law" "law" (defArgs s_law) (defBody s_law) (defScope s_law) .none kV_law dc_law pm_law an_law cd_law ct_law), sl_law⟩) (c_law : PySem.W.codeIn K cd_law "law" = true) (k_law : PySem.W.keepIn K (.ref f_law) = true)
    {t_MAX_DAYS : Tok} (v_MAX_DAYS : PySem.W.nsIn K mainGlobals "MAX_DAYS" = some (some (.int 100 t_MAX_DAYS)))
    {t_MAX_OWNED : Tok} (v_MAX_OWNED : PySem.W.nsIn K mainGlobals "MAX_OWNED" = some (some (.int 12 t_MAX_OWNED)))
    (z_all : PySem.W.nsIn K mainGlobals "all" = some none)
    (z_bool : PySem.W.nsIn K mainGlobals "bool" = some none)
    (z_enumerate : PySem.W.nsIn K mainGlobals "enumerate" = some none)
    (z_int : PySem.W.nsIn K mainGlobals "int" = some none)
    (z_isinstance : PySem.W.nsIn K mainGlobals "isinstance" = some none)
    (z_len : PySem.W.nsIn K mainGlobals "len" = some none)
    (z_list : PySem.W.nsIn K mainGlobals "list" = some none)
    (z_max : PySem.W.nsIn K mainGlobals "max" = some none)
    (z_min : PySem.W.nsIn K mainGlobals "min" = some none)
    (z_range : PySem.W.nsIn K mainGlobals "range" = some none)
    (z_tuple : PySem.W.nsIn K mainGlobals "tuple" = some none)
    (z_zip : PySem.W.nsIn K mainGlobals "zip" = some none)
    : ∃ (fd : FuncData) (C : CT), (∀ (s : Shared) (v : Value), BindsTo s fd ⟨[v], []⟩ [("_law_script", v)]) ∧ ∀ base : Heap, K.In base → base.Ns mainGlobals mg → FnQ l.prog w K mg base C 8 fa fd ["_law_script"] F_law := by
  have e2 : fa = f_law := by
    have e := hfa.symm.trans (PySem.W.mg_of X G a_law)
    cases e
    rfl
  rw [e2]
  have F_is_integer := fun_mk (st := s_is_integer) l_is_integer c_is_integer k_is_integer
  have F_is_at_least := fun_mk (st := s_is_at_least) l_is_at_least c_is_at_least k_is_at_least
  have F_is_between := fun_mk (st := s_is_between) l_is_between c_is_between k_is_between
  have F_is_day := fun_mk (st := s_is_day) l_is_day c_is_day k_is_day
  have F_are_numbers := fun_mk (st := s_are_numbers) l_are_numbers c_are_numbers k_are_numbers
  have F_require_calendar := fun_mk (st := s_require_calendar) l_require_calendar c_require_calendar k_require_calendar
  have F_require_row := fun_mk (st := s_require_row) l_require_row c_require_row k_require_row
  have F_away_on := fun_mk (st := s_away_on) l_away_on c_away_on k_away_on
  have F_first_over := fun_mk (st := s_first_over) l_first_over c_first_over k_first_over
  have F_with_pieces := fun_mk (st := s_with_pieces) l_with_pieces c_with_pieces k_with_pieces
  have F_first_fault := fun_mk (st := s_first_fault) l_first_fault c_first_fault k_first_fault
  have F_least_owned := fun_mk (st := s_least_owned) l_least_owned c_least_owned k_least_owned
  have F_law_mixed := fun_mk (st := s_law_mixed) l_law_mixed c_law_mixed k_law_mixed
  have F_law_source := fun_mk (st := s_law_source) l_law_source c_law_source k_law_source
  have F_law_take := fun_mk (st := s_law_take) l_law_take c_law_take k_law_take
  have F_law_stock := fun_mk (st := s_law_stock) l_law_stock c_law_stock k_law_stock
  have F_law_gone := fun_mk (st := s_law_gone) l_law_gone c_law_gone k_law_gone
  have F_law_added_right := fun_mk (st := s_law_added_right) l_law_added_right c_law_added_right k_law_added_right
  have F_law_least_right := fun_mk (st := s_law_least_right) l_law_least_right c_law_least_right k_law_least_right
  have F_law := fun_mk (st := s_law) l_law c_law k_law
  have T : Tx K mg ⟨f_is_integer, _, f_is_at_least, _, f_is_between, _, f_is_day, _, f_are_numbers, _, f_require_calendar, _, f_require_row, _, f_away_on, _, f_first_over, _, f_with_pieces, _, f_first_fault, _, f_least_owned, _, f_law_mixed, _, f_law_source, _, f_law_take, _, f_law_stock, _, f_law_gone, _, f_law_added_right, _, f_law_least_right, _, f_law, _, t_MAX_DAYS, t_MAX_OWNED⟩ :=
    { F_is_integer := F_is_integer, g_is_integer := PySem.W.mg_of X G a_is_integer, b_is_integer := F_is_integer.binds fun _ _ _ _ _ _ us hl => match us, hl with | [_], _ => rfl,
      F_is_at_least := F_is_at_least, g_is_at_least := PySem.W.mg_of X G a_is_at_least, b_is_at_least := F_is_at_least.binds fun _ _ _ _ _ _ us hl => match us, hl with | [_, _], _ => rfl,
      F_is_between := F_is_between, g_is_between := PySem.W.mg_of X G a_is_between, b_is_between := F_is_between.binds fun _ _ _ _ _ _ us hl => match us, hl with | [_, _, _], _ => rfl,
      F_is_day := F_is_day, g_is_day := PySem.W.mg_of X G a_is_day, b_is_day := F_is_day.binds fun _ _ _ _ _ _ us hl => match us, hl with | [_, _], _ => rfl,
      F_are_numbers := F_are_numbers, g_are_numbers := PySem.W.mg_of X G a_are_numbers, b_are_numbers := F_are_numbers.binds fun _ _ _ _ _ _ us hl => match us, hl with | [_], _ => rfl,
      F_require_calendar := F_require_calendar, g_require_calendar := PySem.W.mg_of X G a_require_calendar, b_require_calendar := F_require_calendar.binds fun _ _ _ _ _ _ us hl => match us, hl with | [_], _ => rfl,
      F_require_row := F_require_row, g_require_row := PySem.W.mg_of X G a_require_row, b_require_row := F_require_row.binds fun _ _ _ _ _ _ us hl => match us, hl with | [_, _], _ => rfl,
      F_away_on := F_away_on, g_away_on := PySem.W.mg_of X G a_away_on, b_away_on := F_away_on.binds fun _ _ _ _ _ _ us hl => match us, hl with | [_, _, _], _ => rfl,
      F_first_over := F_first_over, g_first_over := PySem.W.mg_of X G a_first_over, b_first_over := F_first_over.binds fun _ _ _ _ _ _ us hl => match us, hl with | [_, _], _ => rfl,
      F_with_pieces := F_with_pieces, g_with_pieces := PySem.W.mg_of X G a_with_pieces, b_with_pieces := F_with_pieces.binds fun _ _ _ _ _ _ us hl => match us, hl with | [_, _, _, _], _ => rfl,
      F_first_fault := F_first_fault, g_first_fault := PySem.W.mg_of X G a_first_fault, b_first_fault := F_first_fault.binds fun _ _ _ _ _ _ us hl => match us, hl with | [_, _], _ => rfl,
      F_least_owned := F_least_owned, g_least_owned := PySem.W.mg_of X G a_least_owned, b_least_owned := F_least_owned.binds fun _ _ _ _ _ _ us hl => match us, hl with | [_, _], _ => rfl,
      F_law_mixed := F_law_mixed, g_law_mixed := PySem.W.mg_of X G a_law_mixed, b_law_mixed := F_law_mixed.binds fun _ _ _ _ _ _ us hl => match us, hl with | [_, _], _ => rfl,
      F_law_source := F_law_source, g_law_source := PySem.W.mg_of X G a_law_source, b_law_source := F_law_source.binds fun _ _ _ _ _ _ us hl => match us, hl with | [_], _ => rfl,
      F_law_take := F_law_take, g_law_take := PySem.W.mg_of X G a_law_take, b_law_take := F_law_take.binds fun _ _ _ _ _ _ us hl => match us, hl with | [_, _], _ => rfl,
      F_law_stock := F_law_stock, g_law_stock := PySem.W.mg_of X G a_law_stock, b_law_stock := F_law_stock.binds fun _ _ _ _ _ _ us hl => match us, hl with | [_, _, _], _ => rfl,
      F_law_gone := F_law_gone, g_law_gone := PySem.W.mg_of X G a_law_gone, b_law_gone := F_law_gone.binds fun _ _ _ _ _ _ us hl => match us, hl with | [_, _, _], _ => rfl,
      F_law_added_right := F_law_added_right, g_law_added_right := PySem.W.mg_of X G a_law_added_right, b_law_added_right := F_law_added_right.binds fun _ _ _ _ _ _ us hl => match us, hl with | [_, _], _ => rfl,
      F_law_least_right := F_law_least_right, g_law_least_right := PySem.W.mg_of X G a_law_least_right, b_law_least_right := F_law_least_right.binds fun _ _ _ _ _ _ us hl => match us, hl with | [_, _], _ => rfl,
      F_law := F_law, g_law := PySem.W.mg_of X G a_law, b_law := F_law.binds fun _ _ _ _ _ _ us hl => match us, hl with | [_], _ => rfl,
      k_least_owned_rows_calendar := fun s us ws _ h1 h2 => match us, ws, h1, h2 with | [], [_, _], _, _ => .of_eq rfl,
      k_with_pieces_pieces_last_first_calendar := fun s us ws _ h1 h2 => match us, ws, h1, h2 with | [], [_, _, _, _], _, _ => .of_eq rfl,
      m_all := PySem.W.mg_none_of X G z_all,
      m_bool := PySem.W.mg_none_of X G z_bool,
      m_enumerate := PySem.W.mg_none_of X G z_enumerate,
      m_int := PySem.W.mg_none_of X G z_int,
      m_isinstance := PySem.W.mg_none_of X G z_isinstance,
      m_len := PySem.W.mg_none_of X G z_len,
      m_list := PySem.W.mg_none_of X G z_list,
      m_max := PySem.W.mg_none_of X G z_max,
      m_min := PySem.W.mg_none_of X G z_min,
      m_range := PySem.W.mg_none_of X G z_range,
      m_tuple := PySem.W.mg_none_of X G z_tuple,
      m_zip := PySem.W.mg_none_of X G z_zip,
      c_MAX_DAYS := PySem.W.mg_of X G v_MAX_DAYS,
      c_MAX_OWNED := PySem.W.mg_of X G v_MAX_OWNED }
  exact ⟨_, ⟨fun _ => 0, fun _ => Str.empty⟩, fun s v => .of_eq rfl, fun base _ _ => ok_law T⟩
end My
open PySem PySem.W PyProof.Rows
set_option maxRecDepth 100000 in
set_option maxHeartbeats 0 in
theorem PySem.Challenge.cw_breakrows_k03_pieces_added_and_least_sto_holds : PySem.Challenge.rw_breakrows_k03_pieces_added_and_least_sto.Holds := by
  w_on; o_law; k_head; (case hw => w_witness2)
  k_fill
  refine Bk.walk_q (l := PySem.Challenge.rw_breakrows_k03_pieces_added_and_least_sto) (n := 63) (k := 8) (x := "_law_script") (F := My.F_law) rfl (by decide) rfl ⟨rfl, by decide, by decide⟩ (fun w h Y => PySem.W.kIn_of Y) ?F My.law_true
  case F =>
    intro w mg fa h KX G hmg
    refine' My.all_mk KX G hmg ?a_is_integer ?l_is_integer ?c_is_integer ?k_is_integer ?a_is_at_least ?l_is_at_least ?c_is_at_least ?k_is_at_least ?a_is_between ?l_is_between ?c_is_between ?k_is_between ?a_is_day ?l_is_day ?c_is_day ?k_is_day ?a_are_numbers ?l_are_numbers ?c_are_numbers ?k_are_numbers ?a_require_calendar ?l_require_calendar ?c_require_calendar ?k_require_calendar ?a_require_row ?l_require_row ?c_require_row ?k_require_row ?a_away_on ?l_away_on ?c_away_on ?k_away_on ?a_first_over ?l_first_over ?c_first_over ?k_first_over ?a_with_pieces ?l_with_pieces ?c_with_pieces ?k_with_pieces ?a_first_fault ?l_first_fault ?c_first_fault ?k_first_fault ?a_least_owned ?l_least_owned ?c_least_owned ?k_least_owned ?a_law_mixed ?l_law_mixed ?c_law_mixed ?k_law_mixed ?a_law_source ?l_law_source ?c_law_source ?k_law_source ?a_law_take ?l_law_take ?c_law_take ?k_law_take ?a_law_stock ?l_law_stock ?c_law_stock ?k_law_stock ?a_law_gone ?l_law_gone ?c_law_gone ?k_law_gone ?a_law_added_right ?l_law_added_right ?c_law_added_right ?k_law_added_right ?a_law_least_right ?l_law_least_right ?c_law_least_right ?k_law_least_right ?a_law ?l_law ?c_law ?k_law ?v_MAX_DAYS ?v_MAX_OWNED ?z_all ?z_bool ?z_enumerate ?z_int ?z_isinstance ?z_len ?z_list ?z_max ?z_min ?z_range ?z_tuple ?z_zip
    (case a_is_integer => k_is); (case l_is_integer => k_is); (case c_is_integer => k_is); (case k_is_integer => k_is); (case a_is_at_least => k_is); (case l_is_at_least => k_is); (case c_is_at_least => k_is); (case k_is_at_least => k_is); (case a_is_between => k_is); (case l_is_between => k_is); (case c_is_between => k_is); (case k_is_between => k_is); (case a_is_day => k_is); (case l_is_day => k_is); (case c_is_day => k_is); (case k_is_day => k_is); (case a_are_numbers => k_is); (case l_are_numbers => k_is); (case c_are_numbers => k_is); (case k_are_numbers => k_is); (case a_require_calendar => k_is); (case l_require_calendar => k_is); (case c_require_calendar => k_is); (case k_require_calendar => k_is); (case a_require_row => k_is); (case l_require_row => k_is); (case c_require_row => k_is); (case k_require_row => k_is); (case a_away_on => k_is); (case l_away_on => k_is); (case c_away_on => k_is); (case k_away_on => k_is); (case a_first_over => k_is); (case l_first_over => k_is); (case c_first_over => k_is); (case k_first_over => k_is); (case a_with_pieces => k_is); (case l_with_pieces => k_is); (case c_with_pieces => k_is); (case k_with_pieces => k_is); (case a_first_fault => k_is); (case l_first_fault => k_is); (case c_first_fault => k_is); (case k_first_fault => k_is); (case a_least_owned => k_is); (case l_least_owned => k_is); (case c_least_owned => k_is); (case k_least_owned => k_is); (case a_law_mixed => k_is); (case l_law_mixed => k_is); (case c_law_mixed => k_is); (case k_law_mixed => k_is); (case a_law_source => k_is); (case l_law_source => k_is); (case c_law_source => k_is); (case k_law_source => k_is); (case a_law_take => k_is); (case l_law_take => k_is); (case c_law_take => k_is); (case k_law_take => k_is); (case a_law_stock => k_is); (case l_law_stock => k_is); (case c_law_stock => k_is); (case k_law_stock => k_is); (case a_law_gone => k_is); (case l_law_gone => k_is); (case c_law_gone => k_is); (case k_law_gone => k_is); (case a_law_added_right => k_is); (case l_law_added_right => k_is); (case c_law_added_right => k_is); (case k_law_added_right => k_is); (case a_law_least_right => k_is); (case l_law_least_right => k_is); (case c_law_least_right => k_is); (case k_law_least_right => k_is); (case a_law => k_is); (case l_law => k_is); (case c_law => k_is); (case k_law => k_is); (case v_MAX_DAYS => k_is); (case v_MAX_OWNED => k_is); (case z_all => k_is); (case z_bool => k_is); (case z_enumerate => k_is); (case z_int => k_is); (case z_isinstance => k_is); (case z_len => k_is); (case z_list => k_is); (case z_max => k_is); (case z_min => k_is); (case z_range => k_is); (case z_tuple => k_is); (case z_zip => k_is)

