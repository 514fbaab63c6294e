import PyProof.Rows.All
import HandS.Conv
import HandS.Deep
import HandS.ExcOwn
import HandS.ForExc
import HandS.ForMost
import HandS.IsInst
import HandS.Rev
import HandS.Style
import HandS.TupAny
import HandS.TupLe
import HandS.TupMul
import HandS.Wide
import KE.GoesEnum
import KE.GoesMore
import KE.GoesZip
import KE.KDictZip
import OpenK.AllK
import PySem.Challenge.RW_breakrows_k66_rows_of_queues
import Wide.All
import Wide.FinOn
set_option Elab.async false
set_option linter.all false
set_option maxRecDepth 100000
set_option maxHeartbeats 1000000
/-! A layer of trees over the hand layer: values are trees D, what may be changed lies in a small store M of our own; each construct has a function that computes its result, and a theorem that the hand layer's reading follows from it. -/
namespace Bk
open PySem PySem.Spec PyProof.Rows L2

/-! ### data, the store, results -/
inductive D where
  | non | bl (b : Bool) | int (i : Int) | str (x : Str)
  | tup (xs : List D) | lst (xs : List D) | ref (k : Nat)
inductive MO where
  | dead | lst (xs : List D) | obj (nm : Str) (fs : List (Str × D))
inductive R (α : Type) where
  | ok (a : α) (M : List MO) | exc (c : Nat) (d : D) (M : List MO) | bad
def R.bind {α β : Type} (r : R α) (f : α → List MO → R β) : R β := match r with
  | .ok a M => f a M
  | .exc c d M => .exc c d M
  | .bad => .bad
abbrev Env := List (Option D)
abbrev GE := Env → List MO → R D
abbrev GT := Env → List MO → R Bool
abbrev GA := Env → List MO → R (List D)
inductive RS where
  | nx (Γ : Env) (M : List MO) | rt (d : D) (M : List MO) | bk (Γ : Env) (M : List MO) | ct (Γ : Env) (M : List MO)
  | exc (c : Nat) (d : D) (Γ : Env) (M : List MO) | bad
abbrev GS := Env → List MO → RS

/-- a list, tracked or written, and no more than that -/
def ExL (K : PySem.W.Frag) (H : Hp) (a : Addr) (xs : List V) : Prop :=
  Rd H a (.lst xs) ∨ ∃ (its : Array Value) (m : Nat), K.lookup a = some { cls := .type "list", data := .seq its m } ∧ its.size ≤ sizeLine ∧ Vals xs its.toList
theorem ExL.sq {K : PySem.W.Frag} {H : Hp} {a : Addr} {xs : List V} : ExL K H a xs → SqL K H a xs
  | .inl h => .inl h
  | .inr ⟨its, m, h1, h2, h3⟩ => .inr ⟨_, its, m, h1, rfl, rfl, rfl, h2, h3⟩
theorem ExL.at_ {X : Cx} {pins : List (Addr × Obj)} {σ : L2.St} {H : Hp} {s : Shared} {a : Addr} {xs : List V} (I : Inv X pins σ H s) (h : ExL X.K H a xs) : ∃ (its : List Value) (m : Nat), Vals xs its ∧ s.heap.get? a = some { cls := .type "list", data := .seq its.toArray m } ∧ xs.length ≤ sizeLine := by
  rcases h with h | ⟨its, m, h1, h2, h3⟩
  · obtain ⟨z, its, m, r, e⟩ := h.ok I.hok
    exact ⟨its, m, r, e, z⟩
  · refine ⟨its.toList, m, h3, by simpa using I.kIn a _ h1, ?_⟩
    have e := h3.length
    rw [Array.length_toList] at e
    exact Nat.le_trans (Nat.le_of_eq e) h2
section
variable (K : PySem.W.Frag) (Z : Hp) (ι : Nat → Addr) (n : Nat)
mutual
inductive Rp : D → V → Prop
  | non : Rp .non .non
  | bl (b : Bool) : Rp (.bl b) (.bl b)
  | int (i : Int) : Rp (.int i) (.int i)
  | str (x : Str) : Rp (.str x) (.str x)
  | tup {ds : List D} {a : Addr} {xs : List V} : SqT K Z a xs → Rps ds xs → Rp (.tup ds) (.ref a)
  | lst {ds : List D} {a : Addr} {xs : List V} : ExL K Z a xs → Rps ds xs → Rp (.lst ds) (.ref a)
  | ref {k : Nat} : k < n → Rp (.ref k) (.ref (ι k))
inductive Rps : List D → List V → Prop
  | nil : Rps [] []
  | cons {d : D} {v : V} {ds : List D} {vs : List V} : Rp d v → Rps ds vs → Rps (d :: ds) (v :: vs)
end
end

abbrev Sub (Z Z' : Hp) : Prop := ∀ a o, Z a = some o → Z' a = some o
theorem subL {K : PySem.W.Frag} {Z Z' : Hp} (h : Sub Z Z') {a : Addr} {xs : List V} : ExL K Z a xs → ExL K Z' a xs
  | .inl (.inl e) => .inl (.inl (h _ _ e))
  | .inl (.inr ⟨o, e⟩) => .inl (.inr ⟨o, h _ _ e⟩)
  | .inr q => .inr q
theorem subT {K : PySem.W.Frag} {Z Z' : Hp} (h : Sub Z Z') {a : Addr} {xs : List V} : SqT K Z a xs → SqT K Z' a xs
  | .inl (.inl e) => .inl (.inl (h _ _ e))
  | .inl (.inr ⟨o, e⟩) => .inl (.inr ⟨o, h _ _ e⟩)
  | .inr q => .inr q

section
variable {K : PySem.W.Frag} {Z Z' : Hp} {ι ι' : Nat → Addr} {n n' : Nat}
mutual
theorem Rp.mono (hz : Sub Z Z') (hi : ∀ k, k < n → ι' k = ι k) (hn : n ≤ n') : ∀ (d : D) (v : V), Rp K Z ι n d v → Rp K Z' ι' n' d v
  | .non, _, h => by cases h; exact .non
  | .bl b, _, h => by cases h; exact .bl b
  | .int i, _, h => by cases h; exact .int i
  | .str x, _, h => by cases h; exact .str x
  | .tup ds, _, h => by
    cases h with
    | tup s r => exact .tup (subT hz s) (Rps.mono hz hi hn ds _ r)
  | .lst ds, _, h => by
    cases h with
    | lst s r => exact .lst (subL hz s) (Rps.mono hz hi hn ds _ r)
  | .ref k, _, h => by
    cases h with
    | ref q => rw [← hi k q]; exact .ref (Nat.lt_of_lt_of_le q hn)
theorem Rps.mono (hz : Sub Z Z') (hi : ∀ k, k < n → ι' k = ι k) (hn : n ≤ n') : ∀ (ds : List D) (vs : List V), Rps K Z ι n ds vs → Rps K Z' ι' n' ds vs
  | [], _, h => by cases h; exact .nil
  | d :: ds, _, h => by
    cases h with
    | cons r s => exact .cons (Rp.mono hz hi hn d _ r) (Rps.mono hz hi hn ds _ s)
end
theorem Rps.length : ∀ {ds : List D} {vs : List V}, Rps K Z ι n ds vs → ds.length = vs.length
  | [], _, h => by cases h; rfl
  | _ :: _, _, h => by
    cases h with
    | cons _ s => rw [List.length_cons, List.length_cons, Rps.length s]
theorem Rps.get : ∀ {ds : List D} {vs : List V} {i : Nat} {d : D}, Rps K Z ι n ds vs → ds[i]? = some d → ∃ v, vs[i]? = some v ∧ Rp K Z ι n d v
  | [], _, _, _, _, e => by simp at e
  | _ :: _, _, 0, _, h, e => by
    cases h with
    | cons r _ =>
      simp at e
      subst e
      exact ⟨_, rfl, r⟩
  | _ :: _, _, i + 1, _, h, e => by
    cases h with
    | cons _ s =>
      obtain ⟨v, h1, h2⟩ := Rps.get s (i := i) (by simpa using e)
      exact ⟨v, by simpa using h1, h2⟩
theorem Rps.append : ∀ {ds es : List D} {vs us : List V}, Rps K Z ι n ds vs → Rps K Z ι n es us → Rps K Z ι n (ds ++ es) (vs ++ us)
  | [], _, _, _, h, q => by cases h; exact q
  | _ :: _, _, _, _, h, q => by
    cases h with
    | cons r s => exact .cons r (Rps.append s q)
theorem Rps.set : ∀ {ds : List D} {vs : List V} {d : D} {v : V} (i : Nat), Rps K Z ι n ds vs → Rp K Z ι n d v → Rps K Z ι n (ds.set i d) (vs.set i v)
  | [], _, _, _, _, h, _ => by cases h; exact .nil
  | _ :: _, _, _, _, 0, h, q => by
    cases h with
    | cons _ s => exact .cons q s
  | _ :: _, _, _, _, i + 1, h, q => by
    cases h with
    | cons r s => exact .cons r (Rps.set i s q)
theorem Rps.take : ∀ {ds : List D} {vs : List V} (i : Nat), Rps K Z ι n ds vs → Rps K Z ι n (ds.take i) (vs.take i)
  | _, _, 0, _ => by rw [List.take_zero, List.take_zero]; exact .nil
  | [], _, _ + 1, h => by cases h; exact .nil
  | _ :: _, _, i + 1, h => by
    cases h with
    | cons r s => exact .cons r (Rps.take i s)
theorem Rps.drop : ∀ {ds : List D} {vs : List V} (i : Nat), Rps K Z ι n ds vs → Rps K Z ι n (ds.drop i) (vs.drop i)
  | _, _, 0, h => h
  | [], _, _ + 1, h => by cases h; exact .nil
  | _ :: _, _, i + 1, h => by
    cases h with
    | cons r s => exact Rps.drop i s
theorem Rps.erase : ∀ {ds : List D} {vs : List V} (i : Nat), Rps K Z ι n ds vs → Rps K Z ι n (ds.eraseIdx i) (vs.eraseIdx i)
  | [], _, _, h => by cases h; exact .nil
  | _ :: _, _, 0, h => by
    cases h with
    | cons r s => exact s
  | _ :: _, _, i + 1, h => by
    cases h with
    | cons r s => exact .cons r (Rps.erase i s)
theorem Rps.rep {ds : List D} {vs : List V} (h : Rps K Z ι n ds vs) : ∀ k : Nat, Rps K Z ι n (List.replicate k ds).flatten (List.replicate k vs).flatten
  | 0 => .nil
  | k + 1 => by
    rw [List.replicate_succ, List.replicate_succ, List.flatten_cons, List.flatten_cons]
    exact h.append (Rps.rep h k)
theorem Rps.rev : ∀ {ds : List D} {vs : List V}, Rps K Z ι n ds vs → Rps K Z ι n ds.reverse vs.reverse
  | [], _, h => by cases h; exact .nil
  | _ :: _, _, h => by
    cases h with
    | cons r s =>
      rw [List.reverse_cons, List.reverse_cons]
      exact (Rps.rev s).append (.cons r .nil)
theorem Rps.ints : ∀ {is : List Int} {vs : List V}, Rps K Z ι n (is.map D.int) vs → vs = is.map V.int
  | [], _, h => by cases h; rfl
  | _ :: _, _, h => by
    cases h with
    | cons r s =>
      cases r
      rw [List.map_cons, Rps.ints s]
theorem Rps.of_ints : ∀ (is : List Int), Rps K Z ι n (is.map D.int) (is.map V.int)
  | [] => .nil
  | i :: is => .cons (.int i) (Rps.of_ints is)
end

/-! refs below a bound -/
mutual
def below (m : Nat) : D → Bool
  | .tup ds => belows m ds
  | .lst ds => belows m ds
  | .ref k => decide (k < m)
  | _ => true
def belows (m : Nat) : List D → Bool
  | [] => true
  | d :: ds => below m d && belows m ds
end
section
variable {K : PySem.W.Frag} {Z : Hp} {ι : Nat → Addr} {n m : Nat}
mutual
theorem Rp.shrink : ∀ (d : D) (v : V), Rp K Z ι n d v → below m d = true → Rp K Z ι m d v
  | .non, _, h, _ => by cases h; exact .non
  | .bl b, _, h, _ => by cases h; exact .bl b
  | .int i, _, h, _ => by cases h; exact .int i
  | .str x, _, h, _ => by cases h; exact .str x
  | .tup ds, _, h, b => by
    cases h with
    | tup s r => exact .tup s (Rps.shrink ds _ r (by simpa [below] using b))
  | .lst ds, _, h, b => by
    cases h with
    | lst s r => exact .lst s (Rps.shrink ds _ r (by simpa [below] using b))
  | .ref k, _, h, b => by
    cases h with
    | ref q => exact .ref (by simpa [below] using b)
theorem Rps.shrink : ∀ (ds : List D) (vs : List V), Rps K Z ι n ds vs → belows m ds = true → Rps K Z ι m ds vs
  | [], _, h, _ => by cases h; exact .nil
  | d :: ds, _, h, b => by
    cases h with
    | cons r s =>
      simp only [belows, Bool.and_eq_true] at b
      exact .cons (Rp.shrink d _ r b.1) (Rps.shrink ds _ s b.2)
end
end

/-! ### the heap holds the store -/
def OR (K : PySem.W.Frag) (H Z : Hp) (ι : Nat → Addr) (n : Nat) : MO → Addr → Prop
  | .dead, _ => True
  | .lst ds, a => ∃ xs, H a = some (.lst xs) ∧ Rps K Z ι n ds xs
  | .obj nm fs, a => ∃ C dx gs, PySem.W.nsIn K mainGlobals nm = some (some (.ref C)) ∧ H a = some (.ins C dx gs) ∧ gs.map (·.1) = fs.map (·.1) ∧ Rps K Z ι n (fs.map (·.2)) (gs.map (·.2))
structure HR (K : PySem.W.Frag) (H Z : Hp) (ι : Nat → Addr) (M : List MO) : Prop where
  sub : Sub Z H
  ali : ∀ k, k < M.length → ∃ o, H (ι k) = some o
  sep : ∀ (k : Nat) (o : MO), M[k]? = some o → o ≠ .dead → Z (ι k) = none
  inj : ∀ (j k : Nat) (o u : MO), M[j]? = some o → M[k]? = some u → o ≠ .dead → u ≠ .dead → ι j = ι k → j = k
  obj : ∀ (k : Nat) (o : MO), M[k]? = some o → OR K H Z ι M.length o (ι k)
  ded : ∀ (k : Nat), M[k]? = some .dead → ∃ o, Z (ι k) = some o
theorem HR.apart {K : PySem.W.Frag} {H Z : Hp} {ι : Nat → Addr} {M : List MO} (h : HR K H Z ι M) {j k : Nat} {o : MO} (hj : j < M.length) (hk : M[k]? = some o) (d : o ≠ .dead) (ne : j ≠ k) : ι j ≠ ι k := fun e => by
  have ej : M[j]? = some M[j] := List.getElem?_eq_getElem hj
  by_cases dj : M[j] = .dead
  · rw [dj] at ej
    obtain ⟨u, hu⟩ := h.ded j ej
    rw [e, h.sep k o hk d] at hu
    cases hu
  · exact ne (h.inj j k _ o ej hk dj d e)
structure Ext (H Z : Hp) (ι : Nat → Addr) (n : Nat) (H' Z' : Hp) (ι' : Nat → Addr) (n' : Nat) : Prop where
  zz : Sub Z Z'
  ii : ∀ k, k < n → ι' k = ι k
  fr : ∀ a o, H a = some o → (∀ k, k < n → a ≠ ι k) → H' a = some o
  nw : ∀ k, n ≤ k → k < n' → H (ι' k) = none
  ln : n ≤ n'
  zn : ∀ a o, Z' a = some o → Z a = some o ∨ H a = none ∨ ∃ k, k < n ∧ a = ι k
theorem Ext.refl {H Z : Hp} {ι : Nat → Addr} {n : Nat} : Ext H Z ι n H Z ι n :=
  ⟨fun _ _ h => h, fun _ _ => rfl, fun _ _ h _ => h, fun k h1 h2 => absurd h2 (Nat.not_lt.mpr h1), Nat.le_refl _, fun _ _ h => .inl h⟩
theorem Ext.trans {H Z H1 Z1 H2 Z2 : Hp} {ι ι1 ι2 : Nat → Addr} {n n1 n2 : Nat} (a : Ext H Z ι n H1 Z1 ι1 n1) (b : Ext H1 Z1 ι1 n1 H2 Z2 ι2 n2) (al : ∀ k, k < n1 → ∃ o, H1 (ι1 k) = some o) : Ext H Z ι n H2 Z2 ι2 n2 where
  zz := fun x o h => b.zz x o (a.zz x o h)
  ii := fun k h => (b.ii k (Nat.lt_of_lt_of_le h a.ln)).trans (a.ii k h)
  fr := fun x o h hk => by
    refine b.fr x o (a.fr x o h hk) fun k hk1 e => ?_
    by_cases hn : k < n
    · exact hk k hn (e.trans (a.ii k hn))
    · have q := a.nw k (Nat.le_of_not_lt hn) hk1
      rw [← e, h] at q
      cases q
  nw := fun k h1 h2 => by
    by_cases hn : k < n1
    · rw [b.ii k hn]
      exact a.nw k h1 hn
    · have q := b.nw k (Nat.le_of_not_lt hn) h2
      cases e : H (ι2 k) with
      | none => rfl
      | some o =>
        by_cases z : ∀ j, j < n → ι2 k ≠ ι j
        · rw [a.fr _ _ e z] at q
          cases q
        · exfalso
          apply z
          intro j hj ej
          obtain ⟨u, hu⟩ := al j (Nat.lt_of_lt_of_le hj a.ln)
          rw [a.ii j hj, ← ej, q] at hu
          cases hu
  ln := Nat.le_trans a.ln b.ln
  zn := fun x o h => by
    have low : ∀ u, H1 x = none → H x = some u → ∃ k, k < n ∧ x = ι k := fun u h1 hu => by
      refine Classical.byContradiction fun z => ?_
      rw [a.fr x u hu fun k hk e => z ⟨k, hk, e⟩] at h1
      cases h1
    have fin : H1 x = none → Z x = some o ∨ H x = none ∨ ∃ k, k < n ∧ x = ι k := fun h1 => by
      cases e : H x with
      | none => exact .inr (.inl rfl)
      | some u => exact .inr (.inr (low u h1 e))
    rcases b.zn x o h with h | h | ⟨k, hk, e⟩
    · exact a.zn x o h
    · exact fin h
    · by_cases hn : k < n
      · exact .inr (.inr ⟨k, hn, e.trans (a.ii k hn)⟩)
      · exact .inr (.inl (by rw [e]; exact a.nw k (Nat.le_of_not_lt hn) hk))
/-- the store is cut -/
theorem Ext.cut {H Z H1 Z1 : Hp} {ι ι1 : Nat → Addr} {n n1 m : Nat} (a : Ext H Z ι n H1 Z1 ι1 n1) (h1 : n ≤ m) (h2 : m ≤ n1) : Ext H Z ι n H1 Z1 ι1 m :=
  ⟨a.zz, a.ii, a.fr, fun k q1 q2 => a.nw k q1 (Nat.lt_of_lt_of_le q2 h2), h1, a.zn⟩
section
variable {K : PySem.W.Frag} {H Z H' Z' : Hp} {ι ι' : Nat → Addr} {M : List MO} {n' : Nat}
theorem Rp.ext {d : D} {v : V} {n : Nat} (r : Rp K Z ι n d v) (e : Ext H Z ι n H' Z' ι' n') : Rp K Z' ι' n' d v := Rp.mono e.zz e.ii e.ln d v r
theorem Rps.ext {ds : List D} {vs : List V} {n : Nat} (r : Rps K Z ι n ds vs) (e : Ext H Z ι n H' Z' ι' n') : Rps K Z' ι' n' ds vs := Rps.mono e.zz e.ii e.ln ds vs r
/-- a new thing that will not be changed -/
theorem HR.frozen (h : HR K H Z ι M) {p : Addr} {o : HO} (hp : H p = none) : HR K (upd H p o) (upd Z p o) ι M ∧ Ext H Z ι M.length (upd H p o) (upd Z p o) ι M.length := by
  have zp : Z p = none := by
    cases e : Z p with
    | none => rfl
    | some u =>
      rw [h.sub _ _ e] at hp
      cases hp
  have ne : ∀ k, k < M.length → ι k ≠ p := fun k hk e => by
    obtain ⟨u, hu⟩ := h.ali k hk
    rw [e, hp] at hu
    cases hu
  have lt : ∀ {k : Nat} {u : MO}, M[k]? = some u → k < M.length := fun e => (List.getElem?_eq_some_iff.mp e).1
  have s1 : Sub Z (upd Z p o) := fun a u e => by rw [upd_ne (ne_of_none e zp)]; exact e
  refine ⟨⟨fun a u e => ?_, fun k hk => ?_, fun k u e d => ?_, h.inj, fun k u e => ?_, fun k e => ?_⟩, s1, fun _ _ => rfl, fun a u e _ => ?_, fun k h1 h2 => absurd h2 (Nat.not_lt.mpr h1), Nat.le_refl _, fun a u e => ?_⟩
  · by_cases ha : a = p
    · subst ha
      rw [upd_same] at e ⊢
      exact e
    · rw [upd_ne ha] at e ⊢
      exact h.sub _ _ e
  · rw [upd_ne (ne k hk)]
    exact h.ali k hk
  · rw [upd_ne (ne k (lt e))]
    exact h.sep k u e d
  · have q := h.obj k u e
    cases u with
    | dead => trivial
    | lst ds =>
      obtain ⟨xs, e1, r⟩ := q
      exact ⟨xs, by rw [upd_ne (ne k (lt e))]; exact e1, Rps.mono s1 (fun _ _ => rfl) (Nat.le_refl _) _ _ r⟩
    | obj nm fs =>
      obtain ⟨C, dx, gs, e0, e1, e2, r⟩ := q
      exact ⟨C, dx, gs, e0, by rw [upd_ne (ne k (lt e))]; exact e1, e2, Rps.mono s1 (fun _ _ => rfl) (Nat.le_refl _) _ _ r⟩
  · obtain ⟨u, hu⟩ := h.ded k e
    exact ⟨u, s1 _ _ hu⟩
  · rw [upd_ne (ne_of_none e hp)]
    exact e
  · by_cases ha : a = p
    · subst ha
      exact .inr (.inl hp)
    · rw [upd_ne ha] at e
      exact .inl e
def put (ι : Nat → Addr) (m : Nat) (p : Addr) : Nat → Addr := fun k => if k = m then p else ι k
theorem put_at {ι : Nat → Addr} {m : Nat} {p : Addr} : put ι m p m = p := if_pos rfl
theorem put_lt {ι : Nat → Addr} {m k : Nat} {p : Addr} (h : k < m) : put ι m p k = ι k := if_neg (Nat.ne_of_lt h)
/-- a new thing of ours -/
theorem HR.owned (h : HR K H Z ι M) {p : Addr} {ds : List D} {xs : List V} (hp : H p = none) (r : Rps K Z ι M.length ds xs) :
    HR K (upd H p (.lst xs)) Z (put ι M.length p) (M ++ [.lst ds]) ∧ Ext H Z ι M.length (upd H p (.lst xs)) Z (put ι M.length p) (M ++ [MO.lst ds]).length := by
  have zp : Z p = none := by
    cases e : Z p with
    | none => rfl
    | some u =>
      rw [h.sub _ _ e] at hp
      cases hp
  have ne : ∀ k, k < M.length → ι k ≠ p := fun k hk e => by
    obtain ⟨u, hu⟩ := h.ali k hk
    rw [e, hp] at hu
    cases hu
  have ii : ∀ k, k < M.length → (put ι M.length p) k = ι k := fun k hk => put_lt hk
  have il : (put ι M.length p) M.length = p := put_at
  have cs : ∀ {k : Nat} {u : MO}, (M ++ [MO.lst ds])[k]? = some u → (k < M.length ∧ M[k]? = some u) ∨ (k = M.length ∧ u = .lst ds) := fun {k u} e => by
    by_cases hk : k < M.length
    · rw [List.getElem?_append_left hk] at e
      exact .inl ⟨hk, e⟩
    · rw [List.getElem?_append_right (Nat.le_of_not_lt hk)] at e
      by_cases hz : k - M.length = 0
      · rw [hz] at e
        exact .inr ⟨by omega, (Option.some.inj e).symm⟩
      · rw [List.getElem?_eq_none (by simp; omega)] at e
        cases e
  have ln : (M ++ [MO.lst ds]).length = M.length + 1 := by simp
  refine ⟨⟨fun a u e => ?_, fun k hk => ?_, fun k u e d => ?_, fun j k o u e1 e2 d1 d2 e => ?_, fun k u e => ?_, fun k e => ?_⟩, fun _ _ e => e, ii, fun a u e _ => ?_, fun k h1 h2 => ?_, by rw [ln]; omega, fun _ _ e => .inl e⟩
  · rw [upd_ne (ne_of_none e zp)]
    exact h.sub _ _ e
  · rw [ln] at hk
    by_cases hk' : k < M.length
    · rw [ii k hk', upd_ne (ne k hk')]
      exact h.ali k hk'
    · have : k = M.length := by omega
      subst this
      exact ⟨_, by rw [il, upd_same]⟩
  · rcases cs e with ⟨hk, e⟩ | ⟨rfl, rfl⟩
    · rw [ii k hk]
      exact h.sep k u e d
    · rw [il]
      exact zp
  · rcases cs e1 with ⟨hj, e1⟩ | ⟨rfl, rfl⟩ <;> rcases cs e2 with ⟨hk, e2⟩ | ⟨rfl, rfl⟩
    · rw [ii j hj, ii k hk] at e
      exact h.inj j k o u e1 e2 d1 d2 e
    · rw [ii j hj, il] at e
      exact absurd e (ne j hj)
    · rw [ii k hk, il] at e
      exact absurd e.symm (ne k hk)
    · rfl
  · rcases cs e with ⟨hk, e⟩ | ⟨rfl, rfl⟩
    · rw [ii k hk]
      have q := h.obj k u e
      cases u with
      | dead => trivial
      | lst es =>
        obtain ⟨ys, e1, r1⟩ := q
        exact ⟨ys, by rw [upd_ne (ne k hk)]; exact e1, Rps.mono (fun _ _ z => z) ii (by rw [ln]; omega) _ _ r1⟩
      | obj nm fs =>
        obtain ⟨C, dx, gs, e0, e1, e2, r1⟩ := q
        exact ⟨C, dx, gs, e0, by rw [upd_ne (ne k hk)]; exact e1, e2, Rps.mono (fun _ _ z => z) ii (by rw [ln]; omega) _ _ r1⟩
    · rw [il]
      exact ⟨xs, upd_same, Rps.mono (fun _ _ z => z) ii (by rw [ln]; omega) _ _ r⟩
  · rcases cs e with ⟨hk, e⟩ | ⟨_, e⟩
    · rw [ii k hk]
      exact h.ded k e
    · cases e
  · rw [upd_ne (ne_of_none e hp)]
    exact e
  · rw [ln] at h2
    have : k = M.length := by omega
    subst this
    rw [il]
    exact hp
/-- one of ours is changed -/
theorem HR.change (h : HR K H Z ι M) {j : Nat} {es ds : List D} {xs : List V} (hj : M[j]? = some (.lst es)) (r : Rps K Z ι M.length ds xs) :
    HR K (upd H (ι j) (.lst xs)) Z ι (M.set j (.lst ds)) ∧ Ext H Z ι M.length (upd H (ι j) (.lst xs)) Z ι (M.set j (.lst ds)).length := by
  have lt : j < M.length := (List.getElem?_eq_some_iff.mp hj).1
  have ln : (M.set j (MO.lst ds)).length = M.length := List.length_set
  have zj : Z (ι j) = none := h.sep j _ hj (by simp)
  have cs : ∀ {k : Nat} {u : MO}, (M.set j (.lst ds))[k]? = some u → (k ≠ j ∧ M[k]? = some u) ∨ (k = j ∧ u = .lst ds) := fun {k u} e => by
    by_cases hk : k = j
    · subst hk
      rw [List.getElem?_set_self lt] at e
      exact .inr ⟨rfl, (Option.some.inj e).symm⟩
    · rw [List.getElem?_set_ne (Ne.symm hk)] at e
      exact .inl ⟨hk, e⟩
  have apart : ∀ {k : Nat} {u : MO}, k ≠ j → M[k]? = some u → u ≠ .dead → ι k ≠ ι j := fun {k u} hk e d z => hk (h.inj k j u _ e hj d (by simp) z)
  refine ⟨⟨fun a u e => ?_, fun k hk => ?_, fun k u e d => ?_, fun a b o u e1 e2 d1 d2 e => ?_, fun k u e => ?_, fun k e => ?_⟩, fun _ _ e => e, fun _ _ => rfl, fun a u e z => ?_, fun k h1 h2 => absurd h2 (by rw [ln]; exact Nat.not_lt.mpr h1), by rw [ln]; exact Nat.le_refl _, fun _ _ e => .inl e⟩
  · rw [upd_ne (ne_of_none e zj)]
    exact h.sub _ _ e
  · rw [ln] at hk
    by_cases e : ι k = ι j
    · exact ⟨_, by rw [e, upd_same]⟩
    · rw [upd_ne e]
      exact h.ali k hk
  · rcases cs e with ⟨hk, e⟩ | ⟨rfl, rfl⟩
    · exact h.sep k u e d
    · exact zj
  · have live : ∀ {k : Nat} {u : MO}, (M.set j (.lst ds))[k]? = some u → u ≠ .dead → ∃ u', M[k]? = some u' ∧ u' ≠ .dead := fun {k u} e d => by
      rcases cs e with ⟨_, e⟩ | ⟨rfl, rfl⟩
      · exact ⟨u, e, d⟩
      · exact ⟨_, hj, by simp⟩
    obtain ⟨o', e1', d1'⟩ := live e1 d1
    obtain ⟨u', e2', d2'⟩ := live e2 d2
    exact h.inj a b o' u' e1' e2' d1' d2' e
  · rw [ln]
    rcases cs e with ⟨hk, e⟩ | ⟨rfl, rfl⟩
    · have q := h.obj k u e
      cases u with
      | dead => trivial
      | lst es =>
        obtain ⟨ys, e1, r1⟩ := q
        exact ⟨ys, by rw [upd_ne (apart hk e (by simp))]; exact e1, r1⟩
      | obj nm fs =>
        obtain ⟨C, dx, gs, e0, e1, e2, r1⟩ := q
        exact ⟨C, dx, gs, e0, by rw [upd_ne (apart hk e (by simp))]; exact e1, e2, r1⟩
    · exact ⟨xs, upd_same, r⟩
  · rcases cs e with ⟨_, e⟩ | ⟨_, e⟩
    · exact h.ded k e
    · cases e
  · rw [upd_ne (z j lt)]
    exact e
/-- one of ours will not be changed any more -/
theorem HR.freeze (h : HR K H Z ι M) {j : Nat} {ds : List D} (hj : M[j]? = some (.lst ds)) :
    ∃ xs, Rps K Z ι M.length ds xs ∧ HR K H (upd Z (ι j) (.lst xs)) ι (M.set j .dead) ∧ Ext H Z ι M.length H (upd Z (ι j) (.lst xs)) ι (M.set j MO.dead).length ∧ Rp K (upd Z (ι j) (.lst xs)) ι (M.set j MO.dead).length (.lst ds) (.ref (ι j)) := by
  have lt : j < M.length := (List.getElem?_eq_some_iff.mp hj).1
  have ln : (M.set j MO.dead).length = M.length := List.length_set
  have zj : Z (ι j) = none := h.sep j _ hj (by simp)
  obtain ⟨xs, e1, r⟩ := h.obj j _ hj
  have s1 : Sub Z (upd Z (ι j) (.lst xs)) := fun a u e => by rw [upd_ne (ne_of_none e zj)]; exact e
  have cs : ∀ {k : Nat} {u : MO}, (M.set j .dead)[k]? = some u → u ≠ .dead → k ≠ j ∧ M[k]? = some u := fun {k u} e d => by
    by_cases hk : k = j
    · subst hk
      rw [List.getElem?_set_self lt] at e
      exact absurd (Option.some.inj e).symm d
    · rw [List.getElem?_set_ne (Ne.symm hk)] at e
      exact ⟨hk, e⟩
  refine ⟨xs, r, ⟨fun a u e => ?_, fun k hk => h.ali k (by rw [ln] at hk; exact hk), fun k u e d => ?_, fun a b o u q1 q2 d1 d2 e => ?_, fun k u e => ?_, fun k e => ?_⟩, ⟨s1, fun _ _ => rfl, fun a u e _ => e, fun k h1 h2 => absurd h2 (by rw [ln]; exact Nat.not_lt.mpr h1), by rw [ln]; exact Nat.le_refl _, fun a u e => ?_⟩, ?_⟩
  · by_cases ha : a = ι j
    · subst ha
      rw [upd_same] at e
      cases e
      exact e1
    · rw [upd_ne ha] at e
      exact h.sub _ _ e
  · obtain ⟨hk, e⟩ := cs e d
    rw [upd_ne fun z => hk (h.inj k j u _ e hj d (by simp) z)]
    exact h.sep k u e d
  · exact h.inj a b o u (cs q1 d1).2 (cs q2 d2).2 d1 d2 e
  · rw [ln]
    cases u with
    | dead => trivial
    | lst es =>
      obtain ⟨hk, e⟩ := cs e (by simp)
      obtain ⟨ys, q1, r1⟩ := h.obj k _ e
      exact ⟨ys, q1, Rps.mono s1 (fun _ _ => rfl) (Nat.le_refl _) _ _ r1⟩
    | obj nm fs =>
      obtain ⟨hk, e⟩ := cs e (by simp)
      obtain ⟨C, dx, gs, e0, e1, e2, r1⟩ := h.obj k _ e
      exact ⟨C, dx, gs, e0, e1, e2, Rps.mono s1 (fun _ _ => rfl) (Nat.le_refl _) _ _ r1⟩
  · by_cases hk : k = j
    · subst hk
      exact ⟨_, upd_same⟩
    · rw [List.getElem?_set_ne (Ne.symm hk)] at e
      obtain ⟨u, hu⟩ := h.ded k e
      exact ⟨u, s1 _ _ hu⟩
  · by_cases ha : a = ι j
    · exact .inr (.inr ⟨j, lt, ha⟩)
    · rw [upd_ne ha] at e
      exact .inl e
  · rw [ln]
    exact .lst (.inl (.inl upd_same)) (Rps.mono s1 (fun _ _ => rfl) (Nat.le_refl _) _ _ r)
end
/-- a cut: what is left leans on nothing that was cut off -/
def belowO (m : Nat) : MO → Bool
  | .dead => true
  | .lst ds => belows m ds
  | .obj _ fs => belows m (fs.map (·.2))
def cutOk (m : Nat) (M : List MO) : Bool := (M.take m).all (belowO m)
theorem HR.cut {K : PySem.W.Frag} {H Z : Hp} {ι : Nat → Addr} {M : List MO} (h : HR K H Z ι M) {m : Nat} (hm : m ≤ M.length) (c : cutOk m M = true) : HR K H Z ι (M.take m) := by
  have ln : (M.take m).length = m := by rw [List.length_take]; omega
  have cs : ∀ {k : Nat} {u : MO}, (M.take m)[k]? = some u → M[k]? = some u ∧ belowO m u = true := fun {k u} e => by
    have lk : k < m := by
      have := (List.getElem?_eq_some_iff.mp e).1
      rw [ln] at this
      exact this
    have e' := e
    rw [List.getElem?_take_of_lt lk] at e'
    exact ⟨e', List.all_eq_true.mp c u (List.mem_of_getElem? e)⟩
  refine ⟨h.sub, fun k hk => h.ali k (by rw [ln] at hk; omega), fun k u e d => h.sep k u (cs e).1 d, fun a b o u e1 e2 d1 d2 e => h.inj a b o u (cs e1).1 (cs e2).1 d1 d2 e, fun k u e => ?_, fun k e => h.ded k (cs e).1⟩
  rw [ln]
  obtain ⟨e1, b⟩ := cs e
  have q := h.obj k u e1
  cases u with
  | dead => trivial
  | lst ds =>
    obtain ⟨xs, e2, r⟩ := q
    exact ⟨xs, e2, Rps.shrink _ _ r b⟩
  | obj nm fs =>
    obtain ⟨C, dx, gs, e0, e1, e2, r⟩ := q
    exact ⟨C, dx, gs, e0, e1, e2, Rps.shrink _ _ r b⟩
end Bk

set_option Elab.async false
set_option linter.all false
set_option maxRecDepth 100000
set_option maxHeartbeats 1000000
namespace Bk
open PySem PySem.Spec PyProof.Rows L2

/-! ### what is shown of a piece of syntax -/
abbrev St := L2.St
/-- the classes of errors: where each stands, and its one attribute -/
structure CT where
  at_ : Nat → Addr
  nm : Nat → Str
def ExcR (K : PySem.W.Frag) (C : CT) (H Z : Hp) (ι : Nat → Addr) (n c : Nat) (d : D) (cls : Value) (dd : Option Addr) : Prop :=
  cls = .ref (C.at_ c) ∧ ∃ a v, dd = some a ∧ H a = some (.xd [(C.nm c, v)]) ∧ Rp K Z ι n d v
def Slots (K : PySem.W.Frag) (Z : Hp) (ι : Nat → Addr) (n : Nat) (Γ : Env) (σ : St) : Prop :=
  Γ.length = σ.length ∧ ∀ (i : Nat) (d : D), Γ[i]? = some (some d) → ∃ v, σ[i]? = some (some v) ∧ Rp K Z ι n d v
theorem Slots.ext {K : PySem.W.Frag} {H Z H' Z' : Hp} {ι ι' : Nat → Addr} {n n' : Nat} {Γ : Env} {σ : St} (s : Slots K Z ι n Γ σ) (e : Ext H Z ι n H' Z' ι' n') : Slots K Z' ι' n' Γ σ :=
  ⟨s.1, fun i d h => let ⟨v, h1, h2⟩ := s.2 i d h; ⟨v, h1, h2.ext e⟩⟩
theorem Slots.set {K : PySem.W.Frag} {Z : Hp} {ι : Nat → Addr} {n : Nat} {Γ : Env} {σ : St} (s : Slots K Z ι n Γ σ) (i : Nat) {d : D} {v : V} (r : Rp K Z ι n d v) : Slots K Z ι n (Γ.set i (some d)) (σ.set i (some v)) := by
  refine ⟨by rw [List.length_set, List.length_set]; exact s.1, fun j e h => ?_⟩
  by_cases hj : i = j
  · subst hj
    have lt : i < Γ.length := by
      have := (List.getElem?_eq_some_iff.mp h).1
      rw [List.length_set] at this
      exact this
    rw [List.getElem?_set_self lt] at h
    have q := Option.some.inj (Option.some.inj h)
    subst q
    exact ⟨v, List.getElem?_set_self (by rw [← s.1]; exact lt), r⟩
  · rw [List.getElem?_set_ne hj] at h
    rw [List.getElem?_set_ne hj]
    exact s.2 j e h
/-- slots are forgotten -/
def forget (Γ : Env) : List Nat → Env
  | [] => Γ
  | i :: is => forget (Γ.set i none) is
theorem Slots.forget {K : PySem.W.Frag} {Z : Hp} {ι : Nat → Addr} {n : Nat} {σ : St} : ∀ (is : List Nat) {Γ : Env}, Slots K Z ι n Γ σ → Slots K Z ι n (forget Γ is) σ
  | [], _, s => s
  | i :: is, Γ, s => Slots.forget is ⟨by rw [List.length_set]; exact s.1, fun j e h => by
      by_cases hj : i = j
      · subst hj
        have lt : i < Γ.length := by
          have := (List.getElem?_eq_some_iff.mp h).1
          rw [List.length_set] at this
          exact this
        rw [List.getElem?_set_self lt] at h
        cases h
      · rw [List.getElem?_set_ne hj] at h
        exact s.2 j e h⟩
/-- what leans on nothing that is cut off stays -/
def clean (m : Nat) (Γ : Env) : Env := Γ.map fun o => match o with
  | some d => if below m d = true then some d else none
  | none => none
theorem Slots.cut {K : PySem.W.Frag} {Z : Hp} {ι : Nat → Addr} {n m : Nat} {Γ : Env} {σ : St} (s : Slots K Z ι n Γ σ) : Slots K Z ι m (clean m Γ) σ := by
  refine ⟨by unfold clean; rw [List.length_map]; exact s.1, fun i d h => ?_⟩
  unfold clean at h
  rw [List.getElem?_map] at h
  cases e : Γ[i]? with
  | none => rw [e] at h; cases h
  | some o =>
    cases o with
    | none => rw [e] at h; cases h
    | some d' =>
      rw [e] at h
      have h' : (if below m d' = true then some d' else none) = some d := Option.some.inj h
      by_cases hb : below m d' = true
      · rw [if_pos hb] at h'
        have q := Option.some.inj h'
        subst q
        obtain ⟨v, h1, h2⟩ := s.2 i d' e
        exact ⟨v, h1, h2.shrink _ _ hb⟩
      · rw [if_neg hb] at h'
        cases h'

abbrev RpK (α β : Type) := Hp → (Nat → Addr) → Nat → α → β → Prop
abbrev rpE (K : PySem.W.Frag) : RpK D V := fun Z ι n d v => Rp K Z ι n d v
abbrev rpA (K : PySem.W.Frag) : RpK (List D) (List V) := fun Z ι n d v => Rps K Z ι n d v
abbrev rpT : RpK Bool Bool := fun _ _ _ a b => a = b
def Post {α β : Type} (X : Cx) (C : CT) (W : WX) (rp : RpK α β) (σ : St) (H Z : Hp) (ι : Nat → Addr) (M : List MO) (r : R α) (Q : β → Hp → Prop) : Prop := match r with
  | .ok a M' => ∀ (b : β) (H' Z' : Hp) (ι' : Nat → Addr), Ext H Z ι M.length H' Z' ι' M'.length → HR X.K H' Z' ι' M' → rp Z' ι' M'.length a b → Q b H'
  | .exc c d M' => ∀ (cls : Value) (dd : Option Addr) (H' Z' : Hp) (ι' : Nat → Addr), Ext H Z ι M.length H' Z' ι' M'.length → HR X.K H' Z' ι' M' → ExcR X.K C H' Z' ι' M'.length c d cls dd → W cls dd σ H'
  | .bad => False
section
variable {X : Cx} {C : CT} {W : WX} {σ : St} {H Z H1 Z1 : Hp} {ι ι1 : Nat → Addr} {M M1 : List MO}
theorem Post.shift {α β : Type} {rp : RpK α β} {r : R α} {Q : β → Hp → Prop} (h : Post X C W rp σ H Z ι M r Q) (e : Ext H Z ι M.length H1 Z1 ι1 M1.length) (hr : HR X.K H1 Z1 ι1 M1) : Post X C W rp σ H1 Z1 ι1 M1 r Q := by
  cases r with
  | ok a M' => exact fun b H' Z' ι' e' hr' rb => h b H' Z' ι' (e.trans e' hr.ali) hr' rb
  | exc c d M' => exact fun cls dd H' Z' ι' e' hr' rb => h cls dd H' Z' ι' (e.trans e' hr.ali) hr' rb
  | bad => exact h
theorem Post.bind {α β γ δ : Type} {rp1 : RpK α β} {rp2 : RpK γ δ} {r : R α} {f : α → List MO → R γ} {Q : δ → Hp → Prop} {Q1 : β → Hp → Prop} (h : Post X C W rp2 σ H Z ι M (r.bind f) Q)
    (k : ∀ (a : α) (M1 : List MO) (b : β) (H1 Z1 : Hp) (ι1 : Nat → Addr), Ext H Z ι M.length H1 Z1 ι1 M1.length → HR X.K H1 Z1 ι1 M1 → rp1 Z1 ι1 M1.length a b → Post X C W rp2 σ H1 Z1 ι1 M1 (f a M1) Q → Q1 b H1) :
    Post X C W rp1 σ H Z ι M r Q1 := by
  cases r with
  | ok a M' => exact fun b H' Z' ι' e' hr' rb => k a M' b H' Z' ι' e' hr' rb (Post.shift (r := f a M') h e' hr')
  | exc c d M' => exact h
  | bad => exact h
end

/-- an expression is computed by g -/
def QE (X : Cx) (C : CT) (W : WX) (e : Expr) (g : GE) : Prop := ∃ te, PE X e te ∧ ∀ (σ : St) (H Z : Hp) (ι : Nat → Addr) (Γ : Env) (M : List MO) (Q : VK), Slots X.K Z ι M.length Γ σ → HR X.K H Z ι M → Post X C W (rpE X.K) σ H Z ι M (g Γ M) Q → te σ H Q
def QT (X : Cx) (C : CT) (W : WX) (e : Expr) (g : GT) : Prop := ∃ te, PT X e te ∧ ∀ (σ : St) (H Z : Hp) (ι : Nat → Addr) (Γ : Env) (M : List MO) (Q : Bool → Hp → Prop), Slots X.K Z ι M.length Γ σ → HR X.K H Z ι M → Post X C W rpT σ H Z ι M (g Γ M) Q → te σ H Q
def QW (X : Cx) (C : CT) (W : WX) (e : Expr) (g : GT) : Prop := ∃ te, PW X e te ∧ ∀ (σ : St) (H Z : Hp) (ι : Nat → Addr) (Γ : Env) (M : List MO) (Q : Bool → Hp → Prop), Slots X.K Z ι M.length Γ σ → HR X.K H Z ι M → Post X C W rpT σ H Z ι M (g Γ M) Q → te σ H Q
def QA (X : Cx) (C : CT) (W : WX) (es : List Expr) (g : GA) : Prop := ∃ te, PA X es te ∧ ∀ (σ : St) (H Z : Hp) (ι : Nat → Addr) (Γ : Env) (M : List MO) (Q : List V → Hp → Prop), Slots X.K Z ι M.length Γ σ → HR X.K H Z ι M → Post X C W (rpA X.K) σ H Z ι M (g Γ M) Q → te σ H Q

/-! ### the functions that compute -/
def opR {α : Type} (o : Option α) (M : List MO) : R α := match o with
  | some a => .ok a M
  | none => .bad
def gV (i : Nat) : GE := fun Γ M => match Γ[i]? with
  | some (some d) => .ok d M
  | _ => .bad
def gC (d : D) : GE := fun _ M => .ok d M
def gOp2 (f : List MO → D → D → Option D) (ga gb : GE) : GE := fun Γ M => (ga Γ M).bind fun x M1 => (gb Γ M1).bind fun y M2 => opR (f M2 x y) M2
def gOp1 (f : List MO → D → Option D) (ga : GE) : GE := fun Γ M => (ga Γ M).bind fun x M1 => opR (f M1 x) M1
def gNil : GA := fun _ M => .ok [] M
def gCons (ga : GE) (gr : GA) : GA := fun Γ M => (ga Γ M).bind fun x M1 => (gr Γ M1).bind fun xs M2 => .ok (x :: xs) M2
def gTup (ga : GA) : GE := fun Γ M => (ga Γ M).bind fun xs M1 => if xs.length ≤ sizeLine then .ok (.tup xs) M1 else .bad
def gLst (ga : GA) : GE := fun Γ M => (ga Γ M).bind fun xs M1 => if xs.length ≤ sizeLine then .ok (.lst xs) M1 else .bad
def gLstO (ga : GA) : GE := fun Γ M => (ga Γ M).bind fun xs M1 => if xs.length ≤ sizeLine then .ok (.ref M1.length) (M1 ++ [.lst xs]) else .bad
def gCall (f : List MO → List D → Option D) (ga : GA) : GE := fun Γ M => (ga Γ M).bind fun xs M1 => opR (f M1 xs) M1
def toBl : D → Option Bool
  | .bl b => some b
  | _ => none
def gVal (ga : GE) : GT := fun Γ M => (ga Γ M).bind fun x M1 => opR (toBl x) M1
def gAndT (a b : GT) : GT := fun Γ M => (a Γ M).bind fun c M1 => if c = true then b Γ M1 else .ok false M1
def gOrT (a b : GT) : GT := fun Γ M => (a Γ M).bind fun c M1 => if c = true then .ok true M1 else b Γ M1
def gNotT (a : GT) : GT := fun Γ M => (a Γ M).bind fun c M1 => .ok (!c) M1
def gIfE (c : GT) (a b : GE) : GE := fun Γ M => (c Γ M).bind fun k M1 => if k = true then a Γ M1 else b Γ M1
def gAndV (a b : GE) : GE := fun Γ M => (a Γ M).bind fun x M1 => match x with
  | .bl c => if c = true then b Γ M1 else .ok (.bl false) M1
  | _ => .bad
def gOrV (a b : GE) : GE := fun Γ M => (a Γ M).bind fun x M1 => match x with
  | .bl c => if c = true then .ok (.bl true) M1 else b Γ M1
  | _ => .bad
def gChain (f f' : List MO → D → D → Option D) (ga gb gc : GE) : GE := fun Γ M => (ga Γ M).bind fun x M1 => (gb Γ M1).bind fun y M2 => (opR (f M2 x y) M2).bind fun k M3 => match k with
  | .bl c => if c = true then (gc Γ M3).bind fun z M4 => opR (f' M4 y z) M4 else .ok (.bl false) M3
  | _ => .bad

section
variable {X : Cx} {C : CT} {W : WX}
/-- a result that is new and will not be changed, or an old one -/
def After (X : Cx) (H Z : Hp) (ι : Nat → Addr) (M : List MO) (d : D) (Q : VK) : Prop := ∀ (v : V) (H' Z' : Hp), Ext H Z ι M.length H' Z' ι M.length → HR X.K H' Z' ι M → Rp X.K Z' ι M.length d v → Q v H'
theorem After.now {H Z : Hp} {ι : Nat → Addr} {M : List MO} {d : D} {Q : VK} {v : V} (h : After X H Z ι M d Q) (hr : HR X.K H Z ι M) (r : Rp X.K Z ι M.length d v) : Q v H := h v H Z .refl hr r
theorem After.lst {H Z : Hp} {ι : Nat → Addr} {M : List MO} {ds : List D} {Q : VK} {xs : List V} (h : After X H Z ι M (.lst ds) Q) (hr : HR X.K H Z ι M) (r : Rps X.K Z ι M.length ds xs) : ∀ p, H p = none → Q (.ref p) (upd H p (.lst xs)) := fun p hp => by
  obtain ⟨h1, e1⟩ := hr.frozen (o := .lst xs) hp
  exact h _ _ _ e1 h1 (.lst (.inl (.inl upd_same)) (r.ext e1))
theorem After.tup {H Z : Hp} {ι : Nat → Addr} {M : List MO} {ds : List D} {Q : VK} {xs : List V} (h : After X H Z ι M (.tup ds) Q) (hr : HR X.K H Z ι M) (r : Rps X.K Z ι M.length ds xs) : ∀ p, H p = none → Q (.ref p) (upd H p (.tup xs)) := fun p hp => by
  obtain ⟨h1, e1⟩ := hr.frozen (o := .tup xs) hp
  exact h _ _ _ e1 h1 (.tup (.inl (.inl upd_same)) (r.ext e1))
theorem Post.after {σ : St} {H Z : Hp} {ι : Nat → Addr} {M : List MO} {d : D} {Q : VK} (h : Post X C W (rpE X.K) σ H Z ι M (.ok d M) Q) : After X H Z ι M d Q := fun v H' Z' e hr r => h v H' Z' ι e hr r
/-- an operation on values is computed by f -/
def Ok2 (X : Cx) (r : R2) (f : List MO → D → D → Option D) : Prop := ∀ (x y : V) (H Z : Hp) (ι : Nat → Addr) (M : List MO) (dx dy d : D) (Q : VK), HR X.K H Z ι M → Rp X.K Z ι M.length dx x → Rp X.K Z ι M.length dy y → f M dx dy = some d → After X H Z ι M d Q → r x y H Q
def Ok1 (X : Cx) (r : V → Hp → VK → Prop) (f : List MO → D → Option D) : Prop := ∀ (x : V) (H Z : Hp) (ι : Nat → Addr) (M : List MO) (dx d : D) (Q : VK), HR X.K H Z ι M → Rp X.K Z ι M.length dx x → f M dx = some d → After X H Z ι M d Q → r x H Q
def OkA (X : Cx) (r : List V → Hp → VK → Prop) (f : List MO → List D → Option D) : Prop := ∀ (xs : List V) (H Z : Hp) (ι : Nat → Addr) (M : List MO) (ds : List D) (d : D) (Q : VK), HR X.K H Z ι M → Rps X.K Z ι M.length ds xs → f M ds = some d → After X H Z ι M d Q → r xs H Q
theorem Post.of_opR {α β γ δ : Type} {rp1 : RpK α β} {σ : St} {H Z : Hp} {ι : Nat → Addr} {M : List MO} {o : Option α} {Q : β → Hp → Prop} (h : Post X C W rp1 σ H Z ι M (opR o M) Q) : ∃ a, o = some a ∧ Post X C W rp1 σ H Z ι M (.ok a M) Q := by
  cases o with
  | none => exact h.elim
  | some a => exact ⟨a, rfl, h⟩

/-! ### the rules -/
theorem qe_v (i : Nat) {x : Str} {pos : Pos} (hN : X.N[i]? = some x := by rfl) (hv : Vis X.env.scope x := by first | exact Or.inl rfl | exact Or.inr (Or.inl rfl) | exact Or.inr (Or.inr rfl)) (hd : (x == ("__debug__" : Str)) = false := by decide)
    (hcd : (x == ("__classdict__" : Str)) = false := by decide) : QE X C W (.Name x pos) (gV i) := by
  refine ⟨_, pe_var hN hv hd hcd, fun σ H Z ι Γ M Q sl hr h => ?_⟩
  unfold gV at h
  cases e : Γ[i]? with
  | none => rw [e] at h; exact h.elim
  | some o =>
    cases o with
    | none => rw [e] at h; exact h.elim
    | some d =>
      rw [e] at h
      obtain ⟨v, h1, h2⟩ := sl.2 i d e
      exact ⟨v, h1, h v H Z ι .refl hr h2⟩
theorem qe_int {i : Int} {j pos} : QE X C W (.Constant (.int i) j pos) (gC (.int i)) := ⟨_, pe_int, fun σ H Z ι Γ M Q sl hr h => h _ H Z ι .refl hr (.int i)⟩
theorem qe_bl {b : Bool} {j pos} : QE X C W (.Constant (.bool b) j pos) (gC (.bl b)) := ⟨_, pe_bl, fun σ H Z ι Γ M Q sl hr h => h _ H Z ι .refl hr (.bl b)⟩
theorem qe_non {j pos} : QE X C W (.Constant .none j pos) (gC .non) := ⟨_, pe_non, fun σ H Z ι Γ M Q sl hr h => h _ H Z ι .refl hr .non⟩
theorem qe_str {x : Str} {j pos} : QE X C W (.Constant (.str x) j pos) (gC (.str x)) := ⟨_, pe_str, fun σ H Z ι Γ M Q sl hr h => h _ H Z ι .refl hr (.str x)⟩
/-- a module's number -/
theorem qe_gint {x : Str} {i : Int} {t : Tok} {pos : Pos} (hg : Gl X x) (hm : X.mg x = some (.int i t)) (hd : (x == ("__debug__" : Str)) = false := by decide) : QE X C W (.Name x pos) (gC (.int i)) :=
  ⟨_, pe_glob (v := .int i) hg hm ⟨t, rfl⟩ hd, fun σ H Z ι Γ M Q sl hr h => h _ H Z ι .refl hr (.int i)⟩
variable {e a b c : Expr} {es : List Expr} {ga gb gc g : GE} {gt gu : GT} {gs : GA} {pos : Pos} {f f' : List MO → D → D → Option D}
abbrev Rd1 (X : Cx) (C : CT) (W : WX) (g : GE) (te : TE) : Prop := ∀ (σ : St) (H Z : Hp) (ι : Nat → Addr) (Γ : Env) (M : List MO) (Q : VK), Slots X.K Z ι M.length Γ σ → HR X.K H Z ι M → Post X C W (rpE X.K) σ H Z ι M (g Γ M) Q → te σ H Q
theorem op_read {r : R2} {ta tb : TE} (hf : Ok2 X r f) (qa : Rd1 X C W ga ta) (qb : Rd1 X C W gb tb) : Rd1 X C W (gOp2 f ga gb) (tOp r ta tb) := fun σ H Z ι Γ M Q sl hr h =>
  qa σ H Z ι Γ M _ sl hr (Post.bind h fun x M1 v H1 Z1 ι1 e1 hr1 r1 h1 => qb σ H1 Z1 ι1 Γ M1 _ (sl.ext e1) hr1 (h1.bind fun y M2 u H2 Z2 ι2 e2 hr2 r2 h2 => by
    obtain ⟨d, hd, h3⟩ := Post.of_opR (γ := D) (δ := V) h2
    exact hf v u H2 Z2 ι2 M2 x y d Q hr2 (r1.ext e2) r2 hd h3.after))
theorem qe_bin {op : Operator} {r : R2} (ho : OpR X (binaryOp op) r) (hf : Ok2 X r f) (ha : QE X C W a ga) (hb : QE X C W b gb) : QE X C W (.BinOp a op b pos) (gOp2 f ga gb) := by
  obtain ⟨ta, pa, qa⟩ := ha
  obtain ⟨tb, pb, qb⟩ := hb
  exact ⟨_, pe_op ho pa pb, op_read hf qa qb⟩
theorem qe_cmp {op : CmpOp} {r : R2} (ho : OpR X (compareOp op) r) (hf : Ok2 X r f) (ha : QE X C W a ga) (hb : QE X C W b gb) (hm : behindInMarks op b = false) : QE X C W (.Compare a [op] [b] pos) (gOp2 f ga gb) := by
  obtain ⟨ta, pa, qa⟩ := ha
  obtain ⟨tb, pb, qb⟩ := hb
  exact ⟨_, pe_cmpR ho pa pb hm, op_read hf qa qb⟩
theorem qe_ix {r : R2} (ho : IxR X r) (hf : Ok2 X r f) (ha : QE X C W a ga) (hb : QE X C W b gb) (hs : PlainIx b := by exact fun _ _ => rfl) : QE X C W (.Subscript a b pos) (gOp2 f ga gb) := by
  obtain ⟨ta, pa, qa⟩ := ha
  obtain ⟨tb, pb, qb⟩ := hb
  exact ⟨_, pe_ix ho pa pb hs, op_read hf qa qb⟩
theorem qe_un {op : UnaryOp} {r : V → Hp → VK → Prop} {f : List MO → D → Option D} (ho : UnR X (unaryOp op) r) (hf : Ok1 X r f) (ha : QE X C W a ga) : QE X C W (.UnaryOp op a pos) (gOp1 f ga) := by
  obtain ⟨ta, pa, qa⟩ := ha
  refine ⟨_, pe_un ho pa, fun σ H Z ι Γ M Q sl hr h => qa σ H Z ι Γ M _ sl hr (h.bind fun x M1 v H1 Z1 ι1 e1 hr1 r1 h1 => ?_)⟩
  obtain ⟨d, hd, h3⟩ := Post.of_opR (γ := D) (δ := V) h1
  exact hf v H1 Z1 ι1 M1 x d Q hr1 r1 hd h3.after
theorem chain_read {r r' : R2} {ta tb tc : TE} (hf : Ok2 X r f) (hf' : Ok2 X r' f') (qa : Rd1 X C W ga ta) (qb : Rd1 X C W gb tb) (qc : Rd1 X C W gc tc) : Rd1 X C W (gChain f f' ga gb gc) (tChain r r' ta tb tc) := by
  intro σ H Z ι Γ M Q sl hr h
  refine qa σ H Z ι Γ M _ sl hr (Post.bind h fun x M1 v H1 Z1 ι1 e1 hr1 r1 h1 => qb σ H1 Z1 ι1 Γ M1 _ (sl.ext e1) hr1 (h1.bind fun y M2 u H2 Z2 ι2 e2 hr2 r2 h2 => ?_))
  cases hd : f M2 x y with
  | none => rw [hd] at h2; exact h2.elim
  | some d =>
    rw [hd] at h2
    refine hf v u H2 Z2 ι2 M2 x y d _ hr2 (r1.ext e2) r2 hd fun w H3 Z3 e3 hr3 r3 => ?_
    have h3 := Post.shift h2 e3 hr3
    cases r3 with
    | bl k =>
      refine ⟨k, rfl, ?_⟩
      cases k with
      | false => exact h3 _ H3 Z3 ι2 .refl hr3 (.bl false)
      | true =>
        have h4 : Post X C W (rpE X.K) σ H3 Z3 ι2 M2 ((gc Γ M2).bind fun z M4 => opR (f' M4 y z) M4) Q := h3
        refine qc σ H3 Z3 ι2 Γ M2 _ ((sl.ext e1).ext e2 |>.ext e3) hr3 (h4.bind fun z M4 w' H4 Z4 ι4 e4 hr4 r4 h5 => ?_)
        obtain ⟨d', hd', h6⟩ := Post.of_opR (γ := D) (δ := V) h5
        exact hf' u w' H4 Z4 ι4 M4 y z d' Q hr4 ((r2.ext e3).ext e4) r4 hd' h6.after
    | _ => exact h3.elim
theorem qe_chain {op op' : CmpOp} {r r' : R2} (ho : OpR X (compareOp op) r) (hf : Ok2 X r f) (ho' : OpR X (compareOp op') r') (hf' : Ok2 X r' f') (ha : QE X C W a ga) (hb : QE X C W b gb) (hc : QE X C W c gc) (hm : lastMarks [op, op'] [b, c] = false := by with_unfolding_all rfl) :
    QE X C W (.Compare a [op, op'] [b, c] pos) (gChain f f' ga gb gc) := by
  obtain ⟨ta, pa, qa⟩ := ha
  obtain ⟨tb, pb, qb⟩ := hb
  obtain ⟨tc, pc, qc⟩ := hc
  exact ⟨_, pe_chain ho ho' pa pb pc (hm := hm), chain_read hf hf' qa qb qc⟩
theorem qa_nil : QA X C W [] gNil := ⟨_, pa_nil, fun σ H Z ι Γ M Q sl hr h => h [] H Z ι .refl hr .nil⟩
theorem qa_cons (ha : QE X C W e g) (hb : QA X C W es gs) (hs : starEach (e :: es) X.env = (false, eval e X.env) :: starEach es X.env := by rfl) : QA X C W (e :: es) (gCons g gs) := by
  obtain ⟨ta, pa, qa⟩ := ha
  obtain ⟨tb, pb, qb⟩ := hb
  exact ⟨_, pa_cons pa pb hs, fun σ H Z ι Γ M Q sl hr h => qa σ H Z ι Γ M _ sl hr (h.bind fun x M1 v H1 Z1 ι1 e1 hr1 r1 h1 => qb σ H1 Z1 ι1 Γ M1 _ (sl.ext e1) hr1 (h1.bind fun y M2 u H2 Z2 ι2 e2 hr2 r2 h2 => h2 _ H2 Z2 ι2 .refl hr2 (.cons (r1.ext e2) r2)))⟩
theorem qe_tup {x1} (ha : QA X C W es gs) : QE X C W (.Tuple es x1 pos) (gTup gs) := by
  obtain ⟨ta, pa, qa⟩ := ha
  refine ⟨_, pe_tup pa, fun σ H Z ι Γ M Q sl hr h => qa σ H Z ι Γ M _ sl hr (h.bind fun x M1 v H1 Z1 ι1 e1 hr1 r1 h1 => ?_)⟩
  by_cases hz : x.length ≤ sizeLine
  · rw [if_pos hz] at h1
    exact ⟨by rw [← r1.length]; exact hz, h1.after.tup hr1 r1⟩
  · rw [if_neg hz] at h1
    exact h1.elim
theorem qe_lst (ha : QA X C W es gs) : QE X C W (.List es pos) (gLst gs) := by
  obtain ⟨ta, pa, qa⟩ := ha
  refine ⟨_, pe_lst pa, fun σ H Z ι Γ M Q sl hr h => qa σ H Z ι Γ M _ sl hr (h.bind fun x M1 v H1 Z1 ι1 e1 hr1 r1 h1 => ?_)⟩
  by_cases hz : x.length ≤ sizeLine
  · rw [if_pos hz] at h1
    exact ⟨by rw [← r1.length]; exact hz, h1.after.lst hr1 r1⟩
  · rw [if_neg hz] at h1
    exact h1.elim
theorem qe_lstO (ha : QA X C W es gs) : QE X C W (.List es pos) (gLstO gs) := by
  obtain ⟨ta, pa, qa⟩ := ha
  refine ⟨_, pe_lst pa, fun σ H Z ι Γ M Q sl hr h => qa σ H Z ι Γ M _ sl hr (h.bind fun x M1 v H1 Z1 ι1 e1 hr1 r1 h1 => ?_)⟩
  by_cases hz : x.length ≤ sizeLine
  · rw [if_pos hz] at h1
    refine ⟨by rw [← r1.length]; exact hz, fun p hp => ?_⟩
    obtain ⟨hr2, e2⟩ := hr1.owned hp r1
    refine h1 _ _ _ _ e2 hr2 ?_
    have q : Rp X.K Z1 (put ι1 M1.length p) (M1 ++ [MO.lst x]).length (.ref M1.length) (.ref (put ι1 M1.length p M1.length)) := .ref (by simp)
    rw [put_at] at q
    exact q
  · rw [if_neg hz] at h1
    exact h1.elim
theorem qe_callB {x : Str} {p : Pos} {id : String} {r : List V → Hp → VK → Prop} {f : List MO → List D → Option D} (ho : CallR X (.builtin id) r) (hf : OkA X r f) (hg : Gl X x) (hm : X.mg x = none) (hv : bootBuiltins x = some (.builtin id)) (ha : QA X C W (e :: es) gs)
    (hn : x ≠ "__name__" := by decide) (hdb : (x == ("__debug__" : Str)) = false := by decide) (he : starEach (e :: es) X.env = (false, eval e X.env) :: starEach es X.env := by rfl) (hpl : (backTo pos (starEach es X.env)).any (·.1) = false := by rfl) :
    QE X C W (.Call (.Name x p) (e :: es) [] pos) (gCall f gs) := by
  obtain ⟨ta, pa, qa⟩ := ha
  refine ⟨_, pe_callB ho hg hm hv pa hn hdb he hpl, fun σ H Z ι Γ M Q sl hr h => qa σ H Z ι Γ M _ sl hr (h.bind fun x M1 v H1 Z1 ι1 e1 hr1 r1 h1 => ?_)⟩
  obtain ⟨d, hd, h3⟩ := Post.of_opR (γ := D) (δ := V) h1
  exact hf v H1 Z1 ι1 M1 x d Q hr1 r1 hd h3.after
theorem qe_callTy {x T : Str} {p : Pos} {id : String} {r : List V → Hp → VK → Prop} {f : List MO → List D → Option D} (ho : CallR X (.type id) r) (hf : OkA X r f) (hg : Gl X x) (hm : X.mg x = none) (hv : bootBuiltins x = some (.type id)) (ha : QA X C W (e :: es) gs)
    (hn : x ≠ "__name__" := by decide) (hdb : (x == ("__debug__" : Str)) = false := by decide) (he : starEach (e :: es) X.env = (false, eval e X.env) :: starEach es X.env := by rfl) (hpl : (backTo pos (starEach es X.env)).any (·.1) = false := by rfl) :
    QE X C W (.Call (.Name x p) (e :: es) [] pos) (gCall f gs) := by
  obtain ⟨ta, pa, qa⟩ := ha
  refine ⟨_, pe_callTy ho hg hm hv pa hn hdb he hpl, fun σ H Z ι Γ M Q sl hr h => qa σ H Z ι Γ M _ sl hr (h.bind fun x M1 v H1 Z1 ι1 e1 hr1 r1 h1 => ?_)⟩
  obtain ⟨d, hd, h3⟩ := Post.of_opR (γ := D) (δ := V) h1
  exact hf v H1 Z1 ι1 M1 x d Q hr1 r1 hd h3.after

/-! tests -/
theorem qt_val (ha : QE X C W a ga) (he : ∀ whole, isTrue a X.env whole = (do let v ← whole; standAt a.pos; holding [v] (truthy v)) := by intro _; rfl) : QT X C W a (gVal ga) := by
  obtain ⟨ta, pa, qa⟩ := ha
  refine ⟨_, pt_val pa he, fun σ H Z ι Γ M Q sl hr h => qa σ H Z ι Γ M _ sl hr (h.bind fun x M1 v H1 Z1 ι1 e1 hr1 r1 h1 => ?_)⟩
  cases r1 with
  | bl k => exact ⟨k, rfl, h1 k H1 Z1 ι1 .refl hr1 rfl⟩
  | _ => exact h1.elim
theorem val_read {te : TE} (q : Rd1 X C W ga te) (σ : St) (H Z : Hp) (ι : Nat → Addr) (Γ : Env) (M : List MO) (Q : Bool → Hp → Prop) (sl : Slots X.K Z ι M.length Γ σ) (hr : HR X.K H Z ι M) (h : Post X C W rpT σ H Z ι M (gVal ga Γ M) Q) : tTest te σ H Q :=
  q σ H Z ι Γ M _ sl hr (Post.bind h fun x M1 v H1 Z1 ι1 e1 hr1 r1 h1 => by
    cases r1 with
    | bl k => exact ⟨k, rfl, h1 k H1 Z1 ι1 .refl hr1 rfl⟩
    | _ => exact h1.elim)
theorem qt_cmp {op : CmpOp} {r : R2} (ho : OpR X (compareOp op) r) (hf : Ok2 X r f) (ha : QE X C W a ga) (hb : QE X C W b gb) (hm : behindInMarks op b = false) : QT X C W (.Compare a [op] [b] pos) (gVal (gOp2 f ga gb)) := by
  obtain ⟨ta, pa, qa⟩ := ha
  obtain ⟨tb, pb, qb⟩ := hb
  exact ⟨_, pt_cmpR ho pa pb hm, val_read (op_read hf qa qb)⟩
theorem qt_chain {op op' : CmpOp} {r r' : R2} (ho : OpR X (compareOp op) r) (hf : Ok2 X r f) (ho' : OpR X (compareOp op') r') (hf' : Ok2 X r' f') (ha : QE X C W a ga) (hb : QE X C W b gb) (hc : QE X C W c gc) (hm : lastMarks [op, op'] [b, c] = false := by with_unfolding_all rfl) :
    QT X C W (.Compare a [op, op'] [b, c] pos) (gVal (gChain f f' ga gb gc)) := by
  obtain ⟨ta, pa, qa⟩ := ha
  obtain ⟨tb, pb, qb⟩ := hb
  obtain ⟨tc, pc, qc⟩ := hc
  exact ⟨_, pt_chain ho ho' pa pb pc (hm := hm), val_read (chain_read hf hf' qa qb qc)⟩
theorem qt_of (h : QW X C W a gt) : QT X C W a gt := let ⟨t, p, q⟩ := h; ⟨t, p.pt, q⟩
theorem qw_and1 (h : QT X C W a gt) : QW X C W (.BoolOp .And [a] pos) gt := let ⟨t, p, q⟩ := h; ⟨t, pw_and1 p, q⟩
theorem qw_or1 (h : QT X C W a gt) : QW X C W (.BoolOp .Or [a] pos) gt := let ⟨t, p, q⟩ := h; ⟨t, pw_or1 p, q⟩
theorem qw_and {rest : List Expr} (ha : QT X C W a gt) (hb : QW X C W (.BoolOp .And (b :: rest) pos) gu) : QW X C W (.BoolOp .And (a :: b :: rest) pos) (gAndT gt gu) := by
  obtain ⟨ta, pa, qa⟩ := ha
  obtain ⟨tb, pb, qb⟩ := hb
  refine ⟨_, pw_and pa pb, fun σ H Z ι Γ M Q sl hr h => qa σ H Z ι Γ M _ sl hr (h.bind fun x M1 v H1 Z1 ι1 e1 hr1 r1 h1 => ?_)⟩
  have r1' : x = v := r1
  subst r1'
  cases x with
  | true => exact qb σ H1 Z1 ι1 Γ M1 _ (sl.ext e1) hr1 h1
  | false => exact h1 false H1 Z1 ι1 .refl hr1 rfl
theorem qw_or {rest : List Expr} (ha : QT X C W a gt) (hb : QW X C W (.BoolOp .Or (b :: rest) pos) gu) : QW X C W (.BoolOp .Or (a :: b :: rest) pos) (gOrT gt gu) := by
  obtain ⟨ta, pa, qa⟩ := ha
  obtain ⟨tb, pb, qb⟩ := hb
  refine ⟨_, pw_or pa pb, fun σ H Z ι Γ M Q sl hr h => qa σ H Z ι Γ M _ sl hr (h.bind fun x M1 v H1 Z1 ι1 e1 hr1 r1 h1 => ?_)⟩
  have r1' : x = v := r1
  subst r1'
  cases x with
  | true => exact h1 true H1 Z1 ι1 .refl hr1 rfl
  | false => exact qb σ H1 Z1 ι1 Γ M1 _ (sl.ext e1) hr1 h1
theorem qt_not (ha : QT X C W a gt) : QT X C W (.UnaryOp .Not a pos) (gNotT gt) := by
  obtain ⟨ta, pa, qa⟩ := ha
  refine ⟨_, pt_not pa, fun σ H Z ι Γ M Q sl hr h => qa σ H Z ι Γ M _ sl hr (h.bind fun x M1 v H1 Z1 ι1 e1 hr1 r1 h1 => ?_)⟩
  have r1' : x = v := r1
  subst r1'
  exact h1 _ H1 Z1 ι1 .refl hr1 rfl
theorem qe_if (hc : QT X C W c gt) (ha : QE X C W a ga) (hb : QE X C W b gb) : QE X C W (.IfExp c a b pos) (gIfE gt ga gb) := by
  obtain ⟨tc, pc, qc⟩ := hc
  obtain ⟨ta, pa, qa⟩ := ha
  obtain ⟨tb, pb, qb⟩ := hb
  refine ⟨_, pe_ifExp pc pa pb, fun σ H Z ι Γ M Q sl hr h => qc σ H Z ι Γ M _ sl hr (h.bind fun x M1 v H1 Z1 ι1 e1 hr1 r1 h1 => ?_)⟩
  have r1' : x = v := r1
  subst r1'
  cases x with
  | true => exact qa σ H1 Z1 ι1 Γ M1 _ (sl.ext e1) hr1 h1
  | false => exact qb σ H1 Z1 ι1 Γ M1 _ (sl.ext e1) hr1 h1
theorem qe_one {op} (h : QE X C W a ga) : QE X C W (.BoolOp op [a] pos) ga := let ⟨t, p, q⟩ := h; ⟨t, pe_one p, q⟩
theorem qe_and {rest : List Expr} (ha : QE X C W a ga) (hb : QE X C W (.BoolOp .And (b :: rest) pos) gb) : QE X C W (.BoolOp .And (a :: b :: rest) pos) (gAndV ga gb) := by
  obtain ⟨ta, pa, qa⟩ := ha
  obtain ⟨tb, pb, qb⟩ := hb
  refine ⟨_, pe_and pa pb, fun σ H Z ι Γ M Q sl hr h => qa σ H Z ι Γ M _ sl hr (h.bind fun x M1 v H1 Z1 ι1 e1 hr1 r1 h1 => ?_)⟩
  cases r1 with
  | bl k =>
    refine ⟨k, rfl, ?_⟩
    cases k with
    | true => exact qb σ H1 Z1 ι1 Γ M1 _ (sl.ext e1) hr1 h1
    | false => exact h1 _ H1 Z1 ι1 .refl hr1 (.bl false)
  | _ => exact h1.elim
theorem qe_or {rest : List Expr} (ha : QE X C W a ga) (hb : QE X C W (.BoolOp .Or (b :: rest) pos) gb) : QE X C W (.BoolOp .Or (a :: b :: rest) pos) (gOrV ga gb) := by
  obtain ⟨ta, pa, qa⟩ := ha
  obtain ⟨tb, pb, qb⟩ := hb
  refine ⟨_, pe_or pa pb, fun σ H Z ι Γ M Q sl hr h => qa σ H Z ι Γ M _ sl hr (h.bind fun x M1 v H1 Z1 ι1 e1 hr1 r1 h1 => ?_)⟩
  cases r1 with
  | bl k =>
    refine ⟨k, rfl, ?_⟩
    cases k with
    | true => exact h1 _ H1 Z1 ι1 .refl hr1 (.bl true)
    | false => exact qb σ H1 Z1 ι1 Γ M1 _ (sl.ext e1) hr1 h1
  | _ => exact h1.elim
def dNot (_ : List MO) : D → Option D
  | .bl b => some (.bl (!b))
  | _ => none
theorem qe_not (ha : QE X C W a ga) : QE X C W (.UnaryOp .Not a pos) (gOp1 dNot ga) := by
  obtain ⟨ta, pa, qa⟩ := ha
  refine ⟨_, pe_not pa, fun σ H Z ι Γ M Q sl hr h => qa σ H Z ι Γ M _ sl hr (h.bind fun x M1 v H1 Z1 ι1 e1 hr1 r1 h1 => ?_)⟩
  cases r1 with
  | bl k => exact ⟨k, rfl, h1 _ H1 Z1 ι1 .refl hr1 (.bl _)⟩
  | _ => exact h1.elim
end
end Bk

set_option Elab.async false
set_option linter.all false
set_option maxRecDepth 100000
set_option maxHeartbeats 1000000
namespace Bk
open PySem PySem.Spec PyProof.Rows L2

/-! ### what is walked -/
abbrev GI := GA
/-- cd: what must hold of the store at each turn -/
def ItC (cd : List MO → Prop) (K : PySem.W.Frag) (J : It) (items : List D) (Z : Hp) (ι : Nat → Addr) (n : Nat) : Prop :=
  ∀ (i : Nat) (H' Z' : Hp) (ι' : Nat → Addr) (M' : List MO), Sub Z Z' → (∀ k, k < n → ι' k = ι k) → n ≤ M'.length → HR K H' Z' ι' M' → cd M' →
    (items.length = i → J.stop i H') ∧ ∀ d, items[i]? = some d → J.go i H' ∧ ∀ x H2, J.yld i H' x H2 → ∃ Z2, Ext H' Z' ι' M'.length H2 Z2 ι' M'.length ∧ HR K H2 Z2 ι' M' ∧ Rp K Z2 ι' M'.length d x
abbrev anyM : List MO → Prop := fun _ => True
abbrev ItR := ItC anyM
abbrev rpI (K : PySem.W.Frag) : RpK (List D) It := fun Z ι n items J => ItR K J items Z ι n
def QI (X : Cx) (C : CT) (W : WX) (tg e : Expr) (g : GI) : Prop := ∃ wi, PI X tg e wi ∧ ∀ (σ : St) (H Z : Hp) (ι : Nat → Addr) (Γ : Env) (M : List MO) (Q : It → Hp → Prop), Slots X.K Z ι M.length Γ σ → HR X.K H Z ι M → Post X C W (rpI X.K) σ H Z ι M (g Γ M) Q → wi σ H Q
def rngL (lo : Int) : Nat → List D
  | 0 => []
  | n + 1 => .int lo :: rngL (lo + 1) n
theorem rngL_get : ∀ (n : Nat) (lo : Int) (i : Nat) (d : D), (rngL lo n)[i]? = some d → i < n ∧ d = .int (lo + i)
  | 0, _, _, _, h => by simp [rngL] at h
  | n + 1, lo, 0, d, h => by
    simp [rngL] at h
    exact ⟨Nat.succ_pos _, by rw [← h]; simp⟩
  | n + 1, lo, i + 1, d, h => by
    simp only [rngL, List.getElem?_cons_succ] at h
    obtain ⟨h1, h2⟩ := rngL_get n (lo + 1) i d h
    refine ⟨Nat.succ_lt_succ h1, ?_⟩
    rw [h2]
    congr 1
    push_cast
    omega
theorem rngL_length : ∀ (n : Nat) (lo : Int), (rngL lo n).length = n
  | 0, _ => rfl
  | n + 1, lo => by simp [rngL, rngL_length n]
def seqD : D → Option (List D)
  | .lst ds => some ds
  | .tup ds => some ds
  | _ => none
def gSeqI (ge : GE) : GI := fun Γ M => (ge Γ M).bind fun d M1 => opR (seqD d) M1
def inR (i : Int) : Bool := decide (-(2 ^ 62) ≤ i) && decide (i < 2 ^ 62)
def rng1 : List D → Option (List D)
  | [.int j] => if inR j then some (rngL 0 j.toNat) else none
  | _ => none
def rng2 : List D → Option (List D)
  | [.int i, .int j] => if inR i && inR j then some (rngL i (j - i).toNat) else none
  | _ => none
def gRng1 (ga : GA) : GI := fun Γ M => (ga Γ M).bind fun ds M1 => opR (rng1 ds) M1
def gRng2 (ga : GA) : GI := fun Γ M => (ga Γ M).bind fun ds M1 => opR (rng2 ds) M1
section
variable {X : Cx} {C : CT} {W : WX} {tg e a b : Expr} {g ga gb : GE} {gs : GA} {pos : Pos}
theorem itr_l {K : PySem.W.Frag} {Z : Hp} {ι : Nat → Addr} {n : Nat} {a : Addr} {xs : List V} {ds : List D} (s : ExL K Z a xs) (r : Rps K Z ι n ds xs) : ItR K (Itl K a) ds Z ι n := by
  intro i H' Z' ι' M' hz hi hn hr _
  have sH : SqL K H' a xs := (subL (fun a o h => hr.sub _ _ (hz _ _ h)) s).sq
  refine ⟨fun hl => ⟨xs, sH, by rw [← r.length]; exact Nat.le_of_eq hl⟩, fun d hd => ?_⟩
  obtain ⟨v, hv, rv⟩ := r.get hd
  refine ⟨⟨xs, v, sH, hv⟩, fun x H2 hy => ?_⟩
  obtain ⟨rfl, hx⟩ := hy
  have ex : xs[i]? = some x := hx _ sH
  rw [hv] at ex
  cases ex
  exact ⟨Z', .refl, hr, Rp.mono hz hi hn _ _ rv⟩
theorem itr_t {K : PySem.W.Frag} {Z : Hp} {ι : Nat → Addr} {n : Nat} {a : Addr} {xs : List V} {ds : List D} (s : SqT K Z a xs) (r : Rps K Z ι n ds xs) : ItR K (Itt K a) ds Z ι n := by
  intro i H' Z' ι' M' hz hi hn hr _
  have sH : SqT K H' a xs := subT (fun a o h => hr.sub _ _ (hz _ _ h)) s
  refine ⟨fun hl => ⟨xs, sH, by rw [← r.length]; exact Nat.le_of_eq hl⟩, fun d hd => ?_⟩
  obtain ⟨v, hv, rv⟩ := r.get hd
  refine ⟨⟨xs, v, sH, hv⟩, fun x H2 hy => ?_⟩
  obtain ⟨rfl, hx⟩ := hy
  have ex : xs[i]? = some x := hx _ sH
  rw [hv] at ex
  cases ex
  exact ⟨Z', .refl, hr, Rp.mono hz hi hn _ _ rv⟩
theorem itr_r {K : PySem.W.Frag} {Z : Hp} {ι : Nat → Addr} {n : Nat} {lo : Int} {m : Nat} : ItR K (Itr lo m) (rngL lo m) Z ι n := by
  intro i H' Z' ι' M' hz hi hn hr _
  refine ⟨fun hl => by rw [rngL_length] at hl; exact Nat.le_of_eq hl, fun d hd => ?_⟩
  obtain ⟨h1, rfl⟩ := rngL_get _ _ _ _ hd
  refine ⟨h1, fun x H2 hy => ?_⟩
  obtain ⟨rfl, rfl⟩ := hy
  exact ⟨Z', .refl, hr, .int _⟩
/-- a list or a tuple -/
def iSeq (K : PySem.W.Frag) (tl : TE) : TI := fun σ H R => tl σ H fun x H1 => ∃ a, x = .ref a ∧ (((∃ xs, SqL K H1 a xs) ∧ R (Itl K a) H1) ∨ ((∃ xs, SqT K H1 a xs) ∧ R (Itt K a) H1))
theorem pi_seq {tl : TE} (hl : PE X e tl) : PI X tg e (iSeq X.K tl) := by
  refine ⟨fun pins s σ H R I h => thn (hl.run pins s σ H _ I h) fun v s1 ⟨x, H1, J1, r1, a, ex, q1⟩ => ?_⟩
  subst ex
  cases r1
  have fp : ∀ b ∈ [s1.heap.objs.size], H1 b = none ∧ FpOk X pins H1 b := fun b hb => by
    obtain rfl : b = s1.heap.objs.size := by simpa using hb
    have z := J1.hok.fresh (Nat.le_refl _)
    exact ⟨z, J1.fpOk (Nat.le_refl _) z⟩
  rcases q1 with ⟨⟨xs, hq⟩, q⟩ | ⟨⟨xs, hq⟩, q⟩
  · obtain ⟨its, rv, p, hz⟩ := J1.list hq
    refine wpAny_pyIter_list p.isList ⟨_, _, _, _, H1, rfl, J1.kept (t' := s1.toks) fun b o e => Heap.get?_push_of_some _ e, turn_list a s1.heap.objs.size, ⟨_, Heap.get?_push_size _ rfl, rfl, rfl⟩, fun b hb => (fp b hb).2, q⟩
  · obtain ⟨its, rv, p, hz⟩ := J1.tuple hq
    refine wpAny_pyIter_tuple (show s1.heap.IsTuple a its.toArray from p) ⟨_, _, _, _, H1, rfl, J1.kept (t' := s1.toks) fun b o e => Heap.get?_push_of_some _ e, turn_tuple a s1.heap.objs.size, ⟨_, Heap.get?_push_size _ rfl, rfl, rfl⟩, fun b hb => (fp b hb).2, q⟩
theorem qi_seq (ha : QE X C W e g) : QI X C W tg e (gSeqI g) := by
  obtain ⟨ta, pa, qa⟩ := ha
  refine ⟨_, pi_seq pa, fun σ H Z ι Γ M Q sl hr h => qa σ H Z ι Γ M _ sl hr (h.bind fun x M1 v H1 Z1 ι1 e1 hr1 r1 h1 => ?_)⟩
  obtain ⟨ds, hd, h2⟩ := Post.of_opR (γ := D) (δ := V) h1
  cases r1 with
  | lst s r =>
    cases hd
    exact ⟨_, rfl, .inl ⟨⟨_, (subL hr1.sub s).sq⟩, h2 _ H1 Z1 ι1 .refl hr1 (itr_l s r)⟩⟩
  | tup s r =>
    cases hd
    exact ⟨_, rfl, .inr ⟨⟨_, subT hr1.sub s⟩, h2 _ H1 Z1 ι1 .refl hr1 (itr_t s r)⟩⟩
  | _ => cases hd
theorem qi_rng1 {p : Pos} (hg : Gl X "range") (hm : X.mg "range" = none) (ha : QA X C W [a] gs) (hs : starEach [a] X.env = [(false, eval a X.env)] := by rfl) : QI X C W tg (.Call (.Name "range" p) [a] [] pos) (gRng1 gs) := by
  obtain ⟨ta, pa, qa⟩ := ha
  refine ⟨_, pi_range1 hg hm pa hs, fun σ H Z ι Γ M Q sl hr h => qa σ H Z ι Γ M _ sl hr (h.bind fun x M1 v H1 Z1 ι1 e1 hr1 r1 h1 => ?_)⟩
  obtain ⟨ds, hd, h2⟩ := Post.of_opR (γ := D) (δ := V) h1
  unfold rng1 at hd
  split at hd
  · rename_i j
    cases r1 with
    | cons r rr =>
      cases r
      cases rr
      by_cases hj : inR j = true
      · rw [if_pos hj] at hd
        cases hd
        simp only [inR, Bool.and_eq_true, decide_eq_true_eq] at hj
        exact ⟨j, rfl, hj.1, hj.2, h2 _ H1 Z1 ι1 .refl hr1 itr_r⟩
      · rw [if_neg hj] at hd
        cases hd
  · cases hd
theorem qi_rng2 {p : Pos} (hg : Gl X "range") (hm : X.mg "range" = none) (ha : QA X C W [a, b] gs) (hs : starEach [a, b] X.env = [(false, eval a X.env), (false, eval b X.env)] := by rfl) (hs2 : starEach [b] X.env = [(false, eval b X.env)] := by rfl) : QI X C W tg (.Call (.Name "range" p) [a, b] [] pos) (gRng2 gs) := by
  obtain ⟨ta, pa, qa⟩ := ha
  refine ⟨_, pi_range2 hg hm pa hs (hs2 := hs2), fun σ H Z ι Γ M Q sl hr h => qa σ H Z ι Γ M _ sl hr (h.bind fun x M1 v H1 Z1 ι1 e1 hr1 r1 h1 => ?_)⟩
  obtain ⟨ds, hd, h2⟩ := Post.of_opR (γ := D) (δ := V) h1
  unfold rng2 at hd
  split at hd
  · rename_i i j
    cases r1 with
    | cons r rr =>
      cases r
      cases rr with
      | cons r2 rr =>
        cases r2
        cases rr
        by_cases hj : (inR i && inR j) = true
        · rw [if_pos hj] at hd
          cases hd
          simp only [inR, Bool.and_eq_true, decide_eq_true_eq] at hj
          exact ⟨i, j, rfl, ⟨hj.1.1, hj.1.2, hj.2.1, hj.2.2⟩, h2 _ H1 Z1 ι1 .refl hr1 itr_r⟩
        · rw [if_neg hj] at hd
          cases hd
  · cases hd
end

/-! ### targets -/
abbrev GG := D → Env → Option Env
abbrev GGs := List D → Env → Option Env
def gTo (i : Nat) : GG := fun d Γ => some (Γ.set i (some d))
def gToT (gs : GGs) : GG := fun d Γ => match d with
  | .tup ds => gs ds Γ
  | _ => none
def gToNil : GGs := fun ds Γ => match ds with
  | [] => some Γ
  | _ :: _ => none
def gToCons (g : GG) (gs : GGs) : GGs := fun ds Γ => match ds with
  | [] => none
  | d :: r => (g d Γ).bind fun Γ1 => gs r Γ1
def Wip (is : List Nat) (σ σ' : St) : Prop := ∀ vs : List Nat, (∀ i ∈ is, i ∈ vs) → wipe σ' vs = wipe σ vs
theorem wipe_set {σ : St} {i : Nat} {v : V} : ∀ {vs : List Nat}, i ∈ vs → wipe (σ.set i (some v)) vs = wipe σ vs
  | [], h => nomatch h
  | j :: vs, h => by
    show (wipe (σ.set i (some v)) vs).set j none = (wipe σ vs).set j none
    by_cases hm : i ∈ vs
    · rw [wipe_set hm]
    · have e : i = j := by
        rcases List.mem_cons.mp h with e | e
        · exact e
        · exact absurd e hm
      subst e
      have z : ∀ vs : List Nat, i ∉ vs → wipe (σ.set i (some v)) vs = (wipe σ vs).set i (some v) := by
        intro vs
        induction vs with
        | nil => intro _; rfl
        | cons k vs ih =>
          intro hk
          show (wipe (σ.set i (some v)) vs).set k none = ((wipe σ vs).set k none).set i (some v)
          rw [ih fun q => hk (List.mem_cons_of_mem _ q), List.set_comm _ _ (fun q => hk (by rw [q]; exact List.mem_cons_self))]
      rw [z vs hm, List.set_set]
def QG (X : Cx) (tg : Expr) (g : GG) (is : List Nat) : Prop := ∃ t, PG X tg t ∧ ∀ (v : V) (σ : St) (H Z : Hp) (ι : Nat → Addr) (n : Nat) (d : D) (Γ Γ' : Env) (Q : L2.St → Hp → Prop), Sub Z H → Slots X.K Z ι n Γ σ → Rp X.K Z ι n d v → g d Γ = some Γ' →
  (∀ σ', Slots X.K Z ι n Γ' σ' → Wip is σ σ' → Q σ' H) → t v σ H Q
def QGs (X : Cx) (tgs : List Expr) (g : GGs) (is : List Nat) : Prop := ∃ t, PGs X tgs t ∧ ∀ (vs : List V) (σ : St) (H Z : Hp) (ι : Nat → Addr) (n : Nat) (ds : List D) (Γ Γ' : Env) (Q : L2.St → Hp → Prop), Sub Z H → Slots X.K Z ι n Γ σ → Rps X.K Z ι n ds vs → g ds Γ = some Γ' →
  (∀ σ', Slots X.K Z ι n Γ' σ' → Wip is σ σ' → Q σ' H) → t vs σ H Q
section
variable {X : Cx} {e : Expr} {es : List Expr} {g : GG} {gs : GGs} {is js : List Nat} {pos : Pos}
theorem qg_name (i : Nat) {x : Str} (hN : X.N.Nodup) (hi : X.N[i]? = some x := by rfl) (hx : Loc X.env.scope x := by first | exact Or.inl rfl | exact Or.inr rfl)
    (hf : X.fn x = true ∨ X.env.scope.names.lookup x = some .local := by first | exact Or.inl rfl | exact Or.inr rfl) : QG X (.Name x pos) (gTo i) [i] := by
  refine ⟨_, pg_name hN hi hx hf, fun v σ H Z ι n d Γ Γ' Q hs sl r e h => ?_⟩
  cases e
  exact h _ (sl.set i r) fun vs hv => wipe_set (hv i (by simp))
theorem qgs_nil : QGs X [] gToNil [] := by
  refine ⟨_, pgs_nil, fun vs σ H Z ι n ds Γ Γ' Q hs sl r e h => ?_⟩
  cases r with
  | nil =>
    cases e
    exact ⟨rfl, h _ sl fun _ _ => rfl⟩
  | cons _ _ => cases e
theorem qgs_cons (h1 : QG X e g is) (h2 : QGs X es gs js) (hs : (assignEach (e :: es) X.env).map (·.2) = assign e X.env :: (assignEach es X.env).map (·.2) := by rfl) : QGs X (e :: es) (gToCons g gs) (is ++ js) := by
  obtain ⟨t1, p1, q1⟩ := h1
  obtain ⟨t2, p2, q2⟩ := h2
  refine ⟨_, pgs_cons p1 p2 hs, fun vs σ H Z ι n ds Γ Γ' Q hs sl r e h => ?_⟩
  cases r with
  | nil => cases e
  | cons r1 r2 =>
    rename_i d v ds vs
    have e' : (g d Γ).bind (fun Γ1 => gs ds Γ1) = some Γ' := e
    cases eg : g d Γ with
    | none => rw [eg] at e'; cases e'
    | some Γ1 =>
      rw [eg] at e'
      refine ⟨v, vs, rfl, q1 v σ H Z ι n d Γ Γ1 _ hs sl r1 eg fun σ1 s1 w1 => q2 vs σ1 H Z ι n ds Γ1 Γ' _ hs s1 r2 e' fun σ2 s2 w2 => h σ2 s2 fun us hu => ?_⟩
      rw [w2 us fun i hi => hu i (List.mem_append_right _ hi), w1 us fun i hi => hu i (List.mem_append_left _ hi)]
theorem qg_tup {k : Nat} {n : Nat} (hc : X.calm = true) (h : QGs X es gs is) (hn : (assignEach es X.env).length = n := by rfl) (hst : (assignEach es X.env).findIdx? (·.1) = none := by rfl) (hlen : ∀ ds Γ Γ', gs ds Γ = some Γ' → ds.length = n) : QG X (.Tuple es k pos) (gToT gs) is := by
  obtain ⟨t, p, q⟩ := h
  refine ⟨_, pg_tup hc p hn (hst := hst), fun v σ H Z ι m d Γ Γ' Q hs sl r e h => ?_⟩
  cases r with
  | tup s r =>
    have e' : gs _ Γ = some Γ' := e
    exact ⟨_, _, rfl, subT hs s, by rw [← r.length]; exact hlen _ _ _ e', q _ σ H Z ι m _ Γ Γ' Q hs sl r e' h⟩
  | _ => cases e
theorem len_nil : ∀ (ds : List D) (Γ Γ' : Env), gToNil ds Γ = some Γ' → ds.length = 0 := fun ds Γ Γ' e => by
  cases ds with
  | nil => rfl
  | cons _ _ => cases e
theorem len_cons {g : GG} {gs : GGs} {n : Nat} (h : ∀ (ds : List D) (Γ Γ' : Env), gs ds Γ = some Γ' → ds.length = n) : ∀ (ds : List D) (Γ Γ' : Env), gToCons g gs ds Γ = some Γ' → ds.length = n + 1 := fun ds Γ Γ' e => by
  cases ds with
  | nil => cases e
  | cons d ds =>
    have e' : (g d Γ).bind (fun Γ1 => gs ds Γ1) = some Γ' := e
    cases eg : g d Γ with
    | none => rw [eg] at e'; cases e'
    | some Γ1 =>
      rw [eg] at e'
      rw [List.length_cons, h _ _ _ e']
end

/-! ### statements -/
def PostS (X : Cx) (C : CT) (W : WX) (H Z : Hp) (ι : Nat → Addr) (M : List MO) (r : RS) (Dd : Ends) : Prop := match r with
  | .nx Γ M' => ∀ (σ' : L2.St) (H' Z' : Hp) (ι' : Nat → Addr), Ext H Z ι M.length H' Z' ι' M'.length → HR X.K H' Z' ι' M' → Slots X.K Z' ι' M'.length Γ σ' → Dd.nx σ' H'
  | .bk Γ M' => ∀ (σ' : L2.St) (H' Z' : Hp) (ι' : Nat → Addr), Ext H Z ι M.length H' Z' ι' M'.length → HR X.K H' Z' ι' M' → Slots X.K Z' ι' M'.length Γ σ' → Dd.bk σ' H'
  | .ct Γ M' => ∀ (σ' : L2.St) (H' Z' : Hp) (ι' : Nat → Addr), Ext H Z ι M.length H' Z' ι' M'.length → HR X.K H' Z' ι' M' → Slots X.K Z' ι' M'.length Γ σ' → Dd.ct σ' H'
  | .rt d M' => ∀ (v : V) (H' Z' : Hp) (ι' : Nat → Addr), Ext H Z ι M.length H' Z' ι' M'.length → HR X.K H' Z' ι' M' → Rp X.K Z' ι' M'.length d v → Dd.rt v H'
  | .exc c d Γ M' => ∀ (cls : Value) (dd : Option Addr) (σ' : L2.St) (H' Z' : Hp) (ι' : Nat → Addr), Ext H Z ι M.length H' Z' ι' M'.length → HR X.K H' Z' ι' M' → Slots X.K Z' ι' M'.length Γ σ' → ExcR X.K C H' Z' ι' M'.length c d cls dd → W cls dd σ' H'
  | .bad => False
def QS (X : Cx) (C : CT) (W : WX) (st : Stmt) (g : GS) : Prop := ∃ ts, PS X st ts ∧ ∀ (Dd : Ends) (σ : L2.St) (H Z : Hp) (ι : Nat → Addr) (Γ : Env) (M : List MO), Slots X.K Z ι M.length Γ σ → HR X.K H Z ι M → PostS X C W H Z ι M (g Γ M) Dd → ts Dd σ H
def QSs (X : Cx) (C : CT) (W : WX) (st : List Stmt) (g : GS) : Prop := ∃ ts, PSs X st ts ∧ ∀ (Dd : Ends) (σ : L2.St) (H Z : Hp) (ι : Nat → Addr) (Γ : Env) (M : List MO), Slots X.K Z ι M.length Γ σ → HR X.K H Z ι M → PostS X C W H Z ι M (g Γ M) Dd → ts Dd σ H
def R.thenS {α : Type} (Γ : Env) (r : R α) (f : α → List MO → RS) : RS := match r with
  | .ok a M => f a M
  | .exc c d M => .exc c d Γ M
  | .bad => .bad
def RS.next (r : RS) (f : Env → List MO → RS) : RS := match r with
  | .nx Γ M => f Γ M
  | r => r
def gPass : GS := fun Γ M => .nx Γ M
def gSeq (a b : GS) : GS := fun Γ M => (a Γ M).next b
def gExpr (ge : GE) : GS := fun Γ M => (ge Γ M).thenS Γ fun _ M1 => .nx Γ M1
def gRet (ge : GE) : GS := fun Γ M => (ge Γ M).thenS Γ fun d M1 => .rt d M1
def gRetN : GS := fun _ M => .rt .non M
def gIf (c : GT) (a b : GS) : GS := fun Γ M => (c Γ M).thenS Γ fun k M1 => if k = true then a Γ M1 else b Γ M1
def gAsg (ge : GE) (gg : GG) : GS := fun Γ M => (ge Γ M).thenS Γ fun d M1 => match gg d Γ with
  | some Γ' => .nx Γ' M1
  | none => .bad
def gBad : GS := fun _ _ => .bad
def gForget (is : List Nat) : GS := fun Γ M => .nx (forget Γ is) M
/-- a list of ours that stands in a slot is left as it is from now on -/
def gFz (i : Nat) : GS := fun Γ M => match Γ[i]? with
  | some (some (.ref k)) => match M[k]? with
    | some (.lst ds) => .nx (Γ.set i (some (.lst ds))) (M.set k .dead)
    | _ => .bad
  | _ => .bad
/-- what the turn has made is dropped -/
def gCut (m : Nat) (r : RS) : RS := match r with
  | .nx Γ M => if m ≤ M.length ∧ cutOk m M = true then .nx (clean m Γ) (M.take m) else .bad
  | .ct Γ M => if m ≤ M.length ∧ cutOk m M = true then .ct (clean m Γ) (M.take m) else .bad
  | r => r
def gScope (a : GS) : GS := fun Γ M => gCut M.length (a Γ M)
/-- behind a loop's turn -/
def RS.turn (r : RS) (f : Env → List MO → RS) : RS := match r with
  | .nx Γ M => f Γ M
  | .ct Γ M => f Γ M
  | .bk Γ M => .nx Γ M
  | r => r
def optS (o : Option Env) (f : Env → RS) : RS := match o with
  | some Γ => f Γ
  | none => .bad
def gForL (gg : GG) (body : GS) : List D → GS
  | [] => gPass
  | d :: ds => fun Γ M => optS (gg d Γ) fun Γ1 => (body Γ1 M).turn (gForL gg body ds)
def gFor (gi : GI) (gg : GG) (body : GS) : GS := fun Γ M => (gi Γ M).thenS Γ fun ds M1 => gForL gg body ds Γ M1
def gWhile (gt : GT) (body : GS) : Nat → GS
  | 0 => gBad
  | n + 1 => fun Γ M => (gt Γ M).thenS Γ fun k M1 => if k = true then (body Γ M1).turn (gWhile gt body n) else .nx Γ M1
section
variable {X : Cx} {C : CT} {W : WX} {H Z H1 Z1 : Hp} {ι ι1 : Nat → Addr} {M M1 : List MO} {Dd : Ends}
theorem PostS.shift {r : RS} (h : PostS X C W H Z ι M r Dd) (e : Ext H Z ι M.length H1 Z1 ι1 M1.length) (hr : HR X.K H1 Z1 ι1 M1) : PostS X C W H1 Z1 ι1 M1 r Dd := by
  cases r with
  | nx Γ M' => exact fun σ' H' Z' ι' e' => h σ' H' Z' ι' (e.trans e' hr.ali)
  | bk Γ M' => exact fun σ' H' Z' ι' e' => h σ' H' Z' ι' (e.trans e' hr.ali)
  | ct Γ M' => exact fun σ' H' Z' ι' e' => h σ' H' Z' ι' (e.trans e' hr.ali)
  | rt d M' => exact fun σ' H' Z' ι' e' => h σ' H' Z' ι' (e.trans e' hr.ali)
  | exc c d Γ M' => exact fun cls dd σ' H' Z' ι' e' => h cls dd σ' H' Z' ι' (e.trans e' hr.ali)
  | bad => exact h
theorem PostS.bind {α β : Type} {rp1 : RpK α β} {r : R α} {f : α → List MO → RS} {Γ : Env} {σ : St} {Q1 : β → Hp → Prop} (h : PostS X C W H Z ι M (r.thenS Γ f) Dd) (sl : Slots X.K Z ι M.length Γ σ)
    (k : ∀ (a : α) (M1 : List MO) (b : β) (H1 Z1 : Hp) (ι1 : Nat → Addr), Ext H Z ι M.length H1 Z1 ι1 M1.length → HR X.K H1 Z1 ι1 M1 → rp1 Z1 ι1 M1.length a b → PostS X C W H1 Z1 ι1 M1 (f a M1) Dd → Q1 b H1) :
    Post X C W rp1 σ H Z ι M r Q1 := by
  cases r with
  | ok a M' => exact fun b H' Z' ι' e' hr' rb => k a M' b H' Z' ι' e' hr' rb (PostS.shift (r := f a M') h e' hr')
  | exc c d M' => exact fun cls dd H' Z' ι' e' hr' rb => h cls dd σ H' Z' ι' e' hr' (sl.ext e') rb
  | bad => exact h
theorem PostS.next {r : RS} {f : Env → List MO → RS} {nx : L2.St → Hp → Prop} (h : PostS X C W H Z ι M (r.next f) Dd)
    (k : ∀ (Γ1 : Env) (M1 : List MO) (σ1 : L2.St) (H1 Z1 : Hp) (ι1 : Nat → Addr), Ext H Z ι M.length H1 Z1 ι1 M1.length → HR X.K H1 Z1 ι1 M1 → Slots X.K Z1 ι1 M1.length Γ1 σ1 → PostS X C W H1 Z1 ι1 M1 (f Γ1 M1) Dd → nx σ1 H1) :
    PostS X C W H Z ι M r { Dd with nx := nx } := by
  cases r with
  | nx Γ M' => exact fun σ' H' Z' ι' e' hr' sl => k Γ M' σ' H' Z' ι' e' hr' sl (PostS.shift (r := f Γ M') h e' hr')
  | bk Γ M' => exact h
  | ct Γ M' => exact h
  | rt d M' => exact h
  | exc c d Γ M' => exact h
  | bad => exact h
variable {st : Stmt} {rest : List Stmt} {e tg : Expr} {ge : GE} {gt : GT} {gg : GG} {g g2 : GS} {pos : Pos}
theorem qss_nil : QSs X C W [] gPass := ⟨_, pss_nil, fun Dd σ H Z ι Γ M sl hr h => h σ H Z ι .refl hr sl⟩
theorem qss_cons (h1 : QS X C W st g) (h2 : QSs X C W rest g2) : QSs X C W (st :: rest) (gSeq g g2) := by
  obtain ⟨t1, p1, q1⟩ := h1
  obtain ⟨t2, p2, q2⟩ := h2
  exact ⟨_, pss_cons p1 p2, fun Dd σ H Z ι Γ M sl hr h => q1 _ σ H Z ι Γ M sl hr (PostS.next h fun Γ1 M1 σ1 H1 Z1 ι1 e1 hr1 sl1 h1 => q2 Dd σ1 H1 Z1 ι1 Γ1 M1 sl1 hr1 h1)⟩
theorem qss_one (h1 : QS X C W st g) : QSs X C W [st] g := let ⟨t, p, q⟩ := h1; ⟨t, pss_one p, q⟩
theorem qss_never {sts : List Stmt} : QSs X C W sts gBad := ⟨_, pss_never, fun Dd σ H Z ι Γ M sl hr h => h⟩
theorem qs_never : QS X C W st gBad := ⟨_, ps_never, fun Dd σ H Z ι Γ M sl hr h => h⟩
theorem qs_pass : QS X C W (.Pass pos) gPass := ⟨_, ps_pass, fun Dd σ H Z ι Γ M sl hr h => h σ H Z ι .refl hr sl⟩
/-- a step of our own behind a statement -/
theorem qs_ghost {g3 : GS} (h1 : QS X C W st g) (h : ∀ (Dd : Ends) (σ : L2.St) (H Z : Hp) (ι : Nat → Addr) (Γ : Env) (M : List MO), Slots X.K Z ι M.length Γ σ → HR X.K H Z ι M → PostS X C W H Z ι M (g3 Γ M) Dd → Dd.nx σ H) : QS X C W st (gSeq g g3) := by
  obtain ⟨t1, p1, q1⟩ := h1
  exact ⟨_, p1, fun Dd σ H Z ι Γ M sl hr hp => q1 Dd σ H Z ι Γ M sl hr (PostS.next (nx := Dd.nx) hp fun Γ1 M1 σ1 H1 Z1 ι1 e1 hr1 sl1 h1 => h Dd σ1 H1 Z1 ι1 Γ1 M1 sl1 hr1 h1)⟩
theorem qs_forget (is : List Nat) (h1 : QS X C W st g) : QS X C W st (gSeq g (gForget is)) := qs_ghost h1 fun Dd σ H Z ι Γ M sl hr h => h σ H Z ι .refl hr (sl.forget is)
theorem qs_fz (i : Nat) (h1 : QS X C W st g) : QS X C W st (gSeq g (gFz i)) := qs_ghost h1 fun Dd σ H Z ι Γ M sl hr h => by
  unfold gFz at h
  cases e : Γ[i]? with
  | none => rw [e] at h; exact h.elim
  | some o =>
    rw [e] at h
    cases o with
    | none => exact h.elim
    | some d =>
      cases d with
      | ref k =>
        simp only at h
        cases e2 : M[k]? with
        | none => rw [e2] at h; exact h.elim
        | some u =>
          rw [e2] at h
          cases u with
          | dead => exact h.elim
          | obj nm fs => exact h.elim
          | lst ds =>
            obtain ⟨xs, r, hr1, x1, rp⟩ := hr.freeze e2
            obtain ⟨v, hv, rv⟩ := sl.2 i _ e
            cases rv
            have q := (sl.ext x1).set i rp
            have es : σ.set i (some (V.ref (ι k))) = σ := by
              have lt : i < σ.length := (List.getElem?_eq_some_iff.mp hv).1
              have ev : σ[i] = some (V.ref (ι k)) := (List.getElem?_eq_some_iff.mp hv).2
              rw [← ev, List.set_getElem_self]
            rw [es] at q
            exact h σ H _ ι x1 hr1 q
      | _ => exact h.elim
theorem qs_expr (ha : QE X C W e ge) (hs : swapsWith e none pos.line X.env = pure false := by rfl) : QS X C W (.Expr e pos) (gExpr ge) := by
  obtain ⟨ta, pa, qa⟩ := ha
  exact ⟨_, ps_expr pa hs, fun Dd σ H Z ι Γ M sl hr h => qa σ H Z ι Γ M _ sl hr (PostS.bind h sl fun x M1 v H1 Z1 ι1 e1 hr1 r1 h1 => h1 σ H1 Z1 ι1 .refl hr1 (sl.ext e1))⟩
theorem qs_ret (ha : QE X C W e ge) : QS X C W (.Return (some e) pos) (gRet ge) := by
  obtain ⟨ta, pa, qa⟩ := ha
  exact ⟨_, ps_ret pa, fun Dd σ H Z ι Γ M sl hr h => qa σ H Z ι Γ M _ sl hr (PostS.bind h sl fun x M1 v H1 Z1 ι1 e1 hr1 r1 h1 => h1 v H1 Z1 ι1 .refl hr1 r1)⟩
theorem qs_retN : QS X C W (.Return none pos) gRetN := ⟨_, ps_retN, fun Dd σ H Z ι Γ M sl hr h => h _ H Z ι .refl hr .non⟩
theorem qs_if {c : Expr} {a b : List Stmt} (hc : QT X C W c gt) (ha : QSs X C W a g) (hb : QSs X C W b g2) : QS X C W (.If c a b pos) (gIf gt g g2) := by
  obtain ⟨tc, pc, qc⟩ := hc
  obtain ⟨ta, pa, qa⟩ := ha
  obtain ⟨tb, pb, qb⟩ := hb
  refine ⟨_, ps_if pc pa pb, fun Dd σ H Z ι Γ M sl hr h => qc σ H Z ι Γ M _ sl hr (PostS.bind h sl fun x M1 v H1 Z1 ι1 e1 hr1 r1 h1 => ?_)⟩
  have r1' : x = v := r1
  subst r1'
  cases x with
  | true => exact qa Dd σ H1 Z1 ι1 Γ M1 (sl.ext e1) hr1 h1
  | false => exact qb Dd σ H1 Z1 ι1 Γ M1 (sl.ext e1) hr1 h1
theorem qs_asg {is : List Nat} (ha : QE X C W e ge) (hg : QG X tg gg is) (hs : swapsWithSole [tg] e pos.line X.env = pure false := by rfl) (hp : swappedStores [tg] e X.env = pure none := by rfl) (h1 : (assignEach [tg] X.env).map (·.2) = [assign tg X.env] := by rfl) : QS X C W (.Assign [tg] e pos) (gAsg ge gg) := by
  obtain ⟨ta, pa, qa⟩ := ha
  obtain ⟨t2, p2, q2⟩ := hg
  refine ⟨_, ps_asg pa p2 hs (hw := hp) (h1 := h1), fun Dd σ H Z ι Γ M sl hr h => qa σ H Z ι Γ M _ sl hr (PostS.bind h sl fun x M1 v H1 Z1 ι1 e1 hr1 r1 h1 => ?_)⟩
  cases eg : gg x Γ with
  | none => rw [eg] at h1; exact h1.elim
  | some Γ' =>
    rw [eg] at h1
    exact q2 v σ H1 Z1 ι1 M1.length x Γ Γ' _ hr1.sub (sl.ext e1) r1 eg fun σ' s' _ => h1 σ' H1 Z1 ι1 .refl hr1 s'

theorem qss_scope (h1 : QSs X C W rest g) : QSs X C W rest (gScope g) := by
  obtain ⟨t1, p1, q1⟩ := h1
  refine ⟨_, p1, fun Dd σ H Z ι Γ M sl hr h => q1 Dd σ H Z ι Γ M sl hr ?_⟩
  have h' : PostS X C W H Z ι M (gCut M.length (g Γ M)) Dd := h
  cases er : g Γ M with
  | nx Γ' M' =>
    rw [er] at h'
    by_cases hc : M.length ≤ M'.length ∧ cutOk M.length M' = true
    · have h2 : PostS X C W H Z ι M (if M.length ≤ M'.length ∧ cutOk M.length M' = true then .nx (clean M.length Γ') (M'.take M.length) else .bad) Dd := h'
      rw [if_pos hc] at h2
      have ln : (M'.take M.length).length = M.length := by rw [List.length_take]; omega
      intro σ' H' Z' ι' e1 hr1 sl1
      refine h2 σ' H' Z' ι' (by rw [ln]; exact e1.cut (Nat.le_refl _) hc.1) (hr1.cut hc.1 hc.2) (by rw [ln]; exact sl1.cut)
    · have h2 : PostS X C W H Z ι M (if M.length ≤ M'.length ∧ cutOk M.length M' = true then .nx (clean M.length Γ') (M'.take M.length) else .bad) Dd := h'
      rw [if_neg hc] at h2
      exact h2.elim
  | ct Γ' M' =>
    rw [er] at h'
    by_cases hc : M.length ≤ M'.length ∧ cutOk M.length M' = true
    · have h2 : PostS X C W H Z ι M (if M.length ≤ M'.length ∧ cutOk M.length M' = true then .ct (clean M.length Γ') (M'.take M.length) else .bad) Dd := h'
      rw [if_pos hc] at h2
      have ln : (M'.take M.length).length = M.length := by rw [List.length_take]; omega
      intro σ' H' Z' ι' e1 hr1 sl1
      refine h2 σ' H' Z' ι' (by rw [ln]; exact e1.cut (Nat.le_refl _) hc.1) (hr1.cut hc.1 hc.2) (by rw [ln]; exact sl1.cut)
    · have h2 : PostS X C W H Z ι M (if M.length ≤ M'.length ∧ cutOk M.length M' = true then .ct (clean M.length Γ') (M'.take M.length) else .bad) Dd := h'
      rw [if_neg hc] at h2
      exact h2.elim
  | bk Γ' M' => rw [er] at h'; exact h'
  | rt d M' => rw [er] at h'; exact h'
  | exc c d Γ' M' => rw [er] at h'; exact h'
  | bad => rw [er] at h'; exact h'
/-- a loop's turn: what is wanted behind it -/
theorem PostS.turn {r : RS} {f : Env → List MO → RS} {N : L2.St → Hp → Prop} (h : PostS X C W H Z ι M (r.turn f) Dd)
    (k : ∀ (Γ1 : Env) (M1 : List MO) (σ1 : L2.St) (H1 Z1 : Hp) (ι1 : Nat → Addr), Ext H Z ι M.length H1 Z1 ι1 M1.length → HR X.K H1 Z1 ι1 M1 → Slots X.K Z1 ι1 M1.length Γ1 σ1 → PostS X C W H1 Z1 ι1 M1 (f Γ1 M1) Dd → N σ1 H1) :
    PostS X C W H Z ι M r { Dd with nx := N, ct := N, bk := Dd.nx } := by
  cases r with
  | nx Γ M' => exact fun σ' H' Z' ι' e' hr' sl => k Γ M' σ' H' Z' ι' e' hr' sl (PostS.shift (r := f Γ M') h e' hr')
  | ct Γ M' => exact fun σ' H' Z' ι' e' hr' sl => k Γ M' σ' H' Z' ι' e' hr' sl (PostS.shift (r := f Γ M') h e' hr')
  | bk Γ M' => exact h
  | rt d M' => exact h
  | exc c d Γ M' => exact h
  | bad => exact h
theorem qs_for {iter : Expr} {body : List Stmt} {gi : GI} {is : List Nat} (hp : PassesOwn (model X.prog X.w) X.A X.env X.xe) (hc : X.calm = true) (hi : QI X C W tg iter gi) (hg : QG X tg gg is) (hb : QSs X C W body g)
    (hs : ∀ x, foldedSetIterable iter X.env x = pure x := by intro _; rfl) : QS X C W (.For tg iter body [] pos) (gFor gi gg g) := by
  obtain ⟨wi, pi, qi⟩ := hi
  obtain ⟨tg', pg, qg⟩ := hg
  obtain ⟨tb, pb, qb⟩ := hb
  refine ⟨_, ps_for hp hc pi pg pb hs, fun Dd σ H Z ι Γ M sl hr h => qi σ H Z ι Γ M _ sl hr (PostS.bind h sl fun ds M1 J H1 Z1 ι1 e1 hr1 rJ h1 => ?_)⟩
  refine ⟨fun i m σ' H' => ∃ (Z' : Hp) (ι' : Nat → Addr) (Γ' : Env) (M' : List MO), m = ds.length - i ∧ i ≤ ds.length ∧ Sub Z1 Z' ∧ (∀ k, k < M1.length → ι' k = ι1 k) ∧ M1.length ≤ M'.length ∧ HR X.K H' Z' ι' M' ∧ Slots X.K Z' ι' M'.length Γ' σ' ∧
    PostS X C W H' Z' ι' M' (gForL gg g (ds.drop i) Γ' M') Dd, ⟨ds.length, Z1, ι1, Γ, M1, rfl, Nat.zero_le _, fun _ _ z => z, fun _ _ => rfl, Nat.le_refl _, hr1, sl.ext e1, h1⟩, ?_⟩
  rintro i m σ' H' ⟨Z', ι', Γ', M', em, hle, hz, hii, hn, hr', sl', hp'⟩
  obtain ⟨hstop, hgo⟩ := rJ i H' Z' ι' M' hz hii hn hr' trivial
  by_cases hi : i < ds.length
  · refine .inr ?_
    have ed : ds.drop i = ds[i] :: ds.drop (i + 1) := List.drop_eq_getElem_cons hi
    obtain ⟨go, yl⟩ := hgo ds[i] (List.getElem?_eq_getElem hi)
    refine ⟨go, fun σ2 H2 => ∃ (Z2 : Hp) (ι2 : Nat → Addr) (Γ2 : Env) (M2 : List MO), Sub Z1 Z2 ∧ (∀ k, k < M1.length → ι2 k = ι1 k) ∧ M1.length ≤ M2.length ∧ HR X.K H2 Z2 ι2 M2 ∧ Slots X.K Z2 ι2 M2.length Γ2 σ2 ∧
      PostS X C W H2 Z2 ι2 M2 (gForL gg g (ds.drop (i + 1)) Γ2 M2) Dd, fun σ2 H2 hN => ?_, fun x H2 hy => ?_⟩
    · obtain ⟨Z2, ι2, Γ2, M2, a1, a2, a3, a4, a5, a6⟩ := hN
      exact ⟨ds.length - (i + 1), by omega, Z2, ι2, Γ2, M2, rfl, by omega, a1, a2, a3, a4, a5, a6⟩
    · obtain ⟨Z2, e2, hr2, rx⟩ := yl x H2 hy
      rw [ed] at hp'
      have hp2 := PostS.shift hp' e2 hr2
      have hb : PostS X C W H2 Z2 ι' M' (optS (gg ds[i] Γ') fun Γ1 => (g Γ1 M').turn (gForL gg g (ds.drop (i + 1)))) Dd := hp2
      cases eg : gg ds[i] Γ' with
      | none =>
        rw [eg] at hb
        exact hb.elim
      | some Γ1 =>
        rw [eg] at hb
        exact qg x σ' H2 Z2 ι' M'.length ds[i] Γ' Γ1 _ hr2.sub (sl'.ext e2) rx eg fun σ3 s3 _ => qb _ σ3 H2 Z2 ι' Γ1 M' s3 hr2 (PostS.turn hb fun Γ4 M4 σ4 H4 Z4 ι4 e4 hr4 s4 h4 =>
          ⟨Z4, ι4, Γ4, M4, fun a o z => e4.zz _ _ (e2.zz _ _ (hz _ _ z)), fun k hk => (e4.ii k (Nat.lt_of_lt_of_le hk hn)).trans (hii k hk), Nat.le_trans hn e4.ln, hr4, s4, h4⟩)
  · refine .inl ⟨hstop (by omega), ?_⟩
    rw [List.drop_eq_nil_of_le (Nat.le_of_not_lt hi)] at hp'
    exact hp' σ' H' Z' ι' .refl hr' sl'
theorem qs_while {c : Expr} {body : List Stmt} (n : Nat) (hp : PassesOwn (model X.prog X.w) X.A X.env X.xe) (hc : QT X C W c gt) (hb : QSs X C W body g) : QS X C W (.While c body [] pos) (gWhile gt g n) := by
  obtain ⟨tc, pc, qc⟩ := hc
  obtain ⟨tb, pb, qb⟩ := hb
  refine ⟨_, ps_while hp pc pb, fun Dd σ H Z ι Γ M sl hr h => ?_⟩
  refine ⟨fun m σ' H' => ∃ (Z' : Hp) (ι' : Nat → Addr) (Γ' : Env) (M' : List MO), HR X.K H' Z' ι' M' ∧ Slots X.K Z' ι' M'.length Γ' σ' ∧ PostS X C W H' Z' ι' M' (gWhile gt g m Γ' M') Dd, ⟨n, Z, ι, Γ, M, hr, sl, h⟩, ?_⟩
  rintro m σ' H' ⟨Z', ι', Γ', M', hr', sl', hp'⟩
  cases m with
  | zero => exact hp'.elim
  | succ m =>
    refine qc σ' H' Z' ι' Γ' M' _ sl' hr' (PostS.bind hp' sl' fun x M1 v H1 Z1 ι1 e1 hr1 r1 h1 => ?_)
    have r1' : x = v := r1
    subst r1'
    cases x with
    | false => exact h1 σ' H1 Z1 ι1 .refl hr1 (sl'.ext e1)
    | true =>
      refine ⟨fun σ2 H2 => ∃ (Z2 : Hp) (ι2 : Nat → Addr) (Γ2 : Env) (M2 : List MO), HR X.K H2 Z2 ι2 M2 ∧ Slots X.K Z2 ι2 M2.length Γ2 σ2 ∧ PostS X C W H2 Z2 ι2 M2 (gWhile gt g m Γ2 M2) Dd, fun σ2 H2 hN => ⟨m, Nat.lt_succ_self _, hN⟩, ?_⟩
      exact qb _ σ' H1 Z1 ι1 Γ' M1 (sl'.ext e1) hr1 (PostS.turn h1 fun Γ4 M4 σ4 H4 Z4 ι4 e4 hr4 s4 h4 => ⟨Z4, ι4, Γ4, M4, hr4, s4, h4⟩)
end
end Bk

set_option Elab.async false
set_option linter.all false
set_option maxRecDepth 100000
set_option maxHeartbeats 2000000
namespace Bk
open PySem PySem.Spec PyProof.Rows L2

/-! ### a list made by a comprehension -/
/-- nothing may be raised -/
abbrev noW : WX := fun _ _ _ _ => False
theorem takes_no {X : Cx} : Takes X noW := fun u s' h => by
  unfold XE at h
  obtain ⟨_, _, _, _, _, _, _, h⟩ := h
  simp_all
/-- no exception goes on -/
def R.only {α β : Type} (r : R α) (f : α → List MO → R β) : R β := match r with
  | .ok a M => f a M
  | _ => .bad
def gLcL (gg : GG) (gt : GT) (ge : GE) (Γ : Env) : List D → List D → List MO → R (List D)
  | [], acc, M => .ok acc M
  | d :: ds, acc, M => match gg d Γ with
    | none => .bad
    | some Γ1 => (gt Γ1 M).only fun k M1 => if k = true then (ge Γ1 M1).only fun y M2 => if acc.length < sizeLine then gLcL gg gt ge Γ ds (acc ++ [y]) M2 else .bad else gLcL gg gt ge Γ ds acc M1
def gYes : GT := fun _ M => .ok true M
/-- the new list will not be changed -/
def gLc (gi : GI) (gg : GG) (gt : GT) (ge : GE) (own : List Nat) : GE := fun Γ M => (gi Γ M).bind fun ds M1 => (gLcL gg gt ge (forget Γ own) ds [] M1).bind fun acc M2 => .ok (.lst acc) M2
/-- the new list is ours -/
def gLcO (gi : GI) (gg : GG) (gt : GT) (ge : GE) (own : List Nat) : GE := fun Γ M => (gi Γ M).bind fun ds M1 => (gLcL gg gt ge (forget Γ own) ds [] M1).bind fun acc M2 => .ok (.ref M2.length) (M2 ++ [.lst acc])

section
variable {K : PySem.W.Frag} {H Z H0 Z0 : Hp} {ι ι0 : Nat → Addr} {M : List MO} {n0 : Nat} {p : Addr} {xs : List V} {ds : List D} {o : HO}
/-- a thing that is neither frozen nor ours -/
structure Odd (Z : Hp) (ι : Nat → Addr) (n : Nat) (p : Addr) : Prop where
  z : Z p = none
  i : ∀ k, k < n → ι k ≠ p
theorem HR.odd (h : HR K H Z ι M) (q : Odd Z ι M.length p) : HR K (upd H p o) Z ι M := by
  have lt : ∀ {k : Nat} {u : MO}, M[k]? = some u → k < M.length := fun e => (List.getElem?_eq_some_iff.mp e).1
  refine ⟨fun a u e => by rw [upd_ne (ne_of_none e q.z)]; exact h.sub _ _ e, fun k hk => by rw [upd_ne (q.i k hk)]; exact h.ali k hk, h.sep, h.inj, fun k u e => ?_, h.ded⟩
  have r := h.obj k u e
  cases u with
  | dead => trivial
  | lst es =>
    obtain ⟨ys, e1, r1⟩ := r
    exact ⟨ys, by rw [upd_ne (q.i k (lt e))]; exact e1, r1⟩
  | obj nm fs =>
    obtain ⟨C, dx, gs, e0, e1, e2, r1⟩ := r
    exact ⟨C, dx, gs, e0, by rw [upd_ne (q.i k (lt e))]; exact e1, e2, r1⟩
theorem Odd.new (h : HR K H Z ι M) (hp : H p = none) : Odd Z ι M.length p := by
  refine ⟨?_, fun k hk e => ?_⟩
  · cases e : Z p with
    | none => rfl
    | some u =>
      rw [h.sub _ _ e] at hp
      cases hp
  · obtain ⟨u, hu⟩ := h.ali k hk
    rw [e, hp] at hu
    cases hu
theorem Odd.ext {H1 Z1 : Hp} {ι1 : Nat → Addr} {n n1 : Nat} {u : HO} (q : Odd Z ι n p) (hp : H p = some u) (e : Ext H Z ι n H1 Z1 ι1 n1) : Odd Z1 ι1 n1 p ∧ H1 p = some u := by
  refine ⟨⟨?_, fun k hk z => ?_⟩, e.fr p u hp fun k hk z => q.i k hk z.symm⟩
  · cases z : Z1 p with
    | none => rfl
    | some w =>
      rcases e.zn p w z with a | a | ⟨k, hk, a⟩
      · rw [q.z] at a; cases a
      · rw [hp] at a; cases a
      · exact absurd a.symm (q.i k hk)
  · by_cases hn : k < n
    · exact q.i k hn ((e.ii k hn).symm.trans z)
    · have w := e.nw k (Nat.le_of_not_lt hn) hk
      rw [z, hp] at w
      cases w
theorem Ext.touch {n : Nat} (e : Ext H0 Z0 ι0 n0 H Z ι n) (hp : H0 p = none) : Ext H0 Z0 ι0 n0 (upd H p o) Z ι n :=
  ⟨e.zz, e.ii, fun a u h1 h2 => by rw [upd_ne (ne_of_none h1 hp)]; exact e.fr a u h1 h2, e.nw, e.ln, e.zn⟩
theorem HR.adoptZ (h : HR K H Z ι M) (q : Odd Z ι M.length p) (hp : H p = some o) : HR K H (upd Z p o) ι M := by
  have s1 : Sub Z (upd Z p o) := fun a u e => by rw [upd_ne (ne_of_none e q.z)]; exact e
  refine ⟨fun a u e => ?_, h.ali, fun k u e d => by rw [upd_ne (q.i k (List.getElem?_eq_some_iff.mp e).1)]; exact h.sep k u e d, h.inj, fun k u e => ?_, fun k e => let ⟨u, hu⟩ := h.ded k e; ⟨u, s1 _ _ hu⟩⟩
  · by_cases ha : a = p
    · subst ha
      rw [upd_same] at e
      rw [← e]
      exact hp
    · rw [upd_ne ha] at e
      exact h.sub _ _ e
  · have r := h.obj k u e
    cases u with
    | dead => trivial
    | lst es =>
      obtain ⟨ys, e1, r1⟩ := r
      exact ⟨ys, e1, Rps.mono s1 (fun _ _ => rfl) (Nat.le_refl _) _ _ r1⟩
    | obj nm fs =>
      obtain ⟨C, dx, gs, e0, e1, e2, r1⟩ := r
      exact ⟨C, dx, gs, e0, e1, e2, Rps.mono s1 (fun _ _ => rfl) (Nat.le_refl _) _ _ r1⟩
theorem Ext.adoptZ {n : Nat} (e : Ext H0 Z0 ι0 n0 H Z ι n) (hz : Z p = none) (hp : H0 p = none) : Ext H0 Z0 ι0 n0 H (upd Z p o) ι n :=
  ⟨fun a u h => by rw [upd_ne (ne_of_none (e.zz _ _ h) hz)]; exact e.zz _ _ h, e.ii, e.fr, e.nw, e.ln, fun a u h => by
    by_cases ha : a = p
    · subst ha
      exact .inr (.inl hp)
    · rw [upd_ne ha] at h
      exact e.zn a u h⟩
theorem HR.adoptM (h : HR K H Z ι M) (q : Odd Z ι M.length p) (hp : H p = some (.lst xs)) (r : Rps K Z ι M.length ds xs) : HR K H Z (put ι M.length p) (M ++ [.lst ds]) := by
  have ln : (M ++ [MO.lst ds]).length = M.length + 1 := by simp
  have cs : ∀ {k : Nat} {u : MO}, (M ++ [MO.lst ds])[k]? = some u → (k < M.length ∧ M[k]? = some u) ∨ (k = M.length ∧ u = .lst ds) := fun {k u} e => by
    by_cases hk : k < M.length
    · rw [List.getElem?_append_left hk] at e
      exact .inl ⟨hk, e⟩
    · rw [List.getElem?_append_right (Nat.le_of_not_lt hk)] at e
      by_cases hz : k - M.length = 0
      · rw [hz] at e
        exact .inr ⟨by omega, (Option.some.inj e).symm⟩
      · rw [List.getElem?_eq_none (by simp; omega)] at e
        cases e
  refine ⟨h.sub, fun k hk => ?_, fun k u e d => ?_, fun j k o u e1 e2 d1 d2 e => ?_, fun k u e => ?_, fun k e => ?_⟩
  · rw [ln] at hk
    by_cases hk' : k < M.length
    · rw [put_lt hk']
      exact h.ali k hk'
    · have : k = M.length := by omega
      subst this
      exact ⟨_, by rw [put_at]; exact hp⟩
  · rcases cs e with ⟨hk, e⟩ | ⟨rfl, rfl⟩
    · rw [put_lt hk]
      exact h.sep k u e d
    · rw [put_at]
      exact q.z
  · rcases cs e1 with ⟨hj, e1⟩ | ⟨rfl, rfl⟩ <;> rcases cs e2 with ⟨hk, e2⟩ | ⟨rfl, rfl⟩
    · rw [put_lt hj, put_lt hk] at e
      exact h.inj j k o u e1 e2 d1 d2 e
    · rw [put_lt hj, put_at] at e
      exact absurd e (q.i j hj)
    · rw [put_lt hk, put_at] at e
      exact absurd e.symm (q.i k hk)
    · rfl
  · rcases cs e with ⟨hk, e⟩ | ⟨rfl, rfl⟩
    · rw [put_lt hk]
      have r := h.obj k u e
      cases u with
      | dead => trivial
      | lst es =>
        obtain ⟨ys, e1, r1⟩ := r
        exact ⟨ys, e1, Rps.mono (fun _ _ z => z) (fun _ z => put_lt z) (by rw [ln]; omega) _ _ r1⟩
      | obj nm fs =>
        obtain ⟨C, dx, gs, e0, e1, e2, r1⟩ := r
        exact ⟨C, dx, gs, e0, e1, e2, Rps.mono (fun _ _ z => z) (fun _ z => put_lt z) (by rw [ln]; omega) _ _ r1⟩
    · rw [put_at]
      exact ⟨xs, hp, Rps.mono (fun _ _ z => z) (fun _ z => put_lt z) (by rw [ln]; omega) _ _ r⟩
  · rcases cs e with ⟨hk, e⟩ | ⟨_, e⟩
    · rw [put_lt hk]
      exact h.ded k e
    · cases e
theorem Ext.adoptM (e : Ext H0 Z0 ι0 n0 H Z ι M.length) (hp : H0 p = none) : Ext H0 Z0 ι0 n0 H Z (put ι M.length p) (M ++ [MO.lst ds]).length := by
  have ln : (M ++ [MO.lst ds]).length = M.length + 1 := by simp
  refine ⟨e.zz, fun k hk => (put_lt (Nat.lt_of_lt_of_le hk e.ln)).trans (e.ii k hk), e.fr, fun k h1 h2 => ?_, by rw [ln]; have := e.ln; omega, e.zn⟩
  rw [ln] at h2
  by_cases hk : k < M.length
  · rw [put_lt hk]
    exact e.nw k h1 hk
  · have : k = M.length := by omega
    subst this
    rw [put_at]
    exact hp
end
theorem wipe_at {σ : St} : ∀ (vs : List Nat) (i : Nat), (wipe σ vs)[i]? = if i ∈ vs ∧ i < σ.length then some none else σ[i]?
  | [], i => by simp [wipe]
  | v :: vs, i => by
    have ih := wipe_at (σ := σ) vs i
    have ln := wipe_length σ vs
    show ((wipe σ vs).set v none)[i]? = _
    by_cases hv : v = i
    · subst hv
      by_cases hl : v < σ.length
      · rw [List.getElem?_set_self (by rw [ln]; exact hl), if_pos ⟨List.mem_cons_self, hl⟩]
      · rw [if_neg (fun z => hl z.2), List.getElem?_eq_none (by rw [List.length_set, ln]; omega), List.getElem?_eq_none (by omega)]
    · rw [List.getElem?_set_ne hv, ih]
      have : (i ∈ v :: vs) ↔ i ∈ vs := by simp only [List.mem_cons]; exact ⟨fun z => z.elim (fun e => absurd e.symm hv) id, .inr⟩
      simp only [this]
theorem wipe_wipe {σ : St} (vs : List Nat) : wipe (wipe σ vs) vs = wipe σ vs := by
  refine List.ext_getElem? fun i => ?_
  rw [wipe_at, wipe_length, wipe_at]
  split <;> rfl
theorem slots_wipe {K : PySem.W.Frag} {Z : Hp} {ι : Nat → Addr} {n : Nat} {σ : St} : ∀ (vs : List Nat) {Γ : Env}, Slots K Z ι n Γ σ → Slots K Z ι n (forget Γ vs) (wipe σ vs) := by
  have one : ∀ (vs : List Nat) (Γ : Env) (i : Nat) (d : D), (forget Γ vs)[i]? = some (some d) → Γ[i]? = some (some d) ∧ i ∉ vs := by
    intro vs
    induction vs with
    | nil => intro Γ i d h; exact ⟨h, by simp⟩
    | cons v vs ih =>
      intro Γ i d h
      obtain ⟨h1, h2⟩ := ih (Γ.set v none) i d h
      by_cases hv : v = i
      · subst hv
        have lt : v < Γ.length := by
          have := (List.getElem?_eq_some_iff.mp h1).1
          rw [List.length_set] at this
          exact this
        rw [List.getElem?_set_self lt] at h1
        cases h1
      · rw [List.getElem?_set_ne hv] at h1
        exact ⟨h1, by simp only [List.mem_cons, not_or]; exact ⟨fun e => hv e.symm, h2⟩⟩
  have keep : ∀ (vs : List Nat) (i : Nat), i ∉ vs → (wipe σ vs)[i]? = σ[i]? := by
    intro vs
    induction vs with
    | nil => intro i _; rfl
    | cons v vs ih =>
      intro i h
      show ((wipe σ vs).set v none)[i]? = _
      rw [List.getElem?_set_ne (fun e => h (by rw [e]; exact List.mem_cons_self))]
      exact ih i fun z => h (List.mem_cons_of_mem _ z)
  have len : ∀ (vs : List Nat) (Γ : Env), (forget Γ vs).length = Γ.length := by
    intro vs
    induction vs with
    | nil => intro Γ; rfl
    | cons v vs ih => intro Γ; exact (ih _).trans List.length_set
  intro vs Γ sl
  refine ⟨by rw [len, wipe_length]; exact sl.1, fun i d h => ?_⟩
  obtain ⟨h1, h2⟩ := one vs Γ i d h
  obtain ⟨v, e, r⟩ := sl.2 i d h1
  exact ⟨v, by rw [keep vs i h2]; exact e, r⟩
section
variable {X : Cx} {C : CT} {W : WX}
abbrev Blk (X : Cx) (scope : Scope) (F : Cx → Prop) : Prop := ∀ (s : Shared) (H : Hp) (c : Addr) (cl : List (Str × Addr)) (fp : List Addr), F (X.blk s H scope (compEnvC scope cl c X.env) fp)
/-- the readings that the functions are: the same in every block -/
def liftE (K : PySem.W.Frag) (X : Cx) (C : CT) (W : WX) (g : GE) : TE := fun σ H Q => ∃ (Z : Hp) (ι : Nat → Addr) (Γ : Env) (M : List MO), Slots K Z ι M.length Γ σ ∧ HR K H Z ι M ∧ Post X C W (rpE K) σ H Z ι M (g Γ M) Q
def liftT (K : PySem.W.Frag) (X : Cx) (C : CT) (W : WX) (g : GT) : TT := fun σ H Q => ∃ (Z : Hp) (ι : Nat → Addr) (Γ : Env) (M : List MO), Slots K Z ι M.length Γ σ ∧ HR K H Z ι M ∧ Post X C W rpT σ H Z ι M (g Γ M) Q
def liftG (K : PySem.W.Frag) (g : GG) (is : List Nat) : TG := fun v σ H Q => ∃ (Z : Hp) (ι : Nat → Addr) (n : Nat) (d : D) (Γ Γ' : Env), Sub Z H ∧ Slots K Z ι n Γ σ ∧ Rp K Z ι n d v ∧ g d Γ = some Γ' ∧ ∀ σ', Slots K Z ι n Γ' σ' → Wip is σ σ' → Q σ' H
def QTs (X : Cx) (C : CT) (W : WX) (es : List Expr) (g : GT) : Prop := ∃ te, PTs X es te ∧ ∀ (σ : St) (H Z : Hp) (ι : Nat → Addr) (Γ : Env) (M : List MO) (Q : Bool → Hp → Prop), Slots X.K Z ι M.length Γ σ → HR X.K H Z ι M → Post X C W rpT σ H Z ι M (g Γ M) Q → te σ H Q
theorem qts_nil : QTs X C W [] gYes := ⟨_, pts_nil, fun σ H Z ι Γ M Q sl hr h => h true H Z ι .refl hr rfl⟩
theorem qts_one {c : Expr} {g : GT} (h : QT X C W c g) : QTs X C W [c] g := let ⟨t, p, q⟩ := h; ⟨t, pts_one p, q⟩
theorem Post.blk {α β : Type} {X Y : Cx} {rp : RpK α β} {σ : St} {H Z : Hp} {ι : Nat → Addr} {M : List MO} {r : R α} {Q : β → Hp → Prop} (e : X.K = Y.K) (h : Post X C W rp σ H Z ι M r Q) : Post Y C W rp σ H Z ι M r Q := by
  cases r with
  | ok a M' =>
    intro b H' Z' ι' e' hr rb
    exact h b H' Z' ι' e' (by rw [e]; exact hr) rb
  | exc c d M' =>
    intro cls dd H' Z' ι' e' hr rb
    exact h cls dd H' Z' ι' e' (by rw [e]; exact hr) (by rw [e]; exact rb)
  | bad => exact h
theorem gLcL_run {cd : List MO → Prop} {gg : GG} {gt : GT} {ge : GE} {is own : List Nat} {σ : St} {Γ0 : Env} {fin : List D → List MO → R D} {Q : VK} {J : It} {p : Addr}
    {ds : List D} {H0 Z0 : Hp} {ι0 : Nat → Addr} {M0 : List MO} (hsub : ∀ i ∈ is, i ∈ own) (sl : Slots X.K Z0 ι0 M0.length Γ0 (wipe σ own)) (rJ : ItC cd X.K J ds Z0 ι0 M0.length) (cd0 : cd M0) (cdt : ∀ Γ M d M', gt Γ M = .ok d M' → cd M → cd M') (cde : ∀ Γ M d M', ge Γ M = .ok d M' → cd M → cd M') (hp0 : H0 p = none) (hr0 : HR X.K H0 Z0 ι0 M0)
    (h : Post X C W (rpE X.K) σ H0 Z0 ι0 M0 ((gLcL gg gt ge Γ0 ds [] M0).bind fin) Q)
    (hfin : ∀ (acc : List D) (accV : List V) (M : List MO) (H Z : Hp) (ι : Nat → Addr), Ext H0 Z0 ι0 M0.length H Z ι M.length → HR X.K H Z ι M → Odd Z ι M.length p → H p = some (.lst accV) → Rps X.K Z ι M.length acc accV → Post X C W (rpE X.K) σ H0 Z0 ι0 M0 (fin acc M) Q → Q (.ref p) H) :
    ∃ Wv : Nat → Nat → Hp → Prop, (∃ m, Wv 0 m (upd H0 p (.lst []))) ∧ ∀ i m H, Wv i m H →
      (J.stop i H ∧ Q (.ref p) H) ∨ (J.go i H ∧ ∃ Nx : Hp → Prop, (∀ H', Nx H' → ∃ m', m' < m ∧ Wv (i + 1) m' H') ∧ ∀ x H', J.yld i H x H' → liftG X.K gg is x (wipe σ own) H' fun σ2 H2 => wipe σ2 own = wipe σ own ∧ liftT X.K X C noW gt σ2 H2 fun b H3 =>
        if b = true then liftE X.K X C noW ge σ2 H3 fun y H4 => ∃ acc, H4 p = some (.lst acc) ∧ acc.length < sizeLine ∧ Nx (upd H4 p (.lst (acc ++ [y]))) else Nx H3) := by
  let Inv' : Nat → Hp → Prop := fun i H => ∃ (Z : Hp) (ι : Nat → Addr) (M : List MO) (acc : List D) (accV : List V), Ext H0 Z0 ι0 M0.length H Z ι M.length ∧ HR X.K H Z ι M ∧ Odd Z ι M.length p ∧ H p = some (.lst accV) ∧ Rps X.K Z ι M.length acc accV ∧ cd M ∧
    Post X C W (rpE X.K) σ H0 Z0 ι0 M0 ((gLcL gg gt ge Γ0 (ds.drop i) acc M).bind fin) Q
  have q0 : Odd Z0 ι0 M0.length p := .new hr0 hp0
  refine ⟨fun i m H => m = ds.length - i ∧ i ≤ ds.length ∧ Inv' i H, ⟨ds.length, rfl, Nat.zero_le _, Z0, ι0, M0, [], [], (Ext.refl).touch hp0, hr0.odd q0, q0, upd_same, .nil, cd0, h⟩, ?_⟩
  rintro i m H ⟨em, hle, Z, ι, M, acc, accV, e1, hr1, od, hp, ra, cdM, hpost⟩
  obtain ⟨hstop, hgo⟩ := rJ i H Z ι M e1.zz e1.ii e1.ln hr1 cdM
  by_cases hi : i < ds.length
  · refine .inr ?_
    have ed : ds.drop i = ds[i] :: ds.drop (i + 1) := List.drop_eq_getElem_cons hi
    obtain ⟨go, yl⟩ := hgo ds[i] (List.getElem?_eq_getElem hi)
    refine ⟨go, Inv' (i + 1), fun H' hN => ⟨ds.length - (i + 1), by omega, rfl, by omega, hN⟩, fun x H2 hy => ?_⟩
    obtain ⟨Z2, e2, hr2, rx⟩ := yl x H2 hy
    obtain ⟨od2, hp2⟩ := od.ext hp e2
    have e12 := e1.trans e2 hr1.ali
    rw [ed] at hpost
    cases eg : gg ds[i] Γ0 with
    | none =>
      have z : gLcL gg gt ge Γ0 (ds[i] :: ds.drop (i + 1)) acc M = .bad := by
        unfold gLcL
        rw [eg]
      rw [z] at hpost
      exact hpost.elim
    | some Γ1 =>
      have z : gLcL gg gt ge Γ0 (ds[i] :: ds.drop (i + 1)) acc M = ((gt Γ1 M).only fun k M1 => if k = true then (ge Γ1 M1).only fun y M2 => if acc.length < sizeLine then gLcL gg gt ge Γ0 (ds.drop (i + 1)) (acc ++ [y]) M2 else .bad
          else gLcL gg gt ge Γ0 (ds.drop (i + 1)) acc M1) := by
        conv => lhs; unfold gLcL
        rw [eg]
      rw [z] at hpost
      refine ⟨Z2, ι, M.length, ds[i], Γ0, Γ1, hr2.sub, sl.ext e12, rx, eg, fun σ2 s2 w2 => ⟨(w2 own hsub).trans (wipe_wipe own), Z2, ι, Γ1, M, s2, hr2, ?_⟩⟩
      cases et : gt Γ1 M with
      | bad => rw [et] at hpost; exact hpost.elim
      | exc c d M' => rw [et] at hpost; exact hpost.elim
      | ok k M3 =>
        rw [et] at hpost
        intro b H3 Z3 ι3 e3 hr3 hb
        have hb' : k = b := hb
        subst hb'
        obtain ⟨od3, hp3⟩ := od2.ext hp2 e3
        have e13 := e12.trans e3 hr2.ali
        have ra3 := (ra.ext e2).ext e3
        cases k with
        | false => exact ⟨Z3, ι3, M3, acc, accV, e13, hr3, od3, hp3, ra3, cdt _ _ _ _ et cdM, hpost⟩
        | true =>
          rw [if_pos rfl]
          refine ⟨Z3, ι3, Γ1, M3, s2.ext e3, hr3, ?_⟩
          have hpost2 : Post X C W (rpE X.K) σ H0 Z0 ι0 M0 (((ge Γ1 M3).only fun y M2 => if acc.length < sizeLine then gLcL gg gt ge Γ0 (ds.drop (i + 1)) (acc ++ [y]) M2 else .bad).bind fin) Q := hpost
          cases ee : ge Γ1 M3 with
          | bad => rw [ee] at hpost2; exact hpost2.elim
          | exc c d M' => rw [ee] at hpost2; exact hpost2.elim
          | ok y M4 =>
            rw [ee] at hpost2
            have hpost3 : Post X C W (rpE X.K) σ H0 Z0 ι0 M0 ((if acc.length < sizeLine then gLcL gg gt ge Γ0 (ds.drop (i + 1)) (acc ++ [y]) M4 else .bad).bind fin) Q := hpost2
            by_cases hz : acc.length < sizeLine
            · rw [if_pos hz] at hpost3
              intro v H4 Z4 ι4 e4 hr4 rv
              obtain ⟨od4, hp4⟩ := od3.ext hp3 e4
              have ra4 := ra3.ext e4
              exact ⟨accV, hp4, by rw [← ra4.length]; exact hz, Z4, ι4, M4, acc ++ [y], accV ++ [v], (e13.trans e4 hr3.ali).touch hp0, hr4.odd od4, od4, upd_same, ra4.append (.cons rv .nil), cde _ _ _ _ ee (cdt _ _ _ _ et cdM), hpost3⟩
            · rw [if_neg hz] at hpost3
              exact hpost3.elim
  · refine .inl ⟨hstop (by omega), ?_⟩
    rw [List.drop_eq_nil_of_le (Nat.le_of_not_lt hi)] at hpost
    exact hfin acc accV M H Z ι e1 hr1 od hp ra hpost

theorem lc_read {own : List Nat} {gi : GI} {gg : GG} {gt : GT} {ge : GE} {is : List Nat} {wi : TI} {fin : List D → List MO → R D}
    (qi : ∀ (σ : St) (H Z : Hp) (ι : Nat → Addr) (Γ : Env) (M : List MO) (Q : It → Hp → Prop), Slots X.K Z ι M.length Γ σ → HR X.K H Z ι M → Post X C W (rpI X.K) σ H Z ι M (gi Γ M) Q → wi σ H Q) (hsub : ∀ i ∈ is, i ∈ own)
    (hfin : ∀ (σ : St) (H0 Z0 : Hp) (ι0 : Nat → Addr) (M0 : List MO) (p : Addr) (Q : VK) (acc : List D) (accV : List V) (M : List MO) (H Z : Hp) (ι : Nat → Addr), H0 p = none → Ext H0 Z0 ι0 M0.length H Z ι M.length → HR X.K H Z ι M → Odd Z ι M.length p → H p = some (.lst accV) →
      Rps X.K Z ι M.length acc accV → Post X C W (rpE X.K) σ H0 Z0 ι0 M0 (fin acc M) Q → Q (.ref p) H)
    (σ : St) (H Z : Hp) (ι : Nat → Addr) (Γ : Env) (M : List MO) (Q : VK) (sl : Slots X.K Z ι M.length Γ σ) (hr : HR X.K H Z ι M)
    (h : Post X C W (rpE X.K) σ H Z ι M ((gi Γ M).bind fun ds M1 => (gLcL gg gt ge (forget Γ own) ds [] M1).bind fin) Q) :
    tLc wi (liftG X.K gg is) (liftT X.K X C noW gt) (liftE X.K X C noW ge) own σ H Q :=
  qi σ H Z ι Γ M _ sl hr (h.bind fun ds M1 J H1 Z1 ι1 e1 hr1 rJ h1 => fun p hp =>
    gLcL_run hsub (slots_wipe _ (sl.ext e1)) rJ trivial (fun _ _ _ _ _ _ => trivial) (fun _ _ _ _ _ _ => trivial) hp hr1 h1 fun acc accV M' H' Z' ι' a1 a2 a3 a4 a5 a6 => hfin σ H1 Z1 ι1 M1 p Q acc accV M' H' Z' ι' hp a1 a2 a3 a4 a5 a6)
theorem blk_g {tg : Expr} {scope : Scope} {gg : GG} {is : List Nat} (hg : Blk X scope fun Y => QG Y tg gg is) : Blk X scope fun Y => PG Y tg (liftG X.K gg is) := fun s H c cl fp => by
  obtain ⟨t, p, q⟩ := hg s H c cl fp
  exact ⟨fun pins s σ H v u Q I r h => p.run pins s σ H v u Q I r (let ⟨Z, ι, n, d, Γ, Γ', h1, h2, h3, h4, h5⟩ := h; q v σ H Z ι n d Γ Γ' Q h1 h2 h3 h4 h5)⟩
theorem blk_t {ifs : List Expr} {scope : Scope} {gt : GT} (ht : Blk X scope fun Y => QTs Y C noW ifs gt) : Blk X scope fun Y => PTs Y ifs (liftT X.K X C noW gt) := fun s H c cl fp => by
  obtain ⟨t, p, q⟩ := ht s H c cl fp
  exact ⟨fun pins s σ H Q I h => p.run pins s σ H Q I (let ⟨Z, ι, Γ, M, h1, h2, h3⟩ := h; q σ H Z ι Γ M Q h1 h2 (h3.blk rfl))⟩
theorem blk_e {elt : Expr} {scope : Scope} {ge : GE} (he : Blk X scope fun Y => QE Y C noW elt ge) : Blk X scope fun Y => PE Y elt (liftE X.K X C noW ge) := fun s H c cl fp => by
  obtain ⟨t, p, q⟩ := he s H c cl fp
  exact ⟨fun pins s σ H Q I h => p.run pins s σ H Q I (let ⟨Z, ι, Γ, M, h1, h2, h3⟩ := h; q σ H Z ι Γ M Q h1 h2 (h3.blk rfl))⟩
theorem fin_z {σ : St} {H0 Z0 : Hp} {ι0 : Nat → Addr} {M0 : List MO} {p : Addr} {Q : VK} {acc : List D} {accV : List V} {M : List MO} {H Z : Hp} {ι : Nat → Addr} (h0 : H0 p = none) (e : Ext H0 Z0 ι0 M0.length H Z ι M.length) (hr : HR X.K H Z ι M) (od : Odd Z ι M.length p) (hp : H p = some (.lst accV))
    (ra : Rps X.K Z ι M.length acc accV) (h : Post X C W (rpE X.K) σ H0 Z0 ι0 M0 (.ok (.lst acc) M) Q) : Q (.ref p) H :=
  h _ H _ ι (e.adoptZ od.z h0) (hr.adoptZ od hp) (.lst (.inl (.inl upd_same)) (Rps.mono (fun a u q => by rw [upd_ne (ne_of_none q od.z)]; exact q) (fun _ _ => rfl) (Nat.le_refl _) _ _ ra))
theorem fin_m {σ : St} {H0 Z0 : Hp} {ι0 : Nat → Addr} {M0 : List MO} {p : Addr} {Q : VK} {acc : List D} {accV : List V} {M : List MO} {H Z : Hp} {ι : Nat → Addr} (h0 : H0 p = none) (e : Ext H0 Z0 ι0 M0.length H Z ι M.length) (hr : HR X.K H Z ι M) (od : Odd Z ι M.length p) (hp : H p = some (.lst accV))
    (ra : Rps X.K Z ι M.length acc accV) (h : Post X C W (rpE X.K) σ H0 Z0 ι0 M0 (.ok (.ref M.length) (M ++ [.lst acc])) Q) : Q (.ref p) H := by
  have q : Rp X.K Z (put ι M.length p) (M ++ [MO.lst acc]).length (.ref M.length) (.ref (put ι M.length p M.length)) := .ref (by simp)
  rw [put_at] at q
  exact h _ H Z _ (e.adoptM h0) (hr.adoptM od hp ra) q
section
variable {elt tg iter : Expr} {ifs : List Expr} {scope : Scope} {own : List (Str × Nat)} {pos spos py : Pos} {gi : GI} {gg : GG} {gt : GT} {ge : GE} {is ixs : List Nat}
theorem qe_lc (hc : X.calm = true) (hN : X.N.Nodup) (hi : QI X C W tg iter gi) (ok : BlkOk X.N X.env.scope scope own)
    (hg : Blk X scope fun Y => QG Y tg gg is) (ht : Blk X scope fun Y => QTs Y C noW ifs gt) (he : Blk X scope fun Y => QE Y C noW elt ge) (hix : ixs = own.map (·.2) := by rfl) (hsub : ∀ i ∈ is, i ∈ own.map (·.2) := by decide) (hs : ∀ x, foldedSetIterable iter X.env x = pure x := by intro _; rfl) :
    QE X C W (.ListComp elt [⟨tg, iter, ifs, 0⟩] scope pos) (gLc gi gg gt ge ixs) := by
  subst hix
  obtain ⟨wi, pi, qi⟩ := hi
  exact ⟨_, pe_lc hc hN pi ok (blk_g hg) (blk_t ht) (blk_e he) hs, lc_read qi hsub fun σ H0 Z0 ι0 M0 p Q acc accV M H Z ι h0 e hr od hp ra h => fin_z h0 e hr od hp ra h⟩
theorem qe_lcO (hc : X.calm = true) (hN : X.N.Nodup) (hi : QI X C W tg iter gi) (ok : BlkOk X.N X.env.scope scope own)
    (hg : Blk X scope fun Y => QG Y tg gg is) (ht : Blk X scope fun Y => QTs Y C noW ifs gt) (he : Blk X scope fun Y => QE Y C noW elt ge) (hix : ixs = own.map (·.2) := by rfl) (hsub : ∀ i ∈ is, i ∈ own.map (·.2) := by decide) (hs : ∀ x, foldedSetIterable iter X.env x = pure x := by intro _; rfl) :
    QE X C W (.ListComp elt [⟨tg, iter, ifs, 0⟩] scope pos) (gLcO gi gg gt ge ixs) := by
  subst hix
  obtain ⟨wi, pi, qi⟩ := hi
  exact ⟨_, pe_lc hc hN pi ok (blk_g hg) (blk_t ht) (blk_e he) hs, lc_read qi hsub fun σ H0 Z0 ι0 M0 p Q acc accV M H Z ι h0 e hr od hp ra h => fin_m h0 e hr od hp ra h⟩
/-- y = [..]: the model stores the list within the comprehension -/
theorem qs_lc {i : Nat} {y : Str} (hc : X.calm = true) (hN : X.N.Nodup) (hy : X.N[i]? = some y) (hyl : X.env.scope.names.lookup y = some .local) (hsw : swapsWith (.ListComp elt [⟨tg, iter, ifs, 0⟩] scope pos) (some (.Name y py)) spos.line X.env = pure true)
    (hi : QI X C W tg iter gi) (ok : BlkOk X.N X.env.scope scope own) (hg : Blk X scope fun Y => QG Y tg gg is) (ht : Blk X scope fun Y => QTs Y C noW ifs gt) (he : Blk X scope fun Y => QE Y C noW elt ge)
    (hix : ixs = own.map (·.2) := by rfl) (hsub : ∀ i ∈ is, i ∈ own.map (·.2) := by decide) (hs : ∀ x, foldedSetIterable iter X.env x = pure x := by intro _; rfl) : QS X C W (.Assign [.Name y py] (.ListComp elt [⟨tg, iter, ifs, 0⟩] scope pos) spos) (gAsg (gLc gi gg gt ge ixs) (gTo i)) := by
  subst hix
  obtain ⟨wi, pi, qi⟩ := hi
  refine ⟨_, ps_setLc hc hN hy hyl hsw pi ok (blk_g hg) (blk_t ht) (blk_e he) hs, fun Dd σ H Z ι Γ M sl hr h => ?_⟩
  refine lc_read qi hsub (fin := fun acc M2 => .ok (.lst acc) M2) (fun σ H0 Z0 ι0 M0 p Q acc accV M H Z ι h0 e hr od hp ra h => fin_z h0 e hr od hp ra h) σ H Z ι Γ M _ sl hr (PostS.bind (Γ := Γ) h sl fun x M1 v H1 Z1 ι1 e1 hr1 r1 h1 => ?_)
  exact h1 _ H1 Z1 ι1 .refl hr1 ((sl.ext e1).set i r1)
theorem qs_lcO {i : Nat} {y : Str} (hc : X.calm = true) (hN : X.N.Nodup) (hy : X.N[i]? = some y) (hyl : X.env.scope.names.lookup y = some .local) (hsw : swapsWith (.ListComp elt [⟨tg, iter, ifs, 0⟩] scope pos) (some (.Name y py)) spos.line X.env = pure true)
    (hi : QI X C W tg iter gi) (ok : BlkOk X.N X.env.scope scope own) (hg : Blk X scope fun Y => QG Y tg gg is) (ht : Blk X scope fun Y => QTs Y C noW ifs gt) (he : Blk X scope fun Y => QE Y C noW elt ge)
    (hix : ixs = own.map (·.2) := by rfl) (hsub : ∀ i ∈ is, i ∈ own.map (·.2) := by decide) (hs : ∀ x, foldedSetIterable iter X.env x = pure x := by intro _; rfl) : QS X C W (.Assign [.Name y py] (.ListComp elt [⟨tg, iter, ifs, 0⟩] scope pos) spos) (gAsg (gLcO gi gg gt ge ixs) (gTo i)) := by
  subst hix
  obtain ⟨wi, pi, qi⟩ := hi
  refine ⟨_, ps_setLc hc hN hy hyl hsw pi ok (blk_g hg) (blk_t ht) (blk_e he) hs, fun Dd σ H Z ι Γ M sl hr h => ?_⟩
  refine lc_read qi hsub (fin := fun acc M2 => .ok (.ref M2.length) (M2 ++ [MO.lst acc])) (fun σ H0 Z0 ι0 M0 p Q acc accV M H Z ι h0 e hr od hp ra h => fin_m h0 e hr od hp ra h) σ H Z ι Γ M _ sl hr (PostS.bind (Γ := Γ) h sl fun x M1 v H1 Z1 ι1 e1 hr1 r1 h1 => ?_)
  exact h1 _ H1 Z1 ι1 .refl hr1 ((sl.ext e1).set i r1)
end
end
end Bk

set_option Elab.async false
set_option linter.all false
set_option maxRecDepth 100000
set_option maxHeartbeats 2000000
namespace Bk
open PySem PySem.Spec PyProof.Rows L2

/-! ### calls: what of ours is handed over is lent, and comes back changed -/
/-- the arguments as the callee sees them, and which things of ours are lent -/
def lendA : Nat → List D → List D
  | _, [] => []
  | m, .ref _ :: r => .ref m :: lendA (m + 1) r
  | m, d :: r => d :: lendA m r
def lendK : List D → List Nat
  | [] => []
  | .ref k :: r => k :: lendK r
  | _ :: r => lendK r
def getAll (M : List MO) : List Nat → Option (List MO)
  | [] => some []
  | k :: ks => match M[k]?, getAll M ks with
    | some o, some os => some (o :: os)
    | _, _ => none
def setAll (M : List MO) : List Nat → List MO → List MO
  | k :: ks, o :: os => setAll (M.set k o) ks os
  | _, _ => M
def isDead : MO → Bool
  | .dead => true
  | _ => false
/-- no refs but at the top -/
def flatArgs : List D → Bool
  | [] => true
  | .ref _ :: r => flatArgs r
  | d :: r => below 0 d && flatArgs r
def lentOk (os : List MO) : Bool := os.all fun o => !isDead o && belowO 0 o
def backD (ks : List Nat) (n : Nat) : D → Option D
  | .ref j => if j < ks.length then (ks[j]?).map D.ref else some (.ref (n + (j - ks.length)))
  | d => if below 0 d = true then some d else none
/-- nothing is lent: nothing comes back -/
def callF (F : List D → List MO → R D) (ds : List D) (M : List MO) : R D := match getAll M (lendK ds) with
  | none => .bad
  | some os => if (lendK ds).Nodup ∧ flatArgs ds = true ∧ lentOk os = true then
      match F (lendA 0 ds) os with
      | .ok d os' => if (lendK ds).length ≤ os'.length ∧ os'.all (belowO 0) = true then
          match backD (lendK ds) M.length d with
          | some d' => .ok d' (setAll M (lendK ds) os' ++ os'.drop (lendK ds).length)
          | none => .bad
        else .bad
      | .exc c d os' => if (lendK ds).length ≤ os'.length ∧ os'.all (belowO 0) = true ∧ below 0 d = true then .exc c d (setAll M (lendK ds) os' ++ os'.drop (lendK ds).length) else .bad
      | .bad => .bad
    else .bad
def gCallF (n : Nat) (F : List D → List MO → R D) (ga : GA) : GE := fun Γ M => (ga Γ M).bind fun ds M1 => if ds.length = n then callF F ds M1 else .bad
/-- positional values, then the keywords' values, in the parameters' order -/
def pick {α : Type} (l : List α) : List Nat → List α
  | [] => []
  | i :: is => match l[i]? with
    | some a => a :: pick l is
    | none => pick l is
def gCallK (n : Nat) (F : List D → List MO → R D) (is : List Nat) (ga gk : GA) : GE := fun Γ M => (ga Γ M).bind fun ds M1 => (gk Γ M1).bind fun es M2 => if (pick (ds ++ es) is).length = n then callF F (pick (ds ++ es) is) M2 else .bad

section
variable {K : PySem.W.Frag} {Z : Hp} {ι : Nat → Addr} {n : Nat}
/-- which address stands for which lent thing -/
def lentι (ι : Nat → Addr) (ks : List Nat) : Nat → Addr := fun j => ι (ks.getD j 0)
theorem lend_rps : ∀ (ds : List D) (vs : List V) (pre : List Nat), flatArgs ds = true → Rps K Z ι n ds vs → Rps K Z (lentι ι (pre ++ lendK ds)) (pre ++ lendK ds).length (lendA pre.length ds) vs
  | [], _, _, _, h => by cases h; exact .nil
  | .ref k :: r, _, pre, hf, h => by
    cases h with
    | cons r1 rs =>
      cases r1 with
      | ref hk =>
        have ih := lend_rps r _ (pre ++ [k]) (by simpa [flatArgs] using hf) rs
        have e : pre ++ [k] ++ lendK r = pre ++ lendK (.ref k :: r) := by simp [lendK]
        rw [e] at ih
        have el : (pre ++ [k]).length = pre.length + 1 := by simp
        rw [el] at ih
        refine .cons ?_ ih
        have q : Rp K Z (lentι ι (pre ++ lendK (.ref k :: r))) (pre ++ lendK (.ref k :: r)).length (.ref pre.length) (.ref (lentι ι (pre ++ lendK (.ref k :: r)) pre.length)) := .ref (by simp [lendK])
        have ek : lentι ι (pre ++ lendK (.ref k :: r)) pre.length = ι k := by
          unfold lentι
          congr 1
          simp [lendK]
        rw [ek] at q
        exact q
  | .non :: r, _, pre, hf, h => by
    cases h with
    | cons r1 rs =>
      cases r1
      exact .cons .non (lend_rps r _ pre (by simpa [flatArgs, below] using hf) rs)
  | .bl b :: r, _, pre, hf, h => by
    cases h with
    | cons r1 rs =>
      cases r1
      exact .cons (.bl b) (lend_rps r _ pre (by simpa [flatArgs, below] using hf) rs)
  | .int i :: r, _, pre, hf, h => by
    cases h with
    | cons r1 rs =>
      cases r1
      exact .cons (.int i) (lend_rps r _ pre (by simpa [flatArgs, below] using hf) rs)
  | .str x :: r, _, pre, hf, h => by
    cases h with
    | cons r1 rs =>
      cases r1
      exact .cons (.str x) (lend_rps r _ pre (by simpa [flatArgs, below] using hf) rs)
  | .tup ds :: r, _, pre, hf, h => by
    cases h with
    | cons r1 rs =>
      have hf' : below 0 (.tup ds) = true ∧ flatArgs r = true := by simpa [flatArgs] using hf
      exact .cons (Rp.mono (fun _ _ z => z) (fun k hk => absurd hk (Nat.not_lt_zero _)) (Nat.zero_le _) _ _ (r1.shrink _ _ hf'.1)) (lend_rps r _ pre hf'.2 rs)
  | .lst ds :: r, _, pre, hf, h => by
    cases h with
    | cons r1 rs =>
      have hf' : below 0 (.lst ds) = true ∧ flatArgs r = true := by simpa [flatArgs] using hf
      exact .cons (Rp.mono (fun _ _ z => z) (fun k hk => absurd hk (Nat.not_lt_zero _)) (Nat.zero_le _) _ _ (r1.shrink _ _ hf'.1)) (lend_rps r _ pre hf'.2 rs)
theorem getAll_at {M : List MO} : ∀ {ks : List Nat} {os : List MO}, getAll M ks = some os → os.length = ks.length ∧ ∀ (j : Nat) (o : MO), os[j]? = some o → ∃ k, ks[j]? = some k ∧ M[k]? = some o
  | [], os, h => by
    cases h
    exact ⟨rfl, fun j o e => by simp at e⟩
  | k :: ks, os, h => by
    unfold getAll at h
    cases e1 : M[k]? with
    | none => rw [e1] at h; simp at h
    | some o =>
      cases e2 : getAll M ks with
      | none => rw [e1, e2] at h; simp at h
      | some os' =>
        rw [e1, e2] at h
        cases h
        obtain ⟨l, f⟩ := getAll_at e2
        refine ⟨by simp [l], fun j o' e => ?_⟩
        cases j with
        | zero =>
          simp at e
          subst e
          exact ⟨k, rfl, e1⟩
        | succ j =>
          obtain ⟨k', h1, h2⟩ := f j o' (by simpa using e)
          exact ⟨k', by simpa using h1, h2⟩
theorem setAll_length : ∀ (ks : List Nat) (os : List MO) (M : List MO), (setAll M ks os).length = M.length
  | [], _, _ => by simp [setAll]
  | _ :: _, [], _ => by simp [setAll]
  | k :: ks, o :: os, M => by
    show (setAll (M.set k o) ks os).length = _
    rw [setAll_length ks os, List.length_set]
/-- what stands where, behind -/
theorem setAll_at : ∀ (ks : List Nat) (os : List MO) (M : List MO) (k : Nat) (o : MO), ks.Nodup → ks.length ≤ os.length → (setAll M ks os)[k]? = some o → (k ∉ ks ∧ M[k]? = some o) ∨ ∃ j : Nat, j < ks.length ∧ ks[j]? = some k ∧ os[j]? = some o
  | [], _, M, k, o, _, _, h => .inl ⟨by simp, by simpa [setAll] using h⟩
  | _ :: _, [], _, _, _, _, hl, _ => by simp at hl
  | k0 :: ks, o0 :: os, M, k, o, nd, hl, h => by
    have nd' := List.nodup_cons.mp nd
    rcases setAll_at ks os (M.set k0 o0) k o nd'.2 (by simpa using hl) h with ⟨h1, h2⟩ | ⟨j, h1, h2, h3⟩
    · by_cases e : k0 = k
      · subst e
        have lt : k0 < M.length := by
          have := (List.getElem?_eq_some_iff.mp h2).1
          rw [List.length_set] at this
          exact this
        rw [List.getElem?_set_self lt] at h2
        exact .inr ⟨0, by simp, rfl, by simpa using h2⟩
      · rw [List.getElem?_set_ne e] at h2
        exact .inl ⟨by simp only [List.mem_cons, not_or]; exact ⟨fun z => e z.symm, h1⟩, h2⟩
    · exact .inr ⟨j + 1, by simp; omega, by simpa using h2, by simpa using h3⟩
end
/-- the things that are lent, as the callee has them -/
theorem HR.lend {K : PySem.W.Frag} {H Z : Hp} {ι : Nat → Addr} {M os : List MO} {ks : List Nat} (h : HR K H Z ι M) (nd : ks.Nodup) (g : getAll M ks = some os) (lo : lentOk os = true) : HR K H Z (lentι ι ks) os := by
  obtain ⟨l, f⟩ := getAll_at g
  have at_ : ∀ {j k : Nat}, ks[j]? = some k → lentι ι ks j = ι k := fun {j k} e => by
    unfold lentι
    rw [List.getD_eq_getElem?_getD, e]
    rfl
  have ok : ∀ {j : Nat} {o : MO}, os[j]? = some o → belowO 0 o = true ∧ o ≠ .dead := fun {j o} e => by
    have q := List.all_eq_true.mp lo o (List.mem_of_getElem? e)
    simp only [Bool.and_eq_true, Bool.not_eq_true'] at q
    exact ⟨q.2, fun z => by rw [z] at q; exact absurd q.1 (by simp [isDead])⟩
  refine ⟨h.sub, fun j hj => ?_, fun j o e d => ?_, fun i j o u e1 e2 d1 d2 e => ?_, fun j o e => ?_, fun j e => absurd rfl (ok e).2⟩
  · obtain ⟨k, h1, h2⟩ := f j os[j] (List.getElem?_eq_getElem hj)
    rw [at_ h1]
    exact h.ali k (List.getElem?_eq_some_iff.mp h2).1
  · obtain ⟨k, h1, h2⟩ := f j o e
    rw [at_ h1]
    exact h.sep k o h2 d
  · obtain ⟨k1, a1, b1⟩ := f i o e1
    obtain ⟨k2, a2, b2⟩ := f j u e2
    rw [at_ a1, at_ a2] at e
    have ek := h.inj k1 k2 o u b1 b2 d1 d2 e
    subst ek
    obtain ⟨i1, i2⟩ := List.getElem?_eq_some_iff.mp a1
    obtain ⟨j1, j2⟩ := List.getElem?_eq_some_iff.mp a2
    exact (List.getElem_inj nd).mp (i2.trans j2.symm)
  · obtain ⟨k, h1, h2⟩ := f j o e
    rw [at_ h1]
    have q := h.obj k o h2
    have b := (ok e).1
    cases o with
    | dead => trivial
    | lst ds =>
      obtain ⟨xs, e1, r⟩ := q
      exact ⟨xs, e1, Rps.mono (fun _ _ z => z) (fun _ z => absurd z (Nat.not_lt_zero _)) (Nat.zero_le _) _ _ (Rps.shrink _ _ r b)⟩
    | obj nm fs =>
      obtain ⟨C, dx, gs, e0, e1, e2, r⟩ := q
      exact ⟨C, dx, gs, e0, e1, e2, Rps.mono (fun _ _ z => z) (fun _ z => absurd z (Nat.not_lt_zero _)) (Nat.zero_le _) _ _ (Rps.shrink _ _ r b)⟩
/-- where everything stands behind a call -/
def backι (ι ι' : Nat → Addr) (n m : Nat) : Nat → Addr := fun k => if k < n then ι k else ι' (m + (k - n))
theorem HR.back {K : PySem.W.Frag} {H Z H' Z' : Hp} {ι ι' : Nat → Addr} {M os os' : List MO} {ks : List Nat} (h : HR K H Z ι M) (nd : ks.Nodup) (g : getAll M ks = some os) (lo : lentOk os = true) (e : Ext H Z (lentι ι ks) os.length H' Z' ι' os'.length) (h' : HR K H' Z' ι' os')
    (hl : ks.length ≤ os'.length) (hb : os'.all (belowO 0) = true) :
    HR K H' Z' (backι ι ι' M.length ks.length) (setAll M ks os' ++ os'.drop ks.length) ∧ Ext H Z ι M.length H' Z' (backι ι ι' M.length ks.length) (setAll M ks os' ++ os'.drop ks.length).length := by
  obtain ⟨l, f⟩ := getAll_at g
  have ln : (setAll M ks os' ++ os'.drop ks.length).length = M.length + (os'.length - ks.length) := by rw [List.length_append, setAll_length, List.length_drop]
  have bl : ∀ {k : Nat}, k < M.length → backι ι ι' M.length ks.length k = ι k := fun hk => if_pos hk
  have bn : ∀ {k : Nat}, ¬ k < M.length → backι ι ι' M.length ks.length k = ι' (ks.length + (k - M.length)) := fun hk => if_neg hk
  have at_ : ∀ {j k : Nat}, ks[j]? = some k → lentι ι ks j = ι k := fun {j k} e => by
    unfold lentι
    rw [List.getD_eq_getElem?_getD, e]
    rfl
  have at' : ∀ {j k : Nat}, ks[j]? = some k → ι' j = ι k := fun {j k} z => (e.ii j (by rw [l]; exact (List.getElem?_eq_some_iff.mp z).1)).trans (at_ z)
  have cs : ∀ {k : Nat} {o : MO}, (setAll M ks os' ++ os'.drop ks.length)[k]? = some o → (k < M.length ∧ k ∉ ks ∧ M[k]? = some o) ∨ (k < M.length ∧ ∃ j : Nat, ks[j]? = some k ∧ os'[j]? = some o) ∨ (¬ k < M.length ∧ os'[ks.length + (k - M.length)]? = some o) := fun {k o} z => by
    by_cases hk : k < M.length
    · rw [List.getElem?_append_left (by rw [setAll_length]; exact hk)] at z
      rcases setAll_at ks os' M k o nd hl z with ⟨h1, h2⟩ | ⟨j, _, h2, h3⟩
      · exact .inl ⟨hk, h1, h2⟩
      · exact .inr (.inl ⟨hk, j, h2, h3⟩)
    · rw [List.getElem?_append_right (by rw [setAll_length]; exact Nat.le_of_not_lt hk), setAll_length, List.getElem?_drop] at z
      exact .inr (.inr ⟨hk, z⟩)
  have dd : ∀ {j : Nat} {o : MO}, os[j]? = some o → o ≠ .dead := fun {j o} e => by
    have q := List.all_eq_true.mp lo o (List.mem_of_getElem? e)
    simp only [Bool.and_eq_true, Bool.not_eq_true'] at q
    exact fun z => by rw [z] at q; exact absurd q.1 (by simp [isDead])
  -- a live thing that was not lent stands apart from all that were
  have apart : ∀ {k j : Nat} {o : MO}, k ∉ ks → M[k]? = some o → o ≠ .dead → j < os.length → ι k ≠ lentι ι ks j := fun {k j o} hk ho hd hj z => by
    obtain ⟨k', h1, h2⟩ := f j os[j] (List.getElem?_eq_getElem hj)
    rw [at_ h1] at z
    have ek := h.inj k k' o os[j] ho h2 hd (dd (List.getElem?_eq_getElem hj)) z
    subst ek
    exact hk (List.mem_of_getElem? h1)
  have old : ∀ {k : Nat}, k < M.length → ∃ u, H (ι k) = some u := fun hk => h.ali _ hk
  have nw : ∀ {k j : Nat}, k < M.length → os.length ≤ j → j < os'.length → ι k ≠ ι' j := fun {k j} hk h1 h2 z => by
    obtain ⟨u, hu⟩ := old hk
    have w := e.nw j h1 h2
    rw [← z, hu] at w
    cases w
  refine ⟨⟨h'.sub, fun k hk => ?_, fun k o z d => ?_, fun a b o u z1 z2 d1 d2 z => ?_, fun k o z => ?_, fun k z => ?_⟩, e.zz, fun k hk => bl hk, fun a o h1 h2 => e.fr a o h1 fun j hj z => ?_, fun k h1 h2 => ?_, by rw [ln]; omega, fun a o z => ?_⟩
  · by_cases hk' : k < M.length
    · rw [bl hk']
      obtain ⟨u, hu⟩ := old hk'
      by_cases z : ∃ j, j < os.length ∧ ι k = lentι ι ks j
      · obtain ⟨j, hj, z⟩ := z
        rw [z, ← e.ii j hj]
        exact h'.ali j (Nat.lt_of_lt_of_le hj e.ln)
      · exact ⟨u, e.fr _ _ hu fun j hj q => z ⟨j, hj, q⟩⟩
    · rw [bn hk']
      rw [ln] at hk
      exact h'.ali _ (by omega)
  · rcases cs z with ⟨hk, hn, ho⟩ | ⟨hk, j, hj, ho⟩ | ⟨hk, ho⟩
    · rw [bl hk]
      cases q : Z' (ι k) with
      | none => rfl
      | some w =>
        rcases e.zn _ _ q with a | a | ⟨j, hj, a⟩
        · rw [h.sep k o ho d] at a; cases a
        · obtain ⟨u, hu⟩ := old hk
          rw [hu] at a; cases a
        · exact absurd a (apart hn ho d hj)
    · rw [bl hk, ← at' hj]
      exact h'.sep j o ho d
    · rw [bn hk]
      exact h'.sep _ o ho d
  · rcases cs z1 with ⟨ha, hn, ho⟩ | ⟨ha, i, hi, ho⟩ | ⟨ha, ho⟩ <;> rcases cs z2 with ⟨hb', hn', hu⟩ | ⟨hb', j, hj, hu⟩ | ⟨hb', hu⟩
    · rw [bl ha, bl hb'] at z
      exact h.inj a b o u ho hu d1 d2 z
    · rw [bl ha, bl hb'] at z
      exact absurd (z.trans (at_ hj).symm) (apart hn ho d1 (by rw [l]; exact (List.getElem?_eq_some_iff.mp hj).1))
    · rw [bl ha, bn hb'] at z
      exact absurd z (nw ha (by rw [l]; omega) (List.getElem?_eq_some_iff.mp hu).1)
    · rw [bl ha, bl hb'] at z
      exact absurd (z.symm.trans (at_ hi).symm) (apart hn' hu d2 (by rw [l]; exact (List.getElem?_eq_some_iff.mp hi).1))
    · rw [bl ha, bl hb', ← at' hi, ← at' hj] at z
      have ij := h'.inj i j o u ho hu d1 d2 z
      subst ij
      rw [hi] at hj
      exact Option.some.inj hj
    · rw [bl ha, bn hb', ← at' hi] at z
      have ij := h'.inj i _ o u ho hu d1 d2 z
      have := (List.getElem?_eq_some_iff.mp hi).1
      omega
    · rw [bn ha, bl hb'] at z
      exact absurd z.symm (nw hb' (by rw [l]; omega) (List.getElem?_eq_some_iff.mp ho).1)
    · rw [bn ha, bl hb', ← at' hj] at z
      have ij := h'.inj _ j o u ho hu d1 d2 z
      have := (List.getElem?_eq_some_iff.mp hj).1
      omega
    · rw [bn ha, bn hb'] at z
      have ij := h'.inj _ _ o u ho hu d1 d2 z
      omega
  · have low : ∀ {j : Nat} {ds : List D}, os'[j]? = some (.lst ds) → belows 0 ds = true := fun q => List.all_eq_true.mp hb _ (List.mem_of_getElem? q)
    have lowO : ∀ {j : Nat} {nm : Str} {fs : List (Str × D)}, os'[j]? = some (.obj nm fs) → belows 0 (fs.map (·.2)) = true := fun q => List.all_eq_true.mp hb _ (List.mem_of_getElem? q)
    rcases cs z with ⟨hk, hn, ho⟩ | ⟨hk, j, hj, ho⟩ | ⟨hk, ho⟩
    · rw [bl hk]
      have q := h.obj k o ho
      cases o with
      | dead => trivial
      | lst ds =>
        obtain ⟨xs, e1, r⟩ := q
        exact ⟨xs, e.fr _ _ e1 fun j hj => apart hn ho (by simp) hj, Rps.mono e.zz (fun k hk => bl hk) (by rw [ln]; omega) _ _ r⟩
      | obj nm fs =>
        obtain ⟨C, dx, gs, e0, e1, e2, r⟩ := q
        exact ⟨C, dx, gs, e0, e.fr _ _ e1 fun j hj => apart hn ho (by simp) hj, e2, Rps.mono e.zz (fun k hk => bl hk) (by rw [ln]; omega) _ _ r⟩
    · rw [bl hk, ← at' hj]
      have q := h'.obj j o ho
      cases o with
      | dead => trivial
      | lst ds =>
        obtain ⟨xs, e1, r⟩ := q
        exact ⟨xs, e1, Rps.mono (fun _ _ z => z) (fun _ z => absurd z (Nat.not_lt_zero _)) (Nat.zero_le _) _ _ (Rps.shrink _ _ r (low ho))⟩
      | obj nm fs =>
        obtain ⟨C, dx, gs, e0, e1, e2, r⟩ := q
        exact ⟨C, dx, gs, e0, e1, e2, Rps.mono (fun _ _ z => z) (fun _ z => absurd z (Nat.not_lt_zero _)) (Nat.zero_le _) _ _ (Rps.shrink _ _ r (lowO ho))⟩
    · rw [bn hk]
      have q := h'.obj _ o ho
      cases o with
      | dead => trivial
      | lst ds =>
        obtain ⟨xs, e1, r⟩ := q
        exact ⟨xs, e1, Rps.mono (fun _ _ z => z) (fun _ z => absurd z (Nat.not_lt_zero _)) (Nat.zero_le _) _ _ (Rps.shrink _ _ r (low ho))⟩
      | obj nm fs =>
        obtain ⟨C, dx, gs, e0, e1, e2, r⟩ := q
        exact ⟨C, dx, gs, e0, e1, e2, Rps.mono (fun _ _ z => z) (fun _ z => absurd z (Nat.not_lt_zero _)) (Nat.zero_le _) _ _ (Rps.shrink _ _ r (lowO ho))⟩
  · rcases cs z with ⟨hk, _, ho⟩ | ⟨hk, j, hj, ho⟩ | ⟨hk, ho⟩
    · rw [bl hk]
      obtain ⟨u, hu⟩ := h.ded k ho
      exact ⟨u, e.zz _ _ hu⟩
    · rw [bl hk, ← at' hj]
      exact h'.ded j ho
    · rw [bn hk]
      exact h'.ded _ ho
  · obtain ⟨k, q1, q2⟩ := f j os[j] (List.getElem?_eq_getElem hj)
    rw [at_ q1] at z
    exact h2 k (List.getElem?_eq_some_iff.mp q2).1 z
  · rw [bn (Nat.not_lt.mpr h1)]
    rw [ln] at h2
    exact e.nw _ (by rw [l]; omega) (by omega)
  · rcases e.zn a o z with q | q | ⟨j, hj, q⟩
    · exact .inl q
    · exact .inr (.inl q)
    · obtain ⟨k, q1, q2⟩ := f j os[j] (List.getElem?_eq_getElem hj)
      rw [at_ q1] at q
      exact .inr (.inr ⟨k, (List.getElem?_eq_some_iff.mp q2).1, q⟩)
theorem backD_rp {K : PySem.W.Frag} {Z' : Hp} {ι ι' : Nat → Addr} {ks : List Nat} {n m N : Nat} {d d' : D} {v : V} (hk : ∀ k ∈ ks, k < n) (hi : ∀ (j k : Nat), ks[j]? = some k → ι' j = ι k) (hN : n + (m - ks.length) ≤ N) (r : Rp K Z' ι' m d v) (h : backD ks n d = some d') :
    Rp K Z' (backι ι ι' n ks.length) N d' v := by
  have flat : ∀ {d : D}, below 0 d = true → Rp K Z' ι' m d v → Rp K Z' (backι ι ι' n ks.length) N d v := fun b r => Rp.mono (fun _ _ z => z) (fun _ z => absurd z (Nat.not_lt_zero _)) (Nat.zero_le _) _ _ (r.shrink _ _ b)
  cases r with
  | ref hj =>
    rename_i j
    have h' : (if j < ks.length then (ks[j]?).map D.ref else some (.ref (n + (j - ks.length)))) = some d' := h
    by_cases hl : j < ks.length
    · rw [if_pos hl, List.getElem?_eq_getElem hl] at h'
      cases h'
      have hk' := hk _ (List.getElem_mem hl)
      have q : Rp K Z' (backι ι ι' n ks.length) N (.ref ks[j]) (.ref (backι ι ι' n ks.length ks[j])) := .ref (by omega)
      rw [show backι ι ι' n ks.length ks[j] = ι' j by unfold backι; rw [if_pos hk']; exact (hi j _ (List.getElem?_eq_getElem hl)).symm] at q
      exact q
    · rw [if_neg hl] at h'
      cases h'
      have q : Rp K Z' (backι ι ι' n ks.length) N (.ref (n + (j - ks.length))) (.ref (backι ι ι' n ks.length (n + (j - ks.length)))) := .ref (by omega)
      rw [show backι ι ι' n ks.length (n + (j - ks.length)) = ι' j by unfold backι; rw [if_neg (by omega)]; congr 1; omega] at q
      exact q
  | non => cases h; exact .non
  | bl b => cases h; exact .bl b
  | int i => cases h; exact .int i
  | str x => cases h; exact .str x
  | tup s r =>
    rename_i ds a xs
    have h' : (if below 0 (.tup ds) = true then some (D.tup ds) else none) = some d' := h
    by_cases b : below 0 (.tup ds) = true
    · rw [if_pos b] at h'
      cases h'
      exact flat b (.tup s r)
    · rw [if_neg b] at h'
      cases h'
  | lst s r =>
    rename_i ds a xs
    have h' : (if below 0 (.lst ds) = true then some (D.lst ds) else none) = some d' := h
    by_cases b : below 0 (.lst ds) = true
    · rw [if_pos b] at h'
      cases h'
      exact flat b (.lst s r)
    · rw [if_neg b] at h'
      cases h'
end Bk

set_option Elab.async false
set_option linter.all false
set_option maxRecDepth 100000
set_option maxHeartbeats 2000000
namespace Bk
open PySem PySem.Spec PyProof.Rows L2

/-! ### defs -/
def PostF (K : PySem.W.Frag) (C : CT) (E : XK) (H Z : Hp) (ι : Nat → Addr) (M : List MO) (r : R D) (Q : VK) : Prop := match r with
  | .ok d M' => ∀ (v : V) (H' Z' : Hp) (ι' : Nat → Addr), Ext H Z ι M.length H' Z' ι' M'.length → HR K H' Z' ι' M' → Rp K Z' ι' M'.length d v → Q v H'
  | .exc c d M' => ∀ (cls : Value) (dd : Option Addr) (H' Z' : Hp) (ι' : Nat → Addr), Ext H Z ι M.length H' Z' ι' M'.length → HR K H' Z' ι' M' → ExcR K C H' Z' ι' M'.length c d cls dd → E cls dd H'
  | .bad => False
/-- the def at f computes F, by at most k calls one in another -/
structure FnQ (P : Program) (w : World) (K : PySem.W.Frag) (mg : Str → Option Value) (base : Heap) (C : CT) (k : Nat) (f : Addr) (fd : FuncData) (ps : List Str) (F : List D → List MO → R D) : Prop where
  run : ∀ (A : Around) (outer : List PySem.Env) (s : Shared) (H : Hp) (args : Args) (us : List Value) (vs : List V) (Q : VK) (E : XK) (ds : List D) (Z : Hp) (ι : Nat → Addr) (M : List MO), Room k A → A.guards = some [] → Env0 P w K mg base A outer s H →
    BindsTo s fd args (ps.zip us) → Vals vs us → vs.length = ps.length → Rps K Z ι M.length ds vs → HR K H Z ι M → PostF K C E H Z ι M (F ds M) Q → codeAny (model P w) A (.call (.ref f) args) (CR (L2.CX P w) outer P w H s Q E) s
theorem FnQ.mono {P : Program} {w : World} {K : PySem.W.Frag} {mg : Str → Option Value} {base : Heap} {C : CT} {j k : Nat} {f : Addr} {fd : FuncData} {ps : List Str} {F : List D → List MO → R D} (x : FnQ P w K mg base C j f fd ps F) (h : j ≤ k) : FnQ P w K mg base C k f fd ps F :=
  ⟨fun A outer s H args us vs Q E ds Z ι M hr => x.run A outer s H args us vs Q E ds Z ι M (hr.mono h)⟩
/-- what a body's end gives the caller: what it made besides is dropped -/
def retR (m : Nat) (M' : List MO) : D → R D
  | .ref k => if k < m then .ok (.ref k) (M'.take m) else match M'[k]? with
    | some (.lst ds) => if belows m ds = true then .ok (.ref m) (M'.take m ++ [.lst ds]) else .bad
    | _ => .bad
  | d => if below m d = true then .ok d (M'.take m) else .bad
def fin (m : Nat) : RS → R D
  | .rt d M' => if m ≤ M'.length ∧ cutOk m M' = true then retR m M' d else .bad
  | .nx _ M' => if m ≤ M'.length ∧ cutOk m M' = true then .ok .non (M'.take m) else .bad
  | .exc c d _ M' => if m ≤ M'.length ∧ cutOk m M' = true ∧ below m d = true then .exc c d (M'.take m) else .bad
  | _ => .bad
/-- a def of n names with the body g -/
def runF (n : Nat) (g : GS) (ds : List D) (M : List MO) : R D := fin M.length (g (ds.map some ++ List.replicate (n - ds.length) none) M)

section
variable {K : PySem.W.Frag} {C : CT} {H Z H' Z' : Hp} {ι ι' : Nat → Addr} {M M' : List MO} {E : XK} {Q : VK}
theorem take_len {α : Type} {l : List α} {m : Nat} (h : m ≤ l.length) : (l.take m).length = m := by rw [List.length_take]; omega
theorem retR_run {d : D} {v : V} (e : Ext H Z ι M.length H' Z' ι' M'.length) (hr : HR K H' Z' ι' M') (r : Rp K Z' ι' M'.length d v) (c1 : M.length ≤ M'.length) (c2 : cutOk M.length M' = true) (h : PostF K C E H Z ι M (retR M.length M' d) Q) : Q v H' := by
  have ln := take_len c1
  have flat : ∀ {d : D}, Rp K Z' ι' M'.length d v → PostF K C E H Z ι M (if below M.length d = true then .ok d (M'.take M.length) else .bad) Q → Q v H' := fun {d} r h => by
    by_cases b : below M.length d = true
    · rw [if_pos b] at h
      exact h v H' Z' ι' (by rw [ln]; exact e.cut (Nat.le_refl _) c1) (hr.cut c1 c2) (by rw [ln]; exact r.shrink _ _ b)
    · rw [if_neg b] at h
      exact h.elim
  cases r with
  | ref hk =>
    rename_i k
    have h2 : PostF K C E H Z ι M (if k < M.length then .ok (.ref k) (M'.take M.length) else match M'[k]? with
      | some (.lst ds) => if belows M.length ds = true then .ok (.ref M.length) (M'.take M.length ++ [.lst ds]) else .bad
      | _ => .bad) Q := h
    by_cases hm : k < M.length
    · rw [if_pos hm] at h2
      exact h2 _ H' Z' ι' (by rw [ln]; exact e.cut (Nat.le_refl _) c1) (hr.cut c1 c2) (by rw [ln]; exact .ref hm)
    · rw [if_neg hm] at h2
      cases e1 : M'[k]? with
      | none => rw [e1] at h2; exact h2.elim
      | some o =>
        rw [e1] at h2
        cases o with
        | dead => exact h2.elim
        | obj nm fs => exact h2.elim
        | lst ds =>
          have h3 : PostF K C E H Z ι M (if belows M.length ds = true then .ok (.ref M.length) (M'.take M.length ++ [.lst ds]) else .bad) Q := h2
          by_cases b : belows M.length ds = true
          · rw [if_pos b] at h3
            obtain ⟨xs, e2, r2⟩ := hr.obj k _ e1
            have hc := hr.cut c1 c2
            have lk : k < M'.length := (List.getElem?_eq_some_iff.mp e1).1
            have od : Odd Z' ι' (M'.take M.length).length (ι' k) := ⟨hr.sep k _ e1 (by simp), fun j hj => by
              rw [ln] at hj
              exact hr.apart (by omega) e1 (by simp) (by omega)⟩
            have q : Rp K Z' (put ι' (M'.take M.length).length (ι' k)) (M'.take M.length ++ [MO.lst ds]).length (.ref (M'.take M.length).length) (.ref (put ι' (M'.take M.length).length (ι' k) (M'.take M.length).length)) := .ref (by simp)
            rw [put_at] at q
            have n0 : H (ι' k) = none := e.nw k (by omega) lk
            have x := Ext.adoptM (M := M'.take M.length) (ds := ds) (p := ι' k) (by rw [ln]; exact e.cut (Nat.le_refl _) c1) n0
            have z := hc.adoptM od e2 (by rw [ln]; exact Rps.shrink _ _ r2 b)
            have h4 : PostF K C E H Z ι M (.ok (.ref (M'.take M.length).length) (M'.take M.length ++ [.lst ds])) Q := by rw [ln]; exact h3
            exact h4 _ H' Z' _ x z q
          · rw [if_neg b] at h3
            exact h3.elim
  | non => exact flat .non h
  | bl b => exact flat (.bl b) h
  | int i => exact flat (.int i) h
  | str x => exact flat (.str x) h
  | tup s r => exact flat (.tup s r) h
  | lst s r => exact flat (.lst s r) h

theorem fin_run {X : Cx} {W : WX} {r : RS} (hW : ∀ c d σ H, E c d H → W c d σ H) (eK : X.K = K) (h : PostF K C E H Z ι M (fin M.length r) Q) : PostS X C W H Z ι M r { nx := fun _ H' => Q .non H', rt := Q } := by
  subst eK
  cases r with
  | bad => exact h
  | bk Γ M' => exact h.elim
  | ct Γ M' => exact h.elim
  | nx Γ M' =>
    have h2 : PostF X.K C E H Z ι M (if M.length ≤ M'.length ∧ cutOk M.length M' = true then .ok .non (M'.take M.length) else .bad) Q := h
    by_cases c : M.length ≤ M'.length ∧ cutOk M.length M' = true
    · rw [if_pos c] at h2
      intro σ' H' Z' ι' e hr sl
      have ln := take_len c.1
      exact h2 .non H' Z' ι' (by rw [ln]; exact e.cut (Nat.le_refl _) c.1) (hr.cut c.1 c.2) .non
    · rw [if_neg c] at h2
      exact h2.elim
  | rt d M' =>
    have h2 : PostF X.K C E H Z ι M (if M.length ≤ M'.length ∧ cutOk M.length M' = true then retR M.length M' d else .bad) Q := h
    by_cases c : M.length ≤ M'.length ∧ cutOk M.length M' = true
    · rw [if_pos c] at h2
      intro v H' Z' ι' e hr r
      exact retR_run e hr r c.1 c.2 h2
    · rw [if_neg c] at h2
      exact h2.elim
  | exc n d Γ M' =>
    have h2 : PostF X.K C E H Z ι M (if M.length ≤ M'.length ∧ cutOk M.length M' = true ∧ below M.length d = true then .exc n d (M'.take M.length) else .bad) Q := h
    by_cases c : M.length ≤ M'.length ∧ cutOk M.length M' = true ∧ below M.length d = true
    · rw [if_pos c] at h2
      intro cls dd σ' H' Z' ι' e hr sl x
      have ln := take_len c.1
      obtain ⟨x1, a, v, x2, x3, x4⟩ := x
      exact hW _ _ _ _ (h2 cls dd H' Z' ι' (by rw [ln]; exact e.cut (Nat.le_refl _) c.1) (hr.cut c.1 c.2.1) ⟨x1, a, v, x2, x3, by rw [ln]; exact x4.shrink _ _ c.2.2⟩)
    · rw [if_neg c] at h2
      exact h2.elim
theorem slots_start {ds : List D} {vs : List V} {N : List Str} {n : Nat} (r : Rps K Z ι n ds vs) (hl : vs.length ≤ N.length) : Slots K Z ι n (ds.map some ++ List.replicate (N.length - ds.length) none) (L2.start N vs) := by
  have l := r.length
  refine ⟨by unfold L2.start; simp [l], fun i d h => ?_⟩
  by_cases hi : i < ds.length
  · rw [List.getElem?_append_left (by simpa using hi), List.getElem?_map] at h
    cases e : ds[i]? with
    | none => rw [e] at h; cases h
    | some d' =>
      rw [e] at h
      cases h
      obtain ⟨v, e2, r2⟩ := r.get e
      refine ⟨v, ?_, r2⟩
      unfold L2.start
      rw [List.getElem?_append_left (by rw [List.length_map, ← l]; exact hi), List.getElem?_map, e2]
      rfl
  · rw [List.getElem?_append_right (by simpa using Nat.le_of_not_lt hi), List.getElem?_replicate] at h
    split at h <;> cases h
end
section
variable {P : Program} {w : World} {K : PySem.W.Frag} {mg : Str → Option Value} {base : Heap} {C : CT}
/-- THE RULE for a def: its body computes g -/
theorem fq_of {x qual : Str} {st : Stmt} {f : Addr} {fd : FuncData} {N ps : List Str} {k : Nat} {g : GS} (F : Fun K x qual st f fd) (S : FnScope N ps (defScope st))
    (hbody : ∀ (cdv : Value) (A : Around) (outer : List PySem.Env) (s : Shared) (H : Hp) (E : XK), Room k (A.deeper (envOfC qual (defScope st) s.heap.objs.size f cdv)) → A.guards = some [] →
      QSs (cxOf (L2.CX P w) P w K mg base N qual (defScope st) f cdv A outer s H E) C (fun cls d _ H => E cls d H) (defBody st) g) : FnQ P w K mg base C (k + 1) f fd ps (runF N.length g) := by
  obtain ⟨oc, od, kV, doc, pm, an, cdv, ct, osl, rfl, lk, hcd⟩ := F.ex
  refine ⟨fun A outer s H args us vs Q E ds Z ι M room hgu env0 hbind rvs hlen rds hr hpost => ?_⟩
  have hK : K.In s.heap := env0.mod.kin.keeps fun b o z => (env0.bs b o z).1
  have hlim : s.heap.NoLimit := env0.mod.nolimit.keeps fun b o z => (env0.bs b o z).1
  have kinds : ∀ y ∈ ps.zip us, (defScope st).names.lookup y.1 = some .local ∨ ((defScope st).names.lookup y.1 = some .cell ∧ ((cellsFrom (s.heap.objs.size + 1) (defScope st).names []).lookup y.1).isSome = true) := fun y hy => by
    rcases S.par y.1 (List.of_mem_zip (a := y.1) (b := y.2) hy).1 with z | z
    · exact .inl z
    · exact .inr ⟨z, PySem.W.cellsFrom_some _ _ _ (.inl z)⟩
  refine codeAny_call_function room.depth (hK _ _ lk) rfl S.co S.gen rfl (PySem.W.codeRec_of hK hcd) (hbind _ _ _ _ (wpAny_newFunctionEnv_cells S.kind kinds fun env he s1 ic => ?_))
  subst he
  refine ⟨hlim.keeps ic.toInCall.keep, codeAny_func ?_⟩
  obtain ⟨ts, pts, qts⟩ := hbody cdv A outer s H E (room.deeper _) hgu
  have J : Inv (cxOf (L2.CX P w) P w K mg base N qual (defScope st) f cdv A outer s H E) [] (L2.start N vs) H s1 := inv_start S room.hd env0 hlen rvs ic
  have lN : vs.length ≤ N.length := by
    have z := congrArg List.length S.pre
    rw [List.length_take] at z
    omega
  have hq := qts _ (L2.start N vs) H Z ι _ M (slots_start rds lN) hr (fin_run (E := E) (fun _ _ _ _ z => z) rfl hpost)
  refine wpAny_mono (pts.run [] s1 _ H _ J hq) (fun fl s' hs => ?_) fun _ _ hs => hs
  have ends : ∀ {σ' : L2.St} {H' : Hp} {v : V} {u : Value}, Inv (cxOf (L2.CX P w) P w K mg base N qual (defScope st) f cdv A outer s H E) [] σ' H' s' → RelV v u → Q v H' → CE outer P w H s Q u s' :=
    fun {σ' H' v u} J2 rv q => ⟨v, H', J2.os, J2.bare, J2.base, J2.hok, rv, q⟩
  cases fl with
  | ret u => exact let ⟨v, σ', H', J2, rv, q⟩ := hs; ends J2 rv q
  | next => exact let ⟨σ', H', J2, q⟩ := hs; ends (v := V.non) (u := Value.none) J2 rfl q
  | brk => exact let ⟨_, _, _, q⟩ := hs; q.elim
  | cont => exact let ⟨_, _, _, q⟩ := hs; q.elim
end

/-! ### calls of defs -/
section
variable {X : Cx} {C : CT} {W : WX} {k : Nat} {f : Addr} {fd : FuncData} {ps : List Str} {F : List D → List MO → R D} {x : Str} {p pos : Pos} {e : Expr} {es : List Expr} {gs : GA}
/-- what a call asks -/
def rCallQ (K : PySem.W.Frag) (C : CT) (ps : List Str) (F : List D → List MO → R D) (E : XK) (vs : List V) (H : Hp) (Q : VK) : Prop :=
  vs.length = ps.length ∧ ∃ (ds : List D) (Z : Hp) (ι : Nat → Addr) (M : List MO), Rps K Z ι M.length ds vs ∧ HR K H Z ι M ∧ PostF K C E H Z ι M (F ds M) Q
theorem run_q {pins : List (Addr × Obj)} {σ : St} {H : Hp} {s : Shared} {Q : VK} {vs : List V} {us : List Value} {args : Args} (F0 : FnQ X.prog X.w X.K X.mg X.base C k f fd ps F) (hr : Room k X.A) (hgu : X.A.guards = some []) (tk : Takes X W) (I : Inv X pins σ H s)
    (hb : BindsTo s fd args (ps.zip us)) (r : Vals vs us) (h : rCallQ X.K C ps F (WE W σ) vs H Q) : codeAny (model X.prog X.w) X.A (.call (.ref f) args) (fun r s' => match r with
      | .ok (.ret u) => EP X pins σ Q u s'
      | .ok _ => False
      | .error e => X.xe e s') s := by
  obtain ⟨hl, ds, Z, ι, M, rd, hr', hp⟩ := h
  refine codeAny_mono (F0.run X.A X.stack s H args us vs Q (WE W σ) ds Z ι M hr hgu I.env0 hb r hl rd hr' hp) fun r s' hq => ?_
  cases r with
  | error e => exact passAt tk σ pins H s e s' I hq
  | ok fl =>
    cases fl with
    | ret u => exact I.after hq
    | next => exact hq.elim
    | brk => exact hq.elim
    | cont => exact hq.elim
theorem lent_post {σ : St} {H Z : Hp} {ι : Nat → Addr} {ds : List D} {vs : List V} {M : List MO} {Q : VK} (hr : HR X.K H Z ι M) (r : Rps X.K Z ι M.length ds vs) (hl : vs.length = ps.length) (h : Post X C W (rpE X.K) σ H Z ι M (callF F ds M) Q) : rCallQ X.K C ps F (WE W σ) vs H Q := by
  unfold callF at h
  cases eg : getAll M (lendK ds) with
  | none => rw [eg] at h; exact h.elim
  | some os =>
    rw [eg] at h
    simp only at h
    by_cases c : (lendK ds).Nodup ∧ flatArgs ds = true ∧ lentOk os = true
    · rw [if_pos c] at h
      obtain ⟨l, fa⟩ := getAll_at eg
      have r2 := lend_rps ds vs [] c.2.1 r
      simp only [List.nil_append, List.length_nil] at r2
      rw [← l] at r2
      have hr2 := hr.lend c.1 eg c.2.2
      refine ⟨hl, lendA 0 ds, Z, lentι ι (lendK ds), os, r2, hr2, ?_⟩
      have kl : ∀ k ∈ lendK ds, k < M.length := fun k hk => by
        obtain ⟨j, hj, ej⟩ := List.mem_iff_getElem.mp hk
        obtain ⟨k', q1, q2⟩ := fa j os[j] (List.getElem?_eq_getElem (by rw [l]; exact hj))
        rw [List.getElem?_eq_getElem hj] at q1
        cases q1
        rw [← ej]
        exact (List.getElem?_eq_some_iff.mp q2).1
      cases eF : F (lendA 0 ds) os with
      | bad => rw [eF] at h; exact h.elim
      | exc n d os' =>
        rw [eF] at h
        simp only at h
        by_cases c2 : (lendK ds).length ≤ os'.length ∧ os'.all (belowO 0) = true ∧ below 0 d = true
        · rw [if_pos c2] at h
          intro cls dd H' Z' ι' e' hr' x
          obtain ⟨b1, b2⟩ := hr.back c.1 eg c.2.2 e' hr' c2.1 c2.2.1
          obtain ⟨x1, a, v, x2, x3, x4⟩ := x
          exact h cls dd H' Z' _ b2 b1 ⟨x1, a, v, x2, x3, Rp.mono (fun _ _ z => z) (fun _ z => absurd z (Nat.not_lt_zero _)) (Nat.zero_le _) _ _ (x4.shrink _ _ c2.2.2)⟩
        · rw [if_neg c2] at h
          exact h.elim
      | ok d os' =>
        rw [eF] at h
        simp only at h
        by_cases c2 : (lendK ds).length ≤ os'.length ∧ os'.all (belowO 0) = true
        · rw [if_pos c2] at h
          intro v H' Z' ι' e' hr' x
          obtain ⟨b1, b2⟩ := hr.back c.1 eg c.2.2 e' hr' c2.1 c2.2
          cases eb : backD (lendK ds) M.length d with
          | none => rw [eb] at h; exact h.elim
          | some d' =>
            rw [eb] at h
            have ln : (setAll M (lendK ds) os' ++ os'.drop (lendK ds).length).length = M.length + (os'.length - (lendK ds).length) := by rw [List.length_append, setAll_length, List.length_drop]
            refine h v H' Z' _ b2 b1 (backD_rp kl (fun j k q => ?_) (by rw [ln]; exact Nat.le_refl _) x eb)
            rw [e'.ii j (by rw [l]; exact (List.getElem?_eq_some_iff.mp q).1)]
            unfold lentι
            rw [List.getD_eq_getElem?_getD, q]
            rfl
        · rw [if_neg c2] at h
          exact h.elim
    · rw [if_neg c] at h
      exact h.elim
/-- the callee runs, its arguments bound -/
theorem run_call {pins : List (Addr × Obj)} {σ : St} {H : Hp} {s : Shared} {Q : VK} {vs : List V} {us ts : List Value} {kw : List (Str × Value)} (F0 : FnQ X.prog X.w X.K X.mg X.base C k f fd ps F) (hr : Room k X.A) (hgu : X.A.guards = some []) (tk : Takes X W) (I : Inv X pins σ H s)
    (hb : BindsTo s fd ⟨us, kw⟩ (ps.zip ts)) (r : Vals vs ts) (h : rCallQ X.K C ps F (WE W σ) vs H Q) : wpAny (model X.prog X.w) X.A (call (.ref f) us kw) (EP X pins σ Q) X.xe s :=
  wpAny_call (codeAny_mono (run_q F0 hr hgu tk I hb r h) fun r s' hq => by
    cases r with
    | error e => exact hq
    | ok fl =>
      cases fl with
      | ret u => exact hq
      | next => exact hq.elim
      | brk => exact hq.elim
      | cont => exact hq.elim)
/-- f(e, ..) -/
theorem qe_call {n : Nat} (F0 : FnQ X.prog X.w X.K X.mg X.base C k f fd ps F) (hr : Room k X.A) (hgu : X.A.guards = some []) (tk : Takes X W) (hg : Gl X x) (hm : X.mg x = some (.ref f)) (hk : PySem.W.keepIn X.K (.ref f) = true) (hb : Binds X.K fd ps []) (ha : QA X C W (e :: es) gs) (hn : n = ps.length := by rfl)
    (hdb : (x == ("__debug__" : Str)) = false := by decide) (he : starEach (e :: es) X.env = (false, eval e X.env) :: starEach es X.env := by rfl) (hpl : (backTo pos (starEach es X.env)).any (·.1) = false := by rfl) :
    QE X C W (.Call (.Name x p) (e :: es) [] pos) (gCallF n F gs) := by
  subst hn
  obtain ⟨ta, pa, qa⟩ := ha
  refine ⟨fun σ H Q => ta σ H fun vs H1 => rCallQ X.K C ps F (WE W σ) vs H1 Q, ⟨fun pins s σ H Q I h => wpAny_Call_Name_kw (ld_glob I hg hm ?_ hdb)⟩, fun σ H Z ι Γ M Q sl hr h => qa σ H Z ι Γ M _ sl hr (h.bind fun ds M1 vs H1 Z1 ι1 e1 hr1 r1 h1 => ?_)⟩
  · refine PySem.W.callWith_K (h₀ := X.base) I.ok.mod.kin hk (thn (pa.run pos pins s σ H _ I h) fun us s1 hh => ?_) he hpl
    obtain ⟨vs, H1, J, r, q⟩ := hh
    have hl : us.length = ps.length := r.length.symm.trans q.1
    have hbb := hb s1 us J.kIn (by rw [List.append_nil]; exact hl)
    rw [List.append_nil] at hbb
    exact ⟨J.kIn, run_call F0 hr hgu tk J hbb r q⟩
  · by_cases c : ds.length = ps.length
    · rw [if_pos c] at h1
      exact lent_post hr1 r1 (by rw [← r1.length]; exact c) h1
    · rw [if_neg c] at h1
      exact h1.elim
theorem qe_call0 {n : Nat} (F0 : FnQ X.prog X.w X.K X.mg X.base C k f fd ps F) (hr : Room k X.A) (hgu : X.A.guards = some []) (tk : Takes X W) (hg : Gl X x) (hm : X.mg x = some (.ref f)) (hk : PySem.W.keepIn X.K (.ref f) = true) (hb : Binds X.K fd ps []) (hn : n = ps.length := by rfl)
    (hdb : (x == ("__debug__" : Str)) = false := by decide) : QE X C W (.Call (.Name x p) [] [] pos) (gCallF n F gNil) := by
  subst hn
  refine ⟨fun σ H Q => rCallQ X.K C ps F (WE W σ) [] H Q, ⟨fun pins s σ H Q I h => wpAny_Call_Name_kw (ld_glob I hg hm (PySem.W.callWith_K0 I.kIn hk ?_) hdb)⟩, fun σ H Z ι Γ M Q sl hr h => ?_⟩
  · have hbb := hb s [] I.kIn (by simpa using h.1)
    exact run_call (us := []) (ts := []) F0 hr hgu tk I (by simpa using hbb) .nil h
  · have h1 : Post X C W (rpE X.K) σ H Z ι M (if ([] : List D).length = ps.length then callF F [] M else .bad) Q := h
    by_cases c : ([] : List D).length = ps.length
    · rw [if_pos c] at h1
      exact lent_post hr .nil c h1
    · rw [if_neg c] at h1
      exact h1.elim
theorem vals_pick {vs : List V} {us : List Value} (r : Vals vs us) : ∀ is : List Nat, Vals (pick vs is) (pick us is)
  | [] => .nil
  | i :: is => by
    unfold pick
    cases e : vs[i]? with
    | none =>
      rw [r.none_of e]
      exact vals_pick r is
    | some v =>
      obtain ⟨u, e2, r2⟩ := r.get e
      rw [e2]
      exact .cons r2 (vals_pick r is)
theorem rps_pick {K : PySem.W.Frag} {Z : Hp} {ι : Nat → Addr} {n : Nat} {ds : List D} {vs : List V} (r : Rps K Z ι n ds vs) : ∀ is : List Nat, Rps K Z ι n (pick ds is) (pick vs is)
  | [] => .nil
  | i :: is => by
    unfold pick
    cases e : ds[i]? with
    | none =>
      have l := r.length
      have : vs[i]? = none := by
        rw [List.getElem?_eq_none_iff] at e ⊢
        omega
      rw [this]
      exact rps_pick r is
    | some d =>
      obtain ⟨v, e2, r2⟩ := r.get e
      rw [e2]
      exact .cons r2 (rps_pick r is)
/-- how a call with keywords binds -/
def KwBinds (K : PySem.W.Frag) (fd : FuncData) (ps ks : List Str) (np : Nat) (is : List Nat) : Prop := ∀ (s : Shared) (us ws : List Value), K.In s.heap → us.length = np → ws.length = ks.length → BindsTo s fd ⟨us, ks.zip ws⟩ (ps.zip (pick (us ++ ws) is))
def QK (X : Cx) (C : CT) (W : WX) (es : List Keyword) (g : GA) : Prop := ∃ te, PK X es te ∧ ∀ (σ : St) (H Z : Hp) (ι : Nat → Addr) (Γ : Env) (M : List MO) (Q : List V → Hp → Prop), Slots X.K Z ι M.length Γ σ → HR X.K H Z ι M → Post X C W (rpA X.K) σ H Z ι M (g Γ M) Q → te σ H Q
theorem qk_nil : QK X C W [] gNil := ⟨_, pk_nil, fun σ H Z ι Γ M Q sl hr h => h [] H Z ι .refl hr .nil⟩
theorem qk_cons {nm : Option Str} {kpos : Pos} {kws : List Keyword} {g : GE} (ha : QE X C W e g) (hb : QK X C W kws gs) : QK X C W (⟨nm, e, kpos⟩ :: kws) (gCons g gs) := by
  obtain ⟨ta, pa, qa⟩ := ha
  obtain ⟨tb, pb, qb⟩ := hb
  exact ⟨_, pk_cons pa pb, fun σ H Z ι Γ M Q sl hr h => qa σ H Z ι Γ M _ sl hr (h.bind fun x M1 v H1 Z1 ι1 e1 hr1 r1 h1 => qb σ H1 Z1 ι1 Γ M1 _ (sl.ext e1) hr1 (h1.bind fun y M2 u H2 Z2 ι2 e2 hr2 r2 h2 => h2 _ H2 Z2 ι2 .refl hr2 (.cons (r1.ext e2) r2)))⟩
variable {kws : List Keyword} {gk : GA} {ks : List Str} {is : List Nat} {np : Nat}
/-- f(k = v, ..) -/
theorem qe_callK0 {n : Nat} (F0 : FnQ X.prog X.w X.K X.mg X.base C k f fd ps F) (hr : Room k X.A) (hgu : X.A.guards = some []) (tk : Takes X W) (hg : Gl X x) (hm : X.mg x = some (.ref f)) (hk : PySem.W.keepIn X.K (.ref f) = true) (hb : KwBinds X.K fd ps ks 0 is) (hkw : QK X C W kws gk)
    (hlen : ∀ (Γ : Env) (M M' : List MO) (ds : List D), gk Γ M = .ok ds M' → ds.length = ks.length) (hn : n = ps.length := by rfl)
    (hall : (backToKw pos (keywordEach kws X.env)).all (·.1.isSome) = true := by rfl) (hks : (backToKw pos (keywordEach kws X.env)).filterMap (·.1) = ks := by rfl) (hdb : (x == ("__debug__" : Str)) = false := by decide)
    (hpl : ((backTo pos (starEach [] X.env)).any (·.1) || (backToKw pos (keywordEach kws X.env)).any (·.1.isNone)) = false := by rfl) :
    QE X C W (.Call (.Name x p) [] kws pos) (gCallK n F is gNil gk) := by
  subst hn
  obtain ⟨tk', pk, qk⟩ := hkw
  refine ⟨fun σ H Q => tk' σ H fun zs H2 => zs.length = ks.length ∧ rCallQ X.K C ps F (WE W σ) (pick zs is) H2 Q, ⟨fun pins s σ H Q I h => wpAny_Call_Name_kw (ld_glob I hg hm ?_ hdb)⟩, fun σ H Z ι Γ M Q sl hr h => ?_⟩
  · refine PySem.W.callWith_KW0 (h₀ := X.base) I.ok.mod.kin hk hall (thn (pk.run pos pins s σ H _ I h) fun ws s2 hh => ?_) hpl
    obtain ⟨zs, H2, J, r, hz, q⟩ := hh
    have hl : ws.length = ks.length := r.length.symm.trans hz
    refine ⟨J.kIn, ?_⟩
    rw [hks]
    exact run_call (us := []) F0 hr hgu tk J (by simpa using hb s2 [] ws J.kIn rfl hl) (vals_pick r is) q
  · have h1 : Post X C W (rpE X.K) σ H Z ι M ((gk Γ M).bind fun es M2 => if (pick ([] ++ es) is).length = ps.length then callF F (pick ([] ++ es) is) M2 else .bad) Q := h
    cases eg : gk Γ M with
    | bad => rw [eg] at h1; exact h1.elim
    | exc c d M' =>
      refine qk σ H Z ι Γ M _ sl hr ?_
      rw [eg] at h1 ⊢
      exact h1
    | ok es M' =>
      refine qk σ H Z ι Γ M _ sl hr ?_
      have hle := hlen _ _ _ _ eg
      rw [eg] at h1 ⊢
      intro vs H1 Z1 ι1 e1 hr1 r1
      have h2 : Post X C W (rpE X.K) σ H Z ι M (if (pick es is).length = ps.length then callF F (pick es is) M' else .bad) Q := h1
      have r2 := rps_pick r1 is
      refine ⟨by rw [← r1.length]; exact hle, ?_⟩
      by_cases c : (pick es is).length = ps.length
      · rw [if_pos c] at h2
        exact lent_post hr1 r2 (by rw [← r2.length]; exact c) (Post.shift h2 e1 hr1)
      · rw [if_neg c] at h2
        exact h2.elim
/-- f(e, .., k = v, ..) -/
theorem qe_callK {n : Nat} (F0 : FnQ X.prog X.w X.K X.mg X.base C k f fd ps F) (hr : Room k X.A) (hgu : X.A.guards = some []) (tk : Takes X W) (hg : Gl X x) (hm : X.mg x = some (.ref f)) (hk : PySem.W.keepIn X.K (.ref f) = true) (hb : KwBinds X.K fd ps ks np is) (ha : QA X C W (e :: es) gs) (hkw : QK X C W kws gk)
    (hlen : ∀ (Γ : Env) (M M' : List MO) (ds : List D), gk Γ M = .ok ds M' → ds.length = ks.length) (hlen1 : ∀ (Γ : Env) (M M' : List MO) (ds : List D), gs Γ M = .ok ds M' → ds.length = np) (hn : n = ps.length := by rfl)
    (hall : (backToKw pos (keywordEach kws X.env)).all (·.1.isSome) = true := by rfl) (hks : (backToKw pos (keywordEach kws X.env)).filterMap (·.1) = ks := by rfl) (hdb : (x == ("__debug__" : Str)) = false := by decide)
    (he : starEach (e :: es) X.env = (false, eval e X.env) :: starEach es X.env := by rfl) (hpl : ((backTo pos (starEach (e :: es) X.env)).any (·.1) || (backToKw pos (keywordEach kws X.env)).any (·.1.isNone)) = false := by rfl) :
    QE X C W (.Call (.Name x p) (e :: es) kws pos) (gCallK n F is gs gk) := by
  subst hn
  obtain ⟨ta, pa, qa⟩ := ha
  obtain ⟨tk', pk, qk⟩ := hkw
  refine ⟨fun σ H Q => ta σ H fun vs H1 => tk' σ H1 fun zs H2 => vs.length = np ∧ zs.length = ks.length ∧ rCallQ X.K C ps F (WE W σ) (pick (vs ++ zs) is) H2 Q, ⟨fun pins s σ H Q I h => wpAny_Call_Name_kw (ld_glob I hg hm ?_ hdb)⟩, fun σ H Z ι Γ M Q sl hr h => ?_⟩
  · refine PySem.W.callWith_KW (h₀ := X.base) I.ok.mod.kin hk hall (thn (pa.run pos pins s σ H _ I h) fun us s1 hh => ?_) hpl he
    obtain ⟨vs, H1, J1, r1, q1⟩ := hh
    refine thn (pk.run pos pins s1 σ H1 _ J1 q1) fun ws s2 hh => ?_
    obtain ⟨zs, H2, J, r, hv, hz, q⟩ := hh
    refine ⟨J.kIn, ?_⟩
    rw [hks]
    exact run_call (us := us) F0 hr hgu tk J (hb s2 us ws J.kIn (r1.length.symm.trans hv) (r.length.symm.trans hz)) (vals_pick (r1.append r) is) q
  · have h1 : Post X C W (rpE X.K) σ H Z ι M ((gs Γ M).bind fun ds M1 => (gk Γ M1).bind fun es M2 => if (pick (ds ++ es) is).length = ps.length then callF F (pick (ds ++ es) is) M2 else .bad) Q := h
    cases eg : gs Γ M with
    | bad => rw [eg] at h1; exact h1.elim
    | exc c d M' =>
      refine qa σ H Z ι Γ M _ sl hr ?_
      rw [eg] at h1 ⊢
      exact h1
    | ok ds M' =>
      refine qa σ H Z ι Γ M _ sl hr ?_
      have hld := hlen1 _ _ _ _ eg
      rw [eg] at h1 ⊢
      intro vs H1 Z1 ι1 e1 hr1 r1
      have h2 : Post X C W (rpE X.K) σ H Z ι M ((gk Γ M').bind fun es M2 => if (pick (ds ++ es) is).length = ps.length then callF F (pick (ds ++ es) is) M2 else .bad) Q := h1
      have h3 := Post.shift h2 e1 hr1
      cases eg2 : gk Γ M' with
      | bad => rw [eg2] at h3; exact h3.elim
      | exc c d M2 =>
        refine qk σ H1 Z1 ι1 Γ M' _ (sl.ext e1) hr1 ?_
        rw [eg2] at h3 ⊢
        exact h3
      | ok es M2 =>
        refine qk σ H1 Z1 ι1 Γ M' _ (sl.ext e1) hr1 ?_
        have hle := hlen _ _ _ _ eg2
        rw [eg2] at h3 ⊢
        intro zs H2 Z2 ι2 e2 hr2 r2
        have h4 : Post X C W (rpE X.K) σ H1 Z1 ι1 M' (if (pick (ds ++ es) is).length = ps.length then callF F (pick (ds ++ es) is) M2 else .bad) Q := h3
        have r3 := rps_pick ((r1.ext e2).append r2) is
        refine ⟨by rw [← r1.length]; exact hld, by rw [← r2.length]; exact hle, ?_⟩
        by_cases c : (pick (ds ++ es) is).length = ps.length
        · rw [if_pos c] at h4
          exact lent_post hr2 r3 (by rw [← r3.length]; exact c) (Post.shift h4 e2 hr2)
        · rw [if_neg c] at h4
          exact h4.elim
end
/-- an argument list's length -/
theorem gNil_len {Γ : Env} {M M' : List MO} {ds : List D} (h : gNil Γ M = .ok ds M') : ds.length = 0 := by cases h; rfl
theorem gCons_len {g : GE} {gs : GA} {n : Nat} (hs : ∀ (Γ : Env) (M M' : List MO) (ds : List D), gs Γ M = .ok ds M' → ds.length = n) (Γ : Env) (M M' : List MO) (ds : List D) (h : gCons g gs Γ M = .ok ds M') : ds.length = n + 1 := by
  unfold gCons at h
  cases e : g Γ M with
  | bad => rw [e] at h; cases h
  | exc c d M1 => rw [e] at h; cases h
  | ok d M1 =>
    rw [e] at h
    have h2 : ((gs Γ M1).bind fun xs M2 => (.ok (d :: xs) M2 : R (List D))) = .ok ds M' := h
    cases e2 : gs Γ M1 with
    | bad => rw [e2] at h2; cases h2
    | exc c d M1 => rw [e2] at h2; cases h2
    | ok xs M2 =>
      rw [e2] at h2
      cases h2
      rw [List.length_cons, hs _ _ _ _ e2]
end Bk

set_option Elab.async false
set_option linter.all false
set_option maxRecDepth 100000
set_option maxHeartbeats 2000000
namespace Bk
open PySem PySem.Spec PyProof.Rows L2

/-! ### the law's own call -/
theorem no_cx {P : Program} {w : World} {outer : List PySem.Env} {H : Hp} {s s' : Shared} {u : Value} : ¬ L2.CX P w outer H s (fun _ _ _ => False) u s' := by
  intro h
  unfold L2.CX at h
  simp_all
theorem rps_ints {K : PySem.W.Frag} {Z : Hp} {ι : Nat → Addr} {n : Nat} (is : List Int) : Rps K Z ι n (is.map D.int) (is.map V.int) := Rps.of_ints is
theorem law_q {P : Program} {w : World} {K : PySem.W.Frag} {mg mb : Str → Option Value} {C : CT} {k : Nat} {fa a : Addr} {fd : FuncData} {x : Str} {F : List D → List MO → R D} {s₁ : Shared} {vs : List Value} {ns : List Int}
    (KX : K.In s₁.heap) (hns : s₁.heap.Ns mainGlobals mg) (hb : s₁.heap.Ns builtinsNs mb) (hbb : ∀ x : Str, x ≠ "__name__" → mb x = bootBuiltins x) (hlim : s₁.heap.NoLimit) (hg : s₁.gens = #[])
    (ha : s₁.heap.get? a = some { cls := .type "list", data := .seq vs.toArray }) (hi : IntsAre vs ns) (hl : ns.length ≤ sizeLine) (hr : Room k callerA)
    (hF : ∀ base : Heap, K.In base → base.Ns mainGlobals mg → FnQ P w K mg base C k fa fd [x] F) (hbind : ∀ (s : Shared) (u : Value), BindsTo s fd ⟨[u], []⟩ [(x, u)]) (hlaw : F [.lst (ns.map D.int)] [] = .ok (.bl true) []) :
    codeAny (model P w) callerA (.call (.ref fa) ⟨[.ref a], []⟩) (fun r s' => r = .ok (.ret (.bool true)) ∧ OldK s₁.heap s'.heap ∧ s'.os = s₁.os ∧ AllBare s'.gens) s₁ := by
  have hvals := vals_ints hi
  have hlen := hi.length
  have main : ∀ H : Hp, Only H → ExL K H a (ns.map V.int) → HOk P w H s₁.heap → (∀ b, H b ≠ none → b = a) → (H a ≠ none → K.lookup a = none) →
      codeAny (model P w) callerA (.call (.ref fa) ⟨[.ref a], []⟩) (fun r s' => r = .ok (.ret (.bool true)) ∧ OldK s₁.heap s'.heap ∧ s'.os = s₁.os ∧ AllBare s'.gens) s₁ := by
    intro H only seq hok alone apart
    have free : ∀ {b : Addr} {o : Obj} {es : Array DictEntry} {ep : Nat}, s₁.heap.get? b = some o → o.data = .dict es ep → H b = none := fun {b o es ep} e d => by
      refine Classical.byContradiction fun z => ?_
      have eb : b = a := alone b z
      rw [eb, ha] at e
      cases e
      cases (show Data.seq vs.toArray _ = Data.dict es ep from d)
    have stays : ∀ {b : Addr} {m : Str → Option Value}, s₁.heap.Ns b m → (hidT s₁.heap H).Ns b m := fun {b m} z =>
      let ⟨o, es, ep, e, d, r⟩ := z
      ⟨o, es, ep, hidT_get e (free e d), d, r⟩
    have kin : K.In (hidT s₁.heap H) := fun b o e => hidT_get (KX b o e) (by
      refine Classical.byContradiction fun z => ?_
      have eb : b = a := alone b z
      subst eb
      rw [apart z] at e
      cases e)
    have hmod : Mod K mg (hidT s₁.heap H) := ⟨kin, stays hns, ⟨mb, stays hb, hbb⟩, let ⟨m, h1, h2⟩ := hlim; ⟨m, stays h1, h2⟩⟩
    have env0 : Env0 P w K mg (hidT s₁.heap H) callerA [] s₁ H :=
      ⟨rfl, hmod, fun b o e => of_hidT e, Nat.le_of_eq (hidT_size _ _), trivial, fun b z => absurd (show b ∈ ([] : List Addr) from z) (by simp), hok, AllBare.of_eq hg⟩
    have hr0 : HR K H H (fun _ => 0) [] := ⟨fun _ _ h => h, fun k h => absurd h (Nat.not_lt_zero _), fun k o h => by simp at h, fun j k o u h => by simp at h, fun k o h => by simp at h, fun k h => by simp at h⟩
    refine codeAny_mono ((hF _ kin (stays hns)).run callerA [] s₁ H ⟨[.ref a], []⟩ [.ref a] [.ref a] (fun v _ => v = .bl true) (fun _ _ _ => False) [.lst (ns.map D.int)] H (fun _ => 0) [] hr rfl env0 (hbind s₁ (.ref a)) (.cons rfl .nil) rfl
      (.cons (.lst seq (rps_ints ns)) .nil) hr0 ?_) fun r s' h => ?_
    · rw [hlaw]
      intro v H' Z' ι' _ _ rv
      cases rv
      rfl
    · cases r with
      | error e => exact absurd h no_cx
      | ok fl =>
        cases fl with
        | next => exact h.elim
        | brk => exact h.elim
        | cont => exact h.elim
        | ret u =>
          obtain ⟨v, H', os, bare, un, hok', rv, q⟩ := h
          obtain rfl : v = .bl true := q
          obtain rfl : u = Value.bool true := rv
          refine ⟨rfl, .of_keep fun b o e => ?_, os, bare⟩
          cases hb2 : H b with
          | none => exact un.keep b o e hb2 (fun z => absurd (show b ∈ ([] : List Addr) from z) (by simp)) (by simp)
          | some u =>
            rcases only b with z | ⟨ob, xs, z⟩
            · rw [hb2] at z
              cases z
            · have e1 := (hok b _ z).1
              have e2 := (hok' b _ (un.frzs b ob _ z)).1
              rw [e] at e1
              cases e1
              exact e2
  cases hk : K.lookup a with
  | some o =>
    have e := KX a o hk
    rw [ha] at e
    cases e
    exact main (fun _ => none) (fun _ => .inl rfl) (.inr ⟨vs.toArray, _, hk, by rw [List.size_toArray, hlen]; exact hl, by simpa using hvals⟩) (fun b u z => absurd z (by simp)) (fun b z => absurd rfl z) fun z => absurd rfl z
  | none =>
    have at_ : ∀ b u, (if b = a then some (HO.frz { cls := .type "list", data := .seq vs.toArray } (.lst (ns.map V.int))) else none) = some u → b = a ∧ u = HO.frz { cls := .type "list", data := .seq vs.toArray } (.lst (ns.map V.int)) := fun b u z => by
      by_cases hb : b = a
      · rw [if_pos hb] at z
        exact ⟨hb, (Option.some.inj z).symm⟩
      · rw [if_neg hb] at z
        cases z
    refine main (fun b => if b = a then some (.frz { cls := .type "list", data := .seq vs.toArray } (.lst (ns.map V.int))) else none) (fun b => ?_) (.inl (.inr ⟨_, if_pos rfl⟩)) (fun b u z => ?_) (fun b z => ?_) fun _ => hk
    · by_cases hb : b = a
      · exact .inr ⟨_, _, if_pos hb⟩
      · exact .inl (if_neg hb)
    · obtain ⟨rfl, rfl⟩ := at_ b u z
      exact ⟨ha, by rw [List.length_map]; exact hl, vs, _, hvals, ha⟩
    · exact Classical.byContradiction fun hb => z (if_neg hb)
/-- what k_head leaves -/
theorem walk_q {l : PySem.W.OpenLaw} {n k : Nat} {q : Program} {loose : List Str} {XP : (Str → Option Value) → Heap → Prop} {YP : World → Heap → Prop} {d : DefRec} {K : Params → PySem.W.Frag} {x : Str} {F : List D → List MO → R D}
    (hn : l.most = some n) (hn2 : n ≤ sizeLine) (hdf : d.params.defaults = []) (hr : Room k callerA) (hY : ∀ (w : World) (h : Heap), YP w h → (K w.params).In h)
    (hF : ∀ (w : World) (mg : Str → Option Value) (fa : Addr) (h : Heap), (K w.params).In h → h.Ns mainGlobals mg → mg d.name = some (.ref fa) →
      ∃ (fd : FuncData) (C : CT), (∀ (s : Shared) (u : Value), BindsTo s fd ⟨[u], []⟩ [(x, u)]) ∧ ∀ base : Heap, (K w.params).In base → base.Ns mainGlobals mg → FnQ l.prog w (K w.params) mg base C k fa fd [x] F)
    (hlaw : ∀ ns : List Int, ns.length ≤ n → F [.lst (ns.map D.int)] [] = .ok (.bl true) []) :
    PySem.W.WalkO q loose XP YP l.row.toRowW d [] (fun f vs => PySem.call f vs) := by
  refine Att.attach_call hn hdf fun w s₀ s₁ mg mb fa o pm cd doc a vs ns G Y ho hd hcd hmg hobj hints hlen hg => ?_
  have kx := hY w _ Y
  obtain ⟨fd, C, hb, hF'⟩ := hF w mg fa _ kx G.T.g hmg
  exact law_q kx G.T.g G.T.b G.T.builtins G.T.nolimit hg hobj hints (Nat.le_trans hlen hn2) hr hF' hb (hlaw ns hlen)
end Bk

set_option Elab.async false
set_option linter.all false
set_option maxRecDepth 100000
set_option maxHeartbeats 2000000
namespace Bk
open PySem PySem.Spec PyProof.Rows L2

/-! ### what operations compute -/
def listD (M : List MO) : D → Option (List D)
  | .lst ds => some ds
  | .ref k => match M[k]? with
    | some (.lst ds) => some ds
    | _ => none
  | _ => none
def tupD : D → Option (List D)
  | .tup ds => some ds
  | _ => none
def itemsD (M : List MO) : D → Option (List D)
  | .tup ds => some ds
  | d => listD M d
section
variable {K : PySem.W.Frag} {H Z : Hp} {ι : Nat → Addr} {M : List MO} {d : D} {ds : List D} {v : V}
theorem listD_run (hr : HR K H Z ι M) (r : Rp K Z ι M.length d v) (h : listD M d = some ds) : ∃ a xs, v = .ref a ∧ ExL K H a xs ∧ Rps K Z ι M.length ds xs := by
  cases r with
  | lst s r =>
    cases h
    exact ⟨_, _, rfl, subL hr.sub s, r⟩
  | ref hk =>
    rename_i k
    have h' : (match M[k]? with
      | some (.lst ds) => some ds
      | _ => none) = some ds := h
    cases e : M[k]? with
    | none => rw [e] at h'; cases h'
    | some o =>
      rw [e] at h'
      cases o with
      | dead => cases h'
      | obj nm fs => cases h'
      | lst es =>
        cases h'
        obtain ⟨xs, e1, r1⟩ := hr.obj k _ e
        exact ⟨_, xs, rfl, .inl (.of e1), r1⟩
  | _ => cases h
theorem tupD_run (hr : HR K H Z ι M) (r : Rp K Z ι M.length d v) (h : tupD d = some ds) : ∃ a xs, v = .ref a ∧ SqT K H a xs ∧ Rps K Z ι M.length ds xs := by
  cases r with
  | tup s r =>
    cases h
    exact ⟨_, _, rfl, subT hr.sub s, r⟩
  | _ => cases h
theorem itemsD_run (hr : HR K H Z ι M) (r : Rp K Z ι M.length d v) (h : itemsD M d = some ds) : ∃ a xs, v = .ref a ∧ (ExL K H a xs ∨ SqT K H a xs) ∧ Rps K Z ι M.length ds xs := by
  cases r with
  | tup s r =>
    cases h
    exact ⟨_, _, rfl, .inr (subT hr.sub s), r⟩
  | lst s r =>
    obtain ⟨a, xs, h1, h2, h3⟩ := listD_run hr (.lst s r) h
    exact ⟨a, xs, h1, .inl h2, h3⟩
  | ref hk =>
    obtain ⟨a, xs, h1, h2, h3⟩ := listD_run hr (.ref hk) h
    exact ⟨a, xs, h1, .inl h2, h3⟩
  | _ => cases h
end
/-- an owned thing is that thing -/
theorem listD_owned {K : PySem.W.Frag} {H Z : Hp} {ι : Nat → Addr} {M : List MO} {k : Nat} {ds : List D} {v : V} (hr : HR K H Z ι M) (r : Rp K Z ι M.length (.ref k) v) (h : M[k]? = some (.lst ds)) : ∃ xs, v = .ref (ι k) ∧ H (ι k) = some (.lst xs) ∧ Rps K Z ι M.length ds xs := by
  cases r with
  | ref hk =>
    obtain ⟨xs, e1, r1⟩ := hr.obj k _ h
    exact ⟨xs, rfl, e1, r1⟩

def iop (c : Int → Int → Bool) (g : Int → Int → D) (_ : List MO) : D → D → Option D
  | .int i, .int j => if c i j = true then some (g i j) else none
  | _, _ => none
section
variable {X : Cx}
theorem OpR.or {f : Value → Value → Sem Value} {r r' : R2} (h : OpR X f r) (h' : OpR X f r') : OpR X f (fun x y H Q => r x y H Q ∨ r' x y H Q) := fun pins s σ H x y v u Q I rx ry q =>
  q.elim (h pins s σ H x y v u Q I rx ry) (h' pins s σ H x y v u Q I rx ry)
theorem UnR.or {f : Value → Sem Value} {r r' : V → Hp → VK → Prop} (h : UnR X f r) (h' : UnR X f r') : UnR X f (fun x H Q => r x H Q ∨ r' x H Q) := fun pins s σ H x v Q I rx q => q.elim (h pins s σ H x v Q I rx) (h' pins s σ H x v Q I rx)
/-- either of two functions, as the second finds none -/
def orD (f f' : List MO → D → D → Option D) (M : List MO) (x y : D) : Option D := (f M x y).or (f' M x y)
theorem Ok2.or {r r' : R2} {f f' : List MO → D → D → Option D} (h : Ok2 X r f) (h' : Ok2 X r' f') : Ok2 X (fun x y H Q => r x y H Q ∨ r' x y H Q) (orD f f') := fun x y H Z ι M dx dy d Q hr rx ry e q => by
  unfold orD at e
  cases e1 : f M dx dy with
  | some d' =>
    rw [e1] at e
    cases e
    exact .inl (h x y H Z ι M dx dy _ Q hr rx ry e1 q)
  | none =>
    rw [e1] at e
    exact .inr (h' x y H Z ι M dx dy _ Q hr rx ry e q)
/-- how a value without parts is handed on -/
def flatVD : V → Option D
  | .non => some .non
  | .bl b => some (.bl b)
  | .int i => some (.int i)
  | .str x => some (.str x)
  | _ => none
theorem flat_rp {K : PySem.W.Frag} {Z : Hp} {ι : Nat → Addr} {n : Nat} {v : V} {d : D} (h : flatVD v = some d) : Rp K Z ι n d v := by
  cases v with
  | non => cases h; exact .non
  | bl b => cases h; exact .bl b
  | int i => cases h; exact .int i
  | str x => cases h; exact .str x
  | _ => cases h
theorem ok_rI {P : Int → Int → Prop} {gV : Int → Int → V} {c : Int → Int → Bool} {g : Int → Int → D} (hc : ∀ i j, c i j = true → P i j) (hg : ∀ i j, flatVD (gV i j) = some (g i j)) : Ok2 X (rI P gV) (iop c g) := fun x y H Z ι M dx dy d Q hr rx ry e q => by
  cases rx with
  | int i =>
    cases ry with
    | int j =>
      have e' : (if c i j = true then some (g i j) else none) = some d := e
      by_cases hh : c i j = true
      · rw [if_pos hh] at e'
        cases e'
        exact ⟨i, j, rfl, rfl, hc i j hh, q.now hr (flat_rp (hg i j))⟩
      · rw [if_neg hh] at e'
        cases e'
    | _ => cases e
  | _ => cases ry <;> cases e
def yes2 (_ _ : Int) : Bool := true
theorem ok_rI0 {gV : Int → Int → V} {g : Int → Int → D} (hg : ∀ i j, flatVD (gV i j) = some (g i j)) : Ok2 X (rI0 gV) (iop yes2 g) := fun x y H Z ι M dx dy d Q hr rx ry e q => by
  cases rx with
  | int i =>
    cases ry with
    | int j =>
      cases e
      exact ⟨i, j, rfl, rfl, q.now hr (flat_rp (hg i j))⟩
    | _ => cases e
  | _ => cases ry <;> cases e
/-! numbers -/
def dSub := iop yes2 fun i j => .int (i - j)
def mulOk (i j : Int) : Bool := (decide (-(2 ^ 64) < i) && decide (i < 2 ^ 64)) || (decide (-(2 ^ 64) < j) && decide (j < 2 ^ 64)) || decide (i.natAbs.log2 + j.natAbs.log2 < 1000000)
def fdivOk (_ j : Int) : Bool := decide (0 < j) && decide (j.natAbs.log2 < 9000)
def dFdiv := iop fdivOk fun i j => .int (i / j)
def modOk (_ j : Int) : Bool := decide (0 < j)
def dMod := iop modOk fun i j => .int (i % j)
def dMul := iop mulOk fun i j => .int (i * j)
def powOk (i j : Int) : Bool := decide (0 ≤ j) && decide (j ≤ 1000000) && decide (i.natAbs < 2 ^ 64)
def dPow := iop powOk fun i j => .int (i ^ j.toNat)
theorem ok_sub : Ok2 X (rI0 fun i j => .int (i - j)) dSub := ok_rI0 fun _ _ => rfl
theorem ok_fdiv : Ok2 X (rI CDivW fun i j => .int (i / j)) dFdiv := ok_rI (fun i j h => by
  simp only [fdivOk, Bool.and_eq_true, decide_eq_true_eq] at h
  exact h) fun _ _ => rfl
theorem op_modP : OpR X (binaryOp .Mod) (rI (fun _ j => 0 < j) fun i j => .int (i % j)) := fun pins s σ H x y v u Q I rx ry ⟨i, j, h1, h2, h3, q⟩ =>
  op_modN pins s σ H x y v u Q I rx ry ⟨i, j, h1, h2, by omega, by
    have h4 : (0 : Int) < j := h3
    show Q (V.int (i.fmod j)) H
    rw [Int.fmod_eq_emod_of_nonneg i (by omega)]
    exact q⟩
theorem ok_mod : Ok2 X (rI (fun _ j => 0 < j) fun i j => .int (i % j)) dMod := ok_rI (fun i j h => of_decide_eq_true h) fun _ _ => rfl
theorem op_mulA : OpR X (binaryOp .Mult) (rI (fun i j => mulOk i j = true) fun i j => .int (i * j)) := fun pins s σ H x y v u Q I rx ry ⟨i, j, h1, h2, h3, q⟩ => by
  simp only [mulOk, Bool.or_eq_true, Bool.and_eq_true, decide_eq_true_eq] at h3
  rcases h3 with h3 | h3
  · exact op_mul pins s σ H x y v u Q I rx ry ⟨i, j, h1, h2, h3, q⟩
  · exact op_mulW pins s σ H x y v u Q I rx ry ⟨i, j, h1, h2, h3, q⟩
theorem ok_mul : Ok2 X (rI (fun i j => mulOk i j = true) fun i j => .int (i * j)) dMul := ok_rI (fun i j h => h) fun _ _ => rfl
theorem ok_pow : Ok2 X (rI CPow fun i j => .int (i ^ j.toNat)) dPow := ok_rI (fun i j h => by
  simp only [powOk, Bool.and_eq_true, decide_eq_true_eq] at h
  exact ⟨h.1.1, h.1.2, h.2⟩) fun _ _ => rfl
def dLt := iop yes2 fun i j => .bl (decide (i < j))
def dLe := iop yes2 fun i j => .bl (decide (i ≤ j))
def dGt := iop yes2 fun i j => .bl (decide (j < i))
def dGe := iop yes2 fun i j => .bl (decide (j ≤ i))
theorem ok_lt : Ok2 X (rI0 fun i j => .bl (decide (i < j))) dLt := ok_rI0 fun _ _ => rfl
theorem ok_le : Ok2 X (rI0 fun i j => .bl (decide (i ≤ j))) dLe := ok_rI0 fun _ _ => rfl
theorem ok_gt : Ok2 X (rI0 fun i j => .bl (decide (j < i))) dGt := ok_rI0 fun _ _ => rfl
theorem ok_ge : Ok2 X (rI0 fun i j => .bl (decide (j ≤ i))) dGe := ok_rI0 fun _ _ => rfl

/-! adding -/
def catT (_ : List MO) : D → D → Option D
  | .tup a, .tup b => if a.length + b.length ≤ sizeLine then some (.tup (a ++ b)) else none
  | _, _ => none
def catL (M : List MO) (x y : D) : Option D := match listD M x, listD M y with
  | some a, some b => if a.length + b.length ≤ sizeLine then some (.lst (a ++ b)) else none
  | _, _ => none
def addI (M : List MO) : D → D → Option D
  | .int i, .int j => some (.int (i + j))
  | .str x, .str y => if x.length + y.length ≤ sizeLine then some (.str (x ++ y)) else none
  | .tup a, y => catT M (.tup a) y
  | x, y => catL M x y
def dAdd := addI
def rCatS (K : PySem.W.Frag) : R2 := fun x y H Q => ∃ l b xs zs, x = .ref l ∧ y = .ref b ∧ ExL K H l xs ∧ ExL K H b zs ∧ xs.length + zs.length ≤ sizeLine ∧ ∀ p, H p = none → Q (.ref p) (upd H p (.lst (xs ++ zs)))
theorem op_catS : OpR X (binaryOp .Add) (rCatS X.K) := by
  intro pins s σ H x y v u Q I rx ry h
  obtain ⟨l, b, xs, zs, rfl, rfl, hx, hz, hs, q⟩ := h
  cases rx
  cases ry
  obtain ⟨its, m1, r1, e1, _⟩ := hx.at_ I
  obtain ⟨its2, m2, r2, e2, _⟩ := hz.at_ I
  refine PySem.P.add_list e1 e2 ?_ (by rw [List.size_toArray, List.size_toArray, ← r1.length, ← r2.length]; exact hs)
  have ea : its.toArray ++ its2.toArray = (its ++ its2).toArray := by simp
  rw [ea]
  exact ⟨.ref _, _, I.lnew (t' := s.toks) (r1.append r2) (by rw [List.length_append]; exact hs), rfl, q _ I.fresh⟩
abbrev rAdd (K : PySem.W.Frag) : R2 := fun x y H Q => (rI0 (fun i j => .int (i + j)) x y H Q ∨ (∃ i j, x = .str i ∧ y = .str j ∧ i.length + j.length ≤ sizeLine ∧ Q (.str (i ++ j)) H)) ∨ (rCatA K x y H Q ∨ rCatS K x y H Q)
theorem op_addA : OpR X (binaryOp .Add) (rAdd X.K) := (op_add.or op_add_str).or (op_catA.or op_catS)
theorem ok_add : Ok2 X (rAdd X.K) dAdd := fun x y H Z ι M dx dy d Q hr rx ry e q => by
  have lists : ∀ {dx : D}, Rp X.K Z ι M.length dx x → catL M dx dy = some d → rAdd X.K x y H Q := fun {dx} rx e => by
    unfold catL at e
    cases e1 : listD M dx with
    | none => rw [e1] at e; cases e
    | some a =>
      cases e2 : listD M dy with
      | none => rw [e1, e2] at e; cases e
      | some b =>
        rw [e1, e2] at e
        simp only at e
        by_cases c : a.length + b.length ≤ sizeLine
        · rw [if_pos c] at e
          cases e
          obtain ⟨p1, xs, rfl, s1, r1⟩ := listD_run hr rx e1
          obtain ⟨p2, ys, rfl, s2, r2⟩ := listD_run hr ry e2
          exact .inr (.inr ⟨p1, p2, xs, ys, rfl, rfl, s1, s2, by rw [← r1.length, ← r2.length]; exact c, q.lst hr (r1.append r2)⟩)
        · rw [if_neg c] at e
          cases e
  cases rx with
  | int i =>
    cases ry with
    | int j =>
      cases e
      exact .inl (.inl ⟨i, j, rfl, rfl, q.now hr (.int _)⟩)
    | _ => cases e
  | str a =>
    cases ry with
    | str b =>
      have e' : (if a.length + b.length ≤ sizeLine then some (D.str (a ++ b)) else none) = some d := e
      by_cases c : a.length + b.length ≤ sizeLine
      · rw [if_pos c] at e'
        cases e'
        exact .inl (.inr ⟨a, b, rfl, rfl, c, q.now hr (.str _)⟩)
      · rw [if_neg c] at e'
        cases e'
    | _ => cases e
  | tup s1 r1 =>
    rename_i a p1 xs
    cases ry with
    | tup s2 r2 =>
      rename_i b p2 ys
      have e' : (if a.length + b.length ≤ sizeLine then some (D.tup (a ++ b)) else none) = some d := e
      by_cases c : a.length + b.length ≤ sizeLine
      · rw [if_pos c] at e'
        cases e'
        refine .inr (.inl ⟨p1, p2, xs, ys, rfl, rfl, subT hr.sub s1, subT hr.sub s2, by rw [← r1.length, ← r2.length]; exact c, fun z => ?_, fun _ z => ?_, fun _ _ => q.tup hr (r1.append r2)⟩)
        · have : a = [] := List.length_eq_zero_iff.mp (by rw [r1.length, z]; rfl)
          subst this
          exact q.now hr (.tup s2 r2)
        · have : b = [] := List.length_eq_zero_iff.mp (by rw [r2.length, z]; rfl)
          subst this
          rw [List.append_nil] at q
          exact q.now hr (.tup s1 r1)
      · rw [if_neg c] at e'
        cases e'
    | _ => cases e
  | lst s1 r1 => exact lists (.lst s1 r1) e
  | ref hk => exact lists (.ref hk) e
  | non => cases ry <;> cases e
  | bl b => cases ry <;> cases e

/-! is None -/
def dIsN (_ : List MO) : D → D → Option D
  | .non, .non => some (.bl true)
  | _, .non => some (.bl false)
  | _, _ => none
def dNotN (_ : List MO) : D → D → Option D
  | .non, .non => some (.bl false)
  | _, .non => some (.bl true)
  | _, _ => none
theorem ok_isN : Ok2 X (fun x y H Q => y = .non ∧ Q (.bl (decide (x = .non))) H) dIsN := fun x y H Z ι M dx dy d Q hr rx ry e q => by
  cases ry with
  | non =>
    refine ⟨rfl, ?_⟩
    cases rx with
    | non =>
      cases e
      exact q.now hr (.bl true)
    | _ =>
      cases e
      exact q.now hr (.bl false)
  | _ => cases rx <;> cases e
theorem ok_notN : Ok2 X (fun x y H Q => y = .non ∧ Q (.bl (!decide (x = .non))) H) dNotN := fun x y H Z ι M dx dy d Q hr rx ry e q => by
  cases ry with
  | non =>
    refine ⟨rfl, ?_⟩
    cases rx with
    | non =>
      cases e
      exact q.now hr (.bl false)
    | _ =>
      cases e
      exact q.now hr (.bl true)
  | _ => cases rx <;> cases e

/-! equal data -/
mutual
/-- data without refs -/
def toP : D → Option PyData
  | .non => some .none
  | .bl b => some (.bool b)
  | .int i => some (.int i)
  | .str x => some (.str x)
  | .tup ds => (toPs ds).map .tuple
  | .lst ds => (toPs ds).map .list
  | .ref _ => none
def toPs : List D → Option (List PyData)
  | [] => some []
  | d :: ds => match toP d, toPs ds with
    | some p, some ps => some (p :: ps)
    | _, _ => none
end
/-- a list of ours, and those in it, as they stand -/
def deref1 (M : List MO) : D → D
  | .ref k => match M[k]? with
    | some (.lst ds) => .lst ds
    | _ => .ref k
  | d => d
def deref (M : List MO) (d : D) : D := match deref1 M d with
  | .lst ds => .lst (ds.map (deref1 M))
  | d => d
section
variable {K : PySem.W.Frag} {H Z : Hp} {ι : Nat → Addr} {n : Nat} {M : List MO}
mutual
theorem toP_dp (hs : Sub Z H) : ∀ (d : D) (v : V) (p : PyData), Rp K Z ι n d v → toP d = some p → Dp K H v p
  | .non, _, p, h, e => by cases h; cases e; exact .non
  | .bl b, _, p, h, e => by cases h; cases e; exact .bl b
  | .int i, _, p, h, e => by cases h; cases e; exact .int i
  | .str x, _, p, h, e => by cases h; cases e; exact .str x
  | .tup ds, _, p, h, e => by
    cases h with
    | tup s r =>
      have e' : (toPs ds).map PyData.tuple = some p := e
      cases e2 : toPs ds with
      | none => rw [e2] at e'; cases e'
      | some ps =>
        rw [e2] at e'
        cases e'
        exact .tup (subT hs s) (toPs_dp hs ds _ ps r e2)
  | .lst ds, _, p, h, e => by
    cases h with
    | lst s r =>
      have e' : (toPs ds).map PyData.list = some p := e
      cases e2 : toPs ds with
      | none => rw [e2] at e'; cases e'
      | some ps =>
        rw [e2] at e'
        cases e'
        exact .lst (subL hs s).sq (toPs_dp hs ds _ ps r e2)
  | .ref k, _, p, h, e => by cases e
theorem toPs_dp (hs : Sub Z H) : ∀ (ds : List D) (vs : List V) (ps : List PyData), Rps K Z ι n ds vs → toPs ds = some ps → DpAll K H vs ps
  | [], _, ps, h, e => by cases h; cases e; exact .nil
  | d :: ds, _, ps, h, e => by
    cases h with
    | cons r rs =>
      have e' : (match toP d, toPs ds with
        | some p, some ps => some (p :: ps)
        | _, _ => none) = some ps := e
      cases e1 : toP d with
      | none => rw [e1] at e'; cases e'
      | some p =>
        cases e2 : toPs ds with
        | none => rw [e1, e2] at e'; cases e'
        | some qs =>
          rw [e1, e2] at e'
          cases e'
          exact .cons (toP_dp hs d _ p r e1) (toPs_dp hs ds _ qs rs e2)
end
theorem deref1_dp (hr : HR K H Z ι M) {d : D} {v : V} {p : PyData} (r : Rp K Z ι M.length d v) (e : toP (deref1 M d) = some p) : Dp K H v p := by
  cases r with
  | ref hk =>
    rename_i k
    have e' : toP (match M[k]? with
      | some (.lst ds) => .lst ds
      | _ => .ref k) = some p := e
    cases e1 : M[k]? with
    | none => rw [e1] at e'; cases e'
    | some o =>
      rw [e1] at e'
      cases o with
      | dead => cases e'
      | obj nm fs => cases e'
      | lst ds =>
        have e2 : (toPs ds).map PyData.list = some p := e'
        obtain ⟨xs, h1, r1⟩ := hr.obj k _ e1
        cases e3 : toPs ds with
        | none => rw [e3] at e2; cases e2
        | some ps =>
          rw [e3] at e2
          cases e2
          exact .lst (.of h1) (toPs_dp hr.sub ds _ ps r1 e3)
  | non => exact toP_dp (ι := ι) (n := M.length) hr.sub _ _ _ .non e
  | bl b => exact toP_dp (ι := ι) (n := M.length) hr.sub _ _ _ (.bl b) e
  | int i => exact toP_dp (ι := ι) (n := M.length) hr.sub _ _ _ (.int i) e
  | str x => exact toP_dp (ι := ι) (n := M.length) hr.sub _ _ _ (.str x) e
  | tup s r => exact toP_dp hr.sub _ _ _ (.tup s r) e
  | lst s r => exact toP_dp hr.sub _ _ _ (.lst s r) e
theorem deref1s_dp (hr : HR K H Z ι M) : ∀ {ds : List D} {vs : List V} {ps : List PyData}, Rps K Z ι M.length ds vs → toPs (ds.map (deref1 M)) = some ps → DpAll K H vs ps
  | [], _, ps, h, e => by cases h; cases e; exact .nil
  | d :: ds, _, ps, h, e => by
    cases h with
    | cons r rs =>
      have e' : (match toP (deref1 M d), toPs (ds.map (deref1 M)) with
        | some p, some ps => some (p :: ps)
        | _, _ => none) = some ps := e
      cases e1 : toP (deref1 M d) with
      | none => rw [e1] at e'; cases e'
      | some p =>
        cases e2 : toPs (ds.map (deref1 M)) with
        | none => rw [e1, e2] at e'; cases e'
        | some qs =>
          rw [e1, e2] at e'
          cases e'
          exact .cons (deref1_dp hr r e1) (deref1s_dp hr rs e2)
theorem deref_dp (hr : HR K H Z ι M) {d : D} {v : V} {p : PyData} (r : Rp K Z ι M.length d v) (e : toP (deref M d) = some p) : Dp K H v p := by
  have two : ∀ {ds : List D} {a : Addr} {xs : List V}, SqL K H a xs → Rps K Z ι M.length ds xs → toP (.lst (ds.map (deref1 M))) = some p → Dp K H (.ref a) p := fun {ds a xs} s r e => by
    have e' : (toPs (ds.map (deref1 M))).map PyData.list = some p := e
    cases e2 : toPs (ds.map (deref1 M)) with
    | none => rw [e2] at e'; cases e'
    | some ps =>
      rw [e2] at e'
      cases e'
      exact .lst s (deref1s_dp hr r e2)
  cases r with
  | lst s r => exact two (subL hr.sub s).sq r e
  | ref hk =>
    rename_i k
    cases e1 : M[k]? with
    | none =>
      have : deref M (.ref k) = .ref k := by simp [deref, deref1, e1]
      rw [this] at e
      cases e
    | some o =>
      cases o with
      | dead =>
        have : deref M (.ref k) = .ref k := by simp [deref, deref1, e1]
        rw [this] at e
        cases e
      | obj nm fs =>
        have : deref M (.ref k) = .ref k := by simp [deref, deref1, e1]
        rw [this] at e
        cases e
      | lst ds =>
        have : deref M (.ref k) = .lst (ds.map (deref1 M)) := by simp [deref, deref1, e1]
        rw [this] at e
        obtain ⟨xs, h1, r1⟩ := hr.obj k _ e1
        exact two (.of h1) r1 e
  | non => exact toP_dp (ι := ι) (n := M.length) hr.sub _ _ _ .non e
  | bl b => exact toP_dp (ι := ι) (n := M.length) hr.sub _ _ _ (.bl b) e
  | int i => exact toP_dp (ι := ι) (n := M.length) hr.sub _ _ _ (.int i) e
  | str x => exact toP_dp (ι := ι) (n := M.length) hr.sub _ _ _ (.str x) e
  | tup s r => exact toP_dp hr.sub _ _ _ (.tup s r) e
end
def eqP (M : List MO) (x y : D) : Option Bool := match toP (deref M x), toP (deref M y) with
  | some p, some q => if (SeqAt.shaped p && SeqAt.shaped q) = true then some (PyData.eqv p q) else none
  | _, _ => none
def dEq (M : List MO) (x y : D) : Option D := (eqP M x y).map D.bl
def dNe (M : List MO) (x y : D) : Option D := (eqP M x y).map fun b => D.bl (!b)
theorem eqP_run {K : PySem.W.Frag} {H Z : Hp} {ι : Nat → Addr} {M : List MO} {dx dy : D} {x y : V} {b : Bool} (hr : HR K H Z ι M) (rx : Rp K Z ι M.length dx x) (ry : Rp K Z ι M.length dy y) (e : eqP M dx dy = some b) :
    ∃ p q, Dp K H x p ∧ Dp K H y q ∧ SeqAt.shaped p = true ∧ SeqAt.shaped q = true ∧ PyData.eqv p q = b := by
  unfold eqP at e
  cases e1 : toP (deref M dx) with
  | none => rw [e1] at e; cases e
  | some p =>
    cases e2 : toP (deref M dy) with
    | none => rw [e1, e2] at e; cases e
    | some q =>
      rw [e1, e2] at e
      simp only at e
      by_cases c : (SeqAt.shaped p && SeqAt.shaped q) = true
      · rw [if_pos c] at e
        rw [Bool.and_eq_true] at c
        exact ⟨p, q, deref_dp hr rx e1, deref_dp hr ry e2, c.1, c.2, Option.some.inj e⟩
      · rw [if_neg c] at e
        cases e
theorem ok_eq : Ok2 X (rEqD X.K) dEq := fun x y H Z ι M dx dy d Q hr rx ry e q => by
  unfold dEq at e
  cases e1 : eqP M dx dy with
  | none => rw [e1] at e; cases e
  | some b =>
    rw [e1] at e
    cases e
    obtain ⟨p, p', h1, h2, h3, h4, h5⟩ := eqP_run hr rx ry e1
    exact ⟨p, p', h1, h2, h3, h4, by rw [h5]; exact q.now hr (.bl b)⟩
theorem ok_ne : Ok2 X (rNeD X.K) dNe := fun x y H Z ι M dx dy d Q hr rx ry e q => by
  unfold dNe at e
  cases e1 : eqP M dx dy with
  | none => rw [e1] at e; cases e
  | some b =>
    rw [e1] at e
    cases e
    obtain ⟨p, p', h1, h2, h3, h4, h5⟩ := eqP_run hr rx ry e1
    exact ⟨p, p', h1, h2, h3, h4, by rw [h5]; exact q.now hr (.bl _)⟩
end
end Bk

set_option Elab.async false
set_option linter.all false
set_option maxRecDepth 100000
set_option maxHeartbeats 2000000
namespace Bk
open PySem PySem.Spec PyProof.Rows L2
section
variable {X : Cx}
/-! a list times a number -/
def rRepS (K : PySem.W.Frag) : R2 := fun x y H Q => ∃ l k xs, x = .ref l ∧ y = .int k ∧ ExL K H l xs ∧ -(2 ^ 63) ≤ k ∧ k < 2 ^ 63 ∧ xs.length * k.toNat ≤ sizeLine ∧ ∀ p, H p = none → Q (.ref p) (upd H p (.lst (List.replicate k.toNat xs).flatten))
theorem op_repS : OpR X (binaryOp .Mult) (rRepS X.K) := by
  intro pins s σ H x y v u Q I rx ry h
  obtain ⟨l, k, xs, rfl, rfl, hx, k1, k2, hz, q⟩ := h
  cases rx
  obtain ⟨tk, rfl⟩ := ry
  obtain ⟨its, m, rv, eo, _⟩ := hx.at_ I
  have hl := rv.length
  have size : its.toArray.size * k.toNat ≤ sizeLine := by rw [List.size_toArray, ← hl]; exact hz
  have cap : ¬ its.toArray.size * k.toNat > (2 ^ 63 - 1) / 8 := Nat.not_lt.mpr (Nat.le_trans size (by decide))
  have fit : ¬ (!Builtin.List.listFitsIndex k) = true := by
    rw [fitsIndex_both k1 k2]
    exact Bool.false_ne_true
  have long : ¬ Builtin.List.listTooLong (its.toArray.size * k.toNat) = true := by
    rw [notLongL size]
    exact Bool.false_ne_true
  have made : List.foldl (fun a b => a ++ b) #[] (List.replicate (if its.toArray.isEmpty = true then 0 else k.toNat) its.toArray) = (List.replicate k.toNat its).flatten.toArray := by
    have any : ∀ j : Nat, List.foldl (fun a b => a ++ b) #[] (List.replicate j its.toArray) = (List.replicate j its).flatten.toArray := fun j => by simpa using foldl_rep its j []
    rw [any]
    cases its with
    | nil => simp
    | cons a r' => simp
  refine wpAny_binaryOp_repeat_ref (T := "list") (U := "int") (by decide) ⟨_, eo, rfl⟩ (fun s' => typeIs_int s' k tk) noFill_list_mul F.fills_int_mul F.slot_int_rmul repeat_list F.slot_int_index.lookup ?_
  refine call_meets F.slot_int_rmul (typeIs_int s k tk) F.entry_int_rmul (F.args_int_rmul_2 _ _) (int___rmul___int_list k tk l its.toArray m) ⟨eo, rfl, ⟨_, eo, rfl⟩, ?_⟩
  refine call_meets F.slot_list_mul ⟨_, eo, rfl⟩ F.entry_list_mul (F.args_list_mul_2 _ _) (AutoListH.list___mul___list_int_3 l its.toArray m k tk fit cap long) ⟨eo, ?_⟩
  rw [made]
  exact ⟨.ref _, _, I.lnew (t' := s.toks) (rv.rep k.toNat) (by rw [PyProof.Rows.lm_len_rep_flat, Nat.mul_comm]; exact hz), rfl, q _ I.fresh⟩
def repI (M : List MO) (x : D) : D → Option D
  | .int k => match listD M x with
    | some a => if decide (k < 2 ^ 63) && decide (-(2 ^ 63) ≤ k) && decide (a.length * k.toNat ≤ sizeLine) then some (.lst (List.replicate k.toNat a).flatten) else none
    | none => none
  | _ => none
def dMulA (M : List MO) : D → D → Option D
  | .int i, y => dMul M (.int i) y
  | x, y => repI M x y
abbrev rMulA (K : PySem.W.Frag) : R2 := fun x y H Q => rI (fun i j => mulOk i j = true) (fun i j => .int (i * j)) x y H Q ∨ rRepS K x y H Q
theorem op_mulL : OpR X (binaryOp .Mult) (rMulA X.K) := op_mulA.or op_repS
theorem ok_mulL : Ok2 X (rMulA X.K) dMulA := fun x y H Z ι M dx dy d Q hr rx ry e q => by
  have lists : ∀ {dx : D}, Rp X.K Z ι M.length dx x → repI M dx dy = some d → rMulA X.K x y H Q := fun {dx} rx e => by
    cases ry with
    | int k =>
      have e' : (match listD M dx with
        | some a => if decide (k < 2 ^ 63) && decide (-(2 ^ 63) ≤ k) && decide (a.length * k.toNat ≤ sizeLine) then some (D.lst (List.replicate k.toNat a).flatten) else none
        | none => none) = some d := e
      cases e1 : listD M dx with
      | none => rw [e1] at e'; cases e'
      | some a =>
        rw [e1] at e'
        simp only at e'
        by_cases c : (decide (k < 2 ^ 63) && decide (-(2 ^ 63) ≤ k) && decide (a.length * k.toNat ≤ sizeLine)) = true
        · rw [if_pos c] at e'
          cases e'
          simp only [Bool.and_eq_true, decide_eq_true_eq] at c
          obtain ⟨p1, xs, rfl, s1, r1⟩ := listD_run hr rx e1
          exact .inr ⟨p1, k, xs, rfl, rfl, s1, c.1.2, c.1.1, by rw [← r1.length]; exact c.2, q.lst hr (r1.rep k.toNat)⟩
        · rw [if_neg c] at e'
          cases e'
    | _ => cases e
  cases rx with
  | int i => exact .inl (ok_mul (X := X) _ _ H Z ι M _ _ d Q hr (.int i) ry e q)
  | lst s1 r1 => exact lists (.lst s1 r1) e
  | ref hk => exact lists (.ref hk) e
  | tup s1 r1 => exact lists (.tup s1 r1) e
  | non => exact lists .non e
  | bl b => exact lists (.bl b) e
  | str b => exact lists (.str b) e
/-! minus -/
def dNeg (_ : List MO) : D → Option D
  | .int i => some (.int (-i))
  | _ => none
theorem ok_neg : Ok1 X (rU fun i => .int (-i)) dNeg := fun x H Z ι M dx d Q hr rx e q => by
  cases rx with
  | int i =>
    cases e
    exact ⟨i, rfl, q.now hr (.int _)⟩
  | _ => cases e
/-! items -/
def dIx (M : List MO) (x : D) : D → Option D
  | .int i => (itemsD M x).bind fun ds => atI ds i
  | _ => none
theorem atI_rp {K : PySem.W.Frag} {Z : Hp} {ι : Nat → Addr} {n : Nat} {ds : List D} {vs : List V} {i : Int} {d : D} (r : Rps K Z ι n ds vs) (h : atI ds i = some d) : ∃ v, atI vs i = some v ∧ Rp K Z ι n d v := by
  unfold atI at h
  cases e : ixN ds.length i with
  | none => rw [e] at h; cases h
  | some j =>
    rw [e] at h
    obtain ⟨v, h1, h2⟩ := r.get (i := j) h
    refine ⟨v, ?_, h2⟩
    unfold atI
    rw [← r.length, e]
    exact h1
abbrev rIxA (K : PySem.W.Frag) : R2 := fun x y H Q => rIxL K x y H Q ∨ rIxT K x y H Q
theorem ix_A : IxR X (rIxA X.K) := ix_list.or ix_tup
theorem ok_ix : Ok2 X (rIxA X.K) dIx := fun x y H Z ι M dx dy d Q hr rx ry e q => by
  cases ry with
  | int i =>
    have e' : (itemsD M dx).bind (fun ds => atI ds i) = some d := e
    cases e1 : itemsD M dx with
    | none => rw [e1] at e'; cases e'
    | some ds =>
      rw [e1] at e'
      obtain ⟨a, xs, rfl, s, r⟩ := itemsD_run hr rx e1
      obtain ⟨v, h1, h2⟩ := atI_rp r e'
      rcases s with s | s
      · exact .inl ⟨a, xs, i, v, rfl, rfl, s.sq, h1, q.now hr h2⟩
      · exact .inr ⟨a, xs, i, v, rfl, rfl, s, h1, q.now hr h2⟩
  | _ => cases e
/-! in -/
def toV : D → Option V
  | .non => some .non
  | .bl b => some (.bl b)
  | .int i => some (.int i)
  | .str x => some (.str x)
  | _ => none
def toVs : List D → Option (List V)
  | [] => some []
  | d :: ds => match toV d, toVs ds with
    | some v, some vs => some (v :: vs)
    | _, _ => none
theorem toV_is {K : PySem.W.Frag} {Z : Hp} {ι : Nat → Addr} {n : Nat} {d : D} {v w : V} (r : Rp K Z ι n d v) (h : toV d = some w) : v = w ∧ flatV v = true := by
  cases r with
  | non => cases h; exact ⟨rfl, rfl⟩
  | bl b => cases h; exact ⟨rfl, rfl⟩
  | int i => cases h; exact ⟨rfl, rfl⟩
  | str x => cases h; exact ⟨rfl, rfl⟩
  | _ => cases h
theorem toVs_is {K : PySem.W.Frag} {Z : Hp} {ι : Nat → Addr} {n : Nat} : ∀ {ds : List D} {vs ws : List V}, Rps K Z ι n ds vs → toVs ds = some ws → vs = ws ∧ vs.all flatV = true
  | [], _, _, r, h => by cases r; cases h; exact ⟨rfl, rfl⟩
  | d :: ds, _, _, r, h => by
    cases r with
    | cons r rs =>
      have h' : (match toV d, toVs ds with
        | some v, some vs => some (v :: vs)
        | _, _ => none) = some _ := h
      cases e1 : toV d with
      | none => rw [e1] at h'; cases h'
      | some v =>
        cases e2 : toVs ds with
        | none => rw [e1, e2] at h'; cases h'
        | some vs =>
          rw [e1, e2] at h'
          cases h'
          obtain ⟨a1, a2⟩ := toV_is r e1
          obtain ⟨b1, b2⟩ := toVs_is rs e2
          exact ⟨by rw [a1, b1], by simp [a2, b2]⟩
def inP (M : List MO) (x y : D) : Option Bool := match toV x, (itemsD M y).bind toVs with
  | some v, some vs => some (inV v vs)
  | _, _ => none
def dIn (M : List MO) (x y : D) : Option D := (inP M x y).map D.bl
def dNotIn (M : List MO) (x y : D) : Option D := (inP M x y).map fun b => D.bl (!b)
theorem inP_run {K : PySem.W.Frag} {H Z : Hp} {ι : Nat → Addr} {M : List MO} {dx dy : D} {x y : V} {b : Bool} (hr : HR K H Z ι M) (rx : Rp K Z ι M.length dx x) (ry : Rp K Z ι M.length dy y) (e : inP M dx dy = some b) :
    ∃ p xs, y = .ref p ∧ (SqL K H p xs ∨ SqT K H p xs) ∧ flatV x = true ∧ xs.all flatV = true ∧ inV x xs = b := by
  unfold inP at e
  cases e1 : toV dx with
  | none => rw [e1] at e; cases e
  | some v =>
    cases e2 : itemsD M dy with
    | none => rw [e1, e2] at e; cases e
    | some ds =>
      cases e3 : toVs ds with
      | none => rw [e1, e2, Option.bind_some, e3] at e; cases e
      | some vs =>
        rw [e1, e2, Option.bind_some, e3] at e
        cases e
        obtain ⟨a1, a2⟩ := toV_is rx e1
        obtain ⟨p, xs, rfl, s, r⟩ := itemsD_run hr ry e2
        obtain ⟨b1, b2⟩ := toVs_is r e3
        subst a1 b1
        exact ⟨p, _, rfl, s.elim (fun s => .inl s.sq) .inr, a2, b2, rfl⟩
theorem ok_in : Ok2 X (rIn X.K false) dIn := fun x y H Z ι M dx dy d Q hr rx ry e q => by
  unfold dIn at e
  cases e1 : inP M dx dy with
  | none => rw [e1] at e; cases e
  | some b =>
    rw [e1] at e
    cases e
    obtain ⟨p, xs, h1, h2, h3, h4, h5⟩ := inP_run hr rx ry e1
    exact ⟨p, xs, h1, h2, h3, h4, by rw [h5]; exact q.now hr (.bl b)⟩
theorem ok_notIn : Ok2 X (rIn X.K true) dNotIn := fun x y H Z ι M dx dy d Q hr rx ry e q => by
  unfold dNotIn at e
  cases e1 : inP M dx dy with
  | none => rw [e1] at e; cases e
  | some b =>
    rw [e1] at e
    cases e
    obtain ⟨p, xs, h1, h2, h3, h4, h5⟩ := inP_run hr rx ry e1
    exact ⟨p, xs, h1, h2, h3, h4, by rw [h5]; exact q.now hr (.bl _)⟩
/-! slices -/
abbrev GO := Env → List MO → R (Option Int)
abbrev rpO : RpK (Option Int) (Option Int) := fun _ _ _ a b => a = b
def QO (X : Cx) (C : CT) (W : WX) (e : Option Expr) (g : GO) : Prop := ∃ te, PO X e te ∧ ∀ (σ : St) (H Z : Hp) (ι : Nat → Addr) (Γ : Env) (M : List MO) (Q : Option Int → Hp → Prop), Slots X.K Z ι M.length Γ σ → HR X.K H Z ι M → Post X C W rpO σ H Z ι M (g Γ M) Q → te σ H Q
def gNoO : GO := fun _ M => .ok none M
def toI : D → Option Int
  | .int i => some i
  | _ => none
def gO (ge : GE) : GO := fun Γ M => (ge Γ M).bind fun d M1 => opR ((toI d).map some) M1
variable {C : CT} {W : WX}
theorem qo_none : QO X C W none gNoO := ⟨_, po_none, fun σ H Z ι Γ M Q sl hr h => h none H Z ι .refl hr rfl⟩
theorem qo_some {e : Expr} {g : GE} (h : QE X C W e g) : QO X C W (some e) (gO g) := by
  obtain ⟨t, p, q⟩ := h
  refine ⟨_, po_some p, fun σ H Z ι Γ M Q sl hr h => q σ H Z ι Γ M _ sl hr (h.bind fun x M1 v H1 Z1 ι1 e1 hr1 r1 h1 => ?_)⟩
  cases r1 with
  | int i => exact ⟨i, rfl, h1 _ H1 Z1 ι1 .refl hr1 rfl⟩
  | _ => exact h1.elim
def cutD (ds : List D) (lo hi : Option Int) : List D := (ds.drop (HT.sIx ds.length 0 lo)).take (HT.sIx ds.length ds.length hi - HT.sIx ds.length 0 lo)
def dCut (M : List MO) (lo hi : Option Int) : D → Option D
  | .tup ds => some (.tup (cutD ds lo hi))
  | d => (listD M d).map fun ds => .lst (cutD ds lo hi)
def gSl (ge : GE) (lo hi : GO) : GE := fun Γ M => (ge Γ M).bind fun x M1 => (lo Γ M1).bind fun a M2 => (hi Γ M2).bind fun b M3 => opR (dCut M3 a b x) M3
theorem cut_rps {K : PySem.W.Frag} {Z : Hp} {ι : Nat → Addr} {n : Nat} {ds : List D} {vs : List V} (r : Rps K Z ι n ds vs) (lo hi : Option Int) : Rps K Z ι n (cutD ds lo hi) (cutV vs lo hi) := by
  unfold cutD cutV
  rw [r.length]
  exact (r.drop _).take _
theorem qe_slice {e : Expr} {lo hi : Option Expr} {g : GE} {gl gh : GO} {pos p2 : Pos} (he : QE X C W e g) (hl : QO X C W lo gl) (hh : QO X C W hi gh) : QE X C W (.Subscript e (.Slice lo hi none p2) pos) (gSl g gl gh) := by
  obtain ⟨t, p, q⟩ := he
  obtain ⟨tl, pl, ql⟩ := hl
  obtain ⟨th, ph, qh⟩ := hh
  refine ⟨_, pe_slice (sl_list.or sl_tupA) p pl ph, fun σ H Z ι Γ M Q sl hr h => q σ H Z ι Γ M _ sl hr (h.bind fun x M1 v H1 Z1 ι1 e1 hr1 r1 h1 => ql σ H1 Z1 ι1 Γ M1 _ (sl.ext e1) hr1 (h1.bind fun a M2 a' H2 Z2 ι2 e2 hr2 ra h2 =>
    qh σ H2 Z2 ι2 Γ M2 _ ((sl.ext e1).ext e2) hr2 (h2.bind fun b M3 b' H3 Z3 ι3 e3 hr3 rb h3 => ?_)))⟩
  have ra' : a = a' := ra
  have rb' : b = b' := rb
  subst ra' rb'
  obtain ⟨d, hd, h4⟩ := Post.of_opR (γ := D) (δ := V) h3
  have r3 := (r1.ext e2).ext e3
  have q3 := h4.after
  have lists : ∀ {dx : D}, Rp X.K Z3 ι3 M3.length dx v → (listD M3 dx).map (fun ds => D.lst (cutD ds a b)) = some d → rSlL X.K v a b H3 Q := fun {dx} rx e => by
    cases e1 : listD M3 dx with
    | none => rw [e1] at e; cases e
    | some ds =>
      rw [e1] at e
      cases e
      obtain ⟨p1, xs, rfl, s1, r1⟩ := listD_run hr3 rx e1
      exact ⟨p1, xs, rfl, s1.sq, q3.lst hr3 (cut_rps r1 a b)⟩
  cases r3 with
  | tup s r =>
    rename_i ds a0 xs
    cases hd
    refine .inr ⟨a0, xs, rfl, subT hr3.sub s, fun z => ?_, fun _ => q3.tup hr3 (cut_rps r a b)⟩
    have ec : cutD ds a b = ds := by
      unfold cutD
      rw [r.length, z.1, z.2, List.drop_zero, Nat.sub_zero, ← r.length, List.take_length]
    rw [ec] at q3
    exact q3.now hr3 (.tup s r)
  | lst s r => exact .inl (lists (.lst s r) hd)
  | ref hk => exact .inl (lists (.ref hk) hd)
  | non => cases hd
  | bl b => cases hd
  | int b => cases hd
  | str b => cases hd
end
end Bk

set_option Elab.async false
set_option linter.all false
set_option maxRecDepth 100000
set_option maxHeartbeats 2000000
namespace Bk
open PySem PySem.Spec PyProof.Rows L2
section
variable {X : Cx}
theorem rps1 {K : PySem.W.Frag} {Z : Hp} {ι : Nat → Addr} {n : Nat} {d : D} {vs : List V} (r : Rps K Z ι n [d] vs) : ∃ v, vs = [v] ∧ Rp K Z ι n d v := by
  cases r with
  | cons r rs =>
    cases rs
    exact ⟨_, rfl, r⟩
theorem rps2 {K : PySem.W.Frag} {Z : Hp} {ι : Nat → Addr} {n : Nat} {d e : D} {vs : List V} (r : Rps K Z ι n [d, e] vs) : ∃ v u, vs = [v, u] ∧ Rp K Z ι n d v ∧ Rp K Z ι n e u := by
  cases r with
  | cons r rs =>
    obtain ⟨u, rfl, r2⟩ := rps1 rs
    exact ⟨_, u, rfl, r, r2⟩
/-- a function of one argument -/
def fn1 (f : List MO → D → Option D) (M : List MO) : List D → Option D
  | [d] => f M d
  | _ => none
theorem OkA.of1 {r : List V → Hp → VK → Prop} {f : List MO → D → Option D} (h : Ok1 X (fun x H Q => r [x] H Q) f) : OkA X r (fn1 f) := fun xs H Z ι M ds d Q hr rx e q => by
  match ds, e, rx with
  | [d0], e, rx =>
    obtain ⟨v, rfl, r1⟩ := rps1 rx
    exact h v H Z ι M d0 d Q hr r1 e q
def fn2 (f : List MO → D → D → Option D) (M : List MO) : List D → Option D
  | [d, e] => f M d e
  | _ => none
theorem OkA.of2 {r : List V → Hp → VK → Prop} {f : List MO → D → D → Option D} (h : Ok2 X (fun x y H Q => r [x, y] H Q) f) : OkA X r (fn2 f) := fun xs H Z ι M ds d Q hr rx e q => by
  match ds, e, rx with
  | [d0, d1], e, rx =>
    obtain ⟨v, u, rfl, r1, r2⟩ := rps2 rx
    exact h v u H Z ι M d0 d1 d Q hr r1 r2 e q
/-! len -/
def dLen (M : List MO) : D → Option D
  | .str x => if x.length ≤ sizeLine then some (.int x.length) else none
  | d => (itemsD M d).map fun ds => .int ds.length
theorem ok_len : Ok1 X (fun x H Q => ∃ x' n, [x] = [x'] ∧ LenV X.K x' H n ∧ Q (.int n) H) dLen := fun x H Z ι M dx d Q hr rx e q => by
  have seqs : ∀ {dx : D}, Rp X.K Z ι M.length dx x → (itemsD M dx).map (fun ds => D.int ds.length) = some d → ∃ x' n, [x] = [x'] ∧ LenV X.K x' H n ∧ Q (.int n) H := fun {dx} rx e => by
    cases e1 : itemsD M dx with
    | none => rw [e1] at e; cases e
    | some ds =>
      rw [e1] at e
      cases e
      obtain ⟨a, xs, rfl, s, r⟩ := itemsD_run hr rx e1
      refine ⟨_, xs.length, rfl, ?_, by rw [← r.length]; exact q.now hr (.int _)⟩
      rcases s with s | s
      · exact .inl ⟨xs, s.sq, rfl⟩
      · exact .inr ⟨xs, s, rfl⟩
  cases rx with
  | str z =>
    have e' : (if z.length ≤ sizeLine then some (D.int z.length) else none) = some d := e
    by_cases c : z.length ≤ sizeLine
    · rw [if_pos c] at e'
      cases e'
      exact ⟨_, z.length, rfl, ⟨c, rfl⟩, q.now hr (.int _)⟩
    · rw [if_neg c] at e'
      cases e'
  | tup s r => exact seqs (.tup s r) e
  | lst s r => exact seqs (.lst s r) e
  | ref hk => exact seqs (.ref hk) e
  | non => exact seqs .non e
  | bl b => exact seqs (.bl b) e
  | int b => exact seqs (.int b) e
/-! int -/
def dInt (_ : List MO) : D → Option D
  | .int i => some (.int i)
  | .bl b => some (.int (if b then 1 else 0))
  | _ => none
theorem ok_int : Ok1 X (fun x H Q => (∃ i, [x] = [.int i] ∧ Q (.int i) H) ∨ ∃ k, [x] = [.bl k] ∧ Q (.int (if k then 1 else 0)) H) dInt := fun x H Z ι M dx d Q hr rx e q => by
  cases rx with
  | int i =>
    cases e
    exact .inl ⟨i, rfl, q.now hr (.int i)⟩
  | bl b =>
    cases e
    exact .inr ⟨b, rfl, q.now hr (.int _)⟩
  | _ => cases e
/-! str of a number -/
def dStr (_ : List MO) : D → Option D
  | .int i => if i.natAbs.log2 < 1920 then some (.str (toString i)) else none
  | _ => none
theorem ok_str : Ok1 X (fun x H Q => ∃ i, [x] = [.int i] ∧ i.natAbs.log2 < 1920 ∧ Q (.str (toString i)) H) dStr := fun x H Z ι M dx d Q hr rx e q => by
  cases rx with
  | int i =>
    have e' : (if i.natAbs.log2 < 1920 then some (D.str (toString i)) else none) = some d := e
    by_cases c : i.natAbs.log2 < 1920
    · rw [if_pos c] at e'
      cases e'
      exact ⟨i, rfl, c, q.now hr (.str _)⟩
    · rw [if_neg c] at e'
      cases e'
  | _ => cases e
/-! min, max, sum, all, any -/
def dMin2 (_ : List MO) : D → D → Option D
  | .int i, .int j => some (.int (if j < i then j else i))
  | _, _ => none
def dMax2 (_ : List MO) : D → D → Option D
  | .int i, .int j => some (.int (if j > i then j else i))
  | _, _ => none
theorem ok_min2 : Ok2 X (fun x y H Q => ∃ i j, [x, y] = [V.int i, .int j] ∧ Q (.int (if j < i then j else i)) H) dMin2 := fun x y H Z ι M dx dy d Q hr rx ry e q => by
  cases rx with
  | int i =>
    cases ry with
    | int j =>
      cases e
      exact ⟨i, j, rfl, q.now hr (.int _)⟩
    | _ => cases e
  | _ => cases ry <;> cases e
theorem ok_max2 : Ok2 X (fun x y H Q => ∃ i j, [x, y] = [V.int i, .int j] ∧ Q (.int (if j > i then j else i)) H) dMax2 := fun x y H Z ι M dx dy d Q hr rx ry e q => by
  cases rx with
  | int i =>
    cases ry with
    | int j =>
      cases e
      exact ⟨i, j, rfl, q.now hr (.int _)⟩
    | _ => cases e
  | _ => cases ry <;> cases e
def intsD : List D → Option (List Int)
  | [] => some []
  | .int i :: ds => (intsD ds).map (i :: ·)
  | _ => none
def blsD : List D → Option (List Bool)
  | [] => some []
  | .bl i :: ds => (blsD ds).map (i :: ·)
  | _ => none
theorem intsD_is {K : PySem.W.Frag} {Z : Hp} {ι : Nat → Addr} {n : Nat} : ∀ {ds : List D} {vs : List V} {is : List Int}, Rps K Z ι n ds vs → intsD ds = some is → vs = is.map V.int
  | [], _, _, r, h => by cases r; cases h; rfl
  | .int i :: ds, _, _, r, h => by
    cases r with
    | cons r rs =>
      have h' : (intsD ds).map (i :: ·) = some _ := h
      cases e : intsD ds with
      | none => rw [e] at h'; cases h'
      | some js =>
        rw [e] at h'
        cases h'
        cases r
        rw [intsD_is rs e]
        rfl
  | .non :: _, _, _, _, h => by cases h
  | .bl _ :: _, _, _, _, h => by cases h
  | .str _ :: _, _, _, _, h => by cases h
  | .tup _ :: _, _, _, _, h => by cases h
  | .lst _ :: _, _, _, _, h => by cases h
  | .ref _ :: _, _, _, _, h => by cases h
theorem blsD_is {K : PySem.W.Frag} {Z : Hp} {ι : Nat → Addr} {n : Nat} : ∀ {ds : List D} {vs : List V} {is : List Bool}, Rps K Z ι n ds vs → blsD ds = some is → vs = is.map V.bl
  | [], _, _, r, h => by cases r; cases h; rfl
  | .bl i :: ds, _, _, r, h => by
    cases r with
    | cons r rs =>
      have h' : (blsD ds).map (i :: ·) = some _ := h
      cases e : blsD ds with
      | none => rw [e] at h'; cases h'
      | some js =>
        rw [e] at h'
        cases h'
        cases r
        rw [blsD_is rs e]
        rfl
  | .non :: _, _, _, _, h => by cases h
  | .int _ :: _, _, _, _, h => by cases h
  | .str _ :: _, _, _, _, h => by cases h
  | .tup _ :: _, _, _, _, h => by cases h
  | .lst _ :: _, _, _, _, h => by cases h
  | .ref _ :: _, _, _, _, h => by cases h
@[simp] theorem intsD_map (is : List Int) : intsD (is.map D.int) = some is := by
  induction is with
  | nil => rfl
  | cons i is ih => simp [intsD, ih]
@[simp] theorem blsD_map (is : List Bool) : blsD (is.map D.bl) = some is := by
  induction is with
  | nil => rfl
  | cons i is ih => simp [blsD, ih]
def minI : List Int → Int
  | [] => 0
  | [i] => i
  | i :: j :: r => let m := minI (j :: r); if i ≤ m then i else m
def maxI : List Int → Int
  | [] => 0
  | [i] => i
  | i :: j :: r => let m := maxI (j :: r); if m ≤ i then i else m
theorem minI_is : ∀ (is : List Int) (m : Int), m ∈ is → (∀ y, y ∈ is → m ≤ y) → minI is = m
  | [], _, h, _ => by cases h
  | [i], m, h, _ => by
    have : m = i := by simpa using h
    rw [this]
    rfl
  | i :: j :: r, m, h, hl => by
    have h1 : m ≤ i := hl i List.mem_cons_self
    have up : ∀ l : List Int, l ≠ [] → minI l ∈ l := by
      intro l
      induction l with
      | nil => intro z; exact absurd rfl z
      | cons a l ih =>
        intro _
        cases l with
        | nil => simp [minI]
        | cons b l =>
          have q := ih (by simp)
          show (if a ≤ minI (b :: l) then a else minI (b :: l)) ∈ a :: b :: l
          split
          · exact List.mem_cons_self
          · exact List.mem_cons_of_mem _ q
    show (if i ≤ minI (j :: r) then i else minI (j :: r)) = m
    have hm := up (j :: r) (by simp)
    have h2 : m ≤ minI (j :: r) := hl _ (List.mem_cons_of_mem _ hm)
    rcases List.mem_cons.mp h with e | e
    · subst e
      rw [if_pos h2]
    · have q := minI_is (j :: r) m e fun y hy => hl y (List.mem_cons_of_mem _ hy)
      rw [q]
      split
      · omega
      · rfl
theorem maxI_is : ∀ (is : List Int) (m : Int), m ∈ is → (∀ y, y ∈ is → y ≤ m) → maxI is = m
  | [], _, h, _ => by cases h
  | [i], m, h, _ => by
    have : m = i := by simpa using h
    rw [this]
    rfl
  | i :: j :: r, m, h, hl => by
    have h1 : i ≤ m := hl i List.mem_cons_self
    have up : ∀ l : List Int, l ≠ [] → maxI l ∈ l := by
      intro l
      induction l with
      | nil => intro z; exact absurd rfl z
      | cons a l ih =>
        intro _
        cases l with
        | nil => simp [maxI]
        | cons b l =>
          have q := ih (by simp)
          show (if maxI (b :: l) ≤ a then a else maxI (b :: l)) ∈ a :: b :: l
          split
          · exact List.mem_cons_self
          · exact List.mem_cons_of_mem _ q
    show (if maxI (j :: r) ≤ i then i else maxI (j :: r)) = m
    have hm := up (j :: r) (by simp)
    have h2 : maxI (j :: r) ≤ m := hl _ (List.mem_cons_of_mem _ hm)
    rcases List.mem_cons.mp h with e | e
    · subst e
      rw [if_pos h2]
    · have q := maxI_is (j :: r) m e fun y hy => hl y (List.mem_cons_of_mem _ hy)
      rw [q]
      split
      · omega
      · rfl
def ofInts (f : List Int → Option D) (M : List MO) (d : D) : Option D := ((listD M d).bind intsD).bind f
def ofBls (f : List Bool → D) (M : List MO) (d : D) : Option D := ((listD M d).bind blsD).map f
def dSum := ofInts fun is => some (.int is.sum)
def dMin := ofInts fun is => if is = [] then none else some (.int (minI is))
def dMax := ofInts fun is => if is = [] then none else some (.int (maxI is))
def dAll := ofBls fun bs => .bl (bs.all id)
def dAny := ofBls fun bs => .bl (bs.any id)
theorem ofInts_run {K : PySem.W.Frag} {H Z : Hp} {ι : Nat → Addr} {M : List MO} {f : List Int → Option D} {dx d : D} {x : V} (hr : HR K H Z ι M) (r : Rp K Z ι M.length dx x) (e : ofInts f M dx = some d) : ∃ a is, x = .ref a ∧ SqL K H a (is.map V.int) ∧ f is = some d := by
  unfold ofInts at e
  cases e1 : listD M dx with
  | none => rw [e1] at e; cases e
  | some ds =>
    rw [e1, Option.bind_some] at e
    cases e2 : intsD ds with
    | none => rw [e2] at e; cases e
    | some is =>
      rw [e2] at e
      obtain ⟨a, xs, rfl, s, r2⟩ := listD_run hr r e1
      rw [intsD_is r2 e2] at s
      exact ⟨a, is, rfl, s.sq, e⟩
theorem ofBls_run {K : PySem.W.Frag} {H Z : Hp} {ι : Nat → Addr} {M : List MO} {f : List Bool → D} {dx d : D} {x : V} (hr : HR K H Z ι M) (r : Rp K Z ι M.length dx x) (e : ofBls f M dx = some d) : ∃ a is, x = .ref a ∧ SqL K H a (is.map V.bl) ∧ f is = d := by
  unfold ofBls at e
  cases e1 : listD M dx with
  | none => rw [e1] at e; cases e
  | some ds =>
    rw [e1, Option.bind_some] at e
    cases e2 : blsD ds with
    | none => rw [e2] at e; cases e
    | some is =>
      rw [e2] at e
      cases e
      obtain ⟨a, xs, rfl, s, r2⟩ := listD_run hr r e1
      rw [blsD_is r2 e2] at s
      exact ⟨a, is, rfl, s.sq, rfl⟩
theorem ok_sum : Ok1 X (fun x H Q => rSum X.K [x] H Q) dSum := fun x H Z ι M dx d Q hr rx e q => by
  obtain ⟨a, is, rfl, s, e2⟩ := ofInts_run hr rx e
  cases e2
  exact ⟨a, is, rfl, s, q.now hr (.int _)⟩
theorem ok_min : Ok1 X (fun x H Q => rMin X.K [x] H Q) dMin := fun x H Z ι M dx d Q hr rx e q => by
  obtain ⟨a, is, rfl, s, e2⟩ := ofInts_run hr rx e
  by_cases c : is = []
  · rw [if_pos c] at e2
    cases e2
  · rw [if_neg c] at e2
    cases e2
    refine ⟨a, is, rfl, s, List.length_pos_iff.mpr c, fun m h1 h2 => ?_⟩
    rw [← minI_is is m h1 h2]
    exact q.now hr (.int _)
theorem ok_max : Ok1 X (fun x H Q => rMax X.K [x] H Q) dMax := fun x H Z ι M dx d Q hr rx e q => by
  obtain ⟨a, is, rfl, s, e2⟩ := ofInts_run hr rx e
  by_cases c : is = []
  · rw [if_pos c] at e2
    cases e2
  · rw [if_neg c] at e2
    cases e2
    refine ⟨a, is, rfl, s, List.length_pos_iff.mpr c, fun m h1 h2 => ?_⟩
    rw [← maxI_is is m h1 h2]
    exact q.now hr (.int _)
theorem ok_all : Ok1 X (fun x H Q => rAll X.K [x] H Q) dAll := fun x H Z ι M dx d Q hr rx e q => by
  obtain ⟨a, is, rfl, s, rfl⟩ := ofBls_run hr rx e
  exact ⟨a, is, rfl, s, q.now hr (.bl _)⟩
theorem ok_any : Ok1 X (fun x H Q => rAny X.K [x] H Q) dAny := fun x H Z ι M dx d Q hr rx e q => by
  obtain ⟨a, is, rfl, s, rfl⟩ := ofBls_run hr rx e
  exact ⟨a, is, rfl, s, q.now hr (.bl _)⟩
/-! list(x), tuple(x) -/
def dList (M : List MO) (d : D) : Option D := (itemsD M d).map D.lst
def dTuple (M : List MO) (d : D) : Option D := (itemsD M d).map D.tup
theorem ok_list : Ok1 X (fun x H Q => ∃ p ys, [x] = [.ref p] ∧ (SqL X.K H p ys ∨ SqT X.K H p ys) ∧ ∀ l, H l = none → Q (.ref l) (upd H l (.lst ys))) dList := fun x H Z ι M dx d Q hr rx e q => by
  unfold dList at e
  cases e1 : itemsD M dx with
  | none => rw [e1] at e; cases e
  | some ds =>
    rw [e1] at e
    cases e
    obtain ⟨a, xs, rfl, s, r⟩ := itemsD_run hr rx e1
    exact ⟨a, xs, rfl, s.elim (fun s => .inl s.sq) .inr, q.lst hr r⟩
theorem ok_tuple : Ok1 X (fun x H Q => ∃ p ys, [x] = [.ref p] ∧ ((SqL X.K H p ys ∧ ∀ l, H l = none → Q (.ref l) (upd H l (.tup ys))) ∨ (SqT X.K H p ys ∧ Q (.ref p) H))) dTuple := fun x H Z ι M dx d Q hr rx e q => by
  unfold dTuple at e
  cases rx with
  | tup s r =>
    cases e
    exact ⟨_, _, rfl, .inr ⟨subT hr.sub s, q.now hr (.tup s r)⟩⟩
  | lst s r =>
    cases e
    exact ⟨_, _, rfl, .inl ⟨(subL hr.sub s).sq, q.tup hr r⟩⟩
  | ref hk =>
    rename_i k
    cases e1 : itemsD M (.ref k) with
    | none => rw [e1] at e; cases e
    | some ds =>
      rw [e1] at e
      cases e
      obtain ⟨a, xs, ea, s, r⟩ := listD_run hr (.ref hk) e1
      cases ea
      exact ⟨_, _, rfl, .inl ⟨s.sq, q.tup hr r⟩⟩
  | _ => cases e
end
/-! list(range(..)) -/
section
variable {X : Cx} {C : CT} {W : WX} {a b e : Expr} {ga gb : GE} {p pos p2 pos2 : Pos}
def rngOk (i j : Int) : Bool := inR i && inR j && decide ((j - i).toNat ≤ 2 ^ 24)
def gRgL (own : Bool) (ga gb : GE) : GE := fun Γ M => (ga Γ M).bind fun x M1 => (gb Γ M1).bind fun y M2 => match x, y with
  | .int i, .int j => if rngOk i j = true then (if own = true then .ok (.ref M2.length) (M2 ++ [.lst (rngL i (j - i).toNat)]) else .ok (.lst (rngL i (j - i).toNat)) M2) else .bad
  | _, _ => .bad
theorem rngL_rg {K : PySem.W.Frag} {Z : Hp} {ι : Nat → Addr} {m : Nat} : ∀ (n : Nat) (lo : Int), Rps K Z ι m (rngL lo n) ((List.range n).map fun i => V.int (lo + (i : Nat)))
  | 0, lo => .nil
  | n + 1, lo => by
    rw [List.range_succ_eq_map, List.map_cons, List.map_map]
    refine .cons (by simpa using Rp.int (lo)) ?_
    have ih := rngL_rg (K := K) (Z := Z) (ι := ι) (m := m) n (lo + 1)
    have e : ((List.range n).map ((fun i : Nat => V.int (lo + (i : Nat))) ∘ Nat.succ)) = (List.range n).map fun i : Nat => V.int (lo + 1 + (i : Nat)) := by
      apply List.map_congr_left
      intro i _
      simp only [Function.comp]
      congr 1
      push_cast
      omega
    rw [e]
    exact ih
theorem rg_read {ta : TE} {tb : TE} {own : Bool} (qa : ∀ (σ : St) (H Z : Hp) (ι : Nat → Addr) (Γ : Env) (M : List MO) (Q : VK), Slots X.K Z ι M.length Γ σ → HR X.K H Z ι M → Post X C W (rpE X.K) σ H Z ι M (ga Γ M) Q → ta σ H Q)
    (qb : ∀ (σ : St) (H Z : Hp) (ι : Nat → Addr) (Γ : Env) (M : List MO) (Q : VK), Slots X.K Z ι M.length Γ σ → HR X.K H Z ι M → Post X C W (rpE X.K) σ H Z ι M (gb Γ M) Q → tb σ H Q) (σ : St) (H Z : Hp) (ι : Nat → Addr) (Γ : Env) (M : List MO) (Q : VK) (sl : Slots X.K Z ι M.length Γ σ)
    (hr : HR X.K H Z ι M) (h : Post X C W (rpE X.K) σ H Z ι M (gRgL own ga gb Γ M) Q) : ta σ H fun x H1 => tb σ H1 fun y H2 => ∃ i j, x = .int i ∧ y = .int j ∧ RgOk i j ∧ ∀ q, H2 q = none → Q (.ref q) (upd H2 q (.lst (rgV i j))) := by
  refine qa σ H Z ι Γ M _ sl hr (Post.bind h fun x M1 v H1 Z1 ι1 e1 hr1 r1 h1 => qb σ H1 Z1 ι1 Γ M1 _ (sl.ext e1) hr1 (h1.bind fun y M2 u H2 Z2 ι2 e2 hr2 r2 h2 => ?_))
  have r1' := r1.ext e2
  cases r1' with
  | int i =>
    cases r2 with
    | int j =>
      have h3 : Post X C W (rpE X.K) σ H2 Z2 ι2 M2 (if rngOk i j = true then (if own = true then .ok (.ref M2.length) (M2 ++ [.lst (rngL i (j - i).toNat)]) else .ok (.lst (rngL i (j - i).toNat)) M2) else .bad) Q := h2
      by_cases c : rngOk i j = true
      · rw [if_pos c] at h3
        simp only [rngOk, inR, Bool.and_eq_true, decide_eq_true_eq] at c
        refine ⟨i, j, rfl, rfl, ⟨c.1.1.1, c.1.1.2, c.1.2.1, c.1.2.2, c.2⟩, fun q hq => ?_⟩
        have rr : Rps X.K Z2 ι2 M2.length (rngL i (j - i).toNat) (rgV i j) := rngL_rg _ _
        by_cases ho : own = true
        · rw [if_pos ho] at h3
          obtain ⟨hr3, e3⟩ := hr2.owned hq rr
          have qq : Rp X.K Z2 (put ι2 M2.length q) (M2 ++ [MO.lst (rngL i (j - i).toNat)]).length (.ref M2.length) (.ref (put ι2 M2.length q M2.length)) := .ref (by simp)
          rw [put_at] at qq
          exact h3 _ _ _ _ e3 hr3 qq
        · rw [if_neg ho] at h3
          exact h3.after.lst hr2 rr q hq
      · rw [if_neg c] at h3
        exact h3.elim
    | _ => exact h2.elim
  | _ => exact h2.elim
theorem qe_lrg2 (own : Bool) (hc : X.calm = true) (hg : Gl X "list") (hm : X.mg "list" = none) (hg2 : Gl X "range") (hm2 : X.mg "range" = none) (ha : QE X C W a ga) (hb : QE X C W b gb)
    (h1 : starEach [a, b] X.env = (false, eval a X.env) :: starEach [b] X.env := by rfl) (h2 : starEach [b] X.env = (false, eval b X.env) :: starEach [] X.env := by rfl) (h3 : (backTo pos2 (starEach [b] X.env)).any (·.1) = false := by rfl)
    (na : starEach [Expr.Call (.Name "range" p2) [a, b] [] pos2] X.env = (false, eval (Expr.Call (.Name "range" p2) [a, b] [] pos2) X.env) :: starEach [] X.env := by rfl) :
    QE X C W (.Call (.Name "list" p) [.Call (.Name "range" p2) [a, b] [] pos2] [] pos) (gRgL own ga gb) := by
  obtain ⟨ta, pa, qa⟩ := ha
  obtain ⟨tb, pb, qb⟩ := hb
  exact ⟨_, pe_listRg hc hg hm (prg_2 hg2 hm2 pa pb h1 h2 h3) na, fun σ H Z ι Γ M Q sl hr h => rg_read qa qb σ H Z ι Γ M Q sl hr h⟩
theorem qe_lrg1 (own : Bool) (hc : X.calm = true) (hg : Gl X "list") (hm : X.mg "list" = none) (hg2 : Gl X "range") (hm2 : X.mg "range" = none) (hb : QE X C W b gb) (h2 : starEach [b] X.env = (false, eval b X.env) :: starEach [] X.env := by rfl)
    (na : starEach [Expr.Call (.Name "range" p2) [b] [] pos2] X.env = (false, eval (Expr.Call (.Name "range" p2) [b] [] pos2) X.env) :: starEach [] X.env := by rfl) :
    QE X C W (.Call (.Name "list" p) [.Call (.Name "range" p2) [b] [] pos2] [] pos) (gRgL own (gC (.int 0)) gb) := by
  obtain ⟨tb, pb, qb⟩ := hb
  refine ⟨_, pe_listRg hc hg hm (prg_1 hg2 hm2 pb h2) na, fun σ H Z ι Γ M Q sl hr h => ?_⟩
  have q := rg_read (ta := tC (.int 0)) (ga := gC (.int 0)) (C := C) (W := W) (X := X) (fun σ H Z ι Γ M Q sl hr h => h _ H Z ι .refl hr (.int 0)) qb σ H Z ι Γ M Q sl hr h
  have q2 : tb σ H fun y H2 => ∃ i j, V.int 0 = .int i ∧ y = .int j ∧ RgOk i j ∧ ∀ q, H2 q = none → Q (.ref q) (upd H2 q (.lst (rgV i j))) := q
  have mono : (fun (y : V) (H2 : Hp) => ∃ i j, V.int 0 = .int i ∧ y = .int j ∧ RgOk i j ∧ ∀ q, H2 q = none → Q (.ref q) (upd H2 q (.lst (rgV i j)))) = fun y H2 => ∃ n, y = .int n ∧ RgOk 0 n ∧ ∀ q, H2 q = none → Q (.ref q) (upd H2 q (.lst (rgV 0 n))) := by
    funext y H2
    apply propext
    constructor
    · rintro ⟨i, j, e, e2, r⟩
      cases e
      exact ⟨j, e2, r⟩
    · rintro ⟨j, e2, r⟩
      exact ⟨0, j, rfl, e2, r⟩
  rw [mono] at q2
  exact q2
/-! isinstance -/
def tyName (M : List MO) : D → Option String
  | .non => some "NoneType"
  | .bl _ => some "bool"
  | .int _ => some "int"
  | .str _ => some "str"
  | .tup _ => some "tuple"
  | .lst _ => some "list"
  | .ref k => match M[k]? with
    | some (.lst _) => some "list"
    | _ => none
theorem tyName_run {K : PySem.W.Frag} {H Z : Hp} {ι : Nat → Addr} {M : List MO} {d : D} {x : V} {t : String} (hr : HR K H Z ι M) (r : Rp K Z ι M.length d x) (e : tyName M d = some t) : TyX K H x (.type t) := by
  have lists : ∀ {a : Addr} {xs : List V}, ExL K H a xs → TyX K H (.ref a) (.type "list") := fun {a xs} s => by
    rcases s with (s | ⟨o, s⟩) | ⟨its, m, s, _, _⟩
    · exact .base (.lst s)
    · exact .base (.frz s)
    · exact .kList s rfl
  cases r with
  | non => cases e; exact .base .non
  | bl b => cases e; exact .base (.bl b)
  | int i => cases e; exact .base (.int i)
  | str z => cases e; exact .base (.str z)
  | tup s r =>
    cases e
    rcases subT hr.sub s with (s | ⟨o, s⟩) | ⟨o, its, m, s, c, _⟩
    · exact .base (.tup s)
    · exact .fTuple s
    · exact .kTuple s c
  | lst s r =>
    cases e
    exact lists (subL hr.sub s)
  | ref hk =>
    rename_i k
    have e' : (match M[k]? with
      | some (.lst _) => some "list"
      | _ => none) = some t := e
    cases e1 : M[k]? with
    | none => rw [e1] at e'; cases e'
    | some o =>
      rw [e1] at e'
      cases o with
      | dead => cases e'
      | obj nm fs => cases e'
      | lst ds =>
        cases e'
        obtain ⟨xs, h1, _⟩ := hr.obj k _ e1
        exact lists (.inl (.of h1))
def dIsi (T : String) (M : List MO) (d : D) : Option D := (tyName M d).bind fun t => (kitB t T).map D.bl
def anyB (t : String) : List String → Option Bool
  | [] => some false
  | T :: Ts => match kitB t T with
    | some true => some true
    | some false => anyB t Ts
    | none => none
def dIsiT (Ts : List String) (M : List MO) (d : D) : Option D := (tyName M d).bind fun t => (anyB t Ts).map D.bl
theorem anyB_kit {K : PySem.W.Frag} {t : String} : ∀ {Ts : List String} {b : Bool}, anyB t Ts = some b → PySem.W.kitAny K (.type t) (Ts.map Value.type) = some b
  | [], b, h => by cases h; rfl
  | T :: Ts, b, h => by
    unfold anyB at h
    show (match PySem.W.kitOne K (.type t) (.type T) with
      | some true => some true
      | some false => PySem.W.kitAny K (.type t) (Ts.map Value.type)
      | none => none) = some b
    cases e : kitB t T with
    | none => rw [e] at h; cases h
    | some k =>
      rw [e] at h
      rw [kit_ty e]
      cases k with
      | true => exact h
      | false => exact anyB_kit h
theorem qe_isi {T : String} {TN : Str} {q : Pos} (hg : Gl X "isinstance") (hm : X.mg "isinstance" = none) (hT : Gl X TN) (hmT : X.mg TN = none) (hv : bootBuiltins TN = some (.type T)) (ha : QE X C W e ga) (hn : TN ≠ "__name__" := by decide) (hd : (TN == ("__debug__" : Str)) = false := by decide)
    (he : starEach [e, Expr.Name TN q] X.env = (false, eval e X.env) :: starEach [Expr.Name TN q] X.env := by rfl) (he2 : starEach [Expr.Name TN q] X.env = (false, eval (Expr.Name TN q) X.env) :: starEach [] X.env := by rfl) (hpl : (backTo pos (starEach [Expr.Name TN q] X.env)).any (·.1) = false := by rfl) :
    QE X C W (.Call (.Name "isinstance" p) [e, .Name TN q] [] pos) (gOp1 (dIsi T) ga) := by
  obtain ⟨ta, pa, qa⟩ := ha
  refine ⟨_, pe_callB call_isi hg hm (by decide +kernel) (pa_cons pa (pa_cons (pe_bltn (v := .ty T) hT hmT hv rfl hn hd) pa_nil he2) he) (he := he) (hpl := hpl), fun σ H Z ι Γ M Q sl hr h => qa σ H Z ι Γ M _ sl hr (h.bind fun x M1 v H1 Z1 ι1 e1 hr1 r1 h1 => ?_)⟩
  obtain ⟨d, hd, h3⟩ := Post.of_opR (γ := D) (δ := V) h1
  unfold dIsi at hd
  cases e2 : tyName M1 x with
  | none => rw [e2] at hd; cases hd
  | some t =>
    rw [e2, Option.bind_some] at hd
    cases e3 : kitB t T with
    | none => rw [e3] at hd; cases hd
    | some b =>
      rw [e3] at hd
      cases hd
      exact ⟨v, .ty T, .type t, .type T, b, rfl, .ty T, tyName_run hr1 r1 e2, kit_ty e3, h3.after.now hr1 (.bl b)⟩
theorem qe_isi2 {T1 T2 : String} {N1 N2 : Str} {q1 q2 q3 : Pos} {kk : Nat} (hg : Gl X "isinstance") (hm : X.mg "isinstance" = none) (hT1 : Gl X N1) (hm1 : X.mg N1 = none) (hv1 : bootBuiltins N1 = some (.type T1)) (hT2 : Gl X N2) (hm2 : X.mg N2 = none) (hv2 : bootBuiltins N2 = some (.type T2)) (ha : QE X C W e ga)
    (hn1 : N1 ≠ "__name__" := by decide) (hd1 : (N1 == ("__debug__" : Str)) = false := by decide) (hn2 : N2 ≠ "__name__" := by decide) (hd2 : (N2 == ("__debug__" : Str)) = false := by decide)
    (he : starEach [e, Expr.Tuple [.Name N1 q1, .Name N2 q2] kk q3] X.env = (false, eval e X.env) :: starEach [Expr.Tuple [.Name N1 q1, .Name N2 q2] kk q3] X.env := by rfl) (he2 : starEach [Expr.Tuple [.Name N1 q1, .Name N2 q2] kk q3] X.env = (false, eval (Expr.Tuple [.Name N1 q1, .Name N2 q2] kk q3) X.env) :: starEach [] X.env := by rfl)
    (hpl : (backTo pos (starEach [Expr.Tuple [.Name N1 q1, .Name N2 q2] kk q3] X.env)).any (·.1) = false := by rfl)
    (hs1 : starEach [Expr.Name N1 q1, Expr.Name N2 q2] X.env = (false, eval (Expr.Name N1 q1) X.env) :: starEach [Expr.Name N2 q2] X.env := by rfl) (hs2 : starEach [Expr.Name N2 q2] X.env = (false, eval (Expr.Name N2 q2) X.env) :: starEach [] X.env := by rfl) :
    QE X C W (.Call (.Name "isinstance" p) [e, .Tuple [.Name N1 q1, .Name N2 q2] kk q3] [] pos) (gOp1 (dIsiT [T1, T2]) ga) := by
  obtain ⟨ta, pa, qa⟩ := ha
  refine ⟨_, pe_callB call_isiT hg hm (by decide +kernel) (pa_cons pa (pa_cons (pe_tup (pa_cons (pe_bltn (v := .ty T1) hT1 hm1 hv1 rfl hn1 hd1) (pa_cons (pe_bltn (v := .ty T2) hT2 hm2 hv2 rfl hn2 hd2) pa_nil hs2) hs1)) pa_nil he2) he) (he := he) (hpl := hpl),
    fun σ H Z ι Γ M Q sl hr h => qa σ H Z ι Γ M _ sl hr (h.bind fun x M1 v H1 Z1 ι1 e1 hr1 r1 h1 => ?_)⟩
  obtain ⟨d, hd, h3⟩ := Post.of_opR (γ := D) (δ := V) h1
  unfold dIsiT at hd
  cases e2 : tyName M1 x with
  | none => rw [e2] at hd; cases hd
  | some t =>
    rw [e2, Option.bind_some] at hd
    cases e3 : anyB t [T1, T2] with
    | none => rw [e3] at hd; cases hd
    | some b =>
      rw [e3] at hd
      cases hd
      refine ⟨by show 2 ≤ sizeLine; decide, fun tp hp => ?_⟩
      obtain ⟨hr2, x2⟩ := hr1.frozen (o := .tup [.ty T1, .ty T2]) hp
      exact ⟨v, tp, [.ty T1, .ty T2], .type t, [.type T1, .type T2], b, rfl, upd_same, .cons (.ty T1) (.cons (.ty T2) .nil), tyName_run hr2 (r1.ext x2) e2, anyB_kit (Ts := [T1, T2]) e3, h3.after _ _ _ x2 hr2 (.bl b)⟩
end
end Bk

set_option Elab.async false
set_option linter.all false
set_option maxRecDepth 100000
set_option maxHeartbeats 2000000
namespace Bk
open PySem PySem.Spec PyProof.Rows L2
/-! ### what changes a list of ours -/
/-- a method: the list as it was, the argument; the list as it is, the answer -/
abbrev MF := List MO → List D → D → Option (List D × D)
abbrev MF0 := List D → Option (List D × D)
def isListD (M : List MO) (d : D) : Bool := (listD M d).isSome
def mutR (M : List MO) (x : D) (f : List D → Option (List D × D)) : R D := match x with
  | .ref k => match M[k]? with
    | some (.lst ds) => match f ds with
      | some (ds', r) => .ok r (M.set k (.lst ds'))
      | none => .bad
    | _ => .bad
  | _ => .bad
def gMeth1 (f : MF) (go ge : GE) : GE := fun Γ M => (go Γ M).bind fun x M1 => if isListD M1 x = true then (ge Γ M1).bind fun y M2 => mutR M2 x fun ds => f M2 ds y else .bad
def gMeth0 (f : MF0) (go : GE) : GE := fun Γ M => (go Γ M).bind fun x M1 => mutR M1 x f
section
variable {X : Cx} {C : CT} {W : WX}
def OkM (X : Cx) (r : V → List V → Hp → VK → Prop) (f : MF) : Prop := ∀ (p : Addr) (xs : List V) (y : V) (H Z : Hp) (ι : Nat → Addr) (M : List MO) (ds ds' : List D) (dy d : D) (Q : VK), HR X.K H Z ι M → H p = some (.lst xs) → Rps X.K Z ι M.length ds xs → Rp X.K Z ι M.length dy y → f M ds dy = some (ds', d) →
  (∀ (xs' : List V) (w : V), Rps X.K Z ι M.length ds' xs' → Rp X.K Z ι M.length d w → Q w (upd H p (.lst xs'))) → r (.ref p) [y] H Q
def OkM0 (X : Cx) (r : V → List V → Hp → VK → Prop) (f : MF0) : Prop := ∀ (p : Addr) (xs : List V) (H Z : Hp) (ι : Nat → Addr) (n : Nat) (ds ds' : List D) (d : D) (Q : VK), H p = some (.lst xs) → Rps X.K Z ι n ds xs → f ds = some (ds', d) →
  (∀ (xs' : List V) (w : V), Rps X.K Z ι n ds' xs' → Rp X.K Z ι n d w → Q w (upd H p (.lst xs'))) → r (.ref p) [] H Q
theorem mutR_run {σ : St} {H Z : Hp} {ι : Nat → Addr} {M : List MO} {x : D} {v : V} {f : List D → Option (List D × D)} {Q : VK} (hr : HR X.K H Z ι M) (r : Rp X.K Z ι M.length x v) (h : Post X C W (rpE X.K) σ H Z ι M (mutR M x f) Q) :
    ∃ (k : Nat) (ds ds' : List D) (d : D) (xs : List V), v = .ref (ι k) ∧ H (ι k) = some (.lst xs) ∧ Rps X.K Z ι M.length ds xs ∧ f ds = some (ds', d) ∧ ∀ (xs' : List V) (w : V), Rps X.K Z ι M.length ds' xs' → Rp X.K Z ι M.length d w → Q w (upd H (ι k) (.lst xs')) := by
  cases r with
  | ref hk =>
    rename_i k
    have h' : Post X C W (rpE X.K) σ H Z ι M (match M[k]? with
      | some (.lst ds) => match f ds with
        | some (ds', r) => .ok r (M.set k (.lst ds'))
        | none => .bad
      | _ => .bad) Q := h
    cases e1 : M[k]? with
    | none => rw [e1] at h'; exact h'.elim
    | some o =>
      rw [e1] at h'
      cases o with
      | dead => exact h'.elim
      | obj nm fs => exact h'.elim
      | lst ds =>
        have h2 : Post X C W (rpE X.K) σ H Z ι M (match f ds with
          | some (ds', r) => .ok r (M.set k (.lst ds'))
          | none => .bad) Q := h'
        cases e2 : f ds with
        | none => rw [e2] at h2; exact h2.elim
        | some q =>
          obtain ⟨ds', d⟩ := q
          rw [e2] at h2
          obtain ⟨xs, a1, a2⟩ := hr.obj k _ e1
          refine ⟨k, ds, ds', d, xs, rfl, a1, a2, e2, fun xs' w r1 r2 => ?_⟩
          obtain ⟨b1, b2⟩ := hr.change e1 r1
          exact h2 w _ Z ι b2 b1 (r2.ext b2)
  | _ => exact h.elim
theorem isListD_run {K : PySem.W.Frag} {H Z : Hp} {ι : Nat → Addr} {M : List MO} {d : D} {v : V} (hr : HR K H Z ι M) (r : Rp K Z ι M.length d v) (h : isListD M d = true) : tyV K "list" v H := by
  unfold isListD at h
  cases e : listD M d with
  | none => rw [e] at h; cases h
  | some ds =>
    obtain ⟨a, xs, rfl, s, _⟩ := listD_run hr r e
    exact .inl ⟨rfl, xs, s.sq⟩
theorem qe_meth1 {o e : Expr} {go ge : GE} {f : MF} {id : String} {name : Str} {pos apos : Pos} {r : V → List V → Hp → VK → Prop} (slot : Slot "list" name id) (hty : typeOf (.builtin id) = pure (.type "method_descriptor")) (hm : MtR X id r) (ok : OkM X r f) (ho : QE X C W o go) (he : QE X C W e ge)
    (hbase : attributeBase o name X.env (eval o X.env) = eval o X.env := by rfl) (hs : starEach [e] X.env = (false, eval e X.env) :: starEach [] X.env := by rfl)
    (hfew : ((backTo pos (starEach [e] X.env)).all (fun x => !x.1) && (backToKw pos (keywordEach [] X.env)).all (fun x => x.1.isSome) && decide ([e].length + ([] : List Keyword).length + (if ([] : List Keyword).isEmpty then 0 else 1) < 30)) = true := by rfl)
    (hline : (apos.endLine == pos.line) = true := by rfl) : QE X C W (.Call (.Attribute o name apos) [e] [] pos) (gMeth1 f go ge) := by
  obtain ⟨ta, pa, qa⟩ := ho
  obtain ⟨tb, pb, qb⟩ := he
  refine ⟨_, pe_bm PySem.F.plainAttrs_list slot hty hm pa (pa_cons pb pa_nil hs) hbase hfew hline hs rfl, fun σ H Z ι Γ M Q sl hr h => qa σ H Z ι Γ M _ sl hr (h.bind fun x M1 v H1 Z1 ι1 e1 hr1 r1 h1 => ?_)⟩
  by_cases c : isListD M1 x = true
  · rw [if_pos c] at h1
    refine ⟨isListD_run hr1 r1 c, qb σ H1 Z1 ι1 Γ M1 _ (sl.ext e1) hr1 (h1.bind fun y M2 u H2 Z2 ι2 e2 hr2 r2 h2 => ?_)⟩
    obtain ⟨k, ds, ds', d, xs, ev, a1, a2, a3, a4⟩ := mutR_run hr2 (r1.ext e2) h2
    rw [ev]
    exact ok _ xs u H2 Z2 ι2 M2 ds ds' y d Q hr2 a1 a2 r2 a3 a4
  · rw [if_neg c] at h1
    exact h1.elim
theorem qe_meth0 {o : Expr} {go : GE} {f : MF0} {id : String} {name : Str} {pos apos : Pos} {r : V → List V → Hp → VK → Prop} (slot : Slot "list" name id) (hty : typeOf (.builtin id) = pure (.type "method_descriptor")) (hm : MtR X id r) (ok : OkM0 X r f) (ho : QE X C W o go)
    (hbase : attributeBase o name X.env (eval o X.env) = eval o X.env := by rfl) (hline : (apos.endLine == pos.line) = true := by rfl) : QE X C W (.Call (.Attribute o name apos) [] [] pos) (gMeth0 f go) := by
  obtain ⟨ta, pa, qa⟩ := ho
  refine ⟨_, pe_bm0 PySem.F.plainAttrs_list slot hty hm pa hbase hline, fun σ H Z ι Γ M Q sl hr h => qa σ H Z ι Γ M _ sl hr (h.bind fun x M1 v H1 Z1 ι1 e1 hr1 r1 h1 => ?_)⟩
  obtain ⟨k, ds, ds', d, xs, ev, a1, a2, a3, a4⟩ := mutR_run hr1 r1 h1
  rw [ev]
  exact ⟨.inl ⟨rfl, xs, .of a1⟩, ok _ xs H1 Z1 ι1 M1.length ds ds' d Q a1 a2 a3 a4⟩
def mAppend : MF := fun _ ds y => if ds.length < sizeLine then some (ds ++ [y], .non) else none
theorem ok_append : OkM X rAppend mAppend := fun p xs y H Z ι M ds ds' dy d Q hr e r ry h q => by
  unfold mAppend at h
  by_cases c : ds.length < sizeLine
  · rw [if_pos c] at h
    cases h
    exact ⟨p, xs, y, rfl, rfl, e, by rw [← r.length]; exact c, q _ _ (r.append (.cons ry .nil)) .non⟩
  · rw [if_neg c] at h
    cases h
def rExtendS (K : PySem.W.Frag) : V → List V → Hp → VK → Prop := fun x vs H Q => ∃ l b xs zs, x = .ref l ∧ vs = [.ref b] ∧ H l = some (.lst xs) ∧ ExL K H b zs ∧ xs.length + zs.length ≤ sizeLine ∧ Q .non (upd H l (.lst (xs ++ zs)))
theorem mt_extendS : MtM X "list.extend" (rExtendS X.K) := by
  intro pins s σ H x vs v us Q I rx rv h
  obtain ⟨l, b, xs, zs, rfl, rfl, h1, h2, hz, q⟩ := h
  cases rx
  obtain ⟨u, rfl, ru⟩ := rv.one
  cases ru
  obtain ⟨z, its, n, r, hl, e⟩ := I.lstM h1
  obtain ⟨its2, n2, r2, e2, z2⟩ := h2.at_ I
  have l2 := r2.length
  have room : its.toArray.size + its2.toArray.size ≤ sizeLine := by
    rw [List.size_toArray, List.size_toArray]
    omega
  have short : ¬ (!its.toArray.isEmpty && Builtin.List.listTooLong (its.toArray.size + its2.toArray.size)) = true := by
    rw [notLongL room, Bool.and_false]
    exact Bool.false_ne_true
  refine call_meets F.slot_list_extend ⟨_, e, rfl⟩ F.entry_list_extend (F.args_list_extend_2 _ _) (AutoSeq1.list_extend_list_list_0 l its.toArray n b its2.toArray n2 short (by rw [List.size_toArray]; omega) (by omega)) ⟨e, e2, ?_⟩
  exact ⟨.non, _, I.lset (its' := its ++ its2) h1 e (by simp) (r.append r2) (by rw [List.length_append]; omega), rfl, q⟩
def mExtend : MF := fun M ds y => match listD M y with
  | some es => if ds.length + es.length ≤ sizeLine then some (ds ++ es, .non) else none
  | none => none
theorem ok_extend : OkM X (rExtendS X.K) mExtend := fun p xs y H Z ι M ds ds' dy d Q hr e r ry h q => by
  unfold mExtend at h
  cases e1 : listD M dy with
  | none => rw [e1] at h; cases h
  | some es =>
    rw [e1] at h
    simp only at h
    obtain ⟨b, zs, rfl, s2, r2⟩ := listD_run hr ry e1
    by_cases c : ds.length + es.length ≤ sizeLine
    · rw [if_pos c] at h
      cases h
      exact ⟨p, b, xs, zs, rfl, rfl, e, s2, by rw [← r.length, ← r2.length]; exact c, q _ _ (r.append r2) .non⟩
    · rw [if_neg c] at h
      cases h
def mPopAt : MF := fun _ ds y => match y with
  | .int i => match ixN ds.length i with
    | some k => match ds[k]? with
      | some d => if decide (-(2 ^ 63) ≤ i) && decide (i < 2 ^ 63) then some (ds.eraseIdx k, d) else none
      | none => none
    | none => none
  | _ => none
theorem ok_popAt : OkM X rPopAt mPopAt := fun p xs y H Z ι M ds ds' dy d Q hr e r ry h q => by
  cases ry with
  | int i =>
    have h' : (match ixN ds.length i with
      | some k => match ds[k]? with
        | some d => if decide (-(2 ^ 63) ≤ i) && decide (i < 2 ^ 63) then some (ds.eraseIdx k, d) else none
        | none => none
      | none => none) = some (ds', d) := h
    cases e1 : ixN ds.length i with
    | none => rw [e1] at h'; cases h'
    | some k =>
      rw [e1] at h'
      simp only at h'
      cases e2 : ds[k]? with
      | none => rw [e2] at h'; cases h'
      | some d0 =>
        rw [e2] at h'
        simp only at h'
        by_cases c : (decide (-(2 ^ 63) ≤ i) && decide (i < 2 ^ 63)) = true
        · rw [if_pos c] at h'
          cases h'
          simp only [Bool.and_eq_true, decide_eq_true_eq] at c
          obtain ⟨v, a1, a2⟩ := r.get e2
          rw [r.length] at e1
          exact ⟨p, xs, i, k, v, rfl, rfl, e, c.1, c.2, (ixN_seq e1).1, a1, q _ _ (r.erase k) a2⟩
        · rw [if_neg c] at h'
          cases h'
  | _ => cases h
def mPop : MF0 := fun ds => match ds[ds.length - 1]? with
  | some d => some (ds.dropLast, d)
  | none => none
theorem rps_dropLast {K : PySem.W.Frag} {Z : Hp} {ι : Nat → Addr} {n : Nat} {ds : List D} {vs : List V} (r : Rps K Z ι n ds vs) : Rps K Z ι n ds.dropLast vs.dropLast := by
  rw [List.dropLast_eq_take, List.dropLast_eq_take, r.length]
  exact r.take _
theorem ok_pop : OkM0 X rPop mPop := fun p xs H Z ι n ds ds' d Q e r h q => by
  unfold mPop at h
  cases e2 : ds[ds.length - 1]? with
  | none => rw [e2] at h; cases h
  | some d0 =>
    rw [e2] at h
    cases h
    obtain ⟨v, a1, a2⟩ := r.get e2
    rw [r.length] at a1
    exact ⟨p, xs, v, rfl, rfl, e, a1, q _ _ (rps_dropLast r) a2⟩
/-! xs[i] = e -/
def setR (M : List MO) (o i v : D) : Option (List MO) := match o, i with
  | .ref k, .int j => match M[k]? with
    | some (.lst ds) => match ixN ds.length j with
      | some m => some (M.set k (.lst (ds.set m v)))
      | none => none
    | _ => none
  | _, _ => none
def gSetI (ge go gi : GE) : GS := fun Γ M => (ge Γ M).thenS Γ fun v M1 => (go Γ M1).thenS Γ fun o M2 => (gi Γ M2).thenS Γ fun i M3 => match setR M3 o i v with
  | some M4 => .nx Γ M4
  | none => .bad
theorem qs_setI {o i e : Expr} {go gi ge : GE} {pos spos : Pos} (he : QE X C W e ge) (ho : QE X C W o go) (hi : QE X C W i gi) (hs : swapsWithSole [Expr.Subscript o i spos] e pos.line X.env = pure false := by rfl) (hp : swappedStores [Expr.Subscript o i spos] e X.env = pure none := by rfl)
    (h1 : (assignEach [Expr.Subscript o i spos] X.env).map (·.2) = [assign (Expr.Subscript o i spos) X.env] := by rfl)
    (ha : ∀ v, assign (.Subscript o i spos) X.env v = (do let ov ← holding [v] (eval o X.env); let iv ← holding [v, ov] (eval i X.env); standAt spos; holding [v, ov, iv] (setItem ov iv v); release [v, ov, iv] []) := by intro _; rfl) :
    QS X C W (.Assign [.Subscript o i spos] e pos) (gSetI ge go gi) := by
  obtain ⟨te, pe, qe⟩ := he
  obtain ⟨to, po, qo⟩ := ho
  obtain ⟨ti, pi, qi⟩ := hi
  refine ⟨_, ps_asg pe (pg_sub po pi set_list ha) hs hp h1, fun Dd σ H Z ι Γ M sl hr h => qe σ H Z ι Γ M _ sl hr (PostS.bind h sl fun v M1 v' H1 Z1 ι1 e1 hr1 r1 h1 => qo σ H1 Z1 ι1 Γ M1 _ (sl.ext e1) hr1 (PostS.bind h1 (sl.ext e1) fun o M2 o' H2 Z2 ι2 e2 hr2 r2 h2 =>
    qi σ H2 Z2 ι2 Γ M2 _ ((sl.ext e1).ext e2) hr2 (PostS.bind h2 ((sl.ext e1).ext e2) fun i M3 i' H3 Z3 ι3 e3 hr3 r3 h3 => ?_)))⟩
  have ro := r2.ext e3
  have rv := (r1.ext e2).ext e3
  have sl3 := ((sl.ext e1).ext e2).ext e3
  cases es : setR M3 o i v with
  | none => rw [es] at h3; exact h3.elim
  | some M4 =>
    rw [es] at h3
    unfold setR at es
    cases ro with
    | ref hk =>
      rename_i k
      cases r3 with
      | int j =>
        simp only at es
        cases ek : M3[k]? with
        | none => rw [ek] at es; cases es
        | some u =>
          rw [ek] at es
          cases u with
          | dead => cases es
          | obj nm fs => cases es
          | lst ds =>
            simp only at es
            cases em : ixN ds.length j with
            | none => rw [em] at es; cases es
            | some m =>
              rw [em] at es
              cases es
              obtain ⟨xs, a1, a2⟩ := hr3.obj k _ ek
              obtain ⟨b1, b2⟩ := hr3.change ek (a2.set m rv)
              exact ⟨_, xs, j, m, rfl, rfl, a1, by rw [← a2.length]; exact em, h3 σ _ Z3 ι3 b2 b1 (sl3.ext b2)⟩
      | _ => cases es
    | _ => cases es
/-! x += e -/
def gAug (i : Nat) (f : Int → Int → Int) (ge : GE) : GS := fun Γ M => match Γ[i]? with
  | some (some (.int a)) => (ge Γ M).thenS Γ fun y M1 => match y with
    | .int b => .nx (Γ.set i (some (.int (f a b)))) M1
    | _ => .bad
  | _ => .bad
theorem qs_aug (i : Nat) {x : Str} {e : Expr} {op : Operator} {f : Int → Int → Int} {ge : GE} {pos pos' : Pos} (hN : X.N.Nodup) (ho : PIp X op (ipI f)) (he : QE X C W e ge) (hi : X.N[i]? = some x := by rfl) (hx : Loc X.env.scope x := by first | exact Or.inl rfl | exact Or.inr rfl)
    (hf : X.fn x = true ∨ X.env.scope.names.lookup x = some .local := by first | exact Or.inl rfl | exact Or.inr rfl) : QS X C W (.AugAssign (.Name x pos') op e pos) (gAug i f ge) := by
  obtain ⟨te, pe, qe⟩ := he
  refine ⟨_, ps_aug hN hi hx pe ho hf, fun Dd σ H Z ι Γ M sl hr h => ?_⟩
  unfold gAug at h
  cases e1 : Γ[i]? with
  | none => rw [e1] at h; exact h.elim
  | some o =>
    rw [e1] at h
    cases o with
    | none => exact h.elim
    | some d =>
      cases d with
      | int a =>
        obtain ⟨v, a1, a2⟩ := sl.2 i _ e1
        cases a2
        refine ⟨_, a1, qe σ H Z ι Γ M _ sl hr (PostS.bind h sl fun y M1 u H1 Z1 ι1 x1 hr1 r1 h1 => ?_)⟩
        cases r1 with
        | int b => exact ⟨a, b, rfl, rfl, h1 _ H1 Z1 ι1 .refl hr1 ((sl.ext x1).set i (.int _))⟩
        | _ => exact h1.elim
      | _ => exact h.elim
/-! repr -/
def rReprD (K : PySem.W.Frag) : List V → Hp → VK → Prop := fun xs H Q => ∃ (a : Addr) (d : PyData), xs = [.ref a] ∧ Dp K H (.ref a) d ∧ d.showable = true ∧ d.hasDict = false ∧ d.depth ≤ 60 ∧ d.shown.length ≤ sizeLine ∧ Q (.str d.shown) H
theorem call_reprD (hgu : X.A.guards = some []) (hu : X.A.units + 64 < cLine) : CallR X (.builtin "repr") (rReprD X.K) := by
  intro pins s σ H xs us Q I r h
  obtain ⟨a, d, rfl, hd, h1, h2, h3, h4, q⟩ := h
  obtain ⟨u, rfl, ru⟩ := Vals.one r
  cases ru
  obtain ⟨as, rd⟩ := Dp.reads I d (.ref a) (.ref a) hd rfl
  refine repr_of_reads' rd h1 (fun z => by rw [h2] at z; cases z) hgu (by omega) (fun _ _ e => e) (fun h' u tk k => ?_) h4
  exact ⟨.str d.shown, H, I.kept (t' := tk) k, ⟨u, rfl⟩, q⟩
def dRepr (M : List MO) (d : D) : Option D := match d with
  | .non => none
  | .bl _ => none
  | .int _ => none
  | .str _ => none
  | d => (toP (deref M d)).bind fun p => if (p.showable && !p.hasDict && decide (p.depth ≤ 60) && decide (p.shown.length ≤ sizeLine)) = true then some (.str p.shown) else none
theorem ok_repr : Ok1 X (fun x H Q => rReprD X.K [x] H Q) dRepr := fun x H Z ι M dx d Q hr rx e q => by
  have go : ∀ {dx : D} {a : Addr}, Rp X.K Z ι M.length dx (.ref a) → ((toP (deref M dx)).bind fun p => if (p.showable && !p.hasDict && decide (p.depth ≤ 60) && decide (p.shown.length ≤ sizeLine)) = true then some (D.str p.shown) else none) = some d → rReprD X.K [.ref a] H Q := fun {dx a} rx e => by
    cases e1 : toP (deref M dx) with
    | none => rw [e1] at e; cases e
    | some p =>
      rw [e1, Option.bind_some] at e
      by_cases c : (p.showable && !p.hasDict && decide (p.depth ≤ 60) && decide (p.shown.length ≤ sizeLine)) = true
      · rw [if_pos c] at e
        cases e
        simp only [Bool.and_eq_true, Bool.not_eq_true', decide_eq_true_eq] at c
        exact ⟨a, p, rfl, deref_dp hr rx e1, c.1.1.1, c.1.1.2, c.1.2, c.2, q.now hr (.str _)⟩
      · rw [if_neg c] at e
        cases e
  cases rx with
  | tup s r => exact go (.tup s r) e
  | lst s r => exact go (.lst s r) e
  | ref hk => exact go (.ref hk) e
  | _ => cases e
end
end Bk

set_option Elab.async false
set_option linter.all false
set_option maxRecDepth 100000
set_option maxHeartbeats 2000000
namespace Bk
open PySem PySem.Spec PyProof.Rows L2
/-! ### enumerate and zip of lists and tuples -/
inductive Src where
  | l (a : Addr) | t (a : Addr)
namespace Src
def addr : Src → Addr
  | .l a => a
  | .t a => a
def here (K : PySem.W.Frag) (H : Hp) (xs : List V) : Src → Prop
  | .l a => SqL K H a xs
  | .t a => SqT K H a xs
def it (h : Heap) (i : Addr) (n : Nat) : Src → Prop
  | .l a => h.IsListIter i a n
  | .t a => h.IsTupleIter i a n
def arr (h : Heap) (items : Array Value) : Src → Prop
  | .l a => h.IsList a items
  | .t a => h.IsTuple a items
def obj : Src → Obj
  | .l a => { cls := .type "list_iterator", data := .fields #[.ref a, .int 0 0] }
  | .t a => { cls := .type "tuple_iterator", data := .fields #[.ref a, .int 0 0] }
theorem begins (S : Src) (items : Array Value) : Begins (.ref S.addr) S.obj fun h => S.arr h items := by
  cases S with
  | l a => exact begins_list a items
  | t a => exact begins_tuple a items
theorem draws {prog : Program} {w : World} {A : Around} (hh : A.handled = none) (S : Src) (i : Addr) (hne : S.addr ≠ i) (items : Array Value) :
    Draws prog w A i [i, S.addr] items.size (fun n v => items[n]? = some v) (fun n h => S.it h i n ∧ S.arr h items) := by
  cases S with
  | l a => exact Draws.list hh i a hne items
  | t a => exact Draws.tuple hh i a hne items
theorem inv {X : Cx} {pins : List (Addr × Obj)} {σ : L2.St} {H : Hp} {s : Shared} {xs : List V} (I : Inv X pins σ H s) {S : Src} (h : S.here X.K H xs) : ∃ its : List Value, Vals xs its ∧ S.arr s.heap its.toArray := by
  cases S with
  | l a =>
    obtain ⟨its, r, p, _⟩ := I.list h
    exact ⟨its, r, p.isList⟩
  | t a =>
    obtain ⟨its, r, p, _⟩ := I.tuple h
    exact ⟨its, r, p⟩
theorem inj {X : Cx} {pins : List (Addr × Obj)} {σ : L2.St} {H : Hp} {s : Shared} {xs ys : List V} (I : Inv X pins σ H s) {S : Src} (h : S.here X.K H xs) (h' : S.here X.K H ys) : xs = ys := by
  cases S with
  | l a => exact I.list_inj h h'
  | t a => exact I.tuple_inj h h'
theorem start {S : Src} {h : Heap} {i : Addr} (e : h.get? i = some S.obj) : S.it h i 0 := by
  cases S with
  | l a => exact ⟨_, e, rfl, rfl⟩
  | t a => exact ⟨_, e, rfl, rfl⟩
theorem it_at {S : Src} {h h' : Heap} {i : Addr} {n : Nat} (x : S.it h i n) (k : ∀ o, h.get? i = some o → h'.get? i = some o) : S.it h' i n := by
  cases S with
  | l a =>
    have y : h.IsListIter i a n := x
    exact y.at k
  | t a =>
    have y : h.IsTupleIter i a n := x
    exact y.at k
theorem it_obj {S : Src} {h : Heap} {i : Addr} {n : Nat} (x : S.it h i n) : ∃ o, h.get? i = some o ∧ ∀ v, o.data ≠ .cell v := by
  cases S with
  | l a =>
    obtain ⟨o, ho, _, hd⟩ := (show h.IsListIter i a n from x)
    exact ⟨o, ho, fun v q => by rw [hd] at q; cases q⟩
  | t a =>
    obtain ⟨o, ho, _, hd⟩ := (show h.IsTupleIter i a n from x)
    exact ⟨o, ho, fun v q => by rw [hd] at q; cases q⟩
theorem arr_ne {S : Src} {h : Heap} {items : Array Value} {b : Addr} {ob : Obj} (x : S.arr h items) (e : h.get? b = some ob) (hd : ∀ its n, ob.data ≠ .seq its n) : S.addr ≠ b := by
  cases S with
  | l a =>
    obtain ⟨o, ho, _, m, hdd⟩ := (show h.IsList a items from x)
    intro z
    have z' : a = b := z
    rw [z', e] at ho
    cases ho
    exact hd _ _ hdd
  | t a =>
    obtain ⟨o, ho, _, m, hdd⟩ := (show h.IsTuple a items from x)
    intro z
    have z' : a = b := z
    rw [z', e] at ho
    cases ho
    exact hd _ _ hdd
theorem arr_it {S : Src} {h : Heap} {items : Array Value} {i : Addr} {n : Nat} (x : S.arr h items) (y : S.it h i n) : S.addr ≠ i := by
  cases S with
  | l a =>
    obtain ⟨o, ho, _, m, hd⟩ := (show h.IsList a items from x)
    obtain ⟨o', ho', _, hd'⟩ := (show h.IsListIter i a n from y)
    intro z
    have z' : a = i := z
    rw [z', ho'] at ho
    cases ho
    rw [hd] at hd'
    cases hd'
  | t a =>
    obtain ⟨o, ho, _, m, hd⟩ := (show h.IsTuple a items from x)
    obtain ⟨o', ho', _, hd'⟩ := (show h.IsTupleIter i a n from y)
    intro z
    have z' : a = i := z
    rw [z', ho'] at ho
    cases ho
    rw [hd] at hd'
    cases hd'
theorem arr_lt {S : Src} {h : Heap} {items : Array Value} (x : S.arr h items) : S.addr < h.objs.size := by
  cases S with
  | l a =>
    obtain ⟨o, ho, _⟩ := (show h.IsList a items from x)
    exact Heap.lt_size ho
  | t a =>
    obtain ⟨o, ho, _⟩ := (show h.IsTuple a items from x)
    exact Heap.lt_size ho
end Src
set_option maxHeartbeats 4000000 in
theorem meets_enum1 {v : Value} {o : Obj} {H : Heap → Prop} (B : Begins v o H) :
    Meets (Builtin.«enumerate.__new__» ⟨[.type "enumerate", v], []⟩) (fun _ R s => H s.heap ∧ R (.ok (.ret (.ref (s.heap.push o).objs.size)))
      { s with heap := (s.heap.push o).push { cls := .type "enumerate", data := .fields #[.none, .bool false, .ref s.heap.objs.size, rawInt 0, .none, .none] } }) :=
  .of_wp fun prog w A R s hs => by
    obtain ⟨hp, g, d, tk, os⟩ := s
    obtain ⟨hH, hR⟩ := hs
    have subs := sub_enumerate
    have iter : ∀ {A' : Around} {E : Value → Shared → Prop} {Q : Value → Shared → Prop}, Q (.ref hp.objs.size) ⟨hp.push o, g, d, tk, os⟩ → wpAny (model prog w) A' (pyIter v) Q E ⟨hp, g, d, tk, os⟩ := fun q => B.iter prog w _ _ _ _ hH q
    wp_walk using iter
    refine wpAny_stack_any fun _ => wpAny_pure ?_
    split
    · rename_i c _ _ _ _ _
      cases (c == Value.type "enumerate") <;> (wp_walk using iter; exact ⟨_, rfl, hR⟩)
    · wp_walk using iter
      exact ⟨_, rfl, hR⟩
theorem call_enum1 {prog : Program} {w : World} {A : Around} {E : Value → Shared → Prop} {s : Shared} {v : Value} {o : Obj} {H : Heap → Prop} {Q : Value → Shared → Prop} (B : Begins v o H) (hH : H s.heap)
    (h : ∀ h', IsEnum h' (s.heap.objs.size + 1) s.heap.objs.size 0 .none → h'.get? s.heap.objs.size = some o → (∀ b u, s.heap.get? b = some u → h'.get? b = some u) → Q (.ref (s.heap.objs.size + 1)) { s with heap := h' }) :
    wpAny (model prog w) A (call (.type "enumerate") [v]) Q E s := by
  refine callType_new F.called_enumerate (by decide) (F.typeCall_enumerate_1 _) (F.newCall_enumerate_1 _) (fun ob => F.args_object_init_2 ob _) F.entry_enumerate_new (meets_enum1 B) ⟨hH, ?_⟩
  have sz : (s.heap.push o).objs.size = s.heap.objs.size + 1 := Heap.size_push ..
  show _ ∧ _
  rw [sz]
  have e := Heap.get?_push_size (s.heap.push o) (o := { cls := .type "enumerate", data := .fields #[.none, .bool false, .ref s.heap.objs.size, rawInt 0, .none, .none] }) rfl
  rw [sz] at e
  exact ⟨⟨_, e, rfl⟩, h _ e (Heap.get?_push_of_some _ (Heap.get?_push_size _ B.free)) fun b u x => Heap.get?_push_of_some _ (Heap.get?_push_of_some _ x)⟩
/-! the turns -/
def Ien (K : PySem.W.Frag) (S : Src) (k0 : Int) : It :=
  ⟨fun n H => ∃ (xs : List V) (x : V), S.here K H xs ∧ xs[n]? = some x, fun n H v H' => ∃ T x, v = .ref T ∧ H T = none ∧ H' = upd H T (.tup [.int (k0 + (n : Nat)), x]) ∧ ∀ xs, S.here K H xs → xs[n]? = some x, fun n H => ∃ xs : List V, S.here K H xs ∧ xs.length = n⟩
theorem turn_en {P : Program} {w : World} {K : PySem.W.Frag} {elts : List Expr} {kk : Nat} {tpos : Pos} (S : Src) (k0 : Int) (e i : Addr) :
    Turn P w K (.Tuple elts kk tpos) (Ien K S k0) [e, i] e (fun n h => (∃ old, IsEnum h e i (k0 + (n : Nat)) old) ∧ S.it h i n ∧ e ≠ i) where
  mem := List.mem_cons_self
  obj := fun n h st b hb => by
    obtain ⟨⟨old, he⟩, hi, _⟩ := st
    rcases List.mem_cons.mp hb with z | z
    · subst z
      exact ⟨_, he, fun v q => nomatch q⟩
    · have z' : b = i := by simpa using z
      subst z'
      exact Src.it_obj hi
  keep := fun n h h' st k => by
    obtain ⟨⟨old, he⟩, hi, ne⟩ := st
    exact ⟨⟨old, k e (by simp) _ he⟩, Src.it_at hi fun o q => k i (by simp) o q, ne⟩
  item := by
    intro X hP hw hK hc n pins s σ H E I hf st hg
    subst hP hw hK
    obtain ⟨⟨old, he⟩, hi, ne⟩ := st
    obtain ⟨xs, x, hq, hx⟩ := hg
    obtain ⟨its, rv, har⟩ := Src.inv I hq
    obtain ⟨u, hu, ru⟩ := rv.get hx
    obtain ⟨oi, hoi, _⟩ := Src.it_obj hi
    have hh : X.A.in1.handled = none := I.ok.hd hc
    have a1 : S.addr ≠ e := Src.arr_ne har he (fun _ _ q => nomatch q)
    have a2 := Src.arr_it har hi
    have Wk := WalksT.enumFrom k0 (Src.draws (prog := X.prog) (w := X.w) hh S i a2 its.toArray) e ne (by simp only [List.mem_cons, List.not_mem_nil, or_false, not_or]; exact ⟨ne, fun z => a1 z.symm⟩) (by simp)
    have ln : n < its.toArray.size := by
      have := (List.getElem?_eq_some_iff.mp hu).1
      simpa using this
    refine Wk.item n s _ E ln ⟨⟨old, he⟩, hi, har⟩ fun T vals h' tk hP hT hTup hMid hk => ⟨_, rfl, Wk.go elts kk tpos n T _ _ _ hMid fun h2 hSt hk2 => ?_⟩
    obtain ⟨t, x', hx', hvals⟩ := hP
    subst hvals
    have ex : x' = u := by
      have q : its.toArray[n]? = some u := by simpa using hu
      rw [hx'] at q
      exact Option.some.inj q
    subst ex
    have out := Wk.apart n T _ hMid
    have tup2 : h2.IsTuple T #[.int (k0 + (n : Nat)) t, x'] := hTup.at fun o q => hk2 T o out q
    have new : ObjOk X.prog X.w (upd H T (.tup [.int (k0 + (n : Nat)), x])) h2 T (.tup [.int (k0 + (n : Nat)), x]) :=
      ⟨by show 2 ≤ sizeLine; decide, [.int (k0 + (n : Nat)) t, x'], .cons ⟨_, rfl⟩ (.cons ru .nil), tup2⟩
    have J := I.turnedNew (t' := tk) (ch := [e, i]) (fun b ob hb q => hk2 b ob hb (hk b ob hb q)) hf hT new
    refine ⟨.ref T, _, J, rfl, ⟨T, x, rfl, I.hok.fresh hT, rfl, fun ys hy => by rw [Src.inj I hy hq]; exact hx⟩, ?_, fun b hb => ?_⟩
    · obtain ⟨⟨o2, he2⟩, hi2, _⟩ := hSt
      have en : k0 + ((n + 1 : Nat) : Int) = k0 + (n : Nat) + 1 := by push_cast; omega
      exact ⟨⟨o2, by first | exact he2 | (rw [en]; exact he2)⟩, hi2, ne⟩
    · have hb' : b < s.heap.objs.size := by
        rcases List.mem_cons.mp hb with z | z
        · rw [z]; exact Heap.lt_size he
        · have z' : b = i := by simpa using z
          rw [z']; exact Heap.lt_size hoi
      rw [upd_ne (Nat.ne_of_lt (Nat.lt_of_lt_of_le hb' hT))]
      exact (hf b hb).1
  done := by
    intro X hP hw hK hc n pins s σ H E I hf st hg
    subst hP hw hK
    obtain ⟨⟨old, he⟩, hi, ne⟩ := st
    obtain ⟨xs, hq, hx⟩ := hg
    obtain ⟨its, rv, har⟩ := Src.inv I hq
    have hh : X.A.in1.handled = none := I.ok.hd hc
    have a1 : S.addr ≠ e := Src.arr_ne har he (fun _ _ q => nomatch q)
    have Wk := WalksT.enumFrom k0 (Src.draws (prog := X.prog) (w := X.w) hh S i (Src.arr_it har hi) its.toArray) e ne (by simp only [List.mem_cons, List.not_mem_nil, or_false, not_or]; exact ⟨ne, fun z => a1 z.symm⟩) (by simp)
    have en : its.toArray.size = n := by rw [List.size_toArray, ← rv.length]; exact hx
    rw [en] at Wk
    exact Wk.done s _ E ⟨⟨old, he⟩, hi, har⟩ fun h' tk hk => ⟨rfl, I.turnedL (t' := tk) (ch := [e, i]) (fun b ob hb q => hk b ob hb q) hf⟩
  self := fun A n s Q E st h => by
    obtain ⟨⟨_, he⟩, _⟩ := st
    exact wpAny_pyIter_enum he h
end Bk

set_option Elab.async false
set_option linter.all false
set_option maxRecDepth 100000
set_option maxHeartbeats 2000000
namespace Bk
open PySem PySem.Spec PyProof.Rows L2
def enumL (k : Int) : List D → List D
  | [] => []
  | d :: ds => .tup [.int k, d] :: enumL (k + 1) ds
theorem enumL_len : ∀ (ds : List D) (k : Int), (enumL k ds).length = ds.length
  | [], _ => rfl
  | d :: ds, k => by simp [enumL, enumL_len ds]
theorem enumL_get : ∀ (ds : List D) (k : Int) (i : Nat) (x : D), (enumL k ds)[i]? = some x → ∃ d, ds[i]? = some d ∧ x = .tup [.int (k + (i : Nat)), d]
  | [], _, _, _, h => by simp [enumL] at h
  | d :: ds, k, 0, x, h => by
    simp [enumL] at h
    exact ⟨d, rfl, by rw [← h]; simp⟩
  | d :: ds, k, i + 1, x, h => by
    simp only [enumL, List.getElem?_cons_succ] at h
    obtain ⟨d', h1, h2⟩ := enumL_get ds (k + 1) i x h
    refine ⟨d', by simpa using h1, ?_⟩
    rw [h2]
    congr 3
    push_cast
    omega
def zipL : List D → List D → List D
  | d :: ds, e :: es => .tup [d, e] :: zipL ds es
  | _, _ => []
theorem zipL_len : ∀ (ds es : List D), (zipL ds es).length = min ds.length es.length
  | [], _ => by simp [zipL]
  | _ :: _, [] => by simp [zipL]
  | d :: ds, e :: es => by
    simp only [zipL, List.length_cons, zipL_len ds es]
    omega
theorem zipL_get : ∀ (ds es : List D) (i : Nat) (x : D), (zipL ds es)[i]? = some x → ∃ d e, ds[i]? = some d ∧ es[i]? = some e ∧ x = .tup [d, e]
  | [], _, _, _, h => by simp [zipL] at h
  | _ :: _, [], _, _, h => by simp [zipL] at h
  | d :: ds, e :: es, 0, x, h => by
    simp [zipL] at h
    exact ⟨d, e, rfl, rfl, h.symm⟩
  | d :: ds, e :: es, i + 1, x, h => by
    simp only [zipL, List.getElem?_cons_succ] at h
    obtain ⟨d', e', h1, h2, h3⟩ := zipL_get ds es i x h
    exact ⟨d', e', by simpa using h1, by simpa using h2, h3⟩
def gEnum (ge : GE) : GI := fun Γ M => (ge Γ M).bind fun d M1 => opR ((seqD d).map (enumL 0)) M1
def gEnumK (ge : GE) (gk : GE) : GI := fun Γ M => (ge Γ M).bind fun d M1 => (gk Γ M1).bind fun k M2 => match k with
  | .int k => if decide (-(2 ^ 63) ≤ k) && decide (k < 2 ^ 63) then opR ((seqD d).map (enumL k)) M2 else .bad
  | _ => .bad
def zipO (x y : D) : Option (List D) := match seqD x, seqD y with
  | some ds, some es => some (zipL ds es)
  | _, _ => none
def gZip (ga gb : GE) : GI := fun Γ M => (ga Γ M).bind fun x M1 => (gb Γ M1).bind fun y M2 => opR (zipO x y) M2
section
variable {X : Cx} {C : CT} {W : WX} {e e2 : Expr} {ge ga gb gk : GE} {p pos tpos : Pos} {elts : List Expr} {kk : Nat}
theorem src_of {K : PySem.W.Frag} {H Z : Hp} {ι : Nat → Addr} {n : Nat} {d : D} {ds : List D} {v : V} (hs : Sub Z H) (r : Rp K Z ι n d v) (h : seqD d = some ds) : ∃ (S : Src) (xs : List V), v = .ref S.addr ∧ S.here K Z xs ∧ Rps K Z ι n ds xs := by
  cases r with
  | lst s r => cases h; exact ⟨.l _, _, rfl, s.sq, r⟩
  | tup s r => cases h; exact ⟨.t _, _, rfl, s, r⟩
  | _ => cases h
theorem here_sub {K : PySem.W.Frag} {Z H : Hp} (h : Sub Z H) {S : Src} {xs : List V} : S.here K Z xs → S.here K H xs := by
  cases S with
  | l a =>
    intro q
    rcases (show SqL K Z a xs from q) with (q | ⟨o, q⟩) | q
    · exact .inl (.inl (h _ _ q))
    · exact .inl (.inr ⟨o, h _ _ q⟩)
    · exact .inr q
  | t a => exact fun q => subT h q
theorem itr_en {K : PySem.W.Frag} {Z : Hp} {ι : Nat → Addr} {n : Nat} {S : Src} {xs : List V} {ds : List D} {k : Int} (s : S.here K Z xs) (r : Rps K Z ι n ds xs) : ItR K (Ien K S k) (enumL k ds) Z ι n := by
  intro i H' Z' ι' M' hz hi hn hr _
  have sH : S.here K H' xs := here_sub (fun a o h => hr.sub _ _ (hz _ _ h)) s
  refine ⟨fun hl => ⟨xs, sH, by rw [← r.length, ← enumL_len ds k]; exact hl⟩, fun d hd => ?_⟩
  obtain ⟨d0, h1, rfl⟩ := enumL_get ds k i d hd
  obtain ⟨v, hv, rv⟩ := r.get h1
  refine ⟨⟨xs, v, sH, hv⟩, fun x H2 hy => ?_⟩
  obtain ⟨T, x', rfl, hT, rfl, hx⟩ := hy
  have ex : xs[i]? = some x' := hx _ sH
  rw [hv] at ex
  cases ex
  obtain ⟨q1, q2⟩ := hr.frozen (o := .tup [.int (k + (i : Nat)), v]) hT
  refine ⟨_, q2, q1, .tup (.inl (.inl upd_same)) (.cons (.int _) (.cons ?_ .nil))⟩
  exact Rp.ext (Rp.mono hz hi hn _ _ rv) q2
theorem qi_enum (hg : Gl X "enumerate") (hm : X.mg "enumerate" = none) (ha : QE X C W e ge) (hs : starEach [e] X.env = (false, eval e X.env) :: starEach [] X.env := by rfl) : QI X C W (.Tuple elts kk tpos) (.Call (.Name "enumerate" p) [e] [] pos) (gEnum ge) := by
  obtain ⟨ta, pa, qa⟩ := ha
  refine ⟨fun σ H R => ta σ H fun v H1 => ∃ (S : Src) (xs : List V), v = .ref S.addr ∧ S.here X.K H1 xs ∧ R (Ien X.K S 0) H1, ⟨fun pins s σ H R I h => ?_⟩, fun σ H Z ι Γ M Q sl hr h => qa σ H Z ι Γ M _ sl hr (Post.bind h fun x M1 v H1 Z1 ι1 e1 hr1 r1 h1 => ?_)⟩
  · refine Call_ (ld_blt I hg hm boot_enumerate (PyProof.Rows.callWith_type1 (thn ((pa_cons pa pa_nil hs).run pos pins s σ H (fun vs H1 => ∃ v, vs = [v] ∧ ∃ (S : Src) (xs : List V), v = .ref S.addr ∧ S.here X.K H1 xs ∧ R (Ien X.K S 0) H1) I ?_) fun us s1 hh => ?_) hs rfl))
    · have hmono : (fun x H1 => tNil σ H1 fun xs H2 => ∃ v, x :: xs = [v] ∧ ∃ (S : Src) (ys : List V), v = .ref S.addr ∧ S.here X.K H2 ys ∧ R (Ien X.K S 0) H2) = fun (v : V) (H1 : Hp) => ∃ (S : Src) (xs : List V), v = .ref S.addr ∧ S.here X.K H1 xs ∧ R (Ien X.K S 0) H1 := by
        funext x H1
        apply propext
        constructor
        · rintro ⟨v, ev, q⟩
          cases ev
          exact q
        · intro q
          exact ⟨x, rfl, q⟩
      show ta σ H fun x H1 => tNil σ H1 fun xs H2 => ∃ v, x :: xs = [v] ∧ ∃ (S : Src) (ys : List V), v = .ref S.addr ∧ S.here X.K H2 ys ∧ R (Ien X.K S 0) H2
      rw [hmono]
      exact h
    · obtain ⟨vs, H1, J, r1, v, rfl, S, xs, rfl, hq, q⟩ := hh
      obtain ⟨u, rfl, ru⟩ := Vals.one r1
      cases ru
      obtain ⟨its, rv, har⟩ := Src.inv J hq
      refine call_enum1 (S.begins its.toArray) har fun h' he hit hk => wpAny_pyIter_enum he ?_
      have J2 : Inv X pins σ H1 { s1 with heap := h' } := J.kept (t' := s1.toks) hk
      refine ⟨s1.heap.objs.size + 1, [s1.heap.objs.size + 1, s1.heap.objs.size], _, _, H1, rfl, J2, turn_en S 0 (s1.heap.objs.size + 1) s1.heap.objs.size, ⟨⟨.none, by simpa using he⟩, Src.start hit, Nat.succ_ne_self _⟩, fun b hb => ?_, q⟩
      have le : s1.heap.objs.size ≤ b := by
        rcases List.mem_cons.mp hb with z | z
        · rw [z]; exact Nat.le_succ _
        · have z' : b = s1.heap.objs.size := by simpa using z
          rw [z']
          exact Nat.le_refl _
      exact J.fpOk le (J.hok.fresh le)
  · obtain ⟨items, hd, h2⟩ := Post.of_opR (γ := D) (δ := V) h1
    cases es : seqD x with
    | none => rw [es] at hd; cases hd
    | some ds =>
      rw [es] at hd
      cases hd
      obtain ⟨S, xs, rfl, hS, r⟩ := src_of hr1.sub r1 es
      exact ⟨S, xs, rfl, here_sub hr1.sub hS, h2 _ H1 Z1 ι1 .refl hr1 (itr_en hS r)⟩
theorem qi_enumK (hg : Gl X "enumerate") (hm : X.mg "enumerate" = none) (ha : QE X C W e ge) (hb : QE X C W e2 gk) (hs : starEach [e, e2] X.env = (false, eval e X.env) :: starEach [e2] X.env := by rfl) (hs2 : starEach [e2] X.env = (false, eval e2 X.env) :: starEach [] X.env := by rfl)
    (hpl : (backTo pos (starEach [e2] X.env)).any (·.1) = false := by rfl) : QI X C W (.Tuple elts kk tpos) (.Call (.Name "enumerate" p) [e, e2] [] pos) (gEnumK ge gk) := by
  obtain ⟨ta, pa, qa⟩ := ha
  obtain ⟨tb, pb, qb⟩ := hb
  refine ⟨fun σ H R => ta σ H fun v H1 => tb σ H1 fun u H2 => ∃ (S : Src) (xs : List V) (k : Int), v = .ref S.addr ∧ u = .int k ∧ S.here X.K H2 xs ∧ -(2 ^ 63) ≤ k ∧ k < 2 ^ 63 ∧ R (Ien X.K S k) H2, ⟨fun pins s σ H R I h => ?_⟩,
    fun σ H Z ι Γ M Q sl hr h => qa σ H Z ι Γ M _ sl hr (Post.bind h fun x M1 v H1 Z1 ι1 e1 hr1 r1 h1 => qb σ H1 Z1 ι1 Γ M1 _ (sl.ext e1) hr1 (h1.bind fun y M2 u H2 Z2 ι2 e2 hr2 r2 h2 => ?_))⟩
  · refine Call_ (ld_blt I hg hm boot_enumerate (PyProof.Rows.callWith_type1 (thn ((pa_cons pa (pa_cons pb pa_nil hs2) hs).run pos pins s σ H (fun vs H1 => ∃ v u, vs = [v, u] ∧ ∃ (S : Src) (xs : List V) (k : Int), v = .ref S.addr ∧ u = .int k ∧ S.here X.K H1 xs ∧ -(2 ^ 63) ≤ k ∧ k < 2 ^ 63 ∧ R (Ien X.K S k) H1) I ?_) fun us s1 hh => ?_) hs hpl))
    · have hmono : (fun x H1 => tb σ H1 fun y H2 => tNil σ H2 fun ys H3 => ∃ v u, x :: y :: ys = [v, u] ∧ ∃ (S : Src) (xs : List V) (k : Int), v = .ref S.addr ∧ u = .int k ∧ S.here X.K H3 xs ∧ -(2 ^ 63) ≤ k ∧ k < 2 ^ 63 ∧ R (Ien X.K S k) H3) =
          fun (v : V) (H1 : Hp) => tb σ H1 fun u H2 => ∃ (S : Src) (xs : List V) (k : Int), v = .ref S.addr ∧ u = .int k ∧ S.here X.K H2 xs ∧ -(2 ^ 63) ≤ k ∧ k < 2 ^ 63 ∧ R (Ien X.K S k) H2 := by
        funext x H1
        congr 1
        funext y H2
        apply propext
        constructor
        · rintro ⟨v, u, ev, q⟩
          cases ev
          exact q
        · intro q
          exact ⟨x, y, rfl, q⟩
      show ta σ H fun x H1 => tb σ H1 fun y H2 => tNil σ H2 fun ys H3 => ∃ v u, x :: y :: ys = [v, u] ∧ ∃ (S : Src) (xs : List V) (k : Int), v = .ref S.addr ∧ u = .int k ∧ S.here X.K H3 xs ∧ -(2 ^ 63) ≤ k ∧ k < 2 ^ 63 ∧ R (Ien X.K S k) H3
      rw [hmono]
      exact h
    · obtain ⟨vs, H1, J, r1, v, u, rfl, S, xs, k, rfl, rfl, hq, k1, k2, q⟩ := hh
      obtain ⟨u1, u2, rfl, ru, ru2⟩ := Vals.two r1
      cases ru
      obtain ⟨tk, rfl⟩ := ru2
      obtain ⟨its, rv, har⟩ := Src.inv J hq
      refine enum_begins (S.begins its.toArray) har k1 k2 fun h' he hit _ hk => wpAny_pyIter_enum he ?_
      have J2 : Inv X pins σ H1 { s1 with heap := h' } := J.kept (t' := s1.toks) hk
      refine ⟨s1.heap.objs.size + 1, [s1.heap.objs.size + 1, s1.heap.objs.size], _, _, H1, rfl, J2, turn_en S k (s1.heap.objs.size + 1) s1.heap.objs.size, ⟨⟨.none, by simpa using he⟩, Src.start hit, Nat.succ_ne_self _⟩, fun b hb => ?_, q⟩
      have le : s1.heap.objs.size ≤ b := by
        rcases List.mem_cons.mp hb with z | z
        · rw [z]; exact Nat.le_succ _
        · have z' : b = s1.heap.objs.size := by simpa using z
          rw [z']
          exact Nat.le_refl _
      exact J.fpOk le (J.hok.fresh le)
  · cases r2 with
    | int k =>
      have h3 : Post X C W (rpI X.K) σ H2 Z2 ι2 M2 (if decide (-(2 ^ 63) ≤ k) && decide (k < 2 ^ 63) then opR ((seqD x).map (enumL k)) M2 else .bad) Q := h2
      by_cases c : (decide (-(2 ^ 63) ≤ k) && decide (k < 2 ^ 63)) = true
      · rw [if_pos c] at h3
        simp only [Bool.and_eq_true, decide_eq_true_eq] at c
        obtain ⟨items, hd, h4⟩ := Post.of_opR (γ := D) (δ := V) h3
        cases es : seqD x with
        | none => rw [es] at hd; cases hd
        | some ds =>
          rw [es] at hd
          cases hd
          obtain ⟨S, xs, rfl, hS, r⟩ := src_of hr2.sub (r1.ext e2) es
          exact ⟨S, xs, k, rfl, rfl, here_sub hr2.sub hS, c.1, c.2, h4 _ H2 Z2 ι2 .refl hr2 (itr_en hS r)⟩
      · rw [if_neg c] at h3
        exact h3.elim
    | _ => exact h2.elim
end
end Bk

set_option Elab.async false
set_option linter.all false
set_option maxRecDepth 100000
set_option maxHeartbeats 2000000
namespace Bk
open PySem PySem.Spec PyProof.Rows L2
/-! ### a comprehension over a list of ours, which it leaves as it is -/
def Pure {α : Type} (g : Env → List MO → R α) : Prop := ∀ (Γ : Env) (M : List MO) (d : α) (M' : List MO), g Γ M = .ok d M' → M' = M
theorem R.bind_ok {α β : Type} {r : R α} {f : α → List MO → R β} {b : β} {M' : List MO} (h : r.bind f = .ok b M') : ∃ a M1, r = .ok a M1 ∧ f a M1 = .ok b M' := by
  cases r with
  | ok a M1 => exact ⟨a, M1, rfl, h⟩
  | exc c d M1 => cases h
  | bad => cases h
theorem opR_ok {α : Type} {o : Option α} {M M' : List MO} {a : α} (h : opR o M = .ok a M') : M' = M := by
  cases o with
  | none => cases h
  | some a => cases h; rfl
theorem pure_v (i : Nat) : Pure (gV i) := fun Γ M d M' h => by
  unfold gV at h
  split at h <;> cases h
  rfl
theorem pure_c (d : D) : Pure (gC d) := fun Γ M d M' h => by cases h; rfl
theorem pure_op1 {f : List MO → D → Option D} {ga : GE} (h1 : Pure ga) : Pure (gOp1 f ga) := fun Γ M d M' h => by
  obtain ⟨a, M1, e1, h⟩ := R.bind_ok h
  rw [opR_ok h, h1 _ _ _ _ e1]
theorem pure_op2 {f : List MO → D → D → Option D} {ga gb : GE} (h1 : Pure ga) (h2 : Pure gb) : Pure (gOp2 f ga gb) := fun Γ M d M' h => by
  obtain ⟨a, M1, e1, h⟩ := R.bind_ok h
  obtain ⟨b, M2, e2, h⟩ := R.bind_ok h
  rw [opR_ok h, h2 _ _ _ _ e2, h1 _ _ _ _ e1]
theorem pure_yes : Pure gYes := fun Γ M d M' h => by cases h; rfl
theorem pure_val {ga : GE} (h1 : Pure ga) : Pure (gVal ga) := fun Γ M d M' h => by
  obtain ⟨a, M1, e1, h⟩ := R.bind_ok h
  rw [opR_ok h, h1 _ _ _ _ e1]
theorem pure_notT {ga : GT} (h1 : Pure ga) : Pure (gNotT ga) := fun Γ M d M' h => by
  obtain ⟨a, M1, e1, h⟩ := R.bind_ok h
  cases h
  exact h1 _ _ _ _ e1
theorem pure_nil : Pure gNil := fun Γ M d M' h => by cases h; rfl
theorem pure_cons {ga : GE} {gs : GA} (h1 : Pure ga) (h2 : Pure gs) : Pure (gCons ga gs) := fun Γ M d M' h => by
  obtain ⟨a, M1, e1, h⟩ := R.bind_ok h
  obtain ⟨b, M2, e2, h⟩ := R.bind_ok h
  cases h
  rw [h2 _ _ _ _ e2, h1 _ _ _ _ e1]
theorem pure_tup {gs : GA} (h1 : Pure gs) : Pure (gTup gs) := fun Γ M d M' h => by
  obtain ⟨a, M1, e1, h⟩ := R.bind_ok h
  split at h
  · cases h
    exact h1 _ _ _ _ e1
  · cases h
theorem pure_call {f : List MO → List D → Option D} {gs : GA} (h1 : Pure gs) : Pure (gCall f gs) := fun Γ M d M' h => by
  obtain ⟨a, M1, e1, h⟩ := R.bind_ok h
  rw [opR_ok h, h1 _ _ _ _ e1]
def gLcW (ge : GE) (gg : GG) (gt : GT) (gel : GE) (own : List Nat) : GE := fun Γ M => (ge Γ M).bind fun d M1 => match d with
  | .ref k => match M1[k]? with
    | some (.lst ds) => (gLcL gg gt gel (forget Γ own) ds [] M1).bind fun acc M2 => .ok (.lst acc) M2
    | _ => .bad
  | _ => .bad
theorem itr_o {K : PySem.W.Frag} {Z : Hp} {ι : Nat → Addr} {n k : Nat} {ds : List D} (hk : k < n) : ItC (fun M => M[k]? = some (.lst ds)) K (Itl K (ι k)) ds Z ι n := by
  intro i H' Z' ι' M' hz hi hn hr hM
  obtain ⟨xs, e1, r⟩ := hr.obj k _ hM
  rw [hi k hk] at e1
  have sH : SqL K H' (ι k) xs := .of e1
  refine ⟨fun hl => ⟨xs, sH, by rw [← r.length]; exact Nat.le_of_eq hl⟩, fun d hd => ?_⟩
  obtain ⟨v, hv, rv⟩ := r.get hd
  refine ⟨⟨xs, v, sH, hv⟩, fun x H2 hy => ?_⟩
  obtain ⟨rfl, hx⟩ := hy
  have ex : xs[i]? = some x := hx _ sH
  rw [hv] at ex
  cases ex
  exact ⟨Z', .refl, hr, rv⟩
section
variable {X : Cx} {C : CT} {W : WX} {elt tg iter : Expr} {ifs : List Expr} {scope : Scope} {own : List (Str × Nat)} {pos : Pos} {gi : GE} {gg : GG} {gt : GT} {ge : GE} {is ixs : List Nat}
theorem qe_lcW (hc : X.calm = true) (hN : X.N.Nodup) (hi : QE X C W iter gi) (ok : BlkOk X.N X.env.scope scope own) (hg : Blk X scope fun Y => QG Y tg gg is) (ht : Blk X scope fun Y => QTs Y C noW ifs gt) (he : Blk X scope fun Y => QE Y C noW elt ge)
    (p1 : Pure gt) (p2 : Pure ge) (hix : ixs = own.map (·.2) := by rfl) (hsub : ∀ i ∈ is, i ∈ own.map (·.2) := by decide) (hs : ∀ x, foldedSetIterable iter X.env x = pure x := by intro _; rfl) : QE X C W (.ListComp elt [⟨tg, iter, ifs, 0⟩] scope pos) (gLcW gi gg gt ge ixs) := by
  subst hix
  obtain ⟨ta, pa, qa⟩ := hi
  refine ⟨_, pe_lc hc hN (pi_seq pa) ok (blk_g hg) (blk_t ht) (blk_e he) hs, fun σ H Z ι Γ M Q sl hr h => qa σ H Z ι Γ M _ sl hr (Post.bind h fun x M1 v H1 Z1 ι1 e1 hr1 r1 h1 => ?_)⟩
  cases r1 with
  | ref hk =>
    rename_i k
    have h2 : Post X C W (rpE X.K) σ H1 Z1 ι1 M1 (match M1[k]? with
      | some (.lst ds) => (gLcL gg gt ge (forget Γ (own.map (·.2))) ds [] M1).bind fun acc M2 => .ok (.lst acc) M2
      | _ => .bad) Q := h1
    cases e2 : M1[k]? with
    | none => rw [e2] at h2; exact h2.elim
    | some o =>
      rw [e2] at h2
      cases o with
      | dead => exact h2.elim
      | obj nm fs => exact h2.elim
      | lst ds =>
        obtain ⟨xs, a1, a2⟩ := hr1.obj k _ e2
        refine ⟨ι1 k, rfl, .inl ⟨⟨xs, .of a1⟩, fun p hp => ?_⟩⟩
        exact gLcL_run hsub (slots_wipe _ (sl.ext e1)) (itr_o hk) e2 (fun Γ M d M' e c => by rw [p1 _ _ _ _ e]; exact c) (fun Γ M d M' e c => by rw [p2 _ _ _ _ e]; exact c) hp hr1 h2
          fun acc accV M' H' Z' ι' b1 b2 b3 b4 b5 b6 => fin_z hp b1 b2 b3 b4 b5 b6
  | _ => exact h1.elim
end
end Bk
namespace Bk
open PySem PySem.Spec PyProof.Rows L2
theorem qs_pre {X : Cx} {C : CT} {W : WX} {st : Stmt} {g : GS} (is : List Nat) (h1 : QS X C W st g) : QS X C W st (gSeq (gForget is) g) := by
  obtain ⟨t, p, q⟩ := h1
  exact ⟨t, p, fun Dd σ H Z ι Γ M sl hr h => q Dd σ H Z ι (forget Γ is) M (sl.forget is) hr h⟩
end Bk

set_option Elab.async false
set_option linter.all false
set_option maxRecDepth 100000
set_option maxHeartbeats 2000000
namespace Bk
open PySem PySem.Spec PyProof.Rows L2
/-! ### ==, for texts of any kind as well -/
def dEqA (M : List MO) (x y : D) : Option D := match x, y with
  | .str a, .str b => some (.bl (decide (a = b)))
  | x, y => dEq M x y
def dNeA (M : List MO) (x y : D) : Option D := match x, y with
  | .str a, .str b => some (.bl (!decide (a = b)))
  | x, y => dNe M x y
section
variable {X : Cx}
theorem op_eqA (hu : X.A.units + 64 < cLine) : OpR X (compareOp .Eq) (fun x y H Q => rEqD X.K x y H Q ∨ rEq x y H Q) := (op_eqD hu).or op_eq
theorem op_neA (hu : X.A.units + 64 < cLine) : OpR X (compareOp .NotEq) (fun x y H Q => rNeD X.K x y H Q ∨ rNe x y H Q) := (op_neD hu).or op_ne
theorem str_dec (a b : Str) : decide (V.str a = V.str b) = decide (a = b) := by simp
theorem ok_eqA : Ok2 X (fun x y H Q => rEqD X.K x y H Q ∨ rEq x y H Q) dEqA := fun x y H Z ι M dx dy d Q hr rx ry e q => by
  unfold dEqA at e
  split at e
  · cases e
    cases rx
    cases ry
    exact .inr ⟨rfl, q.now hr (by rw [str_dec]; exact .bl _)⟩
  · exact .inl (ok_eq x y H Z ι M dx dy d Q hr rx ry e q)
theorem ok_neA : Ok2 X (fun x y H Q => rNeD X.K x y H Q ∨ rNe x y H Q) dNeA := fun x y H Z ι M dx dy d Q hr rx ry e q => by
  unfold dNeA at e
  split at e
  · cases e
    cases rx
    cases ry
    exact .inr ⟨rfl, q.now hr (by rw [str_dec]; exact .bl _)⟩
  · exact .inl (ok_ne x y H Z ι M dx dy d Q hr rx ry e q)
end
@[simp] theorem e_eqS (M : List MO) (a b : Str) : dEqA M (.str a) (.str b) = some (.bl (decide (a = b))) := Eq.trans rfl rfl
@[simp] theorem e_neS (M : List MO) (a b : Str) : dNeA M (.str a) (.str b) = some (.bl (!decide (a = b))) := Eq.trans rfl rfl
/-! ### data that is as it is -/
structure Dt (n : Nat) (d : D) (p : PyData) : Prop where
  e : toP d = some p
  l : p.canLay0 = true
  h : p.depth ≤ n
structure Dts (n : Nat) (ds : List D) (ps : List PyData) : Prop where
  e : toPs ds = some ps
  l : PyData.canLayAll0 ps = true
  h : PyData.depthAll ps ≤ n
theorem Dt.int (n : Nat) (i : Int) : Dt n (.int i) (.int i) := ⟨rfl, rfl, Nat.zero_le _⟩
theorem Dt.non (n : Nat) : Dt n .non .none := ⟨rfl, rfl, Nat.zero_le _⟩
theorem Dt.bl (n : Nat) (b : Bool) : Dt n (.bl b) (.bool b) := ⟨rfl, rfl, Nat.zero_le _⟩
theorem Dts.nil (n : Nat) : Dts n [] [] := ⟨rfl, rfl, Nat.zero_le _⟩
theorem Dts.cons {n : Nat} {d : D} {ds : List D} {p : PyData} {ps : List PyData} (h : Dt n d p) (t : Dts n ds ps) : Dts n (d :: ds) (p :: ps) :=
  ⟨by simp [toPs, h.e, t.e], by simp [PyData.canLayAll0, h.l, t.l], by have := h.h; have := t.h; simp only [PyData.depthAll]; omega⟩
theorem Dts.tup {n : Nat} {ds : List D} {ps : List PyData} (h : Dts n ds ps) : Dt (n + 1) (.tup ds) (.tuple ps) := ⟨by simp [toP, h.e], by simpa [PyData.canLay0] using h.l, by have := h.h; simp only [PyData.depth]; omega⟩
theorem Dts.lst {n : Nat} {ds : List D} {ps : List PyData} (h : Dts n ds ps) : Dt (n + 1) (.lst ds) (.list ps) := ⟨by simp [toP, h.e], by simpa [PyData.canLay0] using h.l, by have := h.h; simp only [PyData.depth]; omega⟩
theorem Dts.map {α : Type} {n : Nat} {f : α → D} {g : α → PyData} (xs : List α) (h : ∀ x ∈ xs, Dt n (f x) (g x)) : Dts n (xs.map f) (xs.map g) := by
  induction xs with
  | nil => exact .nil n
  | cons x xs ih => exact .cons (h x (by simp)) (ih fun y hy => h y (by simp [hy]))
theorem Dts.ints (n : Nat) (is : List Int) : Dts n (is.map D.int) (is.map PyData.int) := Dts.map is fun i _ => .int n i
theorem Dt.shaped {n : Nat} {d : D} {p : PyData} (h : Dt n d p) (hn : n ≤ 64) : SeqAt.shaped p = true := by
  have := h.h
  simp [SeqAt.shaped, h.l]
  omega
theorem eqP_of {n m : Nat} {M : List MO} {x y d d' : D} {p q : PyData} (h : Dt n d p) (h' : Dt m d' q) (hx : deref M x = d) (hy : deref M y = d') (hn : n ≤ 64) (hm : m ≤ 64) : eqP M x y = some (PyData.eqv p q) := by
  unfold eqP
  rw [hx, hy, h.e, h'.e]
  simp [h.shaped hn, h'.shaped hm]
theorem eqv_same {p : PyData} (h : p.canLay0 = true) : PyData.eqv p p = true := SeqAt.eqv_refl p h
theorem eqP_same {n : Nat} {M : List MO} {x y d : D} {p : PyData} (h : Dt n d p) (hx : deref M x = d) (hy : deref M y = d) (hn : n ≤ 64) : eqP M x y = some true := by
  rw [eqP_of h h hx hy hn hn, eqv_same h.l]
theorem dEqA_p {M : List MO} {x y : D} {b : Bool} (h : eqP M x y = some b) (hx : ∀ s, x ≠ .str s) : dEqA M x y = some (.bl b) := by
  unfold dEqA
  split
  · exact absurd rfl (hx _)
  · simp [dEq, h]
theorem dNeA_p {M : List MO} {x y : D} {b : Bool} (h : eqP M x y = some b) (hx : ∀ s, x ≠ .str s) : dNeA M x y = some (.bl !b) := by
  unfold dNeA
  split
  · exact absurd rfl (hx _)
  · simp [dNe, h]
@[simp] theorem dEqA_int (M : List MO) (i j : Int) : dEqA M (.int i) (.int j) = some (.bl (decide (i = j))) := by
  rw [dEqA_p (eqP_of (Dt.int 0 i) (Dt.int 0 j) rfl rfl (by decide) (by decide)) (fun _ h => by cases h)]
  simp only [PyData.eqv]
  congr 2
  try rfl
@[simp] theorem dNeA_int (M : List MO) (i j : Int) : dNeA M (.int i) (.int j) = some (.bl (!decide (i = j))) := by
  rw [dNeA_p (eqP_of (Dt.int 0 i) (Dt.int 0 j) rfl rfl (by decide) (by decide)) (fun _ h => by cases h)]
  simp only [PyData.eqv]
  congr 2
  try rfl
theorem deref_ref {M : List MO} {k : Nat} {ds : List D} (h : M[k]? = some (.lst ds)) : deref M (.ref k) = .lst (ds.map (deref1 M)) := by
  simp [deref, deref1, h]
mutual
theorem below_toP : ∀ (d : D) (p : PyData), toP d = some p → below 0 d = true
  | .non, _, _ => rfl
  | .bl _, _, _ => rfl
  | .int _, _, _ => rfl
  | .str _, _, _ => rfl
  | .tup ds, p, h => by
    cases e : toPs ds with
    | none => simp [toP, e] at h
    | some ps => simpa [below] using belows_toPs ds ps e
  | .lst ds, p, h => by
    cases e : toPs ds with
    | none => simp [toP, e] at h
    | some ps => simpa [below] using belows_toPs ds ps e
  | .ref _, _, h => by cases h
theorem belows_toPs : ∀ (ds : List D) (ps : List PyData), toPs ds = some ps → belows 0 ds = true
  | [], _, _ => rfl
  | d :: ds, ps, h => by
    cases e1 : toP d with
    | none => simp [toPs, e1] at h
    | some p =>
      cases e2 : toPs ds with
      | none => simp [toPs, e1, e2] at h
      | some ps => simp [belows, below_toP d p e1, belows_toPs ds ps e2]
end
mutual
theorem below_up : ∀ {m : Nat} (d : D), below 0 d = true → below m d = true
  | _, .non, _ => rfl
  | _, .bl _, _ => rfl
  | _, .int _, _ => rfl
  | _, .str _, _ => rfl
  | m, .tup ds, h => by simpa [below] using belows_up ds (by simpa [below] using h)
  | m, .lst ds, h => by simpa [below] using belows_up ds (by simpa [below] using h)
  | _, .ref _, h => by simp [below] at h
theorem belows_up : ∀ {m : Nat} (ds : List D), belows 0 ds = true → belows m ds = true
  | _, [], _ => rfl
  | m, d :: ds, h => by
    simp only [belows, Bool.and_eq_true] at h ⊢
    exact ⟨below_up d h.1, belows_up ds h.2⟩
end
mutual
theorem flat_noref : ∀ (M : List MO) (d : D), below 0 d = true → deref1 M d = d
  | _, .non, _ => rfl
  | _, .bl _, _ => rfl
  | _, .int _, _ => rfl
  | _, .str _, _ => rfl
  | _, .tup _, _ => rfl
  | _, .lst _, _ => rfl
  | _, .ref _, h => by simp [below] at h
end
theorem belows_all {m : Nat} (ds : List D) : belows m ds = ds.all (below m) := by
  induction ds with
  | nil => rfl
  | cons d ds ih => simp [belows, ih]
theorem map_deref {M : List MO} {ds : List D} (h : belows 0 ds = true) : ds.map (deref1 M) = ds := by
  rw [belows_all, List.all_eq_true] at h
  conv => rhs; rw [← List.map_id ds]
  exact List.map_congr_left fun d hd => flat_noref M d (h d hd)
theorem deref_flat {M : List MO} {d : D} (h : below 0 d = true) : deref M d = d := by
  unfold deref
  rw [flat_noref M d h]
  cases d with
  | lst ds =>
    show D.lst (ds.map (deref1 M)) = _
    rw [map_deref (by simpa [below] using h)]
  | _ => rfl
theorem Dt.below {n m : Nat} {d : D} {p : PyData} (h : Dt n d p) : below m d = true := below_up d (below_toP d p h.e)
theorem Dts.belows {n m : Nat} {ds : List D} {ps : List PyData} (h : Dts n ds ps) : belows m ds = true := belows_up ds (belows_toPs ds ps h.e)
theorem Dt.deref {n : Nat} {M : List MO} {d : D} {p : PyData} (h : Dt n d p) : deref M d = d := deref_flat h.below
theorem Dts.derefR {n : Nat} {M : List MO} {k : Nat} {ds : List D} {ps : List PyData} (h : Dts n ds ps) (hk : M[k]? = some (.lst ds)) : deref M (.ref k) = .lst ds := by rw [deref_ref hk, map_deref h.belows]
@[simp] theorem belows_ints (m : Nat) (is : List Int) : belows m (is.map D.int) = true := (Dts.ints 0 is).belows
/-! what repr writes is not too long -/
structure Sh (b : Nat) (p : PyData) : Prop where
  s : p.showable = true
  d : p.hasDict = false
  l : p.leavesShort 13 = true
  b : p.bulk ≤ b
structure Shs (b : Nat) (ps : List PyData) : Prop where
  s : PyData.showableAll ps = true
  d : PyData.hasDictAll ps = false
  l : PyData.leavesShortAll 13 ps = true
  b : PyData.bulkAll ps ≤ b
theorem Sh.int {i : Int} (h : i.natAbs < 10 ^ 12) : Sh 0 (.int i) := ⟨by
  have : i.natAbs.log2 < 1920 := by
    by_cases z : i.natAbs = 0
    · rw [z]; decide
    · have : i.natAbs.log2 < 40 := (Nat.log2_lt z).mpr (by omega)
      omega
  simp [PyData.showable, this], rfl, by simpa [PyData.leavesShort] using PyData.shown_int_le h, Nat.le_refl _⟩
theorem Sh.non : Sh 0 .none := ⟨rfl, rfl, rfl, Nat.le_refl _⟩
theorem Sh.bl (b : Bool) : Sh 0 (.bool b) := ⟨rfl, rfl, rfl, Nat.le_refl _⟩
theorem Shs.nil : Shs 0 [] := ⟨rfl, rfl, rfl, Nat.le_refl _⟩
theorem Shs.cons {b c : Nat} {p : PyData} {ps : List PyData} (h : Sh b p) (t : Shs c ps) : Shs (b + 1 + c) (p :: ps) :=
  ⟨by simp [PyData.showableAll, h.s, t.s], by simp [PyData.hasDictAll, h.d, t.d], by simp [PyData.leavesShortAll, h.l, t.l], by have := h.b; have := t.b; simp only [PyData.bulkAll]; omega⟩
theorem Shs.tup {b : Nat} {ps : List PyData} (h : Shs b ps) : Sh b (.tuple ps) := ⟨by simpa [PyData.showable] using h.s, by simpa [PyData.hasDict] using h.d, by simpa [PyData.leavesShort] using h.l, by simpa [PyData.bulk] using h.b⟩
theorem Shs.lst {b : Nat} {ps : List PyData} (h : Shs b ps) : Sh b (.list ps) := ⟨by simpa [PyData.showable] using h.s, by simpa [PyData.hasDict] using h.d, by simpa [PyData.leavesShort] using h.l, by simpa [PyData.bulk] using h.b⟩
theorem Shs.map {α : Type} {b : Nat} {g : α → PyData} (xs : List α) (h : ∀ x ∈ xs, Sh b (g x)) : Shs (xs.length * (b + 1)) (xs.map g) := by
  induction xs with
  | nil => simpa using Shs.nil
  | cons x xs ih =>
    have := Shs.cons (h x (by simp)) (ih fun y hy => h y (by simp [hy]))
    simp only [List.length_cons, List.map_cons]
    rw [Nat.succ_mul, Nat.add_comm]
    exact this
theorem Shs.ints {is : List Int} (h : ∀ i ∈ is, i.natAbs < 10 ^ 12) : Shs is.length (is.map PyData.int) := by
  have := Shs.map (b := 0) is fun i hi => Sh.int (h i hi)
  simpa using this
theorem repr_of {n b : Nat} {M : List MO} {x d : D} {p : PyData} (h : Dt n d p) (s : Sh b p) (hx : deref M x = d) (hn : n ≤ 60) (hb : b ≤ 2 ^ 20) (hk : (∃ k, x = .ref k) ∨ (∃ ds, x = .lst ds) ∨ ∃ ds, x = .tup ds) : dRepr M x = some (.str p.shown) := by
  have e : dRepr M x = (toP (deref M x)).bind fun p => if (p.showable && !p.hasDict && decide (p.depth ≤ 60) && decide (p.shown.length ≤ sizeLine)) = true then some (.str p.shown) else none := by
    rcases hk with ⟨k, rfl⟩ | ⟨k, rfl⟩ | ⟨k, rfl⟩ <;> rfl
  rw [e, hx, h.e, Option.bind_some, if_pos]
  have h1 := h.h
  have h2 := PyData.shown_fits_bulk (B := 13) (by decide) (by decide) s.l (Nat.le_trans s.b hb)
  have h3 : p.depth ≤ 60 := by omega
  simp [s.s, s.d, h3, h2]
end Bk

set_option Elab.async false
set_option linter.all false
set_option maxRecDepth 100000
set_option maxHeartbeats 2000000
namespace Bk
open PySem PySem.Spec PyProof.Rows L2
/-! ### how the functions are worked out -/
section
variable {α β : Type}
@[simp] theorem rb_ok (a : α) (M : List MO) (f : α → List MO → R β) : (R.ok a M).bind f = f a M := Eq.trans rfl rfl
@[simp] theorem rb_ex (c : Nat) (d : D) (M : List MO) (f : α → List MO → R β) : (R.exc c d M : R α).bind f = .exc c d M := Eq.trans rfl rfl
@[simp] theorem rt_ok (Γ : Env) (a : α) (M : List MO) (f : α → List MO → RS) : (R.ok a M).thenS Γ f = f a M := Eq.trans rfl rfl
@[simp] theorem rt_ex (Γ : Env) (c : Nat) (d : D) (M : List MO) (f : α → List MO → RS) : (R.exc c d M : R α).thenS Γ f = .exc c d Γ M := Eq.trans rfl rfl
@[simp] theorem ro_ok (a : α) (M : List MO) (f : α → List MO → R β) : (R.ok a M).only f = f a M := Eq.trans rfl rfl
@[simp] theorem sn_nx (Γ : Env) (M : List MO) (f : Env → List MO → RS) : (RS.nx Γ M).next f = f Γ M := Eq.trans rfl rfl
@[simp] theorem sn_rt (d : D) (M : List MO) (f : Env → List MO → RS) : (RS.rt d M).next f = .rt d M := Eq.trans rfl rfl
@[simp] theorem sn_ct (Γ : Env) (M : List MO) (f : Env → List MO → RS) : (RS.ct Γ M).next f = .ct Γ M := Eq.trans rfl rfl
@[simp] theorem sn_bk (Γ : Env) (M : List MO) (f : Env → List MO → RS) : (RS.bk Γ M).next f = .bk Γ M := Eq.trans rfl rfl
@[simp] theorem sn_ex (c : Nat) (d : D) (Γ : Env) (M : List MO) (f : Env → List MO → RS) : (RS.exc c d Γ M).next f = .exc c d Γ M := Eq.trans rfl rfl
@[simp] theorem st_nx (Γ : Env) (M : List MO) (f : Env → List MO → RS) : (RS.nx Γ M).turn f = f Γ M := Eq.trans rfl rfl
@[simp] theorem st_ct (Γ : Env) (M : List MO) (f : Env → List MO → RS) : (RS.ct Γ M).turn f = f Γ M := Eq.trans rfl rfl
@[simp] theorem st_bk (Γ : Env) (M : List MO) (f : Env → List MO → RS) : (RS.bk Γ M).turn f = .nx Γ M := Eq.trans rfl rfl
@[simp] theorem st_rt (d : D) (M : List MO) (f : Env → List MO → RS) : (RS.rt d M).turn f = .rt d M := Eq.trans rfl rfl
@[simp] theorem st_ex (c : Nat) (d : D) (Γ : Env) (M : List MO) (f : Env → List MO → RS) : (RS.exc c d Γ M).turn f = .exc c d Γ M := Eq.trans rfl rfl
@[simp] theorem opR_some (a : α) (M : List MO) : opR (some a) M = .ok a M := Eq.trans rfl rfl
@[simp] theorem optS_some (Γ : Env) (f : Env → RS) : optS (some Γ) f = f Γ := Eq.trans rfl rfl
theorem rb_if {c : Prop} [Decidable c] (a b : R α) (f : α → List MO → R β) : (if c then a else b).bind f = if c then a.bind f else b.bind f := by split <;> rfl
theorem rt_if {c : Prop} [Decidable c] (Γ : Env) (a b : R α) (f : α → List MO → RS) : (if c then a else b).thenS Γ f = if c then a.thenS Γ f else b.thenS Γ f := by split <;> rfl
theorem sn_if {c : Prop} [Decidable c] (a b : RS) (f : Env → List MO → RS) : (if c then a else b).next f = if c then a.next f else b.next f := by split <;> rfl
theorem st_if {c : Prop} [Decidable c] (a b : RS) (f : Env → List MO → RS) : (if c then a else b).turn f = if c then a.turn f else b.turn f := by split <;> rfl
end
@[simp] theorem u_gV (i : Nat) (Γ : Env) (M : List MO) : gV i Γ M = (match Γ[i]? with
  | some (some d) => .ok d M
  | _ => .bad) := Eq.trans rfl rfl
@[simp] theorem u_gC (d : D) (Γ : Env) (M : List MO) : gC d Γ M = .ok d M := Eq.trans rfl rfl
@[simp] theorem u_gOp2 (f : List MO → D → D → Option D) (ga gb : GE) (Γ : Env) (M : List MO) : gOp2 f ga gb Γ M = (ga Γ M).bind fun x M1 => (gb Γ M1).bind fun y M2 => opR (f M2 x y) M2 := Eq.trans rfl rfl
@[simp] theorem u_gOp1 (f : List MO → D → Option D) (ga : GE) (Γ : Env) (M : List MO) : gOp1 f ga Γ M = (ga Γ M).bind fun x M1 => opR (f M1 x) M1 := Eq.trans rfl rfl
@[simp] theorem u_gNil (Γ : Env) (M : List MO) : gNil Γ M = .ok [] M := Eq.trans rfl rfl
@[simp] theorem u_gCons (ga : GE) (gr : GA) (Γ : Env) (M : List MO) : gCons ga gr Γ M = (ga Γ M).bind fun x M1 => (gr Γ M1).bind fun xs M2 => .ok (x :: xs) M2 := Eq.trans rfl rfl
@[simp] theorem u_gTup (ga : GA) (Γ : Env) (M : List MO) : gTup ga Γ M = (ga Γ M).bind fun xs M1 => if xs.length ≤ sizeLine then .ok (.tup xs) M1 else .bad := Eq.trans rfl rfl
@[simp] theorem u_gLst (ga : GA) (Γ : Env) (M : List MO) : gLst ga Γ M = (ga Γ M).bind fun xs M1 => if xs.length ≤ sizeLine then .ok (.lst xs) M1 else .bad := Eq.trans rfl rfl
@[simp] theorem u_gLstO (ga : GA) (Γ : Env) (M : List MO) : gLstO ga Γ M = (ga Γ M).bind fun xs M1 => if xs.length ≤ sizeLine then .ok (.ref M1.length) (M1 ++ [.lst xs]) else .bad := Eq.trans rfl rfl
@[simp] theorem u_gCall (f : List MO → List D → Option D) (ga : GA) (Γ : Env) (M : List MO) : gCall f ga Γ M = (ga Γ M).bind fun xs M1 => opR (f M1 xs) M1 := Eq.trans rfl rfl
@[simp] theorem u_gVal (ga : GE) (Γ : Env) (M : List MO) : gVal ga Γ M = (ga Γ M).bind fun x M1 => opR (toBl x) M1 := Eq.trans rfl rfl
@[simp] theorem u_gAndT (a b : GT) (Γ : Env) (M : List MO) : gAndT a b Γ M = (a Γ M).bind fun c M1 => if c = true then b Γ M1 else .ok false M1 := Eq.trans rfl rfl
@[simp] theorem u_gOrT (a b : GT) (Γ : Env) (M : List MO) : gOrT a b Γ M = (a Γ M).bind fun c M1 => if c = true then .ok true M1 else b Γ M1 := Eq.trans rfl rfl
@[simp] theorem u_gNotT (a : GT) (Γ : Env) (M : List MO) : gNotT a Γ M = (a Γ M).bind fun c M1 => .ok (!c) M1 := Eq.trans rfl rfl
@[simp] theorem u_gIfE (c : GT) (a b : GE) (Γ : Env) (M : List MO) : gIfE c a b Γ M = (c Γ M).bind fun k M1 => if k = true then a Γ M1 else b Γ M1 := Eq.trans rfl rfl
@[simp] theorem u_gAndV (a b : GE) (Γ : Env) (M : List MO) : gAndV a b Γ M = ((a Γ M).bind fun x M1 => match x with
  | .bl c => if c = true then b Γ M1 else .ok (.bl false) M1
  | _ => .bad) := Eq.trans rfl rfl
@[simp] theorem u_gOrV (a b : GE) (Γ : Env) (M : List MO) : gOrV a b Γ M = ((a Γ M).bind fun x M1 => match x with
  | .bl c => if c = true then .ok (.bl true) M1 else b Γ M1
  | _ => .bad) := Eq.trans rfl rfl
@[simp] theorem u_gChain (f f' : List MO → D → D → Option D) (ga gb gc : GE) (Γ : Env) (M : List MO) : gChain f f' ga gb gc Γ M = ((ga Γ M).bind fun x M1 => (gb Γ M1).bind fun y M2 => (opR (f M2 x y) M2).bind fun k M3 => match k with
  | .bl c => if c = true then (gc Γ M3).bind fun z M4 => opR (f' M4 y z) M4 else .ok (.bl false) M3
  | _ => .bad) := Eq.trans rfl rfl
@[simp] theorem u_gSeqI (ge : GE) (Γ : Env) (M : List MO) : gSeqI ge Γ M = (ge Γ M).bind fun d M1 => opR (seqD d) M1 := Eq.trans rfl rfl
@[simp] theorem u_gRng1 (ga : GA) (Γ : Env) (M : List MO) : gRng1 ga Γ M = (ga Γ M).bind fun ds M1 => opR (rng1 ds) M1 := Eq.trans rfl rfl
@[simp] theorem u_gRng2 (ga : GA) (Γ : Env) (M : List MO) : gRng2 ga Γ M = (ga Γ M).bind fun ds M1 => opR (rng2 ds) M1 := Eq.trans rfl rfl
@[simp] theorem u_gTo (i : Nat) (d : D) (Γ : Env) : gTo i d Γ = some (Γ.set i (some d)) := Eq.trans rfl rfl
@[simp] theorem u_gToT (gs : GGs) (d : D) (Γ : Env) : gToT gs d Γ = (match d with
  | .tup ds => gs ds Γ
  | _ => none) := Eq.trans rfl rfl
@[simp] theorem u_gToNil (ds : List D) (Γ : Env) : gToNil ds Γ = (match ds with
  | [] => some Γ
  | _ :: _ => none) := Eq.trans rfl rfl
@[simp] theorem u_gToCons (g : GG) (gs : GGs) (ds : List D) (Γ : Env) : gToCons g gs ds Γ = (match ds with
  | [] => none
  | d :: r => (g d Γ).bind fun Γ1 => gs r Γ1) := Eq.trans rfl rfl
@[simp] theorem u_gPass (Γ : Env) (M : List MO) : gPass Γ M = .nx Γ M := Eq.trans rfl rfl
@[simp] theorem u_gSeq (a b : GS) (Γ : Env) (M : List MO) : gSeq a b Γ M = (a Γ M).next b := Eq.trans rfl rfl
@[simp] theorem u_gExpr (ge : GE) (Γ : Env) (M : List MO) : gExpr ge Γ M = (ge Γ M).thenS Γ fun _ M1 => .nx Γ M1 := Eq.trans rfl rfl
@[simp] theorem u_gRet (ge : GE) (Γ : Env) (M : List MO) : gRet ge Γ M = (ge Γ M).thenS Γ fun d M1 => .rt d M1 := Eq.trans rfl rfl
@[simp] theorem u_gRetN (Γ : Env) (M : List MO) : gRetN Γ M = .rt .non M := Eq.trans rfl rfl
@[simp] theorem u_gIf (c : GT) (a b : GS) (Γ : Env) (M : List MO) : gIf c a b Γ M = (c Γ M).thenS Γ fun k M1 => if k = true then a Γ M1 else b Γ M1 := Eq.trans rfl rfl
@[simp] theorem u_gAsg (ge : GE) (gg : GG) (Γ : Env) (M : List MO) : gAsg ge gg Γ M = ((ge Γ M).thenS Γ fun d M1 => match gg d Γ with
  | some Γ' => .nx Γ' M1
  | none => .bad) := Eq.trans rfl rfl
@[simp] theorem u_gBad (Γ : Env) (M : List MO) : gBad Γ M = .bad := Eq.trans rfl rfl
@[simp] theorem u_gForget (is : List Nat) (Γ : Env) (M : List MO) : gForget is Γ M = .nx (forget Γ is) M := Eq.trans rfl rfl
@[simp] theorem u_gFz (i : Nat) (Γ : Env) (M : List MO) : gFz i Γ M = (match Γ[i]? with
  | some (some (.ref k)) => match M[k]? with
    | some (.lst ds) => .nx (Γ.set i (some (.lst ds))) (M.set k .dead)
    | _ => .bad
  | _ => .bad) := Eq.trans rfl rfl
@[simp] theorem u_gScope (a : GS) (Γ : Env) (M : List MO) : gScope a Γ M = gCut M.length (a Γ M) := Eq.trans rfl rfl
@[simp] theorem u_gFor (gi : GI) (gg : GG) (body : GS) (Γ : Env) (M : List MO) : gFor gi gg body Γ M = (gi Γ M).thenS Γ fun ds M1 => gForL gg body ds Γ M1 := Eq.trans rfl rfl
@[simp] theorem u_gYes (Γ : Env) (M : List MO) : gYes Γ M = .ok true M := Eq.trans rfl rfl
@[simp] theorem u_gLc (gi : GI) (gg : GG) (gt : GT) (ge : GE) (own : List Nat) (Γ : Env) (M : List MO) : gLc gi gg gt ge own Γ M = (gi Γ M).bind fun ds M1 => (gLcL gg gt ge (forget Γ own) ds [] M1).bind fun acc M2 => .ok (.lst acc) M2 := Eq.trans rfl rfl
@[simp] theorem u_gLcO (gi : GI) (gg : GG) (gt : GT) (ge : GE) (own : List Nat) (Γ : Env) (M : List MO) : gLcO gi gg gt ge own Γ M = (gi Γ M).bind fun ds M1 => (gLcL gg gt ge (forget Γ own) ds [] M1).bind fun acc M2 => .ok (.ref M2.length) (M2 ++ [.lst acc]) := Eq.trans rfl rfl
@[simp] theorem u_gNoO (Γ : Env) (M : List MO) : gNoO Γ M = .ok none M := Eq.trans rfl rfl
@[simp] theorem u_gO (ge : GE) (Γ : Env) (M : List MO) : gO ge Γ M = (ge Γ M).bind fun d M1 => opR ((toI d).map some) M1 := Eq.trans rfl rfl
@[simp] theorem u_gSl (ge : GE) (lo hi : GO) (Γ : Env) (M : List MO) : gSl ge lo hi Γ M = (ge Γ M).bind fun x M1 => (lo Γ M1).bind fun a M2 => (hi Γ M2).bind fun b M3 => opR (dCut M3 a b x) M3 := Eq.trans rfl rfl
@[simp] theorem u_gRgL (own : Bool) (ga gb : GE) (Γ : Env) (M : List MO) : gRgL own ga gb Γ M = ((ga Γ M).bind fun x M1 => (gb Γ M1).bind fun y M2 => match x, y with
  | .int i, .int j => if rngOk i j = true then (if own = true then .ok (.ref M2.length) (M2 ++ [.lst (rngL i (j - i).toNat)]) else .ok (.lst (rngL i (j - i).toNat)) M2) else .bad
  | _, _ => .bad) := Eq.trans rfl rfl
@[simp] theorem u_gMeth1 (f : MF) (go ge : GE) (Γ : Env) (M : List MO) : gMeth1 f go ge Γ M = (go Γ M).bind fun x M1 => if isListD M1 x = true then (ge Γ M1).bind fun y M2 => mutR M2 x fun ds => f M2 ds y else .bad := Eq.trans rfl rfl
@[simp] theorem u_gMeth0 (f : MF0) (go : GE) (Γ : Env) (M : List MO) : gMeth0 f go Γ M = (go Γ M).bind fun x M1 => mutR M1 x f := Eq.trans rfl rfl
@[simp] theorem u_gSetI (ge go gi : GE) (Γ : Env) (M : List MO) : gSetI ge go gi Γ M = ((ge Γ M).thenS Γ fun v M1 => (go Γ M1).thenS Γ fun o M2 => (gi Γ M2).thenS Γ fun i M3 => match setR M3 o i v with
  | some M4 => .nx Γ M4
  | none => .bad) := Eq.trans rfl rfl
@[simp] theorem u_gAug (i : Nat) (f : Int → Int → Int) (ge : GE) (Γ : Env) (M : List MO) : gAug i f ge Γ M = (match Γ[i]? with
  | some (some (.int a)) => (ge Γ M).thenS Γ fun y M1 => match y with
    | .int b => .nx (Γ.set i (some (.int (f a b)))) M1
    | _ => .bad
  | _ => .bad) := Eq.trans rfl rfl
@[simp] theorem u_gEnum (ge : GE) (Γ : Env) (M : List MO) : gEnum ge Γ M = (ge Γ M).bind fun d M1 => opR ((seqD d).map (enumL 0)) M1 := Eq.trans rfl rfl
@[simp] theorem u_gEnumK (ge : GE) (gk : GE) (Γ : Env) (M : List MO) : gEnumK ge gk Γ M = ((ge Γ M).bind fun d M1 => (gk Γ M1).bind fun k M2 => match k with
  | .int k => if decide (-(2 ^ 63) ≤ k) && decide (k < 2 ^ 63) then opR ((seqD d).map (enumL k)) M2 else .bad
  | _ => .bad) := Eq.trans rfl rfl
@[simp] theorem u_gZip (ga gb : GE) (Γ : Env) (M : List MO) : gZip ga gb Γ M = (ga Γ M).bind fun x M1 => (gb Γ M1).bind fun y M2 => opR (zipO x y) M2 := Eq.trans rfl rfl
@[simp] theorem u_gLcW (ge : GE) (gg : GG) (gt : GT) (gel : GE) (own : List Nat) (Γ : Env) (M : List MO) : gLcW ge gg gt gel own Γ M = ((ge Γ M).bind fun d M1 => match d with
  | .ref k => match M1[k]? with
    | some (.lst ds) => (gLcL gg gt gel (forget Γ own) ds [] M1).bind fun acc M2 => .ok (.lst acc) M2
    | _ => .bad
  | _ => .bad) := Eq.trans rfl rfl
@[simp] theorem u_gCallF (n : Nat) (F : List D → List MO → R D) (ga : GA) (Γ : Env) (M : List MO) : gCallF n F ga Γ M = (ga Γ M).bind fun ds M1 => if ds.length = n then callF F ds M1 else .bad := Eq.trans rfl rfl
@[simp] theorem u_gCallK (n : Nat) (F : List D → List MO → R D) (is : List Nat) (ga gk : GA) (Γ : Env) (M : List MO) : gCallK n F is ga gk Γ M = (ga Γ M).bind fun ds M1 => (gk Γ M1).bind fun es M2 => if (pick (ds ++ es) is).length = n then callF F (pick (ds ++ es) is) M2 else .bad := Eq.trans rfl rfl
@[simp] theorem u_gForL0 (gg : GG) (b : GS) (Γ : Env) (M : List MO) : gForL gg b [] Γ M = .nx Γ M := Eq.trans rfl rfl
@[simp] theorem u_gForLc (gg : GG) (b : GS) (d : D) (ds : List D) (Γ : Env) (M : List MO) : gForL gg b (d :: ds) Γ M = optS (gg d Γ) fun Γ1 => (b Γ1 M).turn (gForL gg b ds) := Eq.trans rfl rfl
@[simp] theorem u_forget0 (Γ : Env) : forget Γ [] = Γ := Eq.trans rfl rfl
@[simp] theorem u_forgetc (Γ : Env) (i : Nat) (is : List Nat) : forget Γ (i :: is) = forget (Γ.set i none) is := Eq.trans rfl rfl
@[simp] theorem u_toBl (b : Bool) : toBl (.bl b) = some b := Eq.trans rfl rfl
@[simp] theorem u_dNot (M : List MO) (b : Bool) : dNot M (.bl b) = some (.bl !b) := Eq.trans rfl rfl
@[simp] theorem u_toI (i : Int) : toI (.int i) = some i := Eq.trans rfl rfl
@[simp] theorem u_rng1 (j : Int) : rng1 [.int j] = if inR j then some (rngL 0 j.toNat) else none := Eq.trans rfl rfl
@[simp] theorem u_rng2 (i j : Int) : rng2 [.int i, .int j] = if inR i && inR j then some (rngL i (j - i).toNat) else none := Eq.trans rfl rfl
@[simp] theorem u_fn1 (f : List MO → D → Option D) (M : List MO) (d : D) : fn1 f M [d] = f M d := Eq.trans rfl rfl
@[simp] theorem u_fn2 (f : List MO → D → D → Option D) (M : List MO) (d e : D) : fn2 f M [d, e] = f M d e := Eq.trans rfl rfl
@[simp] theorem u_isListD (M : List MO) (d : D) : isListD M d = (listD M d).isSome := Eq.trans rfl rfl
@[simp] theorem u_pick0 {α : Type} (l : List α) : pick l [] = [] := Eq.trans rfl rfl
@[simp] theorem u_pickc {α : Type} (l : List α) (i : Nat) (is : List Nat) : pick l (i :: is) = (match l[i]? with
    | some a => a :: pick l is
    | none => pick l is) := Eq.trans rfl rfl
@[simp] theorem bl_non (m : Nat) : below m .non = true := Eq.trans rfl rfl
@[simp] theorem bl_bl (m : Nat) (b : Bool) : below m (.bl b) = true := Eq.trans rfl rfl
@[simp] theorem bl_int (m : Nat) (i : Int) : below m (.int i) = true := Eq.trans rfl rfl
@[simp] theorem bl_str (m : Nat) (x : Str) : below m (.str x) = true := Eq.trans rfl rfl
@[simp] theorem bl_tup (m : Nat) (ds : List D) : below m (.tup ds) = belows m ds := by simp [below]
@[simp] theorem bl_lst (m : Nat) (ds : List D) : below m (.lst ds) = belows m ds := by simp [below]
@[simp] theorem bl_ref (m k : Nat) : below m (.ref k) = decide (k < m) := by simp [below]
@[simp] theorem bls_nil (m : Nat) : belows m [] = true := Eq.trans rfl rfl
@[simp] theorem bls_cons (m : Nat) (d : D) (ds : List D) : belows m (d :: ds) = (below m d && belows m ds) := by simp [belows]
@[simp] theorem bls_app (m : Nat) (ds es : List D) : belows m (ds ++ es) = (belows m ds && belows m es) := by simp [belows_all]
@[simp] theorem blo_lst (m : Nat) (ds : List D) : belowO m (.lst ds) = belows m ds := Eq.trans rfl rfl
@[simp] theorem blo_dead (m : Nat) : belowO m .dead = true := Eq.trans rfl rfl
theorem fin_d {m : Nat} {d : D} {M : List MO} (h : m ≤ M.length) (hc : cutOk m M = true) (hr : ∀ k, d ≠ .ref k) (hd : below m d = true) : fin m (.rt d M) = .ok d (M.take m) := by
  show (if m ≤ M.length ∧ cutOk m M = true then retR m M d else .bad) = _
  rw [if_pos ⟨h, hc⟩]
  cases d with
  | ref k => exact absurd rfl (hr k)
  | _ => simp [retR, hd]
theorem fin_n {m : Nat} {Γ : Env} {M : List MO} (h : m ≤ M.length) (hc : cutOk m M = true) : fin m (.nx Γ M) = .ok .non (M.take m) := by
  show (if m ≤ M.length ∧ cutOk m M = true then R.ok D.non (M.take m) else .bad) = _
  rw [if_pos ⟨h, hc⟩]
theorem fin_new {m k : Nat} {ds : List D} {M : List MO} (h : m ≤ M.length) (hc : cutOk m M = true) (hk : m ≤ k) (e : M[k]? = some (.lst ds)) (hd : belows m ds = true) : fin m (.rt (.ref k) M) = .ok (.ref m) (M.take m ++ [.lst ds]) := by
  show (if m ≤ M.length ∧ cutOk m M = true then retR m M (.ref k) else .bad) = _
  rw [if_pos ⟨h, hc⟩]
  simp [retR, e, hd, Nat.not_lt_of_le hk]
@[simp] theorem cut_0 (M : List MO) : cutOk 0 M = true := by simp [cutOk]
@[simp] theorem cut_nil (m : Nat) : cutOk m [] = true := by simp [cutOk]
@[simp] theorem cut_s (m : Nat) (o : MO) (M : List MO) : cutOk (m + 1) (o :: M) = ((M.take m).all (belowO (m + 1)) && belowO (m + 1) o) := by simp [cutOk, Bool.and_comm]
@[simp] theorem sz_1 : 1 ≤ sizeLine := by decide
@[simp] theorem sz_2 : 2 ≤ sizeLine := by decide
@[simp] theorem sz_3 : 3 ≤ sizeLine := by decide
@[simp] theorem sz_4 : 4 ≤ sizeLine := by decide
@[simp] theorem sz_5 : 5 ≤ sizeLine := by decide
@[simp] theorem sz_6 : 6 ≤ sizeLine := by decide
@[simp] theorem sz_7 : 7 ≤ sizeLine := by decide
@[simp] theorem sz_8 : 8 ≤ sizeLine := by decide
@[simp] theorem sz_9 : 9 ≤ sizeLine := by decide
@[simp] theorem sz_10 : 10 ≤ sizeLine := by decide
@[simp] theorem sz_11 : 11 ≤ sizeLine := by decide
@[simp] theorem sz_12 : 12 ≤ sizeLine := by decide
@[simp] theorem sz_13 : 13 ≤ sizeLine := by decide
@[simp] theorem sz_14 : 14 ≤ sizeLine := by decide
@[simp] theorem sz_15 : 15 ≤ sizeLine := by decide
@[simp] theorem sz_16 : 16 ≤ sizeLine := by decide
@[simp] theorem sz_17 : 17 ≤ sizeLine := by decide
@[simp] theorem sz_18 : 18 ≤ sizeLine := by decide
@[simp] theorem sz_19 : 19 ≤ sizeLine := by decide
@[simp] theorem sz_20 : 20 ≤ sizeLine := by decide
@[simp] theorem szl_0 : 0 < sizeLine := by decide
@[simp] theorem szl_1 : 1 < sizeLine := by decide
@[simp] theorem szl_2 : 2 < sizeLine := by decide
@[simp] theorem szl_3 : 3 < sizeLine := by decide
@[simp] theorem szl_4 : 4 < sizeLine := by decide
@[simp] theorem szl_5 : 5 < sizeLine := by decide
@[simp] theorem szl_6 : 6 < sizeLine := by decide
@[simp] theorem szl_7 : 7 < sizeLine := by decide
@[simp] theorem szl_8 : 8 < sizeLine := by decide
@[simp] theorem szl_9 : 9 < sizeLine := by decide
@[simp] theorem szl_10 : 10 < sizeLine := by decide
@[simp] theorem szl_11 : 11 < sizeLine := by decide
@[simp] theorem szl_12 : 12 < sizeLine := by decide
@[simp] theorem szl_13 : 13 < sizeLine := by decide
@[simp] theorem szl_14 : 14 < sizeLine := by decide
@[simp] theorem szl_15 : 15 < sizeLine := by decide
@[simp] theorem szl_16 : 16 < sizeLine := by decide
@[simp] theorem szl_17 : 17 < sizeLine := by decide
@[simp] theorem szl_18 : 18 < sizeLine := by decide
@[simp] theorem szl_19 : 19 < sizeLine := by decide
@[simp] theorem szl_20 : 20 < sizeLine := by decide
@[simp] theorem gc_nx (m : Nat) (Γ : Env) (M : List MO) : gCut m (.nx Γ M) = if m ≤ M.length ∧ cutOk m M = true then .nx (clean m Γ) (M.take m) else .bad := Eq.trans rfl rfl
@[simp] theorem gc_ct (m : Nat) (Γ : Env) (M : List MO) : gCut m (.ct Γ M) = if m ≤ M.length ∧ cutOk m M = true then .ct (clean m Γ) (M.take m) else .bad := Eq.trans rfl rfl
@[simp] theorem gc_bk (m : Nat) (Γ : Env) (M : List MO) : gCut m (.bk Γ M) = .bk Γ M := Eq.trans rfl rfl
@[simp] theorem gc_rt (m : Nat) (d : D) (M : List MO) : gCut m (.rt d M) = .rt d M := Eq.trans rfl rfl
@[simp] theorem gc_ex (m c : Nat) (d : D) (Γ : Env) (M : List MO) : gCut m (.exc c d Γ M) = .exc c d Γ M := Eq.trans rfl rfl
@[simp] theorem fi_rt (m : Nat) (d : D) (M : List MO) : fin m (.rt d M) = if m ≤ M.length ∧ cutOk m M = true then retR m M d else .bad := Eq.trans rfl rfl
@[simp] theorem fi_nx (m : Nat) (Γ : Env) (M : List MO) : fin m (.nx Γ M) = if m ≤ M.length ∧ cutOk m M = true then R.ok D.non (M.take m) else .bad := Eq.trans rfl rfl
@[simp] theorem fi_ex (m c : Nat) (d : D) (Γ : Env) (M : List MO) : fin m (.exc c d Γ M) = if m ≤ M.length ∧ cutOk m M = true ∧ below m d = true then .exc c d (M.take m) else .bad := Eq.trans rfl rfl
@[simp] theorem re_non (m : Nat) (M : List MO) : retR m M .non = .ok .non (M.take m) := Eq.trans rfl rfl
@[simp] theorem re_bl (m : Nat) (M : List MO) (b : Bool) : retR m M (.bl b) = .ok (.bl b) (M.take m) := Eq.trans rfl rfl
@[simp] theorem re_int (m : Nat) (M : List MO) (i : Int) : retR m M (.int i) = .ok (.int i) (M.take m) := Eq.trans rfl rfl
@[simp] theorem re_str (m : Nat) (M : List MO) (x : Str) : retR m M (.str x) = .ok (.str x) (M.take m) := Eq.trans rfl rfl
@[simp] theorem re_tup (m : Nat) (M : List MO) (ds : List D) : retR m M (.tup ds) = if belows m ds = true then .ok (.tup ds) (M.take m) else .bad := by simp [retR]
@[simp] theorem re_lst (m : Nat) (M : List MO) (ds : List D) : retR m M (.lst ds) = if belows m ds = true then .ok (.lst ds) (M.take m) else .bad := by simp [retR]
@[simp] theorem re_ref (m : Nat) (M : List MO) (k : Nat) : retR m M (.ref k) = if k < m then .ok (.ref k) (M.take m) else match M[k]? with
    | some (.lst ds) => if belows m ds = true then .ok (.ref m) (M.take m ++ [.lst ds]) else .bad
    | _ => .bad := Eq.trans rfl rfl
@[simp] theorem seqD_l (ds : List D) : seqD (.lst ds) = some ds := Eq.trans rfl rfl
@[simp] theorem seqD_t (ds : List D) : seqD (.tup ds) = some ds := Eq.trans rfl rfl
@[simp] theorem listD_l (M : List MO) (ds : List D) : listD M (.lst ds) = some ds := Eq.trans rfl rfl
theorem listD_r {M : List MO} {k : Nat} {ds : List D} (h : M[k]? = some (.lst ds)) : listD M (.ref k) = some ds := by simp [listD, h]
@[simp] theorem itemsD_l (M : List MO) (ds : List D) : itemsD M (.lst ds) = some ds := Eq.trans rfl rfl
@[simp] theorem itemsD_t (M : List MO) (ds : List D) : itemsD M (.tup ds) = some ds := Eq.trans rfl rfl
@[simp] theorem itemsD_r (M : List MO) (k : Nat) : itemsD M (.ref k) = listD M (.ref k) := Eq.trans rfl rfl
@[simp] theorem e_add (M : List MO) (i j : Int) : dAdd M (.int i) (.int j) = some (.int (i + j)) := Eq.trans rfl rfl
@[simp] theorem e_addL (M : List MO) (a b : List D) : dAdd M (.lst a) (.lst b) = if a.length + b.length ≤ sizeLine then some (.lst (a ++ b)) else none := Eq.trans rfl rfl
@[simp] theorem e_addT (M : List MO) (a b : List D) : dAdd M (.tup a) (.tup b) = if a.length + b.length ≤ sizeLine then some (.tup (a ++ b)) else none := Eq.trans rfl rfl
@[simp] theorem e_sub (M : List MO) (i j : Int) : dSub M (.int i) (.int j) = some (.int (i - j)) := Eq.trans rfl rfl
theorem e_mul {i j : Int} (M : List MO) (h : mulOk i j = true) : dMulA M (.int i) (.int j) = some (.int (i * j)) := by
  show (if mulOk i j = true then some (D.int (i * j)) else none) = _
  rw [if_pos h]
@[simp] theorem e_mulR (M : List MO) (i : Int) : dMulA M (.int i) (.int 0) = some (.int 0) := by
  rw [e_mul M (by simp [mulOk])]
  simp
@[simp] theorem e_fdiv (M : List MO) (i j : Int) : dFdiv M (.int i) (.int j) = if fdivOk i j = true then some (.int (i / j)) else none := Eq.trans rfl rfl
@[simp] theorem e_mod (M : List MO) (i j : Int) : dMod M (.int i) (.int j) = if 0 < j then some (.int (i % j)) else none := by
  show (if modOk i j = true then _ else _) = _
  simp [modOk]
@[simp] theorem e_pow (M : List MO) (i j : Int) : dPow M (.int i) (.int j) = if powOk i j = true then some (.int (i ^ j.toNat)) else none := Eq.trans rfl rfl
@[simp] theorem e_lt (M : List MO) (i j : Int) : dLt M (.int i) (.int j) = some (.bl (decide (i < j))) := Eq.trans rfl rfl
@[simp] theorem e_le (M : List MO) (i j : Int) : dLe M (.int i) (.int j) = some (.bl (decide (i ≤ j))) := Eq.trans rfl rfl
@[simp] theorem e_gt (M : List MO) (i j : Int) : dGt M (.int i) (.int j) = some (.bl (decide (j < i))) := Eq.trans rfl rfl
@[simp] theorem e_ge (M : List MO) (i j : Int) : dGe M (.int i) (.int j) = some (.bl (decide (j ≤ i))) := Eq.trans rfl rfl
@[simp] theorem e_neg (M : List MO) (i : Int) : dNeg M (.int i) = some (.int (-i)) := Eq.trans rfl rfl
@[simp] theorem e_is0 (M : List MO) : dIsN M .non .non = some (.bl true) := Eq.trans rfl rfl
@[simp] theorem e_is1 (M : List MO) (i : Int) : dIsN M (.int i) .non = some (.bl false) := Eq.trans rfl rfl
@[simp] theorem e_is2 (M : List MO) (i : List D) : dIsN M (.tup i) .non = some (.bl false) := Eq.trans rfl rfl
@[simp] theorem e_is3 (M : List MO) (i : List D) : dIsN M (.lst i) .non = some (.bl false) := Eq.trans rfl rfl
@[simp] theorem e_is4 (M : List MO) (i : Str) : dIsN M (.str i) .non = some (.bl false) := Eq.trans rfl rfl
@[simp] theorem e_is5 (M : List MO) (i : Nat) : dIsN M (.ref i) .non = some (.bl false) := Eq.trans rfl rfl
@[simp] theorem e_ns0 (M : List MO) : dNotN M .non .non = some (.bl false) := Eq.trans rfl rfl
@[simp] theorem e_ns1 (M : List MO) (i : Int) : dNotN M (.int i) .non = some (.bl true) := Eq.trans rfl rfl
@[simp] theorem e_ns2 (M : List MO) (i : List D) : dNotN M (.tup i) .non = some (.bl true) := Eq.trans rfl rfl
@[simp] theorem e_ns3 (M : List MO) (i : List D) : dNotN M (.lst i) .non = some (.bl true) := Eq.trans rfl rfl
@[simp] theorem e_ns4 (M : List MO) (i : Str) : dNotN M (.str i) .non = some (.bl true) := Eq.trans rfl rfl
@[simp] theorem e_ns5 (M : List MO) (i : Nat) : dNotN M (.ref i) .non = some (.bl true) := Eq.trans rfl rfl
@[simp] theorem e_ix (M : List MO) (x : D) (i : Int) : dIx M x (.int i) = (itemsD M x).bind fun ds => atI ds i := Eq.trans rfl rfl
theorem atI_nat (ds : List D) (n : Nat) : atI ds (n : Int) = ds[n]? := by
  unfold atI ixN
  by_cases h : n < ds.length
  · simp [h]
  · simp [h]
@[simp] theorem atI_0 (a : D) (ds : List D) : atI (a :: ds) 0 = some a := (atI_nat _ 0).trans rfl
@[simp] theorem atI_1 (a b : D) (ds : List D) : atI (a :: b :: ds) 1 = some b := (atI_nat _ 1).trans rfl
@[simp] theorem atI_2 (a b c : D) (ds : List D) : atI (a :: b :: c :: ds) 2 = some c := (atI_nat _ 2).trans rfl
@[simp] theorem atI_3 (a b c d : D) (ds : List D) : atI (a :: b :: c :: d :: ds) 3 = some d := (atI_nat _ 3).trans rfl
@[simp] theorem atI_4 (a b c d e : D) (ds : List D) : atI (a :: b :: c :: d :: e :: ds) 4 = some e := (atI_nat _ 4).trans rfl
@[simp] theorem atI_5 (a b c d e f : D) (ds : List D) : atI (a :: b :: c :: d :: e :: f :: ds) 5 = some f := (atI_nat _ 5).trans rfl
@[simp] theorem e_lenL (M : List MO) (ds : List D) : dLen M (.lst ds) = some (.int ds.length) := Eq.trans rfl rfl
@[simp] theorem e_lenT (M : List MO) (ds : List D) : dLen M (.tup ds) = some (.int ds.length) := Eq.trans rfl rfl
@[simp] theorem e_lenR (M : List MO) (k : Nat) : dLen M (.ref k) = (listD M (.ref k)).map fun ds => .int ds.length := Eq.trans rfl rfl
@[simp] theorem e_lenS (M : List MO) (x : Str) : dLen M (.str x) = if x.length ≤ sizeLine then some (.int x.length) else none := Eq.trans rfl rfl
@[simp] theorem e_intI (M : List MO) (i : Int) : dInt M (.int i) = some (.int i) := Eq.trans rfl rfl
@[simp] theorem e_intB (M : List MO) (b : Bool) : dInt M (.bl b) = some (.int (if b then 1 else 0)) := Eq.trans rfl rfl
@[simp] theorem e_str (M : List MO) (i : Int) : dStr M (.int i) = if i.natAbs.log2 < 1920 then some (.str (toString i)) else none := Eq.trans rfl rfl
@[simp] theorem e_min2 (M : List MO) (i j : Int) : dMin2 M (.int i) (.int j) = some (.int (if j < i then j else i)) := Eq.trans rfl rfl
@[simp] theorem e_max2 (M : List MO) (i j : Int) : dMax2 M (.int i) (.int j) = some (.int (if i < j then j else i)) := Eq.trans rfl rfl
@[simp] theorem e_isi_ii (M : List MO) (i : Int) : dIsi "int" M (.int i) = some (.bl true) := Eq.trans rfl rfl
@[simp] theorem e_isi_ib (M : List MO) (i : Int) : dIsi "bool" M (.int i) = some (.bl false) := Eq.trans rfl rfl
@[simp] theorem e_isi_ll (M : List MO) (ds : List D) : dIsi "list" M (.lst ds) = some (.bl true) := Eq.trans rfl rfl
@[simp] theorem e_isi_tt (M : List MO) (ds : List D) : dIsi "tuple" M (.tup ds) = some (.bl true) := Eq.trans rfl rfl
@[simp] theorem e_isi_ss (M : List MO) (ds : Str) : dIsi "str" M (.str ds) = some (.bl true) := Eq.trans rfl rfl
@[simp] theorem e_isi_is (M : List MO) (i : Int) : dIsi "str" M (.int i) = some (.bl false) := Eq.trans rfl rfl
@[simp] theorem e_isiT_l (M : List MO) (ds : List D) : dIsiT ["list", "tuple"] M (.lst ds) = some (.bl true) := Eq.trans rfl rfl
@[simp] theorem e_isiT_t (M : List MO) (ds : List D) : dIsiT ["list", "tuple"] M (.tup ds) = some (.bl true) := Eq.trans rfl rfl
theorem e_isi_lr {M : List MO} {k : Nat} {ds : List D} (h : M[k]? = some (.lst ds)) : dIsi "list" M (.ref k) = some (.bl true) := by
  simp only [dIsi, tyName, h]
  rfl
theorem toVs_ints (is : List Int) : toVs (is.map D.int) = some (is.map V.int) := by
  induction is with
  | nil => rfl
  | cons i is ih => simp [toVs, toV, ih]
theorem inV_ints (i : Int) (is : List Int) : inV (V.int i) (is.map V.int) = decide (i ∈ is) := by
  induction is with
  | nil => rfl
  | cons j is ih =>
    have e : eqV (V.int j) (V.int i) = decide (j = i) := Eq.trans rfl rfl
    rw [List.map_cons]
    unfold inV at ih ⊢
    rw [List.any_cons, ih, e]
    by_cases h : j = i
    · subst h
      simp
    · have h' : ¬ i = j := fun e => h e.symm
      simp [h, h']
@[simp] theorem e_inL (M : List MO) (i : Int) (is : List Int) : dIn M (.int i) (.lst (is.map D.int)) = some (.bl (decide (i ∈ is))) := by
  simp [dIn, inP, toV, toVs_ints, inV_ints]
@[simp] theorem e_inT (M : List MO) (i : Int) (is : List Int) : dIn M (.int i) (.tup (is.map D.int)) = some (.bl (decide (i ∈ is))) := by
  simp [dIn, inP, toV, toVs_ints, inV_ints]
@[simp] theorem e_niL (M : List MO) (i : Int) (is : List Int) : dNotIn M (.int i) (.lst (is.map D.int)) = some (.bl (!decide (i ∈ is))) := by
  simp [dNotIn, inP, toV, toVs_ints, inV_ints]
@[simp] theorem e_niT (M : List MO) (i : Int) (is : List Int) : dNotIn M (.int i) (.tup (is.map D.int)) = some (.bl (!decide (i ∈ is))) := by
  simp [dNotIn, inP, toV, toVs_ints, inV_ints]
end Bk
namespace Bk
open PySem PySem.Spec PyProof.Rows L2
theorem mulOk_l {i : Int} (j : Int) (h1 : -(2 ^ 64) < i) (h2 : i < 2 ^ 64) : mulOk i j = true := by
  simp only [mulOk, Bool.or_eq_true, Bool.and_eq_true, decide_eq_true_eq]
  omega
theorem mulOk_r (i : Int) {j : Int} (h1 : -(2 ^ 64) < j) (h2 : j < 2 ^ 64) : mulOk i j = true := by
  simp only [mulOk, Bool.or_eq_true, Bool.and_eq_true, decide_eq_true_eq]
  omega
theorem mulOk_m (x y : Int) {n : Int} (h0 : 0 < n) (h : n ≤ 2 ^ 63) : mulOk (x % n) y = true := by
  have a := Int.emod_nonneg x (by omega : n ≠ 0)
  have b := Int.emod_lt_of_pos x h0
  exact mulOk_l y (by omega) (by omega)
theorem mulOk_m1 (x y : Int) {n : Int} (h0 : 0 < n) (h : n ≤ 2 ^ 63) : mulOk (x % n + 1) y = true := by
  have a := Int.emod_nonneg x (by omega : n ≠ 0)
  have b := Int.emod_lt_of_pos x h0
  exact mulOk_l y (by omega) (by omega)
end Bk

set_option Elab.async false
set_option linter.all false
set_option maxRecDepth 100000
set_option maxHeartbeats 2000000
namespace Bk
open PySem PySem.Spec PyProof.Rows L2
/-! ### calls that lend nothing -/
theorem lendK_nil : ∀ {ds : List D}, belows 0 ds = true → lendK ds = []
  | [], _ => rfl
  | d :: ds, h => by
    simp only [belows, Bool.and_eq_true] at h
    cases d with
    | ref k => simp [below] at h
    | _ =>
      have ih := lendK_nil h.2
      simpa [lendK] using ih
theorem lendA_nil : ∀ {m : Nat} {ds : List D}, belows 0 ds = true → lendA m ds = ds
  | _, [], _ => rfl
  | m, d :: ds, h => by
    simp only [belows, Bool.and_eq_true] at h
    cases d with
    | ref k => simp [below] at h
    | _ => simp [lendA, lendA_nil h.2]
theorem flatArgs_of : ∀ {ds : List D}, belows 0 ds = true → flatArgs ds = true
  | [], _ => rfl
  | d :: ds, h => by
    simp only [belows, Bool.and_eq_true] at h
    cases d with
    | ref k => simp [below] at h
    | _ => simp [flatArgs, flatArgs_of h.2, h.1]
theorem backD_flat {n : Nat} {d : D} (h : below 0 d = true) : backD [] n d = some d := by
  cases d with
  | ref k => simp [below] at h
  | _ => simp [backD, h]
theorem c_flat {F : List D → List MO → R D} {ds : List D} {d : D} (h : F ds [] = .ok d []) (M : List MO) (ha : belows 0 ds = true) (hd : below 0 d = true) : callF F ds M = .ok d M := by
  simp [callF, lendK_nil ha, getAll, flatArgs_of ha, lentOk, lendA_nil ha, h, backD_flat hd, setAll]
theorem c_flatO {F : List D → List MO → R D} {ds es : List D} (h : F ds [] = .ok (.ref 0) [.lst es]) (M : List MO) (ha : belows 0 ds = true) (hd : belows 0 es = true) : callF F ds M = .ok (.ref M.length) (M ++ [.lst es]) := by
  simp [callF, lendK_nil ha, getAll, flatArgs_of ha, lentOk, lendA_nil ha, h, backD, setAll, belowO, hd]
/-- a call that raises -/
theorem c_flatX {F : List D → List MO → R D} {ds : List D} {d : D} {c : Nat} (h : F ds [] = .exc c d []) (M : List MO) (ha : belows 0 ds = true) (hd : below 0 d = true) : callF F ds M = .exc c d M := by
  simp [callF, lendK_nil ha, getAll, flatArgs_of ha, lentOk, lendA_nil ha, h, hd, setAll]
/-! ### numbers in a row -/
def intR (lo : Int) : Nat → List Int
  | 0 => []
  | n + 1 => lo :: intR (lo + 1) n
theorem rngL_int : ∀ (n : Nat) (lo : Int), rngL lo n = (intR lo n).map D.int
  | 0, _ => rfl
  | n + 1, lo => by simp [rngL, intR, rngL_int n]
@[simp] theorem intR_length : ∀ (n : Nat) (lo : Int), (intR lo n).length = n
  | 0, _ => rfl
  | n + 1, lo => by simp [intR, intR_length n]
theorem mem_intR : ∀ {n : Nat} {lo i : Int}, i ∈ intR lo n ↔ lo ≤ i ∧ i < lo + n
  | 0, lo, i => by simp [intR]; try omega
  | n + 1, lo, i => by
    simp only [intR, List.mem_cons, mem_intR]
    omega
theorem intR_nodup : ∀ (n : Nat) (lo : Int), (intR lo n).Nodup
  | 0, _ => .nil
  | n + 1, lo => by
    simp only [intR, List.nodup_cons, mem_intR]
    exact ⟨by omega, intR_nodup n _⟩
theorem intR_get : ∀ {n : Nat} {lo : Int} {k : Nat}, k < n → (intR lo n)[k]? = some (lo + k)
  | n + 1, lo, 0, _ => by simp [intR]
  | n + 1, lo, k + 1, h => by
    simp only [intR, List.getElem?_cons_succ]
    rw [intR_get (by omega)]
    congr 1
    push_cast
    omega
theorem intR_succ : ∀ (n : Nat) (lo : Int), intR lo (n + 1) = intR lo n ++ [lo + n]
  | 0, lo => by simp [intR]
  | n + 1, lo => by
    rw [intR, intR_succ n (lo + 1), intR]
    simp only [List.cons_append]
    congr 3
    push_cast
    omega
/-! ### lists made by comprehensions -/
theorem lcL_map {gg : GG} {ge : GE} {Γ : Env} {M : List MO} {f : D → D} : ∀ (ds acc : List D), acc.length + ds.length ≤ sizeLine → (∀ d ∈ ds, ∃ Γ1, gg d Γ = some Γ1 ∧ ge Γ1 M = .ok (f d) M) → gLcL gg gYes ge Γ ds acc M = .ok (acc ++ ds.map f) M
  | [], acc, _, _ => by simp [gLcL]
  | d :: ds, acc, h, hf => by
    obtain ⟨Γ1, h1, h2⟩ := hf d (by simp)
    simp only [List.length_cons] at h
    have ih := lcL_map (gg := gg) (ge := ge) (Γ := Γ) (M := M) (f := f) ds (acc ++ [f d]) (by simp; omega) fun e he => hf e (by simp [he])
    have q : acc.length < sizeLine := by omega
    simp [gLcL, h1, h2, q, ih]
theorem lcL_filter {gg : GG} {gt : GT} {ge : GE} {Γ : Env} {M : List MO} {f : D → D} {c : D → Bool} : ∀ (ds acc : List D), acc.length + ds.length ≤ sizeLine → (∀ d ∈ ds, ∃ Γ1, gg d Γ = some Γ1 ∧ gt Γ1 M = .ok (c d) M ∧ (c d = true → ge Γ1 M = .ok (f d) M)) → gLcL gg gt ge Γ ds acc M = .ok (acc ++ (ds.filter c).map f) M
  | [], acc, _, _ => by simp [gLcL]
  | d :: ds, acc, h, hf => by
    obtain ⟨Γ1, h1, h2, h3⟩ := hf d (by simp)
    simp only [List.length_cons] at h
    have q : acc.length < sizeLine := by omega
    cases e : c d with
    | true =>
      have ih := lcL_filter (gg := gg) (gt := gt) (ge := ge) (Γ := Γ) (M := M) (f := f) (c := c) ds (acc ++ [f d]) (by simp; omega) fun e he => hf e (by simp [he])
      simp [gLcL, h1, h2, e, h3 e, q, ih]
    | false =>
      have ih := lcL_filter (gg := gg) (gt := gt) (ge := ge) (Γ := Γ) (M := M) (f := f) (c := c) ds acc (by omega) fun e he => hf e (by simp [he])
      simp [gLcL, h1, h2, e, ih]
/-! ### walks -/
theorem forL_cons {gg : GG} {b : GS} {d : D} {ds : List D} {Γ Γ1 Γ2 : Env} {M M2 : List MO} (h1 : gg d Γ = some Γ1) (h2 : b Γ1 M = .nx Γ2 M2) : gForL gg b (d :: ds) Γ M = gForL gg b ds Γ2 M2 := by simp [h1, h2]
theorem while_go {gt : GT} {b : GS} {n : Nat} {Γ Γ2 : Env} {M M1 M2 : List MO} (h1 : gt Γ M = .ok true M1) (h2 : b Γ M1 = .nx Γ2 M2) : gWhile gt b (n + 1) Γ M = gWhile gt b n Γ2 M2 := by simp [gWhile, h1, h2]
theorem while_end {gt : GT} {b : GS} {n : Nat} {Γ : Env} {M M1 : List MO} (h1 : gt Γ M = .ok false M1) : gWhile gt b (n + 1) Γ M = .nx Γ M1 := by simp [gWhile, h1]
theorem inR_of {i : Int} (h1 : -(2 ^ 62) ≤ i) (h2 : i < 2 ^ 62) : inR i = true := by simp [inR]; omega
theorem atI_pos {α : Type} {ds : List α} {i : Int} (h0 : 0 ≤ i) (h1 : i < ds.length) : atI ds i = ds[i.toNat]? := by
  have l : i.toNat < ds.length := by omega
  simp [atI, ixN, h0, h1]
theorem atI_lt {ds : List D} {i : Int} (h0 : 0 ≤ i) (h1 : i < ds.length) : ∃ d, atI ds i = some d ∧ ds[i.toNat]? = some d := by
  have l : i.toNat < ds.length := by omega
  exact ⟨ds[i.toNat], by rw [atI_pos h0 h1]; exact List.getElem?_eq_getElem l, List.getElem?_eq_getElem l⟩
theorem atI_ints {is : List Int} {i : Int} (h0 : 0 ≤ i) (h1 : i < is.length) : ∃ j, is[i.toNat]? = some j ∧ atI (is.map D.int) i = some (.int j) := by
  have l : i.toNat < is.length := by omega
  refine ⟨is[i.toNat], List.getElem?_eq_getElem l, ?_⟩
  rw [atI_pos h0 (by simpa using h1)]
  simp [l]
theorem ixN_lt {n : Nat} {i : Int} (h0 : 0 ≤ i) (h1 : i < n) : ixN n i = some i.toNat := by simp [ixN, h0, h1]
theorem popAt_run {M : List MO} {ds : List D} {i : Int} {d : D} (h0 : 0 ≤ i) (h1 : i < ds.length) (h : ds[i.toNat]? = some d) (h2 : i < 2 ^ 62) : mPopAt M ds (.int i) = some (ds.eraseIdx i.toNat, d) := by
  have a : -(2 ^ 63) ≤ i := by omega
  have b : i < 2 ^ 63 := by omega
  simp only [mPopAt, ixN_lt h0 h1, h]
  simp [a, b]
  omega
@[simp] theorem append_run (M : List MO) (ds : List D) (y : D) : mAppend M ds y = if ds.length < sizeLine then some (ds ++ [y], .non) else none := rfl
theorem cutD_upto {ds : List D} {n : Nat} : cutD ds none (some (n : Int)) = ds.take n := by
  unfold cutD
  rw [HT.sIx_none, HT.sIx_nat]
  simp
end Bk
namespace Bk
theorem erase_perm {α : Type} : ∀ (l : List α) (i : Nat) (h : i < l.length), (l[i] :: l.eraseIdx i).Perm l
  | [], _, h => by simp at h
  | a :: l, 0, _ => by simp
  | a :: l, i + 1, h => by
    simp only [List.getElem_cons_succ, List.eraseIdx_cons_succ]
    exact (List.Perm.swap _ _ _).trans (List.Perm.cons _ (erase_perm l i (by simpa using h)))
theorem map_erase {α β : Type} (f : α → β) : ∀ (l : List α) (i : Nat), (l.map f).eraseIdx i = (l.eraseIdx i).map f
  | [], _ => rfl
  | a :: l, 0 => rfl
  | a :: l, i + 1 => by simp [map_erase f l i]
end Bk

set_option Elab.async false
set_option linter.all false
set_option maxRecDepth 100000
set_option maxHeartbeats 2000000
namespace Bk
open PySem PySem.Spec PyProof.Rows L2
/-! ### zip of two lists or tuples of any kind -/
def Izz (K : PySem.W.Frag) (S1 S2 : Src) : It :=
  ⟨fun n H => ∃ (xs ys : List V) (x y : V), S1.here K H xs ∧ S2.here K H ys ∧ xs[n]? = some x ∧ ys[n]? = some y, fun n H v H' => ∃ T x y, v = .ref T ∧ H T = none ∧ H' = upd H T (.tup [x, y]) ∧ (∀ xs, S1.here K H xs → xs[n]? = some x) ∧ ∀ ys, S2.here K H ys → ys[n]? = some y, fun n H => ∃ xs ys : List V, S1.here K H xs ∧ S2.here K H ys ∧ min xs.length ys.length = n⟩
theorem turn_zz {P : Program} {w : World} {K : PySem.W.Frag} {elts : List Expr} {kk : Nat} {tpos : Pos} (S1 S2 : Src) (N : Nat) (lt1 : S1.addr < N) (lt2 : S2.addr < N) :
    Turn P w K (.Tuple elts kk tpos) (Izz K S1 S2) [N + 4, N + 2, N + 3, N, N + 1] (N + 4) (fun n h => IsZip h (N + 4) (N + 2) (N + 3) .none ∧ IsTupOf2 h (N + 2) (.ref N) (.ref (N + 1)) ∧ (∃ a1 a2, IsTupOf2 h (N + 3) a1 a2) ∧ S1.it h N n ∧ S2.it h (N + 1) n) where
  mem := List.mem_cons_self
  obj := fun n h st b hb => by
    obtain ⟨hz, hTI, ⟨x, y, hTO⟩, h1, h2⟩ := st
    have e' : b = N + 4 ∨ b = N + 2 ∨ b = N + 3 ∨ b = N ∨ b = N + 1 := by simpa using hb
    rcases e' with q | q | q | q | q
    · rw [q]; exact ⟨_, hz, fun v q => nomatch q⟩
    · rw [q]; exact ⟨_, hTI, fun v q => nomatch q⟩
    · rw [q]; exact ⟨_, hTO, fun v q => nomatch q⟩
    · rw [q]; exact Src.it_obj h1
    · rw [q]; exact Src.it_obj h2
  keep := fun n h h' st k => by
    obtain ⟨hz, hTI, ⟨x, y, hTO⟩, h1, h2⟩ := st
    exact ⟨k _ (by simp) _ hz, k _ (by simp) _ hTI, ⟨x, y, k _ (by simp) _ hTO⟩, Src.it_at h1 fun o q => k _ (by simp) o q, Src.it_at h2 fun o q => k _ (by simp) o q⟩
  item := by
    intro X hP hw hK hc n pins s σ H E I hf st hg
    subst hP hw hK
    obtain ⟨xs, ys, x, y, hqx, hqy, hx, hy⟩ := hg
    obtain ⟨hz, hTI, hTO, h1, h2⟩ := st
    obtain ⟨its1, rv1, har1⟩ := Src.inv I hqx
    obtain ⟨its2, rv2, har2⟩ := Src.inv I hqy
    obtain ⟨u1, hu1, ru1⟩ := rv1.get hx
    obtain ⟨u2, hu2, ru2⟩ := rv2.get hy
    have hh : X.A.in1.handled = none := I.ok.hd hc
    have Wk := WalksT.zipD2 (prog := X.prog) (w := X.w) (A := X.A) (zip_sep2 (N := N) (fp1 := [S1.addr]) (fp2 := [S2.addr]) (fun b hb => by rw [List.mem_singleton.mp hb]; exact lt1) (fun b hb => by rw [List.mem_singleton.mp hb]; exact lt2))
      (Src.draws hh S1 N (Nat.ne_of_lt lt1) its1.toArray) (Src.draws hh S2 (N + 1) (by have q : S2.addr ≠ N + 1 := Nat.ne_of_lt (Nat.lt_succ_of_lt lt2); exact q) its2.toArray)
    have ln1 : n < its1.toArray.size := by
      have := (List.getElem?_eq_some_iff.mp hu1).1
      simpa using this
    have ln2 : n < its2.toArray.size := by
      have := (List.getElem?_eq_some_iff.mp hu2).1
      simpa using this
    refine Wk.item n s _ E (by omega) ⟨hz, hTI, hTO, ⟨h1, har1⟩, ⟨h2, har2⟩⟩ fun T vals h' tk hP hT hTup hMid hk => ⟨_, rfl, Wk.go elts kk tpos n T _ _ _ hMid fun h2' hSt hk2 => ?_⟩
    obtain ⟨x1, x2, p1, p2, hvals⟩ := hP
    subst hvals
    have ex1 : x1 = u1 := by
      have q : its1.toArray[n]? = some u1 := by simpa using hu1
      rw [p1] at q
      exact Option.some.inj q
    have ex2 : x2 = u2 := by
      have q : its2.toArray[n]? = some u2 := by simpa using hu2
      rw [p2] at q
      exact Option.some.inj q
    subst ex1 ex2
    have out := Wk.apart n T _ hMid
    have tup2 : h2'.IsTuple T #[x1, x2] := hTup.at fun o q => hk2 T o out q
    have new : ObjOk X.prog X.w (upd H T (.tup [x, y])) h2' T (.tup [x, y]) :=
      ⟨by show 2 ≤ sizeLine; decide, [x1, x2], .cons ru1 (.cons ru2 .nil), tup2⟩
    have sub : ∀ c, c ∉ [N + 4, N + 2, N + 3, N, N + 1] → c ∉ [N + 4, N + 3, N, N + 1] := fun c hc q => hc (by
      have e' : c = N + 4 ∨ c = N + 3 ∨ c = N ∨ c = N + 1 := by simpa using q
      rcases e' with z | z | z | z <;> simp [z])
    have J := I.turnedNew (t' := tk) (ch := [N + 4, N + 2, N + 3, N, N + 1]) (fun b ob hb q => hk2 b ob (sub b hb) (hk b ob (sub b hb) q)) hf hT new
    refine ⟨.ref T, _, J, rfl, ⟨T, x, y, rfl, I.hok.fresh hT, rfl, fun ys' hy' => by rw [Src.inj I hy' hqx]; exact hx, fun ys' hy' => by rw [Src.inj I hy' hqy]; exact hy⟩, ?_, fun b hb => ?_⟩
    · obtain ⟨g1, g2, g3, ⟨g4, _⟩, ⟨g5, _⟩⟩ := hSt
      exact ⟨g1, g2, g3, g4, g5⟩
    · have hb' : b < s.heap.objs.size := by
        have e' : b = N + 4 ∨ b = N + 2 ∨ b = N + 3 ∨ b = N ∨ b = N + 1 := by simpa using hb
        rcases e' with q | q | q | q | q
        · rw [q]; exact Heap.lt_size hz
        · rw [q]; exact Heap.lt_size hTI
        · rw [q]; obtain ⟨_, _, q'⟩ := hTO; exact Heap.lt_size q'
        · rw [q]; obtain ⟨_, q', _⟩ := Src.it_obj h1; exact Heap.lt_size q'
        · rw [q]; obtain ⟨_, q', _⟩ := Src.it_obj h2; exact Heap.lt_size q'
      rw [upd_ne (Nat.ne_of_lt (Nat.lt_of_lt_of_le hb' hT))]
      exact (hf b hb).1
  done := by
    intro X hP hw hK hc n pins s σ H E I hf st hg
    subst hP hw hK
    obtain ⟨xs, ys, hqx, hqy, hl⟩ := hg
    obtain ⟨hz, hTI, hTO, h1, h2⟩ := st
    obtain ⟨its1, rv1, har1⟩ := Src.inv I hqx
    obtain ⟨its2, rv2, har2⟩ := Src.inv I hqy
    have hh : X.A.in1.handled = none := I.ok.hd hc
    have Wk := WalksT.zipD2 (prog := X.prog) (w := X.w) (A := X.A) (zip_sep2 (N := N) (fp1 := [S1.addr]) (fp2 := [S2.addr]) (fun b hb => by rw [List.mem_singleton.mp hb]; exact lt1) (fun b hb => by rw [List.mem_singleton.mp hb]; exact lt2))
      (Src.draws hh S1 N (Nat.ne_of_lt lt1) its1.toArray) (Src.draws hh S2 (N + 1) (by have q : S2.addr ≠ N + 1 := Nat.ne_of_lt (Nat.lt_succ_of_lt lt2); exact q) its2.toArray)
    have en : min its1.toArray.size its2.toArray.size = n := by rw [List.size_toArray, List.size_toArray, ← rv1.length, ← rv2.length]; exact hl
    rw [en] at Wk
    have sub : ∀ c, c ∉ [N + 4, N + 2, N + 3, N, N + 1] → c ∉ [N + 4, N + 3, N, N + 1] := fun c hc q => hc (by
      have e' : c = N + 4 ∨ c = N + 3 ∨ c = N ∨ c = N + 1 := by simpa using q
      rcases e' with z | z | z | z <;> simp [z])
    exact Wk.done s _ E ⟨hz, hTI, hTO, ⟨h1, har1⟩, ⟨h2, har2⟩⟩ fun h' tk hk => ⟨rfl, I.turnedL (t' := tk) (ch := [N + 4, N + 2, N + 3, N, N + 1]) (fun b ob hb q => hk b ob (sub b hb) q) hf⟩
  self := fun A n s Q E st h => wpAny_pyIter_zip st.1 h
theorem itr_zz {K : PySem.W.Frag} {Z : Hp} {ι : Nat → Addr} {n : Nat} {S1 S2 : Src} {xs ys : List V} {ds es : List D} (s1 : S1.here K Z xs) (s2 : S2.here K Z ys) (r1 : Rps K Z ι n ds xs) (r2 : Rps K Z ι n es ys) : ItR K (Izz K S1 S2) (zipL ds es) Z ι n := by
  intro i H' Z' ι' M' hz hi hn hr _
  have sH : S1.here K H' xs := here_sub (fun a o h => hr.sub _ _ (hz _ _ h)) s1
  have sK : S2.here K H' ys := here_sub (fun a o h => hr.sub _ _ (hz _ _ h)) s2
  refine ⟨fun hl => ⟨xs, ys, sH, sK, by rw [← r1.length, ← r2.length, ← zipL_len]; exact hl⟩, fun d hd => ?_⟩
  obtain ⟨d0, e0, h1, h2, rfl⟩ := zipL_get ds es i d hd
  obtain ⟨v, hv, rv⟩ := r1.get h1
  obtain ⟨u, hu, ru⟩ := r2.get h2
  refine ⟨⟨xs, ys, v, u, sH, sK, hv, hu⟩, fun x H2 hy => ?_⟩
  obtain ⟨T, x', y', rfl, hT, rfl, hx, hy⟩ := hy
  have ex : xs[i]? = some x' := hx _ sH
  rw [hv] at ex
  cases ex
  have ey : ys[i]? = some y' := hy _ sK
  rw [hu] at ey
  cases ey
  obtain ⟨q1, q2⟩ := hr.frozen (o := .tup [v, u]) hT
  refine ⟨_, q2, q1, .tup (.inl (.inl upd_same)) (.cons ?_ (.cons ?_ .nil))⟩
  · exact Rp.ext (Rp.mono hz hi hn _ _ rv) q2
  · exact Rp.ext (Rp.mono hz hi hn _ _ ru) q2
section
variable {X : Cx} {C : CT} {W : WX} {e e2 : Expr} {ga gb : GE} {p pos tpos : Pos} {elts : List Expr} {kk : Nat}
theorem qi_zip (hg : Gl X "zip") (hm : X.mg "zip" = none) (ha : QE X C W e ga) (hb : QE X C W e2 gb) (hs : starEach [e, e2] X.env = (false, eval e X.env) :: starEach [e2] X.env := by rfl) (hs2 : starEach [e2] X.env = (false, eval e2 X.env) :: starEach [] X.env := by rfl)
    (hpl : (backTo pos (starEach [e2] X.env)).any (·.1) = false := by rfl) : QI X C W (.Tuple elts kk tpos) (.Call (.Name "zip" p) [e, e2] [] pos) (gZip ga gb) := by
  obtain ⟨ta, pa, qa⟩ := ha
  obtain ⟨tb, pb, qb⟩ := hb
  refine ⟨fun σ H R => ta σ H fun v H1 => tb σ H1 fun u H2 => ∃ (S1 S2 : Src) (xs ys : List V), v = .ref S1.addr ∧ u = .ref S2.addr ∧ S1.here X.K H2 xs ∧ S2.here X.K H2 ys ∧ R (Izz X.K S1 S2) H2, ⟨fun pins s σ H R I h => ?_⟩,
    fun σ H Z ι Γ M Q sl hr h => qa σ H Z ι Γ M _ sl hr (Post.bind h fun x M1 v H1 Z1 ι1 e1 hr1 r1 h1 => qb σ H1 Z1 ι1 Γ M1 _ (sl.ext e1) hr1 (h1.bind fun y M2 u H2 Z2 ι2 e2 hr2 r2 h2 => ?_))⟩
  · refine Call_ (ld_blt I hg hm boot_zip (PyProof.Rows.callWith_type1 (thn ((pa_cons pa (pa_cons pb pa_nil hs2) hs).run pos pins s σ H (fun vs H1 => ∃ v u, vs = [v, u] ∧ ∃ (S1 S2 : Src) (xs ys : List V), v = .ref S1.addr ∧ u = .ref S2.addr ∧ S1.here X.K H1 xs ∧ S2.here X.K H1 ys ∧ R (Izz X.K S1 S2) H1) I ?_) fun us s1 hh => ?_) hs hpl))
    · have hmono : (fun x H1 => tb σ H1 fun y H2 => tNil σ H2 fun ys H3 => ∃ v u, x :: y :: ys = [v, u] ∧ ∃ (S1 S2 : Src) (xs zs : List V), v = .ref S1.addr ∧ u = .ref S2.addr ∧ S1.here X.K H3 xs ∧ S2.here X.K H3 zs ∧ R (Izz X.K S1 S2) H3) =
          fun (v : V) (H1 : Hp) => tb σ H1 fun u H2 => ∃ (S1 S2 : Src) (xs ys : List V), v = .ref S1.addr ∧ u = .ref S2.addr ∧ S1.here X.K H2 xs ∧ S2.here X.K H2 ys ∧ R (Izz X.K S1 S2) H2 := by
        funext x H1
        congr 1
        funext y H2
        apply propext
        constructor
        · rintro ⟨v, u, ev, q⟩
          cases ev
          exact q
        · intro q
          exact ⟨x, y, rfl, q⟩
      show ta σ H fun x H1 => tb σ H1 fun y H2 => tNil σ H2 fun ys H3 => ∃ v u, x :: y :: ys = [v, u] ∧ ∃ (S1 S2 : Src) (xs zs : List V), v = .ref S1.addr ∧ u = .ref S2.addr ∧ S1.here X.K H3 xs ∧ S2.here X.K H3 zs ∧ R (Izz X.K S1 S2) H3
      rw [hmono]
      exact h
    · obtain ⟨vs, H1, J, r1, v, u, rfl, S1, S2, xs, ys, rfl, rfl, hq1, hq2, q⟩ := hh
      obtain ⟨u1, u2, rfl, ru, ru2⟩ := Vals.two r1
      cases ru
      cases ru2
      obtain ⟨its1, rv1, har1⟩ := Src.inv J hq1
      obtain ⟨its2, rv2, har2⟩ := Src.inv J hq2
      refine zip_begins2 (S1.begins its1.toArray) (S2.begins its2.toArray) har1 har2 fun h' hz hTI hTO hi1 hi2 hsz hk => wpAny_pyIter_zip hz ?_
      have J2 : Inv X pins σ H1 { s1 with heap := h' } := J.kept (t' := s1.toks) hk
      refine ⟨s1.heap.objs.size + 4, [s1.heap.objs.size + 4, s1.heap.objs.size + 2, s1.heap.objs.size + 3, s1.heap.objs.size, s1.heap.objs.size + 1], _, _, H1, rfl, J2, turn_zz S1 S2 s1.heap.objs.size (Src.arr_lt har1) (Src.arr_lt har2), ⟨hz, hTI, ⟨_, _, hTO⟩, Src.start hi1, Src.start hi2⟩, fun b hb => ?_, q⟩
      have e' : b = s1.heap.objs.size + 4 ∨ b = s1.heap.objs.size + 2 ∨ b = s1.heap.objs.size + 3 ∨ b = s1.heap.objs.size ∨ b = s1.heap.objs.size + 1 := by simpa using hb
      have le : s1.heap.objs.size ≤ b := by
        rcases e' with z | z | z | z | z
        · rw [z]; exact Nat.le_add_right _ _
        · rw [z]; exact Nat.le_add_right _ _
        · rw [z]; exact Nat.le_add_right _ _
        · rw [z]; exact Nat.le_refl _
        · rw [z]; exact Nat.le_add_right _ _
      exact J.fpOk le (J.hok.fresh le)
  · obtain ⟨items, hd, h3⟩ := Post.of_opR (γ := D) (δ := V) h2
    unfold zipO at hd
    cases es : seqD x with
    | none => rw [es] at hd; cases hd
    | some ds =>
      cases et : seqD y with
      | none => rw [es, et] at hd; cases hd
      | some dt =>
        rw [es, et] at hd
        cases hd
        obtain ⟨S1, xs, rfl, hS1, q1⟩ := src_of hr2.sub (r1.ext e2) es
        obtain ⟨S2, ys, rfl, hS2, q2⟩ := src_of hr2.sub r2 et
        exact ⟨S1, S2, xs, ys, rfl, rfl, here_sub hr2.sub hS1, here_sub hr2.sub hS2, h3 _ H2 Z2 ι2 .refl hr2 (itr_zz hS1 hS2 q1 q2)⟩
end
end Bk

set_option Elab.async false
set_option linter.all false
set_option maxRecDepth 100000
set_option maxHeartbeats 2000000
namespace Bk
open PySem PySem.Spec PyProof.Rows L2
open PySem.W (kdx_alive)
/-! ### list(zip(a, b)): the zip's tuples stay, so each turn makes a new one -/
section
variable {prog : Program} {w : World} {A : Around} {E : Value → Shared → Prop} {s : Shared} {z TI TO i1 i2 T : Addr} {fp1 fp2 : List Addr} {n1 n2 i : Nat} {P1 P2 : Nat → Value → Prop} {St1 St2 : Nat → Heap → Prop} {f : Bool} {oT : Obj}
theorem zz_item {Q : Value → Shared → Prop} (S : ZipSep2 z TI TO i1 i2 fp1 fp2) (D1 : Draws prog w A i1 fp1 n1 P1 St1) (D2 : Draws prog w A i2 fp2 n2 P2 St2) (hz : IsZipHeld s.heap z TI TO T f) (hT : s.heap.get? T = some oT) (hTI : IsTupOf2 s.heap TI (.ref i1) (.ref i2)) (t1 : St1 i s.heap) (t2 : St2 i s.heap) (l1 : i < n1) (l2 : i < n2)
    (hQ : ∀ x1 x2 h' tk, P1 i x1 → P2 i x2 → IsZipHeld h' z TI TO T true → St1 (i + 1) h' → St2 (i + 1) h' → IsTupOf2 h' s.heap.objs.size x1 x2 → h'.objs.size = s.heap.objs.size + 1 → (∀ c o, c ≠ z → c ≠ i1 → c ≠ i2 → s.heap.get? c = some o → h'.get? c = some o) → Q (.ref s.heap.objs.size) { s with heap := h', toks := tk }) :
    wpAny (model prog w) A (Builtin.«zip.__next__» ⟨[.ref z], []⟩) (fun r s' => ∃ v, r = .done (.ret v) ∧ Q v s') E s := by
  obtain ⟨hp, gn, dr, tk0, os⟩ := s
  show wpAny _ _ (field (.ref z) 2 >>= _) _ _ _; refine wpAny_bind (wpAny_field hz rfl (x := .bool false) rfl ?_)
  show wpAny _ _ (field (.ref z) 3 >>= _) _ _ _; refine wpAny_bind (wpAny_field hz rfl (x := .ref TI) rfl ?_)
  refine wpAny_bind (wpAny_seqItems hTI rfl ?_); show wpAny _ _ (Builtin.SmallTypes.ownedTupleIsFree (.ref z) >>= _) _ _ _
  refine wpAny_bind (wpAny_tupleHeld_zip hz hT fun g0 zg0 sg0 => ?_); simp only [Bool.false_eq_true, if_false]; refine wpAny_bind ?_
  replace sg0 : Heap.SameBut z hp g0 := sg0
  rw [← Array.forIn_toList]; simp only [List.forIn_cons, List.forIn_nil]
  refine wpAny_bind (wpAny_bind (wpAny_holding ?_)); show wpAny _ _ (Builtin.SmallTypes.nextOf (.ref i1) >>= _) _ _ ⟨g0, gn, dr, tk0, os⟩
  refine wpAny_bind (D1.item i _ _ _ l1 (D1.over t1 sg0 S.zf1) fun x1 g1 k1 hx1 tn1 sg1 => wpAny_pure ?_)
  replace sg1 : Heap.SameBut i1 g0 g1 := sg1
  refine wpAny_pure ?_
  refine wpAny_bind (wpAny_bind (wpAny_holding ?_)); show wpAny _ _ (Builtin.SmallTypes.nextOf (.ref i2) >>= _) _ _ ⟨g1, gn, dr, k1, os⟩
  refine wpAny_bind (D2.item i _ _ _ l2 (D2.over (D2.over t2 sg0 S.zf2) sg1 S.sep1_2) fun x2 g2 k2 hx2 tn2 sg2 => wpAny_pure ?_)
  replace sg2 : Heap.SameBut i2 g1 g2 := sg2
  refine wpAny_pure (wpAny_pure ?_); show wpAny _ _ (newTuple [x1, x2] >>= _) _ _ _; refine wpAny_bind (wpAny_newTuple ?_)
  have sz : g2.objs.size = hp.objs.size := by rw [sg2.1, sg1.1, sg0.1]
  have zg2 : IsZipHeld g2 z TI TO T true := sg2.extBut _ _ S.zi2 (sg1.extBut _ _ S.zi1 zg0)
  have hk : ∀ c o, c ≠ z → c ≠ i1 → c ≠ i2 → hp.get? c = some o → g2.get? c = some o := fun c o c1 c2 c3 e => sg2.extBut _ _ c3 (sg1.extBut _ _ c2 (sg0.extBut _ _ c1 e))
  have q1 : St1 (i + 1) g2 := D1.over tn1 sg2 S.sep2_1
  refine wpAny_pure ⟨_, rfl, ?_⟩
  show Q (.ref g2.objs.size) _
  have hp2 : IsTupOf2 (g2.push { cls := .type "tuple", data := .seq #[x1, x2] }) g2.objs.size x1 x2 := Heap.get?_push_size _ rfl
  have sz2 : (g2.push { cls := .type "tuple", data := .seq #[x1, x2] }).objs.size = g2.objs.size + 1 := Heap.size_push ..
  rw [sz] at hp2 sz2 ⊢
  exact hQ x1 x2 _ k2 hx1 hx2 (Heap.get?_push_of_some _ zg2) (D1.frame _ _ _ q1 fun b _ o e => Heap.get?_push_of_some _ e) (D2.frame _ _ _ tn2 fun b _ o e => Heap.get?_push_of_some _ e) hp2 sz2 fun c o c1 c2 c3 e => Heap.get?_push_of_some _ (hk c o c1 c2 c3 e)
theorem zz_end {Q : Fin → Shared → Prop} (S : ZipSep2 z TI TO i1 i2 fp1 fp2) (D1 : Draws prog w A i1 fp1 n1 P1 St1) (D2 : Draws prog w A i2 fp2 n2 P2 St2) (hz : IsZipHeld s.heap z TI TO T f) (hT : s.heap.get? T = some oT) (hTI : IsTupOf2 s.heap TI (.ref i1) (.ref i2)) (t1 : St1 i s.heap) (t2 : St2 i s.heap) (l1 : i ≤ n1) (l2 : i ≤ n2) (hend : i = n1 ∨ i = n2)
    (hE : ∀ h' tk e, (∀ c o, c ≠ z → c ≠ i1 → c ≠ i2 → s.heap.get? c = some o → h'.get? c = some o) → (∃ o, h'.get? e = some o ∧ o.cls = .type "StopIteration") → E (.ref e) { s with heap := h', toks := tk }) :
    wpAny (model prog w) A (Builtin.«zip.__next__» ⟨[.ref z], []⟩) Q E s := by
  obtain ⟨hp, gn, dr, tk0, os⟩ := s
  show wpAny _ _ (field (.ref z) 2 >>= _) _ _ _; refine wpAny_bind (wpAny_field hz rfl (x := .bool false) rfl ?_)
  show wpAny _ _ (field (.ref z) 3 >>= _) _ _ _; refine wpAny_bind (wpAny_field hz rfl (x := .ref TI) rfl ?_)
  refine wpAny_bind (wpAny_seqItems hTI rfl ?_); show wpAny _ _ (Builtin.SmallTypes.ownedTupleIsFree (.ref z) >>= _) _ _ _
  refine wpAny_bind (wpAny_tupleHeld_zip hz hT fun g0 zg0 sg0 => ?_); simp only [Bool.false_eq_true, if_false]; refine wpAny_bind ?_
  replace sg0 : Heap.SameBut z hp g0 := sg0
  rw [← Array.forIn_toList]; simp only [List.forIn_cons, List.forIn_nil]
  refine wpAny_bind (wpAny_bind (wpAny_holding ?_)); show wpAny _ _ (Builtin.SmallTypes.nextOf (.ref i1) >>= _) _ _ ⟨g0, gn, dr, tk0, os⟩
  by_cases c : i < n1
  · refine wpAny_bind (D1.item i _ _ _ c (D1.over t1 sg0 S.zf1) fun x1 g1 k1 hx1 tn1 sg1 => wpAny_pure ?_)
    replace sg1 : Heap.SameBut i1 g0 g1 := sg1
    refine wpAny_pure ?_
    have c2 : i = n2 := by omega
    refine wpAny_bind (wpAny_bind (wpAny_holding ?_)); show wpAny _ _ (Builtin.SmallTypes.nextOf (.ref i2) >>= _) _ _ ⟨g1, gn, dr, k1, os⟩
    refine wpAny_bind (D2.done ⟨g1, gn, dr, k1, os⟩ _ _ (by rw [← c2]; exact D2.over (D2.over t2 sg0 S.zf2) sg1 S.sep1_2) fun q e hq he => ?_)
    replace hq : Heap.ExtBut i2 g1 q := hq
    exact hE q k1 e (fun c o cz c1 c2 x => hq _ _ c2 (sg1.extBut _ _ c1 (sg0.extBut _ _ cz x))) he
  · have c1 : i = n1 := by omega
    refine wpAny_bind (D1.done ⟨g0, gn, dr, tk0, os⟩ _ _ (by rw [← c1]; exact D1.over t1 sg0 S.zf1) fun q e hq he => ?_)
    replace hq : Heap.ExtBut i1 g0 q := hq
    exact hE q tk0 e (fun c o cz c1 _ x => hq _ _ c1 (sg0.extBut _ _ cz x)) he
/-- where a zip stands whose tuples are kept -/
def ZH (z TI TO : Addr) (no : List Addr) (h : Heap) : Prop := (IsZip h z TI TO .none ∧ ∃ a1 a2, IsTupOf2 h TO a1 a2) ∨ ∃ T f oT, IsZipHeld h z TI TO T f ∧ h.get? T = some oT ∧ T ∉ no
theorem zh_item {no : List Addr} {Q : Option Value → Shared → Prop} (S : ZipSep2 z TI TO i1 i2 fp1 fp2) (D1 : Draws prog w A.in1 i1 fp1 n1 P1 St1) (D2 : Draws prog w A.in1 i2 fp2 n2 P2 St2) (hz : ZH z TI TO no s.heap) (hn : z ∈ no ∧ i1 ∈ no ∧ i2 ∈ no) (hno : ∀ b ∈ no, b < s.heap.objs.size) (hTI : IsTupOf2 s.heap TI (.ref i1) (.ref i2)) (t1 : St1 i s.heap) (t2 : St2 i s.heap) (l1 : i < n1) (l2 : i < n2)
    (hQ : ∀ x1 x2 h' tk, P1 i x1 → P2 i x2 → ZH z TI TO no h' → St1 (i + 1) h' → St2 (i + 1) h' → IsTupOf2 h' s.heap.objs.size x1 x2 → h'.objs.size = s.heap.objs.size + 1 → (∀ c o, c ≠ z → c ≠ TO → c ≠ i1 → c ≠ i2 → s.heap.get? c = some o → h'.get? c = some o) → Q (some (.ref s.heap.objs.size)) { s with heap := h', toks := tk }) :
    wpAny (model prog w) A (pyNext (.ref z)) Q E s := by
  have fresh : s.heap.objs.size ∉ no := fun q => Nat.lt_irrefl _ (hno _ q)
  rcases hz with ⟨hz, a1, a2, hTO⟩ | ⟨T, f, oT, hz, hT, hTn⟩
  · exact wpAny_pyNext_zipD2_item S D1 D2 hz hTI hTO t1 t2 l1 l2 fun x1 x2 h' tk p1 p2 b1 b2 d1 d2 b5 b6 hk => hQ x1 x2 h' tk p1 p2 (.inr ⟨_, false, _, b1, b5, fresh⟩) d1 d2 b5 b6 hk
  · have hTy : s.TypeIs (.ref z) "zip" := ⟨_, hz, rfl⟩
    unfold pyNext
    refine wpAny_bind (wpAny_attempt (wpAny_callSpecial?_slot (name := Str.ofString "__next__") hTy F.slot_zip_next (wpAny_call_entry F.slot_zip_next hTy F.entry_zip_next
      (zz_item S D1 D2 hz hT hTI t1 t2 l1 l2 fun x1 x2 h' tk p1 p2 b1 d1 d2 b5 b6 hk => wpAny_pure (hQ x1 x2 h' tk p1 p2 (.inr ⟨T, true, oT, b1, hk T oT (fun q => hTn (q ▸ hn.1)) (fun q => hTn (q ▸ hn.2.1)) (fun q => hTn (q ▸ hn.2.2)) hT, hTn⟩) d1 d2 b5 b6 fun c o c1 _ c2 c3 e => hk c o c1 c2 c3 e)) (F.args_zip_next_1 _))))
theorem zh_end {no : List Addr} {Q : Option Value → Shared → Prop} (S : ZipSep2 z TI TO i1 i2 fp1 fp2) (D1 : Draws prog w A.in1 i1 fp1 n1 P1 St1) (D2 : Draws prog w A.in1 i2 fp2 n2 P2 St2) (hz : ZH z TI TO no s.heap) (hTI : IsTupOf2 s.heap TI (.ref i1) (.ref i2)) (t1 : St1 i s.heap) (t2 : St2 i s.heap) (l1 : i ≤ n1) (l2 : i ≤ n2) (hend : i = n1 ∨ i = n2)
    (hQ : ∀ h' tk, (∀ c o, c ≠ z → c ≠ TO → c ≠ i1 → c ≠ i2 → s.heap.get? c = some o → h'.get? c = some o) → Q none { s with heap := h', toks := tk }) : wpAny (model prog w) A (pyNext (.ref z)) Q E s := by
  rcases hz with ⟨hz, a1, a2, hTO⟩ | ⟨T, f, oT, hz, hT, hTn⟩
  · exact wpAny_pyNext_zipD2_end S D1 D2 hz hTI hTO t1 t2 l1 l2 hend hQ
  · have hTy : s.TypeIs (.ref z) "zip" := ⟨_, hz, rfl⟩
    unfold pyNext
    refine wpAny_bind (wpAny_attempt (wpAny_callSpecial?_slot (name := Str.ofString "__next__") hTy F.slot_zip_next (wpAny_call_entry F.slot_zip_next hTy F.entry_zip_next (zz_end S D1 D2 hz hT hTI t1 t2 l1 l2 hend fun h' tk e hk he => ?_) (F.args_zip_next_1 _))))
    obtain ⟨o, ho, hc⟩ := he
    exact wpAny_bind (wpAny_isInstance (T := "StopIteration") (b := true) ⟨o, ho, hc⟩ isSubtype_stop (wpAny_pure (hQ _ _ fun c o c1 _ c2 c3 e => hk c o c1 c2 c3 e)))
end
end Bk

set_option Elab.async false
set_option linter.all false
set_option maxRecDepth 100000
set_option maxHeartbeats 4000000
namespace Bk
open PySem PySem.Spec PyProof.Rows L2
/-- tuples laid one after the other -/
inductive Laid : Hp → List (V × V) → List Addr → Hp → Prop
  | nil (H : Hp) : Laid H [] [] H
  | snoc {H H1 : Hp} {ps : List (V × V)} {Ts : List Addr} {T : Addr} {x y : V} : Laid H ps Ts H1 → H1 T = none → Laid H (ps ++ [(x, y)]) (Ts ++ [T]) (upd H1 T (.tup [x, y]))
theorem zip_no_len : typeLookup (.type "zip") "__len__" = pure none := am_miss_of_fast (by decide +kernel)
theorem zip_no_hint : typeLookup (.type "zip") "__length_hint__" = pure none := am_miss_of_fast (by decide +kernel)
theorem zip_hint {prog : Program} {w : World} {A : Around} {E : Value → Shared → Prop} {s : Shared} {r : Addr} {Q : Bool → Shared → Prop} (hT : s.TypeIs (.ref r) "zip") (h : Q true s) : wpAny (model prog w) A (Builtin.List.listLengthHint (.ref r)) Q E s := by
  unfold Builtin.List.listLengthHint
  refine wpAny_bind (wpAny_specialOf hT zip_no_len ?_)
  refine wpAny_bind (wpAny_specialOf hT zip_no_hint ?_)
  exact wpAny_pure h
section
variable {X : Cx} {pins : List (Addr × Obj)} {σ : L2.St} {S1 S2 : Src} {N Sx : Nat} {its1 its2 : List Value} {xs ys : List V} {A : Around} {H0 : Hp} {R : Result → Shared → Prop}
abbrev zch (N Sx : Nat) : List Addr := [N + 4, N + 2, N + 3, N, N + 1, Sx]
theorem zl_loop (hh : A.handled = none) (rv1 : Vals xs its1) (rv2 : Vals ys its2) (lt1 : S1.addr < N) (lt2 : S2.addr < N) (hSx : N + 4 < Sx) (res : Value) (hlen : min xs.length ys.length ≤ sizeLine)
    (hR : ∀ (s' : Shared) (H' : Hp) (Ts : List Addr) (acc : Array Value) (c : Nat), Inv X pins σ H' s' → FpOk X pins H' Sx → Laid H0 (xs.zip ys) Ts H' → s'.heap.get? Sx = some { cls := .type "list", dict := none, data := .seq acc c, slots := #[] } → acc.toList = Ts.map Value.ref → R (.ok (.ret res)) s') :
    ∀ (k i : Nat) (s : Shared) (H : Hp) (c : Nat) (acc : Array Value) (Ts : List Addr), min xs.length ys.length - i = k → i ≤ min xs.length ys.length → Inv X pins σ H s → (∀ b ∈ zch N Sx, FpOk X pins H b) → ZH (N + 4) (N + 2) (N + 3) (zch N Sx) s.heap →
      IsTupOf2 s.heap (N + 2) (.ref N) (.ref (N + 1)) → S1.it s.heap N i → S2.it s.heap (N + 1) i → S1.arr s.heap its1.toArray → S2.arr s.heap its2.toArray → s.heap.get? Sx = some { cls := .type "list", dict := none, data := .seq acc c, slots := #[] } → acc.toList = Ts.map Value.ref → Ts.length = i →
      Laid H0 ((xs.zip ys).take i) Ts H → codeAny (model X.prog X.w) A (.builtin "list.extend.loop" ⟨[.ref Sx, .ref (N + 4), res], []⟩) R s := by
  have SS := zip_sep2 (N := N) (fp1 := [S1.addr]) (fp2 := [S2.addr]) (fun b hb => by rw [List.mem_singleton.mp hb]; exact lt1) (fun b hb => by rw [List.mem_singleton.mp hb]; exact lt2)
  have D1 := Src.draws (prog := X.prog) (w := X.w) (A := A.in1.in1) hh S1 N (Nat.ne_of_lt lt1) its1.toArray
  have D2 := Src.draws (prog := X.prog) (w := X.w) (A := A.in1.in1) hh S2 (N + 1) (by have q : S2.addr ≠ N + 1 := Nat.ne_of_lt (Nat.lt_succ_of_lt lt2); exact q) its2.toArray
  have len1 : its1.toArray.size = xs.length := by rw [List.size_toArray, ← rv1.length]
  have len2 : its2.toArray.size = ys.length := by rw [List.size_toArray, ← rv2.length]
  have far : ∀ {u : Nat}, u < N → ¬ (u = N + 4 ∨ u = N + 2 ∨ u = N + 3 ∨ u = N ∨ u = N + 1 ∨ u = Sx) := fun {u} a b => by omega
  have a1 : S1.addr ∉ zch N Sx := fun q => by
    have e' : S1.addr = N + 4 ∨ S1.addr = N + 2 ∨ S1.addr = N + 3 ∨ S1.addr = N ∨ S1.addr = N + 1 ∨ S1.addr = Sx := by simpa using q
    exact far lt1 e'
  have a2 : S2.addr ∉ zch N Sx := fun q => by
    have e' : S2.addr = N + 4 ∨ S2.addr = N + 2 ∨ S2.addr = N + 3 ∨ S2.addr = N ∨ S2.addr = N + 1 ∨ S2.addr = Sx := by simpa using q
    exact far lt2 e'
  have nz : Sx ≠ N + 4 ∧ Sx ≠ N + 2 ∧ Sx ≠ N + 3 ∧ Sx ≠ N ∧ Sx ≠ N + 1 := by omega
  intro k
  induction k with
  | zero =>
    intro i s H c acc Ts hk hi I hf hz hTI t1 t2 r1 r2 hS hacc hTs hL
    have ei : i = min xs.length ys.length := by omega
    refine codeAny_builtin PySem.F.entry_extend_loop ?_
    rw [Around.under_plainId PySem.F.plain_extend_loop _]
    show wpAny _ A.in1 (pyNext (.ref (N + 4)) >>= _) _ _ _
    refine wpAny_bind (zh_end SS D1 D2 hz hTI ⟨t1, r1⟩ ⟨t2, r2⟩ (by rw [len1]; omega) (by rw [len2]; omega) (by rw [len1, len2]; omega) fun h' tk hkp => ?_)
    refine wpAny_pure (hR _ H Ts acc c (I.turnedL (t' := tk) (ch := zch N Sx) (fun b o hb e => hkp b o (fun q => hb (by simp [q])) (fun q => hb (by simp [q])) (fun q => hb (by simp [q])) (fun q => hb (by simp [q])) e) hf) (hf Sx (by simp)) ?_ (hkp Sx _ nz.1 nz.2.2.1 nz.2.2.2.1 nz.2.2.2.2 hS) hacc)
    rw [List.take_of_length_le (by rw [List.length_zip]; omega)] at hL
    exact hL
  | succ k ih =>
    intro i s H c acc Ts hk hi I hf hz hTI t1 t2 r1 r2 hS hacc hTs hL
    have hlt : i < min xs.length ys.length := by omega
    have hsz : acc.size = i := by rw [← Array.length_toList, hacc, List.length_map, hTs]
    have l1 : i < xs.length := by omega
    have l2 : i < ys.length := by omega
    obtain ⟨u1, hu1, ru1⟩ := rv1.get (List.getElem?_eq_getElem l1)
    obtain ⟨u2, hu2, ru2⟩ := rv2.get (List.getElem?_eq_getElem l2)
    have hlive : ∀ b ∈ zch N Sx, b < s.heap.objs.size := fun b hb => by
      have e' : b = N + 4 ∨ b = N + 2 ∨ b = N + 3 ∨ b = N ∨ b = N + 1 ∨ b = Sx := by simpa using hb
      have hx : Sx < s.heap.objs.size := Heap.lt_size hS
      have h2 : ∀ {u v : Nat}, u < v → v < s.heap.objs.size → u < s.heap.objs.size := fun a b => Nat.lt_trans a b
      rcases e' with q | q | q | q | q | q <;> rw [q]
      · exact h2 hSx hx
      · exact h2 (Nat.lt_trans (by omega) hSx) hx
      · exact h2 (Nat.lt_trans (by omega) hSx) hx
      · exact h2 (Nat.lt_trans (by omega) hSx) hx
      · exact h2 (Nat.lt_trans (by omega) hSx) hx
      · exact hx
    refine codeAny_builtin PySem.F.entry_extend_loop ?_
    rw [Around.under_plainId PySem.F.plain_extend_loop _]
    show wpAny _ A.in1 (pyNext (.ref (N + 4)) >>= _) _ _ _
    refine wpAny_bind (zh_item SS D1 D2 hz ⟨by simp, by simp, by simp⟩ hlive hTI ⟨t1, r1⟩ ⟨t2, r2⟩ (by rw [len1]; omega) (by rw [len2]; omega) fun x1 x2 h' tk p1 p2 zh' ⟨t1', r1'⟩ ⟨t2', r2'⟩ hT hz' hkp => ?_)
    have ex1 : x1 = u1 := by
      have q : its1.toArray[i]? = some u1 := by simpa using hu1
      rw [p1] at q
      exact Option.some.inj q
    have ex2 : x2 = u2 := by
      have q : its2.toArray[i]? = some u2 := by simpa using hu2
      rw [p2] at q
      exact Option.some.inj q
    subst ex1 ex2
    have hS' : h'.get? Sx = _ := hkp Sx _ nz.1 nz.2.2.1 nz.2.2.2.1 nz.2.2.2.2 hS
    have up : ∀ b o, b ≠ Sx → h'.get? b = some o → (h'.update Sx (Obj.mapSeq (·.push (Value.ref s.heap.objs.size)))).get? b = some o := fun b o hb e => (Heap.get?_update_other _ _ (Ne.symm hb)).trans e
    have hSl : Sx < s.heap.objs.size := Heap.lt_size hS
    have neT : ∀ b ∈ zch N Sx, b ≠ s.heap.objs.size := fun b hb => Nat.ne_of_lt (hlive b hb)
    show wpAny _ A.in1 (updateSeq Sx (·.push (Value.ref s.heap.objs.size)) >>= _) _ _ _
    refine wpAny_bind ?_
    have hT2 : (h'.update Sx (Obj.mapSeq (·.push (Value.ref s.heap.objs.size)))).get? s.heap.objs.size = _ := up _ _ (Nat.ne_of_gt hSl) hT
    have hTn : H s.heap.objs.size = none := I.hok.fresh (Nat.le_refl _)
    have new : ObjOk X.prog X.w (upd H s.heap.objs.size (.tup [xs[i], ys[i]])) (h'.update Sx (Obj.mapSeq (·.push (Value.ref s.heap.objs.size)))) s.heap.objs.size (.tup [xs[i], ys[i]]) :=
      ⟨by show 2 ≤ sizeLine; decide, [x1, x2], .cons ru1 (.cons ru2 .nil), ⟨_, hT2, rfl, _, rfl⟩⟩
    have J := I.turnedNew (t' := tk) (ch := zch N Sx) (fun b o hb e => up b o (fun q => hb (by simp [q])) (hkp b o (fun q => hb (by simp [q])) (fun q => hb (by simp [q])) (fun q => hb (by simp [q])) (fun q => hb (by simp [q])) e)) hf (Nat.le_refl _) new
    have L2 : Laid H0 ((xs.zip ys).take (i + 1)) (Ts ++ [s.heap.objs.size]) (upd H s.heap.objs.size (.tup [xs[i], ys[i]])) := by
      have e : (xs.zip ys).take (i + 1) = (xs.zip ys).take i ++ [(xs[i], ys[i])] := by
        rw [List.take_add_one, List.getElem?_eq_getElem (by rw [List.length_zip]; omega), List.getElem_zip]
        rfl
      rw [e]
      exact .snoc hL hTn
    have zh2 : ZH (N + 4) (N + 2) (N + 3) (zch N Sx) (h'.update Sx (Obj.mapSeq (·.push (Value.ref s.heap.objs.size)))) := by
      rcases zh' with ⟨q, b1, b2, q2⟩ | ⟨T, f, oT, q, q2, q3⟩
      · exact .inl ⟨up _ _ nz.1.symm q, b1, b2, up _ _ nz.2.2.1.symm q2⟩
      · exact .inr ⟨T, f, oT, up _ _ nz.1.symm q, up _ _ (fun z => q3 (by simp [z])) q2, q3⟩
    refine wpAny_updateSeq hS' rfl (wpAny_pure ⟨plainId_quiet PySem.F.plain_extend_loop _, ih (i + 1) _ _ _ (acc.push (Value.ref s.heap.objs.size)) (Ts ++ [s.heap.objs.size]) (by omega) hlt J (fun b hb => ?_) zh2 (up _ _ nz.2.1.symm (hkp _ _ ?_ ?_ ?_ ?_ hTI)) (Src.it_at t1' fun o e => up _ _ nz.2.2.2.1.symm e) (Src.it_at t2' fun o e => up _ _ nz.2.2.2.2.symm e)
      ?_ ?_ (Heap.get?_update_self _ hS' rfl) (by rw [Array.toList_push, hacc, List.map_append]; rfl) (by rw [List.length_append, hTs]; rfl) L2⟩) (by rw [hsz]; omega) (by show (acc.push (Value.ref s.heap.objs.size)).size ≤ sizeLine + 1; rw [Array.size_push, hsz]; omega)
    · obtain ⟨f1, f2, f3, f4, f5, f6⟩ := hf b hb
      exact ⟨by rw [upd_ne (neT b hb)]; exact f1, f2, f3, f4, f5, f6⟩
    · show (N + 2 : Nat) ≠ N + 4; omega
    · show (N + 2 : Nat) ≠ N + 3; omega
    · show (N + 2 : Nat) ≠ N; omega
    · show (N + 2 : Nat) ≠ N + 1; omega
    · cases S1 with
      | l a => exact Heap.IsList.at r1' fun o e => up _ _ (fun q => a1 (by simp [Src.addr, q])) e
      | t a => exact Heap.IsTuple.at r1' fun o e => up _ _ (fun q => a1 (by simp [Src.addr, q])) e
    · cases S2 with
      | l a => exact Heap.IsList.at r2' fun o e => up _ _ (fun q => a2 (by simp [Src.addr, q])) e
      | t a => exact Heap.IsTuple.at r2' fun o e => up _ _ (fun q => a2 (by simp [Src.addr, q])) e
end
end Bk

set_option Elab.async false
set_option linter.all false
set_option maxRecDepth 100000
set_option maxHeartbeats 4000000
namespace Bk
open PySem PySem.Spec PyProof.Rows L2
theorem Laid.length {H H' : Hp} {ps : List (V × V)} {Ts : List Addr} (L : Laid H ps Ts H') : Ts.length = ps.length := by
  induction L with
  | nil => rfl
  | snoc _ _ ih => simp [ih]
section
variable {X : Cx} {pins : List (Addr × Obj)} {σ : L2.St} {S1 S2 : Src} {N : Nat} {its1 its2 : List Value} {xs ys : List V} {H : Hp}
/-- list(z) of a new zip z -/
theorem zl_call {s : Shared} {E : Value → Shared → Prop} {Q : VK} (hh : X.A.handled = none) (rv1 : Vals xs its1) (rv2 : Vals ys its2) (lt1 : S1.addr < N) (lt2 : S2.addr < N) (hlen : min xs.length ys.length ≤ sizeLine) (I : Inv X pins σ H s) (hf : ∀ b ∈ [N + 4, N + 2, N + 3, N, N + 1], FpOk X pins H b)
    (hz : IsZip s.heap (N + 4) (N + 2) (N + 3) .none) (hTI : IsTupOf2 s.heap (N + 2) (.ref N) (.ref (N + 1))) (hTO : ∃ a1 a2, IsTupOf2 s.heap (N + 3) a1 a2) (t1 : S1.it s.heap N 0) (t2 : S2.it s.heap (N + 1) 0) (r1 : S1.arr s.heap its1.toArray) (r2 : S2.arr s.heap its2.toArray)
    (hQ : ∀ (H' : Hp) (Ts : List Addr) (p : Addr), Laid H (xs.zip ys) Ts H' → H' p = none → Q (.ref p) (upd H' p (.lst (Ts.map V.ref)))) : wpAny (model X.prog X.w) X.A (call (.type "list") [.ref (N + 4)]) (EP X pins σ Q) E s := by
  refine callType_codes (Q₁ := fun obj s₁ => obj = .ref s.heap.objs.size ∧ s₁ = { s with heap := s.heap.push { cls := .type "list", data := .seq #[] } }) PySem.F.called_list (PySem.F.typeCall_list_1 _) PySem.F.entry_list_init (code_list_new _ ⟨rfl, rfl⟩) fun obj s₁ h₁ => ?_
  obtain ⟨rfl, rfl⟩ := h₁
  have hzl : N + 4 < s.heap.objs.size := Heap.lt_size hz
  have hS : (s.heap.push { cls := .type "list", data := .seq #[] }).get? s.heap.objs.size = some { cls := .type "list", data := .seq #[] } := Heap.get?_push_size _ rfl
  refine ⟨⟨_, hS, rfl⟩, PySem.F.args_list_init_2 _ _, ?_⟩
  have hSr : s.heap.objs.size ≠ N + 4 := Nat.ne_of_gt hzl
  have hSx : H s.heap.objs.size = none := I.hok.fresh (Nat.le_refl _)
  show wpAny _ _ (do let old ← Builtin.List.listItems (.ref s.heap.objs.size); Builtin.List.listUpdate (.ref s.heap.objs.size) (fun _ => #[]); letGo old.toList.reverse; Builtin.List.listExtendWith (.ref s.heap.objs.size) (.ref (N + 4)) .none) _ _ _
  refine wpAny_bind ?_; unfold Builtin.List.listItems; refine wpAny_bind (wpAny_seqItems hS rfl (wpAny_pure ?_))
  show wpAny _ _ (updateSeq s.heap.objs.size (fun _ => #[]) >>= fun _ => letGo (#[] : Array Value).toList.reverse >>= fun _ => Builtin.List.listExtendWith (.ref s.heap.objs.size) (.ref (N + 4)) .none) _ _ _
  refine wpAny_bind (wpAny_updateSeq hS rfl ?_)
  have hS2 := Heap.get?_update_self (Obj.mapSeq (fun _ => (#[] : Array Value))) hS rfl
  have o1 : ∀ b o, s.heap.get? b = some o → ((s.heap.push { cls := .type "list", data := .seq #[] }).update s.heap.objs.size (Obj.mapSeq (fun _ => (#[] : Array Value)))).get? b = some o := fun b o e => (Heap.get?_update_other _ _ (Nat.ne_of_gt (Heap.lt_size e))).trans (Heap.get?_push_of_some _ e)
  refine wpAny_bind (wpAny_letGo ?_)
  generalize (s.heap.push { cls := .type "list", data := .seq #[] }).update s.heap.objs.size (Obj.mapSeq (fun _ => (#[] : Array Value))) = g at hS2 o1
  unfold Builtin.List.listExtendWith
  have hT1 : Shared.TypeIs { s with heap := g } (.ref (N + 4)) "zip" := ⟨_, o1 _ _ hz, rfl⟩
  refine wpAny_bind (wpAny_typeOf (T := "zip") hT1 ?_)
  have h1 : Builtin.List.listSameRef (.ref s.heap.objs.size) (.ref (N + 4)) = false := by simp [Builtin.List.listSameRef, hSr]
  have h2 : (Value.type "zip" == Value.type "list") = false := by decide
  have h3 : (Value.type "zip" == Value.type "tuple") = false := by decide
  simp only [h1, h2, h3, Bool.or_false, Bool.false_eq_true, if_false]
  refine wpAny_bind (wpAny_pyIter_zip (o1 _ _ hz) ?_)
  refine wpAny_bind (wpAny_holding (zip_hint hT1 ?_))
  refine wpAny_ite_split (fun _ => ?_) (fun q => absurd rfl q)
  refine wpAny_bind (wpAny_rule ?_)
  refine wpAny_bind ?_
  show wpAny _ _ (updateSeq s.heap.objs.size (·.push .none) >>= fun _ => updateSeq s.heap.objs.size (·.pop)) _ _ _
  refine wpAny_bind (wpAny_updateSeq hS2 rfl ?_)
  have hS3 := Heap.get?_update_self (Obj.mapSeq (·.push Value.none)) hS2 rfl
  refine wpAny_updateSeq (hz := by seq_fits) hS3 rfl ?_
  have hS4 := Heap.get?_update_self (Obj.mapSeq (·.pop)) hS3 rfl
  have o2 : ∀ b o, s.heap.get? b = some o → ((g.update s.heap.objs.size (Obj.mapSeq (·.push Value.none))).update s.heap.objs.size (Obj.mapSeq (·.pop))).get? b = some o := fun b o e => (Heap.get?_update_other _ _ (Nat.ne_of_gt (Heap.lt_size e))).trans ((Heap.get?_update_other _ _ (Nat.ne_of_gt (Heap.lt_size e))).trans (o1 b o e))
  generalize (g.update s.heap.objs.size (Obj.mapSeq (·.push Value.none))).update s.heap.objs.size (Obj.mapSeq (·.pop)) = g2 at hS4 o2
  have I2 : Inv X pins σ H { s with heap := g2 } := I.kept (t' := s.toks) o2
  have fS : FpOk X pins H s.heap.objs.size := I.fpOk (Nat.le_refl _) hSx
  refine wpAny_pure ⟨plainId_quiet PySem.F.plain_extend_loop _, zl_loop (A := X.A.in1) (H0 := H) hh rv1 rv2 lt1 lt2 hzl .none hlen (fun s' H' Ts acc c I' f' L e ha => ?_) (min xs.length ys.length) 0 { s with heap := g2 } H _ #[] [] (Nat.sub_zero _) (Nat.zero_le _) I2 (fun b hb => ?_) (.inl ⟨o2 _ _ hz, ?_⟩) (o2 _ _ hTI) (Src.it_at t1 fun o e => o2 _ _ e) (Src.it_at t2 fun o e => o2 _ _ e) ?_ ?_ hS4 rfl rfl (.nil H)⟩
  · obtain ⟨f1, f2, f3, f4, f5, f6⟩ := f'
    have hl := L.length
    have new : ObjOk X.prog X.w (upd H' s.heap.objs.size (.lst (Ts.map V.ref))) s'.heap s.heap.objs.size (.lst (Ts.map V.ref)) := by
      refine ⟨by rw [List.length_map, hl, List.length_zip]; exact hlen, acc.toList, c, ?_, e⟩
      rw [ha]
      clear e ha L hl f1
      induction Ts with
      | nil => exact .nil
      | cons T Ts ih => exact .cons rfl ih
    refine ⟨rfl, .ref s.heap.objs.size, _, I'.step (g' := s'.gens) (t' := s'.toks) (d' := s'.drawn) (h' := s'.heap) (ch := [s.heap.objs.size]) (fun b hb => ?_) (fun b o _ _ hc q _ => q) (fun b o _ _ hc q _ => ⟨o.slots, q⟩) (fun b o hc q n => ?_) (fun b o hc q => ⟨o, q⟩) (fun b zs q => ?_) (fun b o u q => ?_) (fun b ps q => ⟨#[], ?_⟩) (fun m q => q) (fun b u q => ?_) I'.bare, rfl, hQ H' Ts _ L f1⟩
    · rw [List.mem_singleton.mp hb]; exact ⟨f4, f2, f5, f6⟩
    · rw [upd_ne (fun z => hc (by rw [z]; exact List.mem_singleton_self _))]; exact n
    · rw [upd_ne (ne_of_none q f1)]; exact q
    · rw [upd_ne (ne_of_none q f1)]; exact q
    · rw [upd_ne (ne_of_none q f1), q]; simp
    · by_cases hb : b = s.heap.objs.size
      · subst hb
        rw [upd_same] at q
        cases q
        exact new
      · rw [upd_ne hb] at q
        exact (I'.hok b u q).stay (fun _ _ _ z => z) (fun d z => by rw [upd_ne (ne_of_none z f1)]; exact z) fun d zs z => by rw [upd_ne (ne_of_none z f1)]; exact z
  · have e' : b = N + 4 ∨ b = N + 2 ∨ b = N + 3 ∨ b = N ∨ b = N + 1 ∨ b = s.heap.objs.size := by simpa using hb
    rcases e' with q | q | q | q | q | q
    · rw [q]; exact hf _ (by simp)
    · rw [q]; exact hf _ (by simp)
    · rw [q]; exact hf _ (by simp)
    · rw [q]; exact hf _ (by simp)
    · rw [q]; exact hf _ (by simp)
    · rw [q]; exact fS
  · obtain ⟨a1, a2, q⟩ := hTO; exact ⟨a1, a2, o2 _ _ q⟩
  · cases S1 with
    | l a => exact Heap.IsList.at r1 fun o e => o2 _ _ e
    | t a => exact Heap.IsTuple.at r1 fun o e => o2 _ _ e
  · cases S2 with
    | l a => exact Heap.IsList.at r2 fun o e => o2 _ _ e
    | t a => exact Heap.IsTuple.at r2 fun o e => o2 _ _ e
end
theorem Laid.read {K : PySem.W.Frag} {H H' : Hp} {ps : List (V × V)} {Ts : List Addr} (L : Laid H ps Ts H') : ∀ {dps : List (D × D)} {Z : Hp} {ι : Nat → Addr} {M : List MO}, HR K H Z ι M → dps.length = ps.length → (∀ (i : Nat) (dp : D × D) (vp : V × V), dps[i]? = some dp → ps[i]? = some vp → Rp K Z ι M.length dp.1 vp.1 ∧ Rp K Z ι M.length dp.2 vp.2) →
    ∃ Z', HR K H' Z' ι M ∧ Ext H Z ι M.length H' Z' ι M.length ∧ Rps K Z' ι M.length (dps.map fun dp => .tup [dp.1, dp.2]) (Ts.map V.ref) := by
  induction L with
  | nil =>
    intro dps Z ι M hr hl h
    have : dps = [] := List.length_eq_zero_iff.mp hl
    subst this
    exact ⟨Z, hr, .refl, .nil⟩
  | @snoc H1 ps Ts T x y L hT ih =>
    intro dps Z ι M hr hl h
    rcases List.eq_nil_or_concat dps with e | ⟨ds, d, e⟩
    · subst e
      simp at hl
    · rw [List.concat_eq_append] at e
      subst e
      have hl' : ds.length = ps.length := by simpa using hl
      obtain ⟨Z1, hr1, e1, r1⟩ := ih hr hl' fun i dp vp a b => h i dp vp (by rw [List.getElem?_append_left (List.getElem?_eq_some_iff.mp a).1]; exact a) (by rw [List.getElem?_append_left (List.getElem?_eq_some_iff.mp b).1]; exact b)
      obtain ⟨q1, q2⟩ := h ds.length d (x, y) (by simp) (by rw [hl']; simp)
      obtain ⟨p1, p2⟩ := hr1.frozen (o := .tup [x, y]) hT
      refine ⟨_, p1, e1.trans p2 hr1.ali, ?_⟩
      rw [List.map_append, List.map_append]
      exact (r1.ext p2).append (.cons (.tup (.inl (.inl upd_same)) (.cons ((q1.ext e1).ext p2) (.cons ((q2.ext e1).ext p2) .nil))) .nil)
theorem zipL_map : ∀ (ds es : List D), zipL ds es = (ds.zip es).map fun dp => .tup [dp.1, dp.2]
  | [], _ => by simp [zipL]
  | _ :: _, [] => by simp [zipL]
  | d :: ds, e :: es => by simp [zipL, zipL_map ds es]
def gLzip (own : Bool) (ga gb : GE) : GE := fun Γ M => (ga Γ M).bind fun x M1 => (gb Γ M1).bind fun y M2 => (opR (zipO x y) M2).bind fun ds M3 => if ds.length ≤ sizeLine then (if own = true then .ok (.ref M3.length) (M3 ++ [.lst ds]) else .ok (.lst ds) M3) else .bad
section
variable {X : Cx} {C : CT} {W : WX} {e e2 : Expr} {ga gb : GE} {p p2 pos pos2 : Pos}
theorem qe_lzip (own : Bool) (hc : X.calm = true) (hgl : Gl X "list") (hml : X.mg "list" = none) (hg : Gl X "zip") (hm : X.mg "zip" = none) (ha : QE X C W e ga) (hb : QE X C W e2 gb) (hs : starEach [e, e2] X.env = (false, eval e X.env) :: starEach [e2] X.env := by rfl) (hs2 : starEach [e2] X.env = (false, eval e2 X.env) :: starEach [] X.env := by rfl)
    (hpl : (backTo pos2 (starEach [e2] X.env)).any (·.1) = false := by rfl) (na : starEach [Expr.Call (.Name "zip" p2) [e, e2] [] pos2] X.env = (false, eval (Expr.Call (.Name "zip" p2) [e, e2] [] pos2) X.env) :: starEach [] X.env := by rfl) :
    QE X C W (.Call (.Name "list" p) [.Call (.Name "zip" p2) [e, e2] [] pos2] [] pos) (gLzip own ga gb) := by
  obtain ⟨ta, pa, qa⟩ := ha
  obtain ⟨tb, pb, qb⟩ := hb
  refine ⟨fun σ H Q => ta σ H fun v H1 => tb σ H1 fun u H2 => ∃ (S1 S2 : Src) (xs ys : List V), v = .ref S1.addr ∧ u = .ref S2.addr ∧ S1.here X.K H2 xs ∧ S2.here X.K H2 ys ∧ min xs.length ys.length ≤ sizeLine ∧ ∀ (H' : Hp) (Ts : List Addr) (q : Addr), Laid H2 (xs.zip ys) Ts H' → H' q = none → Q (.ref q) (upd H' q (.lst (Ts.map V.ref))), ⟨fun pins s σ H Q I h => ?_⟩,
    fun σ H Z ι Γ M Q sl hr h => qa σ H Z ι Γ M _ sl hr (Post.bind h fun x M1 v H1 Z1 ι1 e1 hr1 r1 h1 => qb σ H1 Z1 ι1 Γ M1 _ (sl.ext e1) hr1 (h1.bind fun y M2 u H2 Z2 ι2 e2 hr2 r2 h2 => ?_))⟩
  · refine Call_ (ld_blt I hgl hml boot_list (PyProof.Rows.callWith_type1 (args_cons (thn (Call_ (ld_blt I hg hm boot_zip (PyProof.Rows.callWith_type1 (thn ((pa_cons pa (pa_cons pb pa_nil hs2) hs).run pos2 pins s σ H (fun vs H1 => ∃ v u, vs = [v, u] ∧ ∃ (S1 S2 : Src) (xs ys : List V), v = .ref S1.addr ∧ u = .ref S2.addr ∧ S1.here X.K H1 xs ∧ S2.here X.K H1 ys ∧ min xs.length ys.length ≤ sizeLine ∧ ∀ (H' : Hp) (Ts : List Addr) (q : Addr), Laid H1 (xs.zip ys) Ts H' → H' q = none → Q (.ref q) (upd H' q (.lst (Ts.map V.ref)))) I ?_) fun us s1 hh => ?_) hs hpl)))
      fun z s1 (hz : ∃ (pins' : Unit) (N : Nat) (S1 S2 : Src) (xs ys : List V) (its1 its2 : List Value) (H1 : Hp), z = .ref (N + 4) ∧ Inv X pins σ H1 s1 ∧ Vals xs its1 ∧ Vals ys its2 ∧ S1.addr < N ∧ S2.addr < N ∧ min xs.length ys.length ≤ sizeLine ∧ (∀ b ∈ [N + 4, N + 2, N + 3, N, N + 1], FpOk X pins H1 b) ∧ IsZip s1.heap (N + 4) (N + 2) (N + 3) .none ∧ IsTupOf2 s1.heap (N + 2) (.ref N) (.ref (N + 1)) ∧ (∃ a1 a2, IsTupOf2 s1.heap (N + 3) a1 a2) ∧ S1.it s1.heap N 0 ∧ S2.it s1.heap (N + 1) 0 ∧ S1.arr s1.heap its1.toArray ∧ S2.arr s1.heap its2.toArray ∧
        ∀ (H' : Hp) (Ts : List Addr) (q : Addr), Laid H1 (xs.zip ys) Ts H' → H' q = none → Q (.ref q) (upd H' q (.lst (Ts.map V.ref)))) => args_nil ?_) na) na))
    · have hmono : (fun x H1 => tb σ H1 fun y H2 => tNil σ H2 fun ys H3 => ∃ v u, x :: y :: ys = [v, u] ∧ ∃ (S1 S2 : Src) (xs zs : List V), v = .ref S1.addr ∧ u = .ref S2.addr ∧ S1.here X.K H3 xs ∧ S2.here X.K H3 zs ∧ min xs.length zs.length ≤ sizeLine ∧ ∀ (H' : Hp) (Ts : List Addr) (q : Addr), Laid H3 (xs.zip zs) Ts H' → H' q = none → Q (.ref q) (upd H' q (.lst (Ts.map V.ref)))) =
          fun (v : V) (H1 : Hp) => tb σ H1 fun u H2 => ∃ (S1 S2 : Src) (xs ys : List V), v = .ref S1.addr ∧ u = .ref S2.addr ∧ S1.here X.K H2 xs ∧ S2.here X.K H2 ys ∧ min xs.length ys.length ≤ sizeLine ∧ ∀ (H' : Hp) (Ts : List Addr) (q : Addr), Laid H2 (xs.zip ys) Ts H' → H' q = none → Q (.ref q) (upd H' q (.lst (Ts.map V.ref))) := by
        funext x H1
        congr 1
        funext y H2
        apply propext
        constructor
        · rintro ⟨v, u, ev, q⟩
          cases ev
          exact q
        · intro q
          exact ⟨x, y, rfl, q⟩
      show ta σ H fun x H1 => tb σ H1 fun y H2 => tNil σ H2 fun ys H3 => ∃ v u, x :: y :: ys = [v, u] ∧ ∃ (S1 S2 : Src) (xs zs : List V), v = .ref S1.addr ∧ u = .ref S2.addr ∧ S1.here X.K H3 xs ∧ S2.here X.K H3 zs ∧ min xs.length zs.length ≤ sizeLine ∧ ∀ (H' : Hp) (Ts : List Addr) (q : Addr), Laid H3 (xs.zip zs) Ts H' → H' q = none → Q (.ref q) (upd H' q (.lst (Ts.map V.ref)))
      rw [hmono]
      exact h
    · obtain ⟨vs, H1, J, r1, v, u, rfl, S1, S2, xs, ys, rfl, rfl, hq1, hq2, hl, q⟩ := hh
      obtain ⟨u1, u2, rfl, ru, ru2⟩ := Vals.two r1
      cases ru
      cases ru2
      obtain ⟨its1, rv1, har1⟩ := Src.inv J hq1
      obtain ⟨its2, rv2, har2⟩ := Src.inv J hq2
      refine zip_begins2 (S1.begins its1.toArray) (S2.begins its2.toArray) har1 har2 fun h' hz hTI hTO hi1 hi2 hsz hk => ?_
      have J2 : Inv X pins σ H1 { s1 with heap := h' } := J.kept (t' := s1.toks) hk
      refine ⟨(), s1.heap.objs.size, S1, S2, xs, ys, its1, its2, H1, rfl, J2, rv1, rv2, Src.arr_lt har1, Src.arr_lt har2, hl, fun b hb => ?_, hz, hTI, ⟨_, _, hTO⟩, Src.start hi1, Src.start hi2, ?_, ?_, q⟩
      · have e' : b = s1.heap.objs.size + 4 ∨ b = s1.heap.objs.size + 2 ∨ b = s1.heap.objs.size + 3 ∨ b = s1.heap.objs.size ∨ b = s1.heap.objs.size + 1 := by simpa using hb
        have le : s1.heap.objs.size ≤ b := by
          rcases e' with z | z | z | z | z
          · rw [z]; exact Nat.le_add_right _ _
          · rw [z]; exact Nat.le_add_right _ _
          · rw [z]; exact Nat.le_add_right _ _
          · rw [z]; exact Nat.le_refl _
          · rw [z]; exact Nat.le_add_right _ _
        exact J.fpOk le (J.hok.fresh le)
      · cases S1 with
        | l a => exact Heap.IsList.at har1 fun o e => hk _ _ e
        | t a => exact Heap.IsTuple.at har1 fun o e => hk _ _ e
      · cases S2 with
        | l a => exact Heap.IsList.at har2 fun o e => hk _ _ e
        | t a => exact Heap.IsTuple.at har2 fun o e => hk _ _ e
    · obtain ⟨_, N, S1, S2, xs, ys, its1, its2, H1, rfl, J, rv1, rv2, lt1, lt2, hl, hf, hz, hTI, hTO, t1, t2, r1, r2, q⟩ := hz
      exact zl_call (J.ok.hd hc) rv1 rv2 lt1 lt2 hl J hf hz hTI hTO t1 t2 r1 r2 q
  · obtain ⟨items, M3, hd, h3⟩ : ∃ ds M3, opR (zipO x y) M2 = .ok ds M3 ∧ Post X C W (rpE X.K) σ H2 Z2 ι2 M2 (if ds.length ≤ sizeLine then (if own = true then .ok (.ref M3.length) (M3 ++ [.lst ds]) else .ok (.lst ds) M3) else .bad) Q := by
      cases ez : zipO x y with
      | none =>
        have h2' : Post X C W (rpE X.K) σ H2 Z2 ι2 M2 ((opR (zipO x y) M2).bind fun ds M3 => if ds.length ≤ sizeLine then (if own = true then .ok (.ref M3.length) (M3 ++ [.lst ds]) else .ok (.lst ds) M3) else .bad) Q := h2
        rw [ez] at h2'
        exact h2'.elim
      | some ds =>
        have h2' : Post X C W (rpE X.K) σ H2 Z2 ι2 M2 ((opR (zipO x y) M2).bind fun ds M3 => if ds.length ≤ sizeLine then (if own = true then .ok (.ref M3.length) (M3 ++ [.lst ds]) else .ok (.lst ds) M3) else .bad) Q := h2
        rw [ez] at h2'
        exact ⟨ds, M2, rfl, h2'⟩
    have e3 : M3 = M2 := opR_ok hd
    subst e3
    have hd' : zipO x y = some items := by
      cases ez : zipO x y with
      | none => rw [ez] at hd; cases hd
      | some ds => rw [ez] at hd; cases hd; rfl
    by_cases c : items.length ≤ sizeLine
    · rw [if_pos c] at h3
      unfold zipO at hd'
      cases es : seqD x with
      | none => rw [es] at hd'; cases hd'
      | some ds =>
        cases et : seqD y with
        | none => rw [es, et] at hd'; cases hd'
        | some dt =>
          rw [es, et] at hd'
          cases hd'
          obtain ⟨S1, xs, rfl, hS1, q1⟩ := src_of hr2.sub (r1.ext e2) es
          obtain ⟨S2, ys, rfl, hS2, q2⟩ := src_of hr2.sub r2 et
          have hl : min xs.length ys.length ≤ sizeLine := by rw [← q1.length, ← q2.length, ← zipL_len]; exact c
          refine ⟨S1, S2, xs, ys, rfl, rfl, here_sub hr2.sub hS1, here_sub hr2.sub hS2, hl, fun H' Ts q L hq => ?_⟩
          obtain ⟨Z3, hr3, e3, r3⟩ := L.read (dps := ds.zip dt) hr2 (by rw [List.length_zip, List.length_zip, q1.length, q2.length]) fun i dp vp a b => by
            rw [List.getElem?_zip_eq_some] at a b
            obtain ⟨v1, a1, a2⟩ := q1.get a.1
            obtain ⟨v2, b1, b2⟩ := q2.get a.2
            rw [b.1] at a1
            rw [b.2] at b1
            cases a1
            cases b1
            exact ⟨a2, b2⟩
          rw [← zipL_map] at r3
          by_cases ho : own = true
          · rw [if_pos ho] at h3
            obtain ⟨hr4, e4⟩ := hr3.owned hq r3
            have qq : Rp X.K Z3 (put ι2 M3.length q) (M3 ++ [MO.lst (zipL ds dt)]).length (.ref M3.length) (.ref (put ι2 M3.length q M3.length)) := .ref (by simp)
            rw [put_at] at qq
            exact h3 _ _ _ _ (e3.trans e4 hr3.ali) hr4 qq
          · rw [if_neg ho] at h3
            exact ((h3.shift e3 hr3).after).lst hr3 r3 q hq
    · rw [if_neg c] at h3
      exact h3.elim
end
end Bk

set_option Elab.async false
set_option linter.all false
set_option maxRecDepth 100000
set_option maxHeartbeats 2000000
namespace Bk
open PySem PySem.Spec PyProof.Rows L2
/-! ### a, b = x, y -/
def gPar2 (i j : Nat) (gs : GA) : GS := fun Γ M => (gs Γ M).thenS Γ fun ds M1 => match ds with
  | [d, e] => .nx ((Γ.set i (some d)).set j (some e)) M1
  | _ => .bad
def gPar3 (i j l : Nat) (gs : GA) : GS := fun Γ M => (gs Γ M).thenS Γ fun ds M1 => match ds with
  | [d, e, f] => .nx (((Γ.set i (some d)).set j (some e)).set l (some f)) M1
  | _ => .bad
section
variable {X : Cx} {C : CT} {W : WX} {gs : GA}
theorem rps3 {K : PySem.W.Frag} {Z : Hp} {ι : Nat → Addr} {n : Nat} {d e f : D} {vs : List V} (r : Rps K Z ι n [d, e, f] vs) : ∃ v u w, vs = [v, u, w] ∧ Rp K Z ι n d v ∧ Rp K Z ι n e u ∧ Rp K Z ι n f w := by
  cases r with
  | cons r1 r => obtain ⟨u, w, rfl, r2, r3⟩ := rps2 r; exact ⟨_, _, _, rfl, r1, r2, r3⟩
theorem qs_par2 (i j : Nat) {x y : Str} {a b : Expr} {px py pt pos : Pos} {kt k2 : Nat} {pt2 : Pos} (hc : X.calm = true) (hN : X.N.Nodup) (ha : QA X C W [a, b] gs) (hij : i ≠ j := by decide) (hi : X.N[i]? = some x := by rfl) (hj : X.N[j]? = some y := by rfl)
    (hx : X.env.scope.names.lookup x = some .local := by rfl) (hy : X.env.scope.names.lookup y = some .local := by rfl)
    (hw : swappedStores [.Tuple [.Name x px, .Name y py] kt pt] (.Tuple [a, b] k2 pt2) X.env = pure (some [x, y]) := by rfl)
    (hs : swapsWithSole [.Tuple [.Name x px, .Name y py] kt pt] (.Tuple [a, b] k2 pt2) pos.line X.env = pure false := by rfl) :
    QS X C W (.Assign [.Tuple [.Name x px, .Name y py] kt pt] (.Tuple [a, b] k2 pt2) pos) (gPar2 i j gs) := by
  obtain ⟨ta, pa, qa⟩ := ha
  refine ⟨_, ps_par hc hN hi hj hij hx hy pa hw hs, fun Dd σ H Z ι Γ M sl hr h => qa σ H Z ι Γ M _ sl hr (PostS.bind h sl fun ds M1 vs H1 Z1 ι1 e1 hr1 r1 h1 => ?_)⟩
  match ds, h1, r1 with
  | [d, e], h1, r1 =>
    obtain ⟨v, u, rfl, q1, q2⟩ := rps2 r1
    exact ⟨v, u, rfl, h1 _ H1 Z1 ι1 .refl hr1 (((sl.ext e1).set i q1).set j q2)⟩
theorem qs_par3 (i j l : Nat) {x y z : Str} {a b c : Expr} {px py pz pt pos : Pos} {kt k2 : Nat} {pt2 : Pos} (hc : X.calm = true) (hN : X.N.Nodup) (ha : QA X C W [a, b, c] gs) (hij : i ≠ j := by decide) (hil : i ≠ l := by decide) (hjl : j ≠ l := by decide) (hi : X.N[i]? = some x := by rfl) (hj : X.N[j]? = some y := by rfl) (hl : X.N[l]? = some z := by rfl)
    (hx : X.env.scope.names.lookup x = some .local := by rfl) (hy : X.env.scope.names.lookup y = some .local := by rfl) (hz : X.env.scope.names.lookup z = some .local := by rfl)
    (hw : swappedStores [.Tuple [.Name x px, .Name y py, .Name z pz] kt pt] (.Tuple [a, b, c] k2 pt2) X.env = pure (some [x, y, z]) := by rfl)
    (hs : swapsWithSole [.Tuple [.Name x px, .Name y py, .Name z pz] kt pt] (.Tuple [a, b, c] k2 pt2) pos.line X.env = pure false := by rfl) :
    QS X C W (.Assign [.Tuple [.Name x px, .Name y py, .Name z pz] kt pt] (.Tuple [a, b, c] k2 pt2) pos) (gPar3 i j l gs) := by
  obtain ⟨ta, pa, qa⟩ := ha
  refine ⟨_, ps_par3 hc hN hi hj hl hij hil hjl hx hy hz pa hw hs, fun Dd σ H Z ι Γ M sl hr h => qa σ H Z ι Γ M _ sl hr (PostS.bind h sl fun ds M1 vs H1 Z1 ι1 e1 hr1 r1 h1 => ?_)⟩
  match ds, h1, r1 with
  | [d, e, f], h1, r1 =>
    obtain ⟨v, u, w, rfl, q1, q2, q3⟩ := rps3 r1
    exact ⟨v, u, w, rfl, h1 _ H1 Z1 ι1 .refl hr1 ((((sl.ext e1).set i q1).set j q2).set l q3)⟩
end
@[simp] theorem u_gPar2 (i j : Nat) (gs : GA) (Γ : Env) (M : List MO) : gPar2 i j gs Γ M = (gs Γ M).thenS Γ fun ds M1 => (match ds with
  | [d, e] => .nx ((Γ.set i (some d)).set j (some e)) M1
  | _ => .bad) := Eq.trans rfl rfl
@[simp] theorem u_gPar3 (i j l : Nat) (gs : GA) (Γ : Env) (M : List MO) : gPar3 i j l gs Γ M = (gs Γ M).thenS Γ fun ds M1 => (match ds with
  | [d, e, f] => .nx (((Γ.set i (some d)).set j (some e)).set l (some f)) M1
  | _ => .bad) := Eq.trans rfl rfl
@[simp] theorem u_gLzip (own : Bool) (ga gb : GE) (Γ : Env) (M : List MO) : gLzip own ga gb Γ M = (ga Γ M).bind fun x M1 => (gb Γ M1).bind fun y M2 => (opR (zipO x y) M2).bind fun ds M3 => if ds.length ≤ sizeLine then (if own = true then .ok (.ref M3.length) (M3 ++ [.lst ds]) else .ok (.lst ds) M3) else .bad := Eq.trans rfl rfl
end Bk

set_option Elab.async false
set_option linter.all false
set_option maxRecDepth 100000
set_option maxHeartbeats 4000000
namespace Bk
open PySem PySem.Spec PyProof.Rows L2
/-! ### tuple * int, any count up to a thousand -/
theorem tuple_mul1 (l : Addr) (items : Array Value) (n : Nat) (dd : Option Addr) (sl : Array (Option Value)) (u : Tok) :
    Meets (Builtin.«tuple.__mul__» ⟨[.ref l, .int 1 u], []⟩) (fun _ R s => s.heap.get? l = some { cls := .type "tuple", dict := dd, data := .seq items n, slots := sl } ∧ R (.ok (.ret (Value.ref l))) s) :=
  .of_wp fun prog w A R s h => by
    obtain ⟨hp, g, d, tk, os⟩ := s
    obtain ⟨hl, h⟩ := h
    have f1 := AutoSeq1.idx_int
    have c0 : (decide ((1 : Int) < -(2 ^ 63)) || decide ((1 : Int) ≥ 2 ^ 63)) = false := by decide
    have c1 : (items.isEmpty || (1 : Int) == 1) = true := by simp
    wp_walk using wpAny_loadPart' hl
    repeat (first
      | (refine wpAny_ite_false (decide_eq_false (by rw [c0]; exact Bool.false_ne_true)) ?_; wp_walk using wpAny_loadPart' hl)
      | (refine wpAny_ite_true (decide_eq_true c1) ?_; wp_walk using wpAny_loadPart' hl))
    exact ⟨_, rfl, h⟩
theorem tuple_mul0 (l : Addr) (items : Array Value) (n : Nat) (dd : Option Addr) (sl : Array (Option Value)) (x : Int) (u : Tok) (c0 : (decide (x < -(2 ^ 63)) || decide (x ≥ 2 ^ 63)) = false) (c1 : (items.isEmpty || x == 1) = false) (c2 : (decide (x ≤ 0) || items.isEmpty) = true) :
    Meets (Builtin.«tuple.__mul__» ⟨[.ref l, .int x u], []⟩) (fun _ R s => s.heap.get? l = some { cls := .type "tuple", dict := dd, data := .seq items n, slots := sl } ∧
      R (.ok (.ret (Value.ref s.heap.objs.size))) { s with heap := s.heap.push { cls := Value.type "tuple", data := Data.seq #[] }, toks := s.toks }) :=
  .of_wp fun prog w A R s h => by
    obtain ⟨hp, g, d, tk, os⟩ := s
    obtain ⟨hl, h⟩ := h
    have f1 := AutoSeq1.idx_int
    wp_walk using wpAny_loadPart' hl
    repeat (first
      | (refine wpAny_ite_false (decide_eq_false (by rw [c0]; exact Bool.false_ne_true)) ?_; wp_walk using wpAny_loadPart' hl)
      | (refine wpAny_ite_false (decide_eq_false (by rw [c1]; exact Bool.false_ne_true)) ?_; wp_walk using wpAny_loadPart' hl)
      | (refine wpAny_ite_true (decide_eq_true c2) ?_; wp_walk using wpAny_loadPart' hl))
    exact ⟨_, rfl, h⟩
def rRepTA (K : PySem.W.Frag) : R2 := fun x y H Q => ∃ l k xs, x = .ref l ∧ y = .int k ∧ SqT K H l xs ∧ xs ≠ [] ∧ -1000 ≤ k ∧ k ≤ 1000 ∧ xs.length ≤ 1000 ∧ (k = 1 → Q (.ref l) H) ∧ (k ≠ 1 → ∀ p, H p = none → Q (.ref p) (upd H p (.tup (List.replicate k.toNat xs).flatten)))
section
variable {X : Cx}
theorem op_repTA : OpR X (binaryOp .Mult) (rRepTA X.K) := by
  intro pins s σ H x y v u Q I rx ry h
  obtain ⟨l, k, xs, rfl, rfl, hT, hne, h0, h1, hz, q1, q⟩ := h
  by_cases h2 : 2 ≤ k
  · exact op_repT pins s σ H _ _ v u Q I rx ry ⟨l, k, xs, rfl, rfl, hT, hne, h2, h1, hz, q (by omega)⟩
  cases rx
  obtain ⟨t, rfl⟩ := ry
  obtain ⟨its, r, ⟨⟨cls, dd, data, sl⟩, ho, hc, n, hd⟩, hs⟩ := I.tuple hT
  simp only at hc hd
  subst hc hd
  have hle : its.length = xs.length := r.length.symm
  have hn : its ≠ [] := fun e => hne (List.eq_nil_of_length_eq_zero (by rw [← hle, e]; rfl))
  have hi : its.toArray.isEmpty = false := by
    cases its with
    | nil => exact absurd rfl hn
    | cons a b => rfl
  by_cases e1 : k = 1
  · subst e1
    exact wpAny_binaryOp_repeat_ref (T := "tuple") (U := "int") (by decide) ⟨_, ho, rfl⟩ (fun s' => typeIs_int s' 1 t) noFill_tuple_mul F.fills_int_mul F.slot_int_rmul repeat_tuple F.slot_int_index.lookup
      (call_meets F.slot_int_rmul (typeIs_int s 1 t) F.entry_int_rmul (F.args_int_rmul_2 _ _) (int_rmul_tuple 1 t l its.toArray n dd sl) ⟨ho, rfl, ⟨_, ho, rfl⟩, call_meets F.slot_tuple_mul ⟨_, ho, rfl⟩ F.entry_tuple_mul (F.args_tuple_mul_2 _ _) (tuple_mul1 l its.toArray n dd sl t) ⟨ho, ⟨.ref l, H, I, rfl, q1 rfl⟩⟩⟩)
  · have c0 : (decide (k < -(2 ^ 63)) || decide (k ≥ 2 ^ 63)) = false := by
      rw [decide_eq_false (by omega), decide_eq_false (by omega)] <;> rfl
    have c1 : (its.toArray.isEmpty || k == 1) = false := by
      rw [hi, Bool.false_or]; exact beq_eq_false_iff_ne.mpr e1
    have c2 : (decide (k ≤ 0) || its.toArray.isEmpty) = true := by
      rw [hi, Bool.or_false]; exact decide_eq_true (by omega)
    have z : (List.replicate k.toNat xs).flatten = [] := by
      have : k.toNat = 0 := by omega
      rw [this]; rfl
    rw [z] at q
    refine wpAny_binaryOp_repeat_ref (T := "tuple") (U := "int") (by decide) ⟨_, ho, rfl⟩ (fun s' => typeIs_int s' k t) noFill_tuple_mul F.fills_int_mul F.slot_int_rmul repeat_tuple F.slot_int_index.lookup
      (call_meets F.slot_int_rmul (typeIs_int s k t) F.entry_int_rmul (F.args_int_rmul_2 _ _) (int_rmul_tuple k t l its.toArray n dd sl) ⟨ho, rfl, ⟨_, ho, rfl⟩, call_meets F.slot_tuple_mul ⟨_, ho, rfl⟩ F.entry_tuple_mul (F.args_tuple_mul_2 _ _) (tuple_mul0 l its.toArray n dd sl k t c0 c1 c2) ⟨ho, ?_⟩⟩)
    exact ⟨.ref s.heap.objs.size, _, I.laid (t' := s.toks) (o := .tup []) (fun b ob q => Heap.get?_push_of_some _ q) (Nat.le_refl _) ⟨by decide, [], .nil, IsTup.new _ _⟩, rfl, q e1 _ (I.hok.fresh (Nat.le_refl _))⟩
def dMulT (M : List MO) (x : D) (y : D) : Option D := match x, y with
  | .tup ds, .int k => if (decide (ds ≠ []) && decide (-1000 ≤ k) && decide (k ≤ 1000) && decide (ds.length ≤ 1000)) = true then some (.tup (List.replicate k.toNat ds).flatten) else none
  | x, y => dMulA M x y
theorem op_mulT : OpR X (binaryOp .Mult) (fun x y H Q => rMulA X.K x y H Q ∨ rRepTA X.K x y H Q) := op_mulL.or op_repTA
theorem ok_mulT : Ok2 X (fun x y H Q => rMulA X.K x y H Q ∨ rRepTA X.K x y H Q) dMulT := fun x y H Z ι M dx dy d Q hr rx ry e q => by
  unfold dMulT at e
  split at e
  · rename_i ds k
    split at e
    · rename_i c
      cases e
      simp only [Bool.and_eq_true, decide_eq_true_eq] at c
      obtain ⟨⟨⟨c1, c2⟩, c3⟩, c4⟩ := c
      cases ry
      cases rx with
      | tup s r =>
        have r' := r.rep k.toNat
        refine .inr ⟨_, k, _, rfl, rfl, subT hr.sub s, fun z => c1 ?_, c2, c3, by rw [← r.length]; exact c4, fun e1 => ?_, fun _ => ?_⟩
        · have := r.length
          rw [z] at this
          exact List.eq_nil_of_length_eq_zero this
        · subst e1
          refine q.now hr (.tup s ?_)
          simpa using r
        · exact q.tup hr r'
    · cases e
  · exact .inl (ok_mulL x y H Z ι M dx dy d Q hr rx ry e q)
end
@[simp] theorem e_mulT (M : List MO) (d : D) (ds : List D) (k : Int) (h1 : -1000 ≤ k) (h2 : k ≤ 1000) (h3 : ds.length < 1000) : dMulT M (.tup (d :: ds)) (.int k) = some (.tup (List.replicate k.toNat (d :: ds)).flatten) := by
  have : (d :: ds).length ≤ 1000 := by rw [List.length_cons]; omega
  simp only [dMulT]
  rw [if_pos]
  simp [h1, h2]
  omega
@[simp] theorem e_mulTi (M : List MO) (i : Int) (y : D) : dMulT M (.int i) y = dMulA M (.int i) y := Eq.trans rfl rfl
@[simp] theorem e_mulTl (M : List MO) (ds : List D) (y : D) : dMulT M (.lst ds) y = dMulA M (.lst ds) y := Eq.trans rfl rfl
theorem e_mulI {i j : Int} (M : List MO) (h : mulOk i j = true) : dMulT M (.int i) (.int j) = some (.int (i * j)) := e_mul M h
theorem e_mulL (M : List MO) (ds : List D) (k : Int) (h1 : -(2 ^ 63) ≤ k) (h2 : k < 2 ^ 63) (h3 : ds.length * k.toNat ≤ sizeLine) : dMulA M (.lst ds) (.int k) = some (.lst (List.replicate k.toNat ds).flatten) := by
  show repI M (.lst ds) (.int k) = _
  simp only [repI, listD]
  rw [if_pos]
  simp only [Bool.and_eq_true, decide_eq_true_eq]
  exact ⟨⟨h2, h1⟩, h3⟩
end Bk

set_option Elab.async false
set_option linter.all false
set_option maxRecDepth 100000
set_option maxHeartbeats 2000000
namespace Bk
open PySem PySem.Spec PyProof.Rows L2
theorem pure_chain {f f' : List MO → D → D → Option D} {ga gb gc : GE} (h1 : Pure ga) (h2 : Pure gb) (h3 : Pure gc) : Pure (gChain f f' ga gb gc) := fun Γ M d M' h => by
  obtain ⟨a, M1, e1, h⟩ := R.bind_ok h
  obtain ⟨b, M2, e2, h⟩ := R.bind_ok h
  obtain ⟨k, M3, e3, h⟩ := R.bind_ok h
  have z := opR_ok e3
  have z2 := h2 _ _ _ _ e2
  have z1 := h1 _ _ _ _ e1
  split at h
  · split at h
    · obtain ⟨c, M4, e4, h⟩ := R.bind_ok h
      rw [opR_ok h, h3 _ _ _ _ e4, z, z2, z1]
    · cases h
      rw [z, z2, z1]
  · cases h
theorem lcL_cons {gg : GG} {ge : GE} {d y : D} {ds acc : List D} {Γ Γ1 : Env} {M M2 : List MO} (h1 : gg d Γ = some Γ1) (h2 : ge Γ1 M = .ok y M2) (q : acc.length < sizeLine) : gLcL gg gYes ge Γ (d :: ds) acc M = gLcL gg gYes ge Γ ds (acc ++ [y]) M2 := by
  simp [gLcL, h1, h2, q]
theorem lcL_nil {gg : GG} {gt : GT} {ge : GE} {acc : List D} {Γ : Env} {M : List MO} : gLcL gg gt ge Γ [] acc M = .ok acc M := by simp [gLcL]
theorem lcL_take {gg : GG} {gt : GT} {ge : GE} {d y : D} {ds acc : List D} {Γ Γ1 : Env} {M M1 M2 : List MO} (h1 : gg d Γ = some Γ1) (ht : gt Γ1 M = .ok true M1) (h2 : ge Γ1 M1 = .ok y M2) (q : acc.length < sizeLine) : gLcL gg gt ge Γ (d :: ds) acc M = gLcL gg gt ge Γ ds (acc ++ [y]) M2 := by
  simp [gLcL, h1, ht, h2, q]
theorem lcL_skip {gg : GG} {gt : GT} {ge : GE} {d : D} {ds acc : List D} {Γ Γ1 : Env} {M M1 : List MO} (h1 : gg d Γ = some Γ1) (ht : gt Γ1 M = .ok false M1) : gLcL gg gt ge Γ (d :: ds) acc M = gLcL gg gt ge Γ ds acc M1 := by
  simp [gLcL, h1, ht]
/-- a list made item by item -/
theorem lcL_run {α : Type} {gg : GG} {ge : GE} {Γ : Env} {M : List MO} (f : α → D) (g : α → D) : ∀ (xs : List α) (acc : List D), acc.length + xs.length ≤ sizeLine → (∀ x ∈ xs, ∃ Γ1, gg (f x) Γ = some Γ1 ∧ ge Γ1 M = .ok (g x) M) → gLcL gg gYes ge Γ (xs.map f) acc M = .ok (acc ++ xs.map g) M
  | [], acc, _, _ => by simp [gLcL]
  | x :: xs, acc, h, hf => by
    obtain ⟨Γ1, h1, h2⟩ := hf x (by simp)
    simp only [List.length_cons] at h
    have ih := lcL_run (gg := gg) (ge := ge) (Γ := Γ) (M := M) f g xs (acc ++ [g x]) (by simp; omega) fun e he => hf e (by simp [he])
    rw [List.map_cons, lcL_cons h1 h2 (by omega), ih]
    simp
/-- items let go by a test -/
theorem lcL_sel {α : Type} {gg : GG} {gt : GT} {ge : GE} {Γ : Env} {M : List MO} (f : α → D) (g : α → D) (c : α → Bool) : ∀ (xs : List α) (acc : List D), acc.length + xs.length ≤ sizeLine → (∀ x ∈ xs, ∃ Γ1, gg (f x) Γ = some Γ1 ∧ gt Γ1 M = .ok (c x) M ∧ (c x = true → ge Γ1 M = .ok (g x) M)) → gLcL gg gt ge Γ (xs.map f) acc M = .ok (acc ++ (xs.filter c).map g) M
  | [], acc, _, _ => by simp [gLcL]
  | x :: xs, acc, h, hf => by
    obtain ⟨Γ1, h1, h2, h3⟩ := hf x (by simp)
    simp only [List.length_cons] at h
    have hf' : ∀ y ∈ xs, ∃ Γ1, gg (f y) Γ = some Γ1 ∧ gt Γ1 M = .ok (c y) M ∧ (c y = true → ge Γ1 M = .ok (g y) M) := fun e he => hf e (by simp [he])
    cases e : c x with
    | true =>
      have ih := lcL_sel (gg := gg) (gt := gt) (ge := ge) (Γ := Γ) (M := M) f g c xs (acc ++ [g x]) (by simp; omega) hf'
      rw [List.map_cons, lcL_take h1 (by rw [h2, e]) (h3 e) (by omega), ih]
      simp [e]
    | false =>
      have ih := lcL_sel (gg := gg) (gt := gt) (ge := ge) (Γ := Γ) (M := M) f g c xs acc (by omega) hf'
      rw [List.map_cons, lcL_skip h1 (by rw [h2, e]), ih]
      simp [e]
end Bk

set_option Elab.async false
set_option linter.all false
set_option maxRecDepth 100000
set_option maxHeartbeats 2000000
namespace Bk
open PySem PySem.Spec PyProof.Rows L2
/-! ### objects of own classes: a cell of the store, its fields by name -/
def putD (f : Str) (d : D) : List (Str × D) → List (Str × D)
  | [] => [(f, d)]
  | (g, x) :: r => if g = f then (g, d) :: r else (g, x) :: putD f d r
section
variable {K : PySem.W.Frag} {H Z : Hp} {ι : Nat → Addr} {n : Nat}
theorem fld_rp {f : Str} {d : D} : ∀ {fs : List (Str × D)} {gs : List (Str × V)}, gs.map (·.1) = fs.map (·.1) → Rps K Z ι n (fs.map (·.2)) (gs.map (·.2)) → fs.lookup f = some d → ∃ v, gs.lookup f = some v ∧ Rp K Z ι n d v
  | [], _, _, _, h => by simp at h
  | _ :: _, [], e, _, _ => by simp at e
  | (a, x) :: fs, (b, y) :: gs, e, r, h => by
    simp only [List.map_cons, List.cons.injEq] at e
    obtain ⟨e1, e2⟩ := e
    subst e1
    cases r with
    | cons r1 r2 =>
      rw [List.lookup_cons] at h ⊢
      cases hb : f == b with
      | true =>
        rw [hb] at h
        have : x = d := Option.some.inj h
        subst this
        exact ⟨y, rfl, r1⟩
      | false =>
        rw [hb] at h
        exact fld_rp e2 r2 h
theorem fld_no {f : Str} : ∀ {fs : List (Str × D)} {gs : List (Str × V)}, gs.map (·.1) = fs.map (·.1) → fs.lookup f = none → gs.lookup f = none
  | [], [], _, _ => rfl
  | [], _ :: _, e, _ => by simp at e
  | _ :: _, [], e, _ => by simp at e
  | (a, x) :: fs, (b, y) :: gs, e, h => by
    simp only [List.map_cons, List.cons.injEq] at e
    obtain ⟨e1, e2⟩ := e
    subst e1
    rw [List.lookup_cons] at h ⊢
    cases hb : f == b with
    | true => rw [hb] at h; cases h
    | false =>
      rw [hb] at h
      exact fld_no e2 h
theorem put_names (f : Str) (d : D) (v : V) : ∀ {fs : List (Str × D)} {gs : List (Str × V)}, gs.map (·.1) = fs.map (·.1) → (putF f v gs).map (·.1) = (putD f d fs).map (·.1)
  | [], [], _ => rfl
  | [], _ :: _, e => by simp at e
  | _ :: _, [], e => by simp at e
  | (a, x) :: fs, (b, y) :: gs, e => by
    simp only [List.map_cons, List.cons.injEq] at e
    obtain ⟨e1, e2⟩ := e
    subst e1
    unfold putF putD
    by_cases h : b = f
    · rw [if_pos h, if_pos h]
      simp [e2]
    · rw [if_neg h, if_neg h]
      simp [put_names f d v e2]
theorem put_rps {f : Str} {d : D} {v : V} (q : Rp K Z ι n d v) : ∀ {fs : List (Str × D)} {gs : List (Str × V)}, gs.map (·.1) = fs.map (·.1) → Rps K Z ι n (fs.map (·.2)) (gs.map (·.2)) → Rps K Z ι n ((putD f d fs).map (·.2)) ((putF f v gs).map (·.2))
  | [], [], _, _ => .cons q .nil
  | [], _ :: _, e, _ => by simp at e
  | _ :: _, [], e, _ => by simp at e
  | (a, x) :: fs, (b, y) :: gs, e, r => by
    simp only [List.map_cons, List.cons.injEq] at e
    obtain ⟨e1, e2⟩ := e
    subst e1
    cases r with
    | cons r1 r2 =>
      unfold putF putD
      by_cases h : b = f
      · rw [if_pos h, if_pos h]
        exact .cons q r2
      · rw [if_neg h, if_neg h]
        exact .cons r1 (put_rps q e2 r2)
end
section
variable {K : PySem.W.Frag} {H Z : Hp} {ι : Nat → Addr} {M : List MO}
theorem OR.mono {Z' : Hp} {ι' : Nat → Addr} {n n' : Nat} {H' : Hp} {u : MO} {a : Addr} (hz : Sub Z Z') (hi : ∀ k, k < n → ι' k = ι k) (hn : n ≤ n') (hh : ∀ o, H a = some o → H' a = some o) (h : OR K H Z ι n u a) : OR K H' Z' ι' n' u a := by
  cases u with
  | dead => trivial
  | lst ds =>
    obtain ⟨xs, e1, r⟩ := h
    exact ⟨xs, hh _ e1, Rps.mono hz hi hn _ _ r⟩
  | obj nm fs =>
    obtain ⟨C, dx, gs, e0, e1, e2, r⟩ := h
    exact ⟨C, dx, gs, e0, hh _ e1, e2, Rps.mono hz hi hn _ _ r⟩
/-- a cell's thing is changed -/
theorem HR.changeG (h : HR K H Z ι M) {j : Nat} {o' o : MO} {ho : HO} (hj : M[j]? = some o) (hd : o ≠ .dead) (hd' : o' ≠ .dead) (r : OR K (upd H (ι j) ho) Z ι M.length o' (ι j)) :
    HR K (upd H (ι j) ho) Z ι (M.set j o') ∧ Ext H Z ι M.length (upd H (ι j) ho) Z ι (M.set j o').length := by
  have lt : j < M.length := (List.getElem?_eq_some_iff.mp hj).1
  have ln : (M.set j o').length = M.length := List.length_set
  have zj : Z (ι j) = none := h.sep j _ hj hd
  have cs : ∀ {k : Nat} {u : MO}, (M.set j o')[k]? = some u → (k ≠ j ∧ M[k]? = some u) ∨ (k = j ∧ u = o') := fun {k u} e => by
    by_cases hk : k = j
    · subst hk
      rw [List.getElem?_set_self lt] at e
      exact .inr ⟨rfl, (Option.some.inj e).symm⟩
    · rw [List.getElem?_set_ne (Ne.symm hk)] at e
      exact .inl ⟨hk, e⟩
  have apart : ∀ {k : Nat} {u : MO}, k ≠ j → M[k]? = some u → u ≠ .dead → ι k ≠ ι j := fun {k u} hk e d z => hk (h.inj k j u _ e hj d hd z)
  refine ⟨⟨fun a u e => ?_, fun k hk => ?_, fun k u e d => ?_, fun a b o1 u e1 e2 d1 d2 e => ?_, fun k u e => ?_, fun k e => ?_⟩, fun _ _ e => e, fun _ _ => rfl, fun a u e z => ?_, fun k h1 h2 => absurd h2 (by rw [ln]; exact Nat.not_lt.mpr h1), by rw [ln]; exact Nat.le_refl _, fun _ _ e => .inl e⟩
  · rw [upd_ne (ne_of_none e zj)]
    exact h.sub _ _ e
  · rw [ln] at hk
    by_cases e : ι k = ι j
    · exact ⟨_, by rw [e, upd_same]⟩
    · rw [upd_ne e]
      exact h.ali k hk
  · rcases cs e with ⟨hk, e⟩ | ⟨rfl, rfl⟩
    · exact h.sep k u e d
    · exact zj
  · have live : ∀ {k : Nat} {u : MO}, (M.set j o')[k]? = some u → u ≠ .dead → ∃ u', M[k]? = some u' ∧ u' ≠ .dead := fun {k u} e d => by
      rcases cs e with ⟨_, e⟩ | ⟨rfl, rfl⟩
      · exact ⟨u, e, d⟩
      · exact ⟨_, hj, hd⟩
    obtain ⟨o1', e1', d1'⟩ := live e1 d1
    obtain ⟨u', e2', d2'⟩ := live e2 d2
    exact h.inj a b o1' u' e1' e2' d1' d2' e
  · rw [ln]
    rcases cs e with ⟨hk, e⟩ | ⟨rfl, rfl⟩
    · have q := h.obj k u e
      by_cases du : u = .dead
      · subst du
        trivial
      · exact OR.mono (fun _ _ z => z) (fun _ _ => rfl) (Nat.le_refl _) (fun o z => by rw [upd_ne (apart hk e du)]; exact z) q
    · exact r
  · rcases cs e with ⟨_, e⟩ | ⟨_, e⟩
    · exact h.ded k e
    · exact absurd e.symm hd'
  · rw [upd_ne (z j lt)]
    exact e
/-- a new thing of ours -/
theorem HR.ownedG (h : HR K H Z ι M) {p : Addr} {o' : MO} {ho : HO} (hp : H p = none) (hd' : o' ≠ .dead) (r : OR K (upd H p ho) Z (put ι M.length p) (M.length + 1) o' p) :
    HR K (upd H p ho) Z (put ι M.length p) (M ++ [o']) ∧ Ext H Z ι M.length (upd H p ho) Z (put ι M.length p) (M ++ [o']).length := by
  have zp : Z p = none := by
    cases e : Z p with
    | none => rfl
    | some u =>
      rw [h.sub _ _ e] at hp
      cases hp
  have ne : ∀ k, k < M.length → ι k ≠ p := fun k hk e => by
    obtain ⟨u, hu⟩ := h.ali k hk
    rw [e, hp] at hu
    cases hu
  have ii : ∀ k, k < M.length → (put ι M.length p) k = ι k := fun k hk => put_lt hk
  have il : (put ι M.length p) M.length = p := put_at
  have cs : ∀ {k : Nat} {u : MO}, (M ++ [o'])[k]? = some u → (k < M.length ∧ M[k]? = some u) ∨ (k = M.length ∧ u = o') := fun {k u} e => by
    by_cases hk : k < M.length
    · rw [List.getElem?_append_left hk] at e
      exact .inl ⟨hk, e⟩
    · rw [List.getElem?_append_right (Nat.le_of_not_lt hk)] at e
      by_cases hz : k - M.length = 0
      · rw [hz] at e
        exact .inr ⟨by omega, (Option.some.inj e).symm⟩
      · rw [List.getElem?_eq_none (by simp; omega)] at e
        cases e
  have ln : (M ++ [o']).length = M.length + 1 := by simp
  refine ⟨⟨fun a u e => ?_, fun k hk => ?_, fun k u e d => ?_, fun j k o u e1 e2 d1 d2 e => ?_, fun k u e => ?_, fun k e => ?_⟩, fun _ _ e => e, ii, fun a u e _ => ?_, fun k h1 h2 => ?_, by rw [ln]; omega, fun _ _ e => .inl e⟩
  · rw [upd_ne (ne_of_none e zp)]
    exact h.sub _ _ e
  · rw [ln] at hk
    by_cases hk' : k < M.length
    · rw [ii k hk', upd_ne (ne k hk')]
      exact h.ali k hk'
    · have : k = M.length := by omega
      subst this
      exact ⟨_, by rw [il, upd_same]⟩
  · rcases cs e with ⟨hk, e⟩ | ⟨rfl, rfl⟩
    · rw [ii k hk]
      exact h.sep k u e d
    · rw [il]
      exact zp
  · rcases cs e1 with ⟨hj, e1⟩ | ⟨rfl, rfl⟩ <;> rcases cs e2 with ⟨hk, e2⟩ | ⟨rfl, rfl⟩
    · rw [ii j hj, ii k hk] at e
      exact h.inj j k o u e1 e2 d1 d2 e
    · rw [ii j hj, il] at e
      exact absurd e (ne j hj)
    · rw [ii k hk, il] at e
      exact absurd e.symm (ne k hk)
    · rfl
  · rcases cs e with ⟨hk, e⟩ | ⟨rfl, rfl⟩
    · rw [ii k hk]
      exact OR.mono (fun _ _ z => z) ii (by rw [ln]; omega) (fun o z => by rw [upd_ne (ne k hk)]; exact z) (h.obj k u e)
    · rw [il, ln]
      exact r
  · rcases cs e with ⟨hk, e⟩ | ⟨_, e⟩
    · rw [ii k hk]
      exact h.ded k e
    · exact absurd e.symm hd'
  · rw [upd_ne (ne_of_none e hp)]
    exact e
  · rw [ln] at h2
    have : k = M.length := by omega
    subst this
    rw [il]
    exact hp
/-- the same thing, told in another way -/
theorem HR.retell (h : HR K H Z ι M) {j : Nat} {o' o : MO} (hj : M[j]? = some o) (hd : o ≠ .dead) (hd' : o' ≠ .dead) (r : OR K H Z ι M.length o' (ι j)) : HR K H Z ι (M.set j o') ∧ Ext H Z ι M.length H Z ι (M.set j o').length := by
  have lt : j < M.length := (List.getElem?_eq_some_iff.mp hj).1
  obtain ⟨u, hu⟩ := h.ali j lt
  have e : upd H (ι j) u = H := by
    funext a
    by_cases z : a = ι j
    · rw [z, upd_same, hu]
    · rw [upd_ne z]
  have := h.changeG (o' := o') (ho := u) hj hd hd' (by rw [e]; exact r)
  rw [e] at this
  exact this
end
/-! ### what the rules of objects compute -/
def gFld (nm f : Str) (ge : GE) : GE := fun Γ M => (ge Γ M).bind fun x M1 => match x with
  | .ref k => match M1[k]? with
    | some (.obj nm' fs) => if nm' = nm then opR (fs.lookup f) M1 else .bad
    | _ => .bad
  | _ => .bad
def gSetF (nm f : Str) (ge go : GE) : GS := fun Γ M => (ge Γ M).thenS Γ fun d M1 => (go Γ M1).thenS Γ fun x M2 => match x with
  | .ref k => match M2[k]? with
    | some (.obj nm' fs) => if nm' = nm ∧ fs.length < 1000 then .nx Γ (M2.set k (.obj nm (putD f d fs))) else .bad
    | _ => .bad
  | _ => .bad
def isObj (nm m : Str) (M : List MO) : D → Bool
  | .ref k => match M[k]? with
    | some (.obj nm' fs) => decide (nm' = nm) && (fs.lookup m).isNone
    | _ => false
  | _ => false
def gMeth (nm m : Str) (n : Nat) (F : List D → List MO → R D) (go : GE) (ga : GA) : GE := fun Γ M => (go Γ M).bind fun x M1 => if isObj nm m M1 x = true then (ga Γ M1).bind fun ds M2 => if ds.length + 1 = n then callF F (x :: ds) M2 else .bad else .bad
def newR (m : Nat) : D → List MO → R D
  | .non, M => .ok (.ref m) M
  | _, _ => .bad
def gNew (nm : Str) (n : Nat) (F : List D → List MO → R D) (ga : GA) : GE := fun Γ M => (ga Γ M).bind fun ds M1 => if ds.length + 1 = n then (callF F (.ref M1.length :: ds) (M1 ++ [.obj nm []])).bind (newR M1.length) else .bad
/-- a list in a field will not be changed any more -/
def gFzF (i : Nat) (f : Str) : GS := fun Γ M => match Γ[i]? with
  | some (some (.ref k)) => match M[k]? with
    | some (.obj nm fs) => match fs.lookup f with
      | some (.ref j) => match M[j]? with
        | some (.lst ds) => .nx Γ ((M.set j .dead).set k (.obj nm (putD f (.lst ds) fs)))
        | _ => .bad
      | _ => .bad
    | _ => .bad
  | _ => .bad
section
variable {X : Cx} {C : CT} {W : WX} {e o : Expr} {nm f m x : Str} {ge go : GE} {gs : GA} {pos apos pos' p : Pos} {C0 : Addr} {es : List Expr}
theorem one_cls (h1 : PySem.W.nsIn X.K mainGlobals nm = some (some (.ref C0))) {C1 : Addr} (h2 : PySem.W.nsIn X.K mainGlobals nm = some (some (.ref C1))) : C1 = C0 := by
  rw [h1] at h2
  cases h2
  rfl
theorem qe_fld (hn : PySem.W.nsIn X.K mainGlobals nm = some (some (.ref C0))) (c : Cls X.K C0) (na : NoAttr X.K C0 f) (he : QE X C W e ge) (hb : attributeBase e f X.env (eval e X.env) = eval e X.env := by rfl) : QE X C W (.Attribute e f pos) (gFld nm f ge) := by
  obtain ⟨te, pe, qe⟩ := he
  refine ⟨_, pe_fld pe hb, fun σ H Z ι Γ M Q sl hr h => qe σ H Z ι Γ M _ sl hr (Post.bind h fun x M1 v H1 Z1 ι1 e1 hr1 r1 h1 => ?_)⟩
  cases r1 with
  | ref hk =>
    rename_i k
    simp only at h1
    cases ek : M1[k]? with
    | none => rw [ek] at h1; exact h1.elim
    | some u =>
      rw [ek] at h1
      cases u with
      | dead => exact h1.elim
      | lst ds => exact h1.elim
      | obj nm' fs =>
        simp only at h1
        by_cases en : nm' = nm
        · subst en
          rw [if_pos rfl] at h1
          obtain ⟨d, hd, h3⟩ := Post.of_opR (γ := D) (δ := V) h1
          obtain ⟨C1, dx, gs, a0, a1, a2, a3⟩ := hr1.obj k _ ek
          have := one_cls hn a0
          subst this
          obtain ⟨v, b1, b2⟩ := fld_rp a2 a3 hd
          exact ⟨_, C1, dx, gs, v, rfl, a1, c, na, b1, h3 v H1 Z1 ι1 .refl hr1 b2⟩
        · rw [if_neg en] at h1
          exact h1.elim
  | _ => exact h1.elim
theorem qs_setF (hn : PySem.W.nsIn X.K mainGlobals nm = some (some (.ref C0))) (c : Cls X.K C0) (na : NoAttr X.K C0 f) (he : QE X C W e ge) (ho : QE X C W o go) (hs : swapsWith e (some (.Attribute o f pos')) pos.line X.env = pure false := by rfl) :
    QS X C W (.Assign [.Attribute o f pos'] e pos) (gSetF nm f ge go) := by
  obtain ⟨te, pe, qe⟩ := he
  obtain ⟨to, po, qo⟩ := ho
  refine ⟨_, ps_fld po pe hs, fun Dd σ H Z ι Γ M sl hr h => qe σ H Z ι Γ M _ sl hr (PostS.bind h sl fun d M1 v H1 Z1 ι1 e1 hr1 r1 h1 => qo σ H1 Z1 ι1 Γ M1 _ (sl.ext e1) hr1 (PostS.bind h1 (sl.ext e1) fun x M2 u H2 Z2 ι2 e2 hr2 r2 h2 => ?_))⟩
  cases r2 with
  | ref hk =>
    rename_i k
    simp only at h2
    cases ek : M2[k]? with
    | none => rw [ek] at h2; exact h2.elim
    | some u =>
      rw [ek] at h2
      cases u with
      | dead => exact h2.elim
      | lst ds => exact h2.elim
      | obj nm' fs =>
        simp only at h2
        by_cases en : nm' = nm ∧ fs.length < 1000
        · rw [if_pos en] at h2
          obtain ⟨en1, en2⟩ := en
          subst en1
          obtain ⟨C1, dx, gs, a0, a1, a2, a3⟩ := hr2.obj k _ ek
          have := one_cls hn a0
          subst this
          have ln : gs.length = fs.length := by
            have := congrArg List.length a2
            simpa using this
          obtain ⟨b1, b2⟩ := hr2.changeG (o' := .obj nm' (putD f d fs)) (ho := .ins C1 dx (putF f v gs)) ek (by simp) (by simp) ⟨C1, dx, _, a0, upd_same, put_names f d v a2, put_rps (r1.ext e2) a2 a3⟩
          exact ⟨_, C1, dx, gs, rfl, a1, c, na, by rw [ln]; exact en2, h2 σ _ Z2 ι2 b2 b1 (((sl.ext e1).ext e2).ext b2)⟩
        · rw [if_neg en] at h2
          exact h2.elim
  | _ => exact h2.elim
theorem isObj_run {H Z : Hp} {ι : Nat → Addr} {M : List MO} {d : D} {v : V} (hn : PySem.W.nsIn X.K mainGlobals nm = some (some (.ref C0))) (hr : HR X.K H Z ι M) (r : Rp X.K Z ι M.length d v) (h : isObj nm m M d = true) : ∃ a dx gs, v = .ref a ∧ H a = some (.ins C0 dx gs) ∧ gs.lookup m = none := by
  cases r with
  | ref hk =>
    rename_i k
    unfold isObj at h
    simp only at h
    cases ek : M[k]? with
    | none => rw [ek] at h; cases h
    | some u =>
      rw [ek] at h
      cases u with
      | dead => cases h
      | lst ds => cases h
      | obj nm' fs =>
        simp only [Bool.and_eq_true, decide_eq_true_eq, Option.isNone_iff_eq_none] at h
        obtain ⟨h1, h2⟩ := h
        subst h1
        obtain ⟨C1, dx, gs, a0, a1, a2, a3⟩ := hr.obj k _ ek
        have := one_cls hn a0
        subst this
        exact ⟨_, dx, gs, rfl, a1, fld_no a2 h2⟩
  | _ => simp [isObj] at h
variable {k n : Nat} {fa : Addr} {fd : FuncData} {ps : List Str} {F : List D → List MO → R D} {pl : Sem Bool}
/-- o.m(e, ..) of an own class -/
theorem qe_methF (hn0 : PySem.W.nsIn X.K mainGlobals nm = some (some (.ref C0))) (c : Cls X.K C0) (hm : Meth X.K C0 m fa) (F0 : FnQ X.prog X.w X.K X.mg X.base C k fa fd ps F) (hr : Room k X.A) (hgu : X.A.guards = some []) (tk : Takes X W) (hb : Binds X.K fd ps []) (ho : QE X C W o go) (ha : QA X C W (e :: es) gs) (hn : n = ps.length := by rfl)
    (hst : starEach (e :: es) X.env = (false, eval e X.env) :: starEach es X.env := by rfl) (hpl : (backTo pos (starEach es X.env)).any (·.1) = false := by rfl)
    (ht : eval (.Call (.Attribute o m apos) (e :: es) [] pos) X.env = (do
      let ov ← eval o X.env
      standAt apos.atName
      let (f, first) ← holding [ov] (getMethod ov m pl)
      callWith pos f first (backTo pos (starEach (e :: es) X.env)) (backToKw pos (keywordEach [] X.env))) := by rfl) :
    QE X C W (.Call (.Attribute o m apos) (e :: es) [] pos) (gMeth nm m n F go gs) := by
  subst hn
  obtain ⟨to, po, qo⟩ := ho
  obtain ⟨ta, pa, qa⟩ := ha
  refine ⟨fun σ H Q => to σ H fun x H1 => ∃ a dx fs, x = .ref a ∧ H1 a = some (.ins C0 dx fs) ∧ fs.lookup m = none ∧ ta σ H1 fun vs H2 => rCallQ X.K C ps F (WE W σ) (x :: vs) H2 Q, ⟨fun pins s σ H Q I h => ?_⟩,
    fun σ H Z ι Γ M Q sl hr h => qo σ H Z ι Γ M _ sl hr (h.bind fun x M1 v H1 Z1 ι1 e1 hr1 r1 h1 => ?_)⟩
  · refine PySem.W.methodCall_KW (pl := pl) (thn (po.run pins s σ H _ I h) fun u s1 ⟨x, H1, I1, rx, a, dx, fs, ex, ea, l, q⟩ => ?_) ht
    subst ex
    obtain rfl : u = Value.ref a := rx
    refine getmeth_ok I1 ea c hm l ?_
    refine PySem.W.callWith_K (first := [.ref a]) (h₀ := X.base) I.ok.mod.kin hm.kp (thn (pa.run pos pins s1 σ H1 _ I1 q) fun us s2 hh => ?_) hst hpl
    obtain ⟨vs, H2, I2, r, q2⟩ := hh
    have r2 : Vals (V.ref a :: vs) (Value.ref a :: us) := .cons rfl r
    have hl : (Value.ref a :: us).length = ps.length := r2.length.symm.trans q2.1
    have hbb := hb s2 (Value.ref a :: us) I2.kIn (by rw [List.append_nil]; exact hl)
    rw [List.append_nil] at hbb
    exact ⟨I2.kIn, run_call F0 hr hgu tk I2 hbb r2 q2⟩
  · by_cases z : isObj nm m M1 x = true
    · rw [if_pos z] at h1
      obtain ⟨a, dx, fs, b1, b2, b3⟩ := isObj_run hn0 hr1 r1 z
      subst b1
      refine ⟨a, dx, fs, rfl, b2, b3, qa σ H1 Z1 ι1 Γ M1 _ (sl.ext e1) hr1 (h1.bind fun ds M2 vs H2 Z2 ι2 e2 hr2 r2 h2 => ?_)⟩
      by_cases cc : ds.length + 1 = ps.length
      · rw [if_pos cc] at h2
        exact lent_post hr2 (.cons (r1.ext e2) r2) (by rw [List.length_cons, ← r2.length]; exact cc) h2
      · rw [if_neg cc] at h2
        exact h2.elim
    · rw [if_neg z] at h1
      exact h1.elim
theorem qe_methF0 (hn0 : PySem.W.nsIn X.K mainGlobals nm = some (some (.ref C0))) (c : Cls X.K C0) (hm : Meth X.K C0 m fa) (F0 : FnQ X.prog X.w X.K X.mg X.base C k fa fd ps F) (hr : Room k X.A) (hgu : X.A.guards = some []) (tk : Takes X W) (hb : Binds X.K fd ps []) (ho : QE X C W o go) (hn : n = ps.length := by rfl)
    (ht : eval (.Call (.Attribute o m apos) [] [] pos) X.env = (do
      let ov ← eval o X.env
      standAt apos.atName
      let (f, first) ← holding [ov] (getMethod ov m pl)
      callWith pos f first (backTo pos (starEach [] X.env)) (backToKw pos (keywordEach [] X.env))) := by rfl) :
    QE X C W (.Call (.Attribute o m apos) [] [] pos) (gMeth nm m n F go gNil) := by
  subst hn
  obtain ⟨to, po, qo⟩ := ho
  refine ⟨fun σ H Q => to σ H fun x H1 => ∃ a dx fs, x = .ref a ∧ H1 a = some (.ins C0 dx fs) ∧ fs.lookup m = none ∧ rCallQ X.K C ps F (WE W σ) [x] H1 Q, ⟨fun pins s σ H Q I h => ?_⟩,
    fun σ H Z ι Γ M Q sl hr h => qo σ H Z ι Γ M _ sl hr (h.bind fun x M1 v H1 Z1 ι1 e1 hr1 r1 h1 => ?_)⟩
  · refine PySem.W.methodCall_KW (pl := pl) (thn (po.run pins s σ H _ I h) fun u s1 ⟨x, H1, I1, rx, a, dx, fs, ex, ea, l, q⟩ => ?_) ht
    subst ex
    obtain rfl : u = Value.ref a := rx
    refine getmeth_ok I1 ea c hm l ?_
    have r2 : Vals [V.ref a] [Value.ref a] := .cons rfl .nil
    have hl : [Value.ref a].length = ps.length := r2.length.symm.trans q.1
    have hbb := hb s1 [Value.ref a] I1.kIn (by rw [List.append_nil]; exact hl)
    rw [List.append_nil] at hbb
    exact PySem.W.callWith_K0 (first := [.ref a]) I1.kIn hm.kp (run_call F0 hr hgu tk I1 hbb r2 q)
  · by_cases z : isObj nm m M1 x = true
    · rw [if_pos z] at h1
      obtain ⟨a, dx, fs, b1, b2, b3⟩ := isObj_run hn0 hr1 r1 z
      subst b1
      have h2 : Post X C W (rpE X.K) σ H1 Z1 ι1 M1 (if ([] : List D).length + 1 = ps.length then callF F [x] M1 else .bad) Q := h1
      by_cases cc : ([] : List D).length + 1 = ps.length
      · rw [if_pos cc] at h2
        exact ⟨a, dx, fs, rfl, b2, b3, lent_post hr1 (.cons r1 .nil) cc h2⟩
      · rw [if_neg cc] at h2
        exact h2.elim
    · rw [if_neg z] at h1
      exact h1.elim
/-- C(e, ..) -/
theorem qe_new (hn0 : PySem.W.nsIn X.K mainGlobals nm = some (some (.ref C0))) (Mk0 : Mk X.K C0 fa) (F0 : FnQ X.prog X.w X.K X.mg X.base C k fa fd ps F) (hr : Room (k + 1) X.A) (hgu : X.A.guards = some []) (tk : Takes X W) (hg : Gl X x) (hmg : X.mg x = some (.ref C0)) (hb : Binds X.K fd ps []) (ha : QA X C W (e :: es) gs) (hn : n = ps.length := by rfl)
    (hdb : (x == ("__debug__" : Str)) = false := by decide) (he : starEach (e :: es) X.env = (false, eval e X.env) :: starEach es X.env := by rfl) (hpl : (backTo pos (starEach es X.env)).any (·.1) = false := by rfl) :
    QE X C W (.Call (.Name x p) (e :: es) [] pos) (gNew nm n F gs) := by
  subst hn
  obtain ⟨ta, pa, qa⟩ := ha
  refine ⟨fun σ H Q => ta σ H fun vs H1 => ∀ y dx, H1 y = none → H1 dx = none → dx ≠ y → rCallQ X.K C ps F (WE W σ) (.ref y :: vs) (upd (upd H1 dx (.own y)) y (.ins C0 dx [])) (fun v H2 => v = .non ∧ Q (.ref y) H2), ⟨fun pins s σ H Q I h => ?_⟩,
    fun σ H Z ι Γ M Q sl hr h => qa σ H Z ι Γ M _ sl hr (h.bind fun ds M1 vs H1 Z1 ι1 e1 hr1 r1 h1 => fun y dx hy hdx hne => ?_)⟩
  · refine wpAny_Call_Name_kw (ld_glob I hg hmg ?_ hdb)
    refine PySem.W.callWith_K (h₀ := X.base) I.ok.mod.kin Mk0.kp (thn (pa.run pos pins s σ H _ I h) fun us s1 hh => ?_) he hpl
    obtain ⟨vs, H1, J, r, q⟩ := hh
    refine ⟨J.kIn, ?_⟩
    have hq := q (s1.heap.objs.size + 1) s1.heap.objs.size (J.hok.fresh (Nat.le_succ _)) (J.hok.fresh (Nat.le_refl _)) (Nat.ne_of_lt (Nat.lt_succ_self _))
    have I2 := Inv.made (C := C0) J
    have r2 : Vals (V.ref (s1.heap.objs.size + 1) :: vs) (Value.ref (s1.heap.objs.size + 1) :: us) := .cons rfl r
    obtain ⟨hl, ds, Z, ι, M, rd, hr', hp⟩ := hq
    have hl2 : (Value.ref (s1.heap.objs.size + 1) :: us).length = ps.length := r2.length.symm.trans hl
    have hbb := hb _ (Value.ref (s1.heap.objs.size + 1) :: us) I2.kIn (by rw [List.append_nil]; exact hl2)
    rw [List.append_nil] at hbb
    have hgu2 : (X.A.under (.builtin "type.__call__" ⟨.ref C0 :: us, []⟩)).guards = some [] := by first | exact hgu | (simpa [Around.under] using hgu)
    refine wpAny_call (make_map (f := fa) J.kIn Mk0.makes Mk0.init (beq_iff_eq.mp Mk0.fn) (codeAny_mono (F0.run _ X.stack _ _ ⟨Value.ref (s1.heap.objs.size + 1) :: us, []⟩ (Value.ref (s1.heap.objs.size + 1) :: us) _ _ (WE W σ) ds Z ι M (hr.make C0 us []) hgu2
      (I2.env0.make C0 us []) hbb r2 hl rd hr' hp) fun r s' hq' => ?_))
    cases r with
    | error e => exact passAt tk σ pins _ _ e s' I2 hq'
    | ok fl =>
      cases fl with
      | ret u =>
        obtain ⟨v, H', I3, rv, ev, q3⟩ := I2.after hq'
        subst ev
        exact ⟨rv, ⟨V.ref (s1.heap.objs.size + 1), H', I3, rfl, q3⟩⟩
      | next => exact False.elim hq'
      | brk => exact False.elim hq'
      | cont => exact False.elim hq'
  · by_cases cc : ds.length + 1 = ps.length
    · rw [if_pos cc] at h1
      have hr2 : HR X.K (upd H1 dx (.own y)) Z1 ι1 M1 := hr1.odd (Odd.new hr1 hdx)
      have x2 : Ext H1 Z1 ι1 M1.length (upd H1 dx (.own y)) Z1 ι1 M1.length := Ext.touch .refl hdx
      have hy2 : upd H1 dx (.own y) y = none := by rw [upd_ne (Ne.symm hne)]; exact hy
      obtain ⟨hr3, x3⟩ := hr2.ownedG (o' := .obj nm []) (ho := .ins C0 dx []) hy2 (by simp) ⟨C0, dx, [], hn0, upd_same, rfl, .nil⟩
      have x23 := x2.trans x3 hr2.ali
      have rp : Rps X.K Z1 (put ι1 M1.length y) (M1 ++ [MO.obj nm []]).length (.ref M1.length :: ds) (.ref y :: vs) := by
        refine .cons ?_ (r1.ext x23)
        have q : Rp X.K Z1 (put ι1 M1.length y) (M1 ++ [MO.obj nm []]).length (.ref M1.length) (.ref (put ι1 M1.length y M1.length)) := .ref (by simp)
        rw [put_at] at q
        exact q
      refine lent_post hr3 rp (by rw [List.length_cons, ← r1.length]; exact cc) ?_
      have h2 : Post X C W (rpE X.K) σ (upd (upd H1 dx (.own y)) y (.ins C0 dx [])) Z1 (put ι1 M1.length y) (M1 ++ [MO.obj nm []]) ((callF F (.ref M1.length :: ds) (M1 ++ [.obj nm []])).bind (newR M1.length)) Q := h1.shift x23 hr3
      refine h2.bind fun d M4 v H4 Z4 ι4 e4 hr4 r4 h4 => ?_
      cases r4 with
      | non =>
        refine ⟨rfl, h4 _ H4 Z4 ι4 .refl hr4 ?_⟩
        have lt : M1.length < (M1 ++ [MO.obj nm []]).length := by simp
        have q : Rp X.K Z4 ι4 M4.length (.ref M1.length) (.ref (ι4 M1.length)) := .ref (Nat.lt_of_lt_of_le lt e4.ln)
        rw [e4.ii _ lt, put_at] at q
        exact q
      | _ => exact h4.elim
    · rw [if_neg cc] at h1
      exact h1.elim
theorem qs_fzF {st : Stmt} {g : GS} (i : Nat) (f : Str) (h1 : QS X C W st g) : QS X C W st (gSeq g (gFzF i f)) := qs_ghost h1 fun Dd σ H Z ι Γ M sl hr h => by
  unfold gFzF at h
  cases e : Γ[i]? with
  | none => rw [e] at h; exact h.elim
  | some o =>
    rw [e] at h
    cases o with
    | none => exact h.elim
    | some d =>
      cases d with
      | ref k =>
        simp only at h
        cases e2 : M[k]? with
        | none => rw [e2] at h; exact h.elim
        | some u =>
          rw [e2] at h
          cases u with
          | dead => exact h.elim
          | lst ds => exact h.elim
          | obj nm fs =>
            simp only at h
            cases e3 : fs.lookup f with
            | none => rw [e3] at h; exact h.elim
            | some d2 =>
              rw [e3] at h
              cases d2 with
              | ref j =>
                simp only at h
                cases e4 : M[j]? with
                | none => rw [e4] at h; exact h.elim
                | some w =>
                  rw [e4] at h
                  cases w with
                  | dead => exact h.elim
                  | obj nm2 fs2 => exact h.elim
                  | lst ds =>
                    obtain ⟨xs, r, hr1, x1, rp⟩ := hr.freeze e4
                    have jk : j ≠ k := fun z => by rw [z, e2] at e4; cases e4
                    have e2' : (M.set j .dead)[k]? = some (.obj nm fs) := by rw [List.getElem?_set_ne jk]; exact e2
                    obtain ⟨C1, dx, gs, a0, a1, a2, a3⟩ := hr1.obj k _ e2'
                    obtain ⟨v, b1, b2⟩ := fld_rp a2 a3 e3
                    have ev : v = .ref (ι j) := by cases b2; rfl
                    subst ev
                    have eg : putF f (.ref (ι j)) gs = gs := by
                      clear a3 b2 a1 a2
                      induction gs with
                      | nil => simp at b1
                      | cons g gs ih =>
                        obtain ⟨a, y⟩ := g
                        rw [List.lookup_cons] at b1
                        unfold putF
                        by_cases ha : a = f
                        · subst ha
                          rw [if_pos rfl]
                          simp at b1
                          rw [b1]
                        · rw [if_neg ha]
                          have : (f == a) = false := by
                            rw [beq_eq_false_iff_ne]
                            exact fun z => ha z.symm
                          rw [this] at b1
                          rw [ih b1]
                    have orr : OR X.K H (upd Z (ι j) (.lst xs)) ι (M.set j .dead).length (.obj nm (putD f (.lst ds) fs)) (ι k) :=
                      ⟨C1, dx, gs, a0, a1, by rw [← eg]; exact put_names f _ _ a2, by rw [← eg]; exact put_rps rp a2 a3⟩
                    obtain ⟨hr2, x2⟩ := hr1.retell e2' (by simp) (by simp) orr
                    exact h σ H _ ι (x1.trans x2 hr1.ali) hr2 ((sl.ext x1).ext x2)
              | _ => exact h.elim
      | _ => exact h.elim
end
/-! ### how they are worked out -/
@[simp] theorem u_gFld (nm f : Str) (ge : GE) (Γ : Env) (M : List MO) : gFld nm f ge Γ M = ((ge Γ M).bind fun x M1 => match x with
  | .ref k => match M1[k]? with
    | some (.obj nm' fs) => if nm' = nm then opR (fs.lookup f) M1 else .bad
    | _ => .bad
  | _ => .bad) := Eq.trans rfl rfl
@[simp] theorem u_gSetF (nm f : Str) (ge go : GE) (Γ : Env) (M : List MO) : gSetF nm f ge go Γ M = ((ge Γ M).thenS Γ fun d M1 => (go Γ M1).thenS Γ fun x M2 => match x with
  | .ref k => match M2[k]? with
    | some (.obj nm' fs) => if nm' = nm ∧ fs.length < 1000 then .nx Γ (M2.set k (.obj nm (putD f d fs))) else .bad
    | _ => .bad
  | _ => .bad) := Eq.trans rfl rfl
@[simp] theorem u_isObj (nm m : Str) (M : List MO) (k : Nat) : isObj nm m M (.ref k) = (match M[k]? with
    | some (.obj nm' fs) => decide (nm' = nm) && (fs.lookup m).isNone
    | _ => false) := Eq.trans rfl rfl
@[simp] theorem u_gMeth (nm m : Str) (n : Nat) (F : List D → List MO → R D) (go : GE) (ga : GA) (Γ : Env) (M : List MO) : gMeth nm m n F go ga Γ M = (go Γ M).bind fun x M1 => if isObj nm m M1 x = true then (ga Γ M1).bind fun ds M2 => if ds.length + 1 = n then callF F (x :: ds) M2 else .bad else .bad := Eq.trans rfl rfl
@[simp] theorem u_newR (m : Nat) (M : List MO) : newR m .non M = .ok (.ref m) M := Eq.trans rfl rfl
@[simp] theorem u_gNew (nm : Str) (n : Nat) (F : List D → List MO → R D) (ga : GA) (Γ : Env) (M : List MO) : gNew nm n F ga Γ M = (ga Γ M).bind fun ds M1 => if ds.length + 1 = n then (callF F (.ref M1.length :: ds) (M1 ++ [.obj nm []])).bind (newR M1.length) else .bad := Eq.trans rfl rfl
@[simp] theorem u_gFzF (i : Nat) (f : Str) (Γ : Env) (M : List MO) : gFzF i f Γ M = (match Γ[i]? with
  | some (some (.ref k)) => match M[k]? with
    | some (.obj nm fs) => match fs.lookup f with
      | some (.ref j) => match M[j]? with
        | some (.lst ds) => .nx Γ ((M.set j .dead).set k (.obj nm (putD f (.lst ds) fs)))
        | _ => .bad
      | _ => .bad
    | _ => .bad
  | _ => .bad) := Eq.trans rfl rfl
@[simp] theorem blo_obj (m : Nat) (nm : Str) (fs : List (Str × D)) : belowO m (.obj nm fs) = belows m (fs.map (·.2)) := Eq.trans rfl rfl
end Bk

set_option Elab.async false
set_option linter.all false
set_option maxRecDepth 100000
set_option maxHeartbeats 2000000
namespace Bk
open PySem PySem.Spec PyProof.Rows L2
/-! ### range down by ones -/
def rngDn (lo : Int) : Nat → List D
  | 0 => []
  | n + 1 => .int lo :: rngDn (lo - 1) n
theorem rngDn_get : ∀ (n : Nat) (lo : Int) (i : Nat) (d : D), (rngDn lo n)[i]? = some d → i < n ∧ d = .int (lo + (i : Nat) * (-1))
  | 0, _, _, _, h => by simp [rngDn] at h
  | n + 1, lo, 0, d, h => by
    simp [rngDn] at h
    exact ⟨Nat.succ_pos _, by rw [← h]; simp⟩
  | n + 1, lo, i + 1, d, h => by
    simp only [rngDn, List.getElem?_cons_succ] at h
    obtain ⟨h1, h2⟩ := rngDn_get n (lo - 1) i d h
    refine ⟨Nat.succ_lt_succ h1, ?_⟩
    rw [h2]
    congr 1
    push_cast
    omega
theorem rngDn_length : ∀ (n : Nat) (lo : Int), (rngDn lo n).length = n
  | 0, _ => rfl
  | n + 1, lo => by simp [rngDn, rngDn_length n]
def rng3 : List D → Option (List D)
  | [.int i, .int j, .int c] => if (inR i && inR j && decide (c = -1)) = true then some (rngDn i (i - j).toNat) else none
  | _ => none
def gRng3 (ga : GA) : GI := fun Γ M => (ga Γ M).bind fun ds M1 => opR (rng3 ds) M1
def gRev (ge : GE) : GI := fun Γ M => (ge Γ M).bind fun d M1 => opR ((seqD d).map List.reverse) M1
def mReverse : MF0 := fun ds => some (ds.reverse, .non)
def items1 (M : List MO) : List D → Option (List D)
  | [d] => itemsD M d
  | _ => none
def gListO (ga : GA) : GE := fun Γ M => (ga Γ M).bind fun xs M1 => match items1 M1 xs with
  | some ds => .ok (.ref M1.length) (M1 ++ [.lst ds])
  | none => .bad
section
variable {X : Cx} {C : CT} {W : WX} {tg e a b c : Expr} {g ga : GE} {gs : GA} {pos p : Pos}
theorem itr_c {K : PySem.W.Frag} {Z : Hp} {ι : Nat → Addr} {n : Nat} {lo : Int} {m : Nat} : ItR K (Itc lo (-1) m) (rngDn lo m) Z ι n := by
  intro i H' Z' ι' M' hz hi hn hr _
  refine ⟨fun hl => by rw [rngDn_length] at hl; exact Nat.le_of_eq hl, fun d hd => ?_⟩
  obtain ⟨h1, rfl⟩ := rngDn_get _ _ _ _ hd
  refine ⟨h1, fun x H2 hy => ?_⟩
  obtain ⟨rfl, rfl⟩ := hy
  exact ⟨Z', .refl, hr, .int _⟩
theorem qi_rng3 (hg : Gl X "range") (hm : X.mg "range" = none) (ha : QA X C W [a, b, c] gs)
    (hs : starEach [a, b, c] X.env = (false, eval a X.env) :: starEach [b, c] X.env := by rfl) (hpl : (backTo pos (starEach [b, c] X.env)).any (·.1) = false := by rfl) : QI X C W tg (.Call (.Name "range" p) [a, b, c] [] pos) (gRng3 gs) := by
  obtain ⟨ta, pa, qa⟩ := ha
  refine ⟨_, pi_range3 hg hm pa hs hpl, fun σ H Z ι Γ M Q sl hr h => qa σ H Z ι Γ M _ sl hr (h.bind fun x M1 v H1 Z1 ι1 e1 hr1 r1 h1 => ?_)⟩
  obtain ⟨ds, hd, h2⟩ := Post.of_opR (γ := D) (δ := V) h1
  unfold rng3 at hd
  split at hd
  · rename_i i j k
    cases r1 with
    | cons r rr =>
      cases r
      cases rr with
      | cons r2 rr =>
        cases r2
        cases rr with
        | cons r3 rr =>
          cases r3
          cases rr
          by_cases hj : (inR i && inR j && decide (k = -1)) = true
          · rw [if_pos hj] at hd
            cases hd
            simp only [inR, Bool.and_eq_true, decide_eq_true_eq] at hj
            obtain ⟨⟨h1', h2'⟩, h3'⟩ := hj
            subst h3'
            exact ⟨i, j, -1, _, rfl, RgC.neg h1'.1 h1'.2 h2'.1 h2'.2, h2 _ H1 Z1 ι1 .refl hr1 itr_c⟩
          · rw [if_neg hj] at hd
            cases hd
  · cases hd
theorem rev_get {ds : List D} {i : Nat} {d : D} (h : ds.reverse[i]? = some d) : i < ds.length ∧ ds[ds.length - 1 - i]? = some d := by
  have l : i < ds.reverse.length := (List.getElem?_eq_some_iff.mp h).1
  rw [List.length_reverse] at l
  rw [List.getElem?_reverse l] at h
  exact ⟨l, h⟩
theorem itr_vl {K : PySem.W.Frag} {Z : Hp} {ι : Nat → Addr} {n : Nat} {a : Addr} {xs : List V} {ds : List D} (s : ExL K Z a xs) (r : Rps K Z ι n ds xs) : ItR K (Itv K a xs.length) ds.reverse Z ι n := by
  intro i H' Z' ι' M' hz hi hn hr _
  have sH : SqL K H' a xs := (subL (fun a o h => hr.sub _ _ (hz _ _ h)) s).sq
  have l := r.length
  refine ⟨fun hl => by rw [List.length_reverse] at hl; exact Nat.le_of_eq (l.symm.trans hl), fun d hd => ?_⟩
  obtain ⟨h1, h2⟩ := rev_get hd
  obtain ⟨v, hv, rv⟩ := r.get h2
  rw [l] at hv
  refine ⟨⟨by omega, xs, v, sH, hv⟩, fun x H2 hy => ?_⟩
  obtain ⟨rfl, hx⟩ := hy
  have ex : xs[xs.length - 1 - i]? = some x := hx _ sH
  rw [hv] at ex
  cases ex
  exact ⟨Z', .refl, hr, Rp.mono hz hi hn _ _ rv⟩
theorem itr_vt {K : PySem.W.Frag} {Z : Hp} {ι : Nat → Addr} {n : Nat} {a : Addr} {xs : List V} {ds : List D} (s : SqT K Z a xs) (r : Rps K Z ι n ds xs) : ItR K (RT.ItvT K a xs.length) ds.reverse Z ι n := by
  intro i H' Z' ι' M' hz hi hn hr _
  have sH : SqT K H' a xs := subT (fun a o h => hr.sub _ _ (hz _ _ h)) s
  have l := r.length
  refine ⟨fun hl => by rw [List.length_reverse] at hl; exact Nat.le_of_eq (l.symm.trans hl), fun d hd => ?_⟩
  obtain ⟨h1, h2⟩ := rev_get hd
  obtain ⟨v, hv, rv⟩ := r.get h2
  rw [l] at hv
  refine ⟨⟨by omega, xs, v, sH, hv⟩, fun x H2 hy => ?_⟩
  obtain ⟨rfl, hx⟩ := hy
  have ex : xs[xs.length - 1 - i]? = some x := hx _ sH
  rw [hv] at ex
  cases ex
  exact ⟨Z', .refl, hr, Rp.mono hz hi hn _ _ rv⟩
theorem qi_rev (hg : Gl X "reversed") (hm : X.mg "reversed" = none) (ha : QE X C W e g) (hs : starEach [e] X.env = (false, eval e X.env) :: starEach [] X.env := by rfl) : QI X C W tg (.Call (.Name "reversed" p) [e] [] pos) (gRev g) := by
  obtain ⟨ta, pa, qa⟩ := ha
  refine ⟨_, RT.pi_revA hg hm pa hs, fun σ H Z ι Γ M Q sl hr h => qa σ H Z ι Γ M _ sl hr (h.bind fun x M1 v H1 Z1 ι1 e1 hr1 r1 h1 => ?_)⟩
  obtain ⟨ds, hd, h2⟩ := Post.of_opR (γ := D) (δ := V) h1
  cases r1 with
  | lst s r =>
    cases hd
    exact ⟨_, _, rfl, .inl ⟨(subL hr1.sub s).sq, h2 _ H1 Z1 ι1 .refl hr1 (itr_vl s r)⟩⟩
  | tup s r =>
    cases hd
    exact ⟨_, _, rfl, .inr ⟨subT hr1.sub s, h2 _ H1 Z1 ι1 .refl hr1 (itr_vt s r)⟩⟩
  | _ => cases hd
theorem ok_reverse : OkM0 X rReverse mReverse := fun p xs H Z ι n ds ds' d Q e r h q => by
  cases h
  exact ⟨p, xs, rfl, rfl, e, q _ _ r.rev .non⟩
/-- list(x), the new list ours -/
theorem qe_listO (hg : Gl X "list") (hm : X.mg "list" = none) (hv : bootBuiltins "list" = some (.type "list")) (ha : QA X C W [e] gs) (he : starEach [e] X.env = (false, eval e X.env) :: starEach [] X.env := by rfl) (hpl : (backTo pos (starEach [] X.env)).any (·.1) = false := by rfl) :
    QE X C W (.Call (.Name "list" p) [e] [] pos) (gListO gs) := by
  obtain ⟨ta, pa, qa⟩ := ha
  refine ⟨_, pe_callTy call_list_of hg hm hv pa (by decide) (by decide) he hpl, fun σ H Z ι Γ M Q sl hr h => qa σ H Z ι Γ M _ sl hr (h.bind fun xs M1 vs H1 Z1 ι1 e1 hr1 r1 h1 => ?_)⟩
  cases ei : items1 M1 xs with
  | none => rw [ei] at h1; exact h1.elim
  | some ds =>
    rw [ei] at h1
    unfold items1 at ei
    split at ei
    · cases r1 with
      | cons r rr =>
        cases rr
        obtain ⟨a, ys, rfl, s, r2⟩ := itemsD_run hr1 r ei
        refine ⟨a, ys, rfl, s.elim (fun s => .inl s.sq) .inr, fun l hl => ?_⟩
        obtain ⟨hr2, x2⟩ := hr1.owned hl r2
        refine h1 _ _ Z1 _ x2 hr2 ?_
        have q : Rp X.K Z1 (put ι1 M1.length l) (M1 ++ [MO.lst ds]).length (.ref M1.length) (.ref (put ι1 M1.length l M1.length)) := .ref (by simp)
        rw [put_at] at q
        exact q
    · cases ei
end
@[simp] theorem u_gRng3 (ga : GA) (Γ : Env) (M : List MO) : gRng3 ga Γ M = (ga Γ M).bind fun ds M1 => opR (rng3 ds) M1 := Eq.trans rfl rfl
@[simp] theorem u_gRev (ge : GE) (Γ : Env) (M : List MO) : gRev ge Γ M = (ge Γ M).bind fun d M1 => opR ((seqD d).map List.reverse) M1 := Eq.trans rfl rfl
@[simp] theorem u_gListO (ga : GA) (Γ : Env) (M : List MO) : gListO ga Γ M = ((ga Γ M).bind fun xs M1 => match items1 M1 xs with
  | some ds => .ok (.ref M1.length) (M1 ++ [.lst ds])
  | none => .bad) := Eq.trans rfl rfl
@[simp] theorem u_items1 (M : List MO) (d : D) : items1 M [d] = itemsD M d := Eq.trans rfl rfl
@[simp] theorem u_rng3 (i j : Int) : rng3 [.int i, .int j, .int (-1)] = if (inR i && inR j) = true then some (rngDn i (i - j).toNat) else none := by
  show (if (inR i && inR j && decide ((-1 : Int) = -1)) = true then _ else _) = _
  simp
@[simp] theorem u_reverse (ds : List D) : mReverse ds = some (ds.reverse, .non) := Eq.trans rfl rfl
end Bk

set_option Elab.async false
set_option linter.all false
set_option maxRecDepth 100000
set_option maxHeartbeats 2000000
namespace Bk
open PySem PySem.Spec PyProof.Rows L2
theorem units65 {k : Nat} {A : Around} (r : Room k A) : A.units + 65 < cLine := by have := r.un; omega
/-! ### t >= u -/
def rGeT (K : PySem.W.Frag) : R2 := fun x y H Q => ∃ (a b : Addr) (ns ms : List Int), x = .ref a ∧ y = .ref b ∧ SqT K H a (ns.map V.int) ∧ SqT K H b (ms.map V.int) ∧
  Q (.bl (Ob.lexAt (fun j => decide (ns.getD j 0 = ms.getD j 0)) (fun j => decide (ms.getD j 0 ≤ ns.getD j 0)) (decide (ns.length ≥ ms.length)) 0 (min ns.length ms.length))) H
theorem op_geT {X : Cx} (hu : X.A.units < cLine) : OpR X (compareOp .GtE) (rGeT X.K) := by
  intro pins s σ H x y v u Q I rx ry h
  obtain ⟨a, b, ns, ms, rfl, rfl, ha, hb, q⟩ := h
  cases rx
  cases ry
  obtain ⟨its, r1, p1, _⟩ := I.tuple ha
  obtain ⟨its2, r2, p2, _⟩ := I.tuple hb
  have i1 : IntsAre its ns := Vals.ints r1
  have i2 : IntsAre its2 ms := Vals.ints r2
  have e1 : its.toArray.size = ns.length := by rw [List.size_toArray]; exact i1.length
  have e2 : its2.toArray.size = ms.length := by rw [List.size_toArray]; exact i2.length
  have at1 : ∀ j (h1 : j < its.toArray.size), ∃ t, its.toArray[j] = .int (ns.getD j 0) t := fun j h1 => PyProof.Rows.IntsAre.int_at i1 _ _ (by simp at h1; simp [h1])
  have at2 : ∀ j (h1 : j < its2.toArray.size), ∃ t, its2.toArray[j] = .int (ms.getD j 0) t := fun j h1 => PyProof.Rows.IntsAre.int_at i2 _ _ (by simp at h1; simp [h1])
  have R := Ob.RcOp.tuples_ge (A := X.A) (s := s) (e := fun j => decide (ns.getD j 0 = ms.getD j 0)) (r := fun j => decide (ms.getD j 0 ≤ ns.getD j 0)) p1 p2 hu (fun j h1 h2 => by
    obtain ⟨t, et⟩ := at1 j h1
    obtain ⟨t', et'⟩ := at2 j h2
    rw [et, et']
    have z : (ns.getD j 0 == ms.getD j 0) = decide (ns.getD j 0 = ms.getD j 0) := by
      by_cases q : ns.getD j 0 = ms.getD j 0
      · rw [decide_eq_true q]; exact beq_iff_eq.mpr q
      · rw [decide_eq_false q]; exact beq_eq_false_iff_ne.mpr q
    rw [← z]
    exact SeqAt.EqAt.int_int _ _ _ _) (fun j h1 h2 _ => by
    obtain ⟨t, et⟩ := at1 j h1
    obtain ⟨t', et'⟩ := at2 j h2
    rw [et, et']
    exact Ob.RcOp.ge_int _ _ _ _)
  rw [e1, e2] at R
  have z : wpAny (model X.prog X.w) X.A (compareOp .GtE (.ref a) (.ref b)) (EP X pins σ Q) X.xe s := R X.prog X.w X.xe (EP X pins σ Q) ⟨.bl _, H, I, rfl, q⟩
  exact z
def intsL : List D → Option (List Int)
  | [] => some []
  | .int i :: ds => (intsL ds).map fun is => i :: is
  | _ => none
theorem intsL_map : ∀ is : List Int, intsL (is.map D.int) = some is
  | [] => rfl
  | i :: is => by
    show (intsL (is.map D.int)).map (fun is => i :: is) = _
    rw [intsL_map is]
    rfl
theorem intsL_run {K : PySem.W.Frag} {Z : Hp} {ι : Nat → Addr} {n : Nat} : ∀ {ds : List D} {vs : List V} {is : List Int}, Rps K Z ι n ds vs → intsL ds = some is → vs = is.map V.int
  | [], _, _, r, h => by cases r; cases h; rfl
  | d :: ds, _, _, r, h => by
    cases r with
    | cons r rs =>
      cases r with
      | int i =>
        have h' : (intsL ds).map (fun is => i :: is) = some _ := h
        cases e : intsL ds with
        | none => rw [e] at h'; cases h'
        | some js =>
          rw [e] at h'
          cases h'
          rw [List.map_cons, intsL_run rs e]
      | _ => cases h
def geI (ns ms : List Int) : Bool := Ob.lexAt (fun j => decide (ns.getD j 0 = ms.getD j 0)) (fun j => decide (ms.getD j 0 ≤ ns.getD j 0)) (decide (ns.length ≥ ms.length)) 0 (min ns.length ms.length)
def dGeA (M : List MO) (x y : D) : Option D := match x, y with
  | .tup xs, .tup ys => match intsL xs, intsL ys with
    | some ns, some ms => some (.bl (geI ns ms))
    | _, _ => none
  | x, y => dGe M x y
section
variable {X : Cx}
theorem op_geA (hu : X.A.units < cLine) : OpR X (compareOp .GtE) (fun x y H Q => rGeT X.K x y H Q ∨ rI0 (fun i j => .bl (decide (j ≤ i))) x y H Q) := (op_geT hu).or op_ge
theorem ok_geA : Ok2 X (fun x y H Q => rGeT X.K x y H Q ∨ rI0 (fun i j => .bl (decide (j ≤ i))) x y H Q) dGeA := fun x y H Z ι M dx dy d Q hr rx ry e q => by
  unfold dGeA at e
  split at e
  · rename_i xs ys
    cases e1 : intsL xs with
    | none => rw [e1] at e; cases e
    | some ns =>
      cases e2 : intsL ys with
      | none => rw [e1, e2] at e; cases e
      | some ms =>
        rw [e1, e2] at e
        cases e
        cases rx with
        | tup s1 r1 =>
          cases ry with
          | tup s2 r2 =>
            have w1 := intsL_run r1 e1
            have w2 := intsL_run r2 e2
            subst w1 w2
            exact .inl ⟨_, _, ns, ms, rfl, rfl, subT hr.sub s1, subT hr.sub s2, q.now hr (.bl _)⟩
  · exact .inr (ok_ge x y H Z ι M dx dy d Q hr rx ry e q)
end
/-! ### x in l, items of any depth -/
def inDP (M : List MO) (x y : D) : Option Bool := match toP (deref M x), toP (deref M y) with
  | some p, some (.list qs) => if (SeqAt.shaped p && SeqAt.shaped (.list qs)) = true then some (qs.any fun z => PyData.eqv z p) else none
  | _, _ => none
def inAP (M : List MO) (x y : D) : Option Bool := match inP M x y with
  | some b => some b
  | none => inDP M x y
def dInA (M : List MO) (x y : D) : Option D := (inAP M x y).map D.bl
def dNotInA (M : List MO) (x y : D) : Option D := (inAP M x y).map fun b => D.bl (!b)
theorem inDP_run {K : PySem.W.Frag} {H Z : Hp} {ι : Nat → Addr} {M : List MO} {dx dy : D} {x y : V} {b : Bool} (hr : HR K H Z ι M) (rx : Rp K Z ι M.length dx x) (ry : Rp K Z ι M.length dy y) (e : inDP M dx dy = some b) :
    ∃ d ds, Dp K H x d ∧ Dp K H y (.list ds) ∧ SeqAt.shaped d = true ∧ SeqAt.shaped (.list ds) = true ∧ (ds.any fun z => PyData.eqv z d) = b := by
  unfold inDP at e
  cases e1 : toP (deref M dx) with
  | none => rw [e1] at e; cases e
  | some p =>
    cases e2 : toP (deref M dy) with
    | none => rw [e1, e2] at e; cases e
    | some q =>
      rw [e1, e2] at e
      cases q with
      | list qs =>
        simp only at e
        by_cases c : (SeqAt.shaped p && SeqAt.shaped (.list qs)) = true
        · rw [if_pos c] at e
          rw [Bool.and_eq_true] at c
          exact ⟨p, qs, deref_dp hr rx e1, deref_dp hr ry e2, c.1, c.2, Option.some.inj e⟩
        · rw [if_neg c] at e
          cases e
      | _ => cases e
section
variable {X : Cx}
theorem op_inA (hu : X.A.units + 65 < cLine) : OpR X (compareOp .In) (fun x y H Q => rInD X.K x y H Q ∨ rIn X.K false x y H Q) := (op_inD hu).or op_in_seq
theorem op_notInA (hu : X.A.units + 65 < cLine) : OpR X (compareOp .NotIn) (fun x y H Q => rNotInD X.K x y H Q ∨ rIn X.K true x y H Q) := (op_notInD hu).or op_notIn_seq
theorem ok_inA : Ok2 X (fun x y H Q => rInD X.K x y H Q ∨ rIn X.K false x y H Q) dInA := fun x y H Z ι M dx dy d Q hr rx ry e q => by
  unfold dInA inAP at e
  cases e1 : inP M dx dy with
  | some b =>
    rw [e1] at e
    cases e
    obtain ⟨p, xs, h1, h2, h3, h4, h5⟩ := inP_run hr rx ry e1
    exact .inr ⟨p, xs, h1, h2, h3, h4, by rw [h5]; exact q.now hr (.bl b)⟩
  | none =>
    rw [e1] at e
    simp only at e
    cases e2 : inDP M dx dy with
    | none => rw [e2] at e; cases e
    | some b =>
      rw [e2] at e
      cases e
      obtain ⟨p, ps, h1, h2, h3, h4, h5⟩ := inDP_run hr rx ry e2
      exact .inl ⟨p, ps, h1, h2, h3, h4, by rw [h5]; exact q.now hr (.bl b)⟩
theorem ok_notInA : Ok2 X (fun x y H Q => rNotInD X.K x y H Q ∨ rIn X.K true x y H Q) dNotInA := fun x y H Z ι M dx dy d Q hr rx ry e q => by
  unfold dNotInA inAP at e
  cases e1 : inP M dx dy with
  | some b =>
    rw [e1] at e
    cases e
    obtain ⟨p, xs, h1, h2, h3, h4, h5⟩ := inP_run hr rx ry e1
    exact .inr ⟨p, xs, h1, h2, h3, h4, by rw [h5]; exact q.now hr (.bl _)⟩
  | none =>
    rw [e1] at e
    simp only at e
    cases e2 : inDP M dx dy with
    | none => rw [e2] at e; cases e
    | some b =>
      rw [e2] at e
      cases e
      obtain ⟨p, ps, h1, h2, h3, h4, h5⟩ := inDP_run hr rx ry e2
      exact .inl ⟨p, ps, h1, h2, h3, h4, by rw [h5]; exact q.now hr (.bl _)⟩
end
/-! ### l.index(x) -/
def dIndex (M : List MO) (x y : D) : Option D := match toP (deref M x), toP (deref M y) with
  | some (.list ps), some q => if (SeqAt.shaped (.list ps) && SeqAt.shaped q) = true then (ps.findIdx? fun z => PyData.eqv z q).map fun j => .int (j : Nat) else none
  | _, _ => none
def gIndex (go ge : GE) : GE := fun Γ M => (go Γ M).bind fun x M1 => if isListD M1 x = true then (ge Γ M1).bind fun y M2 => opR (dIndex M2 x y) M2 else .bad
section
variable {X : Cx} {C : CT} {W : WX}
theorem qe_index {o e : Expr} {go ge : GE} {pos apos : Pos} (hu : X.A.units + 65 < cLine) (ho : QE X C W o go) (he : QE X C W e ge)
    (hbase : attributeBase o "index" X.env (eval o X.env) = eval o X.env := by rfl) (hs : starEach [e] X.env = (false, eval e X.env) :: starEach [] X.env := by rfl)
    (hfew : ((backTo pos (starEach [e] X.env)).all (fun x => !x.1) && (backToKw pos (keywordEach [] X.env)).all (fun x => x.1.isSome) && decide ([e].length + ([] : List Keyword).length + (if ([] : List Keyword).isEmpty then 0 else 1) < 30)) = true := by rfl)
    (hline : (apos.endLine == pos.line) = true := by rfl) : QE X C W (.Call (.Attribute o "index" apos) [e] [] pos) (gIndex go ge) := by
  obtain ⟨ta, pa, qa⟩ := ho
  obtain ⟨tb, pb, qb⟩ := he
  refine ⟨_, pe_bm PySem.F.plainAttrs_list PySem.F.slot_list_index PySem.F.type_list_index (mt_indexD hu) pa (pa_cons pb pa_nil hs) hbase hfew hline hs rfl, fun σ H Z ι Γ M Q sl hr h => qa σ H Z ι Γ M _ sl hr (h.bind fun x M1 v H1 Z1 ι1 e1 hr1 r1 h1 => ?_)⟩
  by_cases c : isListD M1 x = true
  · rw [if_pos c] at h1
    refine ⟨isListD_run hr1 r1 c, qb σ H1 Z1 ι1 Γ M1 _ (sl.ext e1) hr1 (h1.bind fun y M2 u H2 Z2 ι2 e2 hr2 r2 h2 => ?_)⟩
    obtain ⟨d, hd, h3⟩ := Post.of_opR (γ := D) (δ := V) h2
    unfold dIndex at hd
    cases ea : toP (deref M2 x) with
    | none => rw [ea] at hd; cases hd
    | some p =>
      cases eb : toP (deref M2 y) with
      | none => rw [ea, eb] at hd; cases p <;> cases hd
      | some q =>
        rw [ea, eb] at hd
        cases p with
        | list ps =>
          simp only at hd
          by_cases z : (SeqAt.shaped (.list ps) && SeqAt.shaped q) = true
          · rw [if_pos z] at hd
            rw [Bool.and_eq_true] at z
            cases ej : ps.findIdx? (fun z => PyData.eqv z q) with
            | none => rw [ej] at hd; cases hd
            | some j =>
              rw [ej] at hd
              cases hd
              obtain ⟨hj, h5, h6⟩ := List.findIdx?_eq_some_iff_getElem.mp ej
              have dx := deref_dp hr2 (r1.ext e2) ea
              have dy := deref_dp hr2 r2 eb
              cases dx with
              | lst hs ha =>
                refine ⟨_, u, q, ps, j, ps[j], rfl, rfl, .lst hs ha, dy, z.1, z.2, List.getElem?_eq_getElem hj, h5, fun m z' hm hz => ?_, h3 _ H2 Z2 ι2 .refl hr2 (.int _)⟩
                obtain ⟨hm', rfl⟩ := List.getElem?_eq_some_iff.mp hz
                have := h6 m hm
                simpa using this
          · rw [if_neg z] at hd
            cases hd
        | _ => cases hd
  · rw [if_neg c] at h1
    exact h1.elim
end
@[simp] theorem u_gIndex (go ge : GE) (Γ : Env) (M : List MO) : gIndex go ge Γ M = (go Γ M).bind fun x M1 => if isListD M1 x = true then (ge Γ M1).bind fun y M2 => opR (dIndex M2 x y) M2 else .bad := Eq.trans rfl rfl
@[simp] theorem e_geA (M : List MO) (i j : Int) : dGeA M (.int i) (.int j) = some (.bl (decide (j ≤ i))) := Eq.trans rfl rfl
theorem e_geT (M : List MO) (ns ms : List Int) : dGeA M (.tup (ns.map D.int)) (.tup (ms.map D.int)) = some (.bl (geI ns ms)) := by
  show (match intsL (ns.map D.int), intsL (ms.map D.int) with
    | some ns, some ms => some (D.bl (geI ns ms))
    | _, _ => none) = _
  rw [intsL_map, intsL_map]
/-- the first place that differs tells -/
theorem lexAt_diff {e r : Nat → Bool} {z : Bool} {j : Nat} (hd : e j = false) : ∀ (k i : Nat), i ≤ j → j < i + k → (∀ m, i ≤ m → m < j → e m = true) → Ob.lexAt e r z i k = r j
  | 0, i, h1, h2, _ => by omega
  | k + 1, i, h1, h2, h3 => by
    rw [Ob.lexAt_succ]
    by_cases q : i = j
    · subst q
      rw [hd]
      simp
    · rw [h3 i (Nat.le_refl _) (by omega), if_pos rfl]
      exact lexAt_diff hd k (i + 1) (by omega) (by omega) fun m a b => h3 m (by omega) b
theorem geI_less {ns ms : List Int} {j : Nat} (h1 : j < ns.length) (h2 : j < ms.length) (he : ∀ m, m < j → ns.getD m 0 = ms.getD m 0) (hl : ns.getD j 0 < ms.getD j 0) : geI ns ms = false := by
  unfold geI
  rw [lexAt_diff (j := j) (by simp only [decide_eq_false_iff_not]; omega) _ _ (Nat.zero_le _) (by omega) (fun m _ hm => by simpa using he m hm)]
  simp only [decide_eq_false_iff_not]
  omega
end Bk

set_option Elab.async false
set_option linter.all false
set_option maxRecDepth 100000
namespace My
open PySem PySem.Spec PyProof.Rows L2 Bk
/-! ### the text -/
def topS (i : Nat) : Stmt := PySem.Challenge.pw_breakrows_k66_rows_of_queues.main.body.getD i (.Pass ⟨0, 0, 0, 0⟩)
abbrev s_is_integer : Stmt := topS 9
theorem sc_is_integer : FnScope ["value"] ["value"] (defScope s_is_integer) := ⟨rfl, rfl, rfl, by decide +kernel, rfl, by decide +kernel, by decide +kernel⟩
abbrev s_is_at_least : Stmt := topS 10
theorem sc_is_at_least : FnScope ["value", "low"] ["value", "low"] (defScope s_is_at_least) := ⟨rfl, rfl, rfl, by decide +kernel, rfl, by decide +kernel, by decide +kernel⟩
abbrev s_is_between : Stmt := topS 11
theorem sc_is_between : FnScope ["value", "low", "high"] ["value", "low", "high"] (defScope s_is_between) := ⟨rfl, rfl, rfl, by decide +kernel, rfl, by decide +kernel, by decide +kernel⟩
abbrev s_are_numbers : Stmt := topS 12
theorem sc_are_numbers : FnScope ["value", "entry"] ["value"] (defScope s_are_numbers) := ⟨rfl, rfl, rfl, by decide +kernel, rfl, by decide +kernel, by decide +kernel⟩
abbrev s_require_row : Stmt := topS 13
theorem sc_require_row : FnScope ["calendar", "row", "index", "entry"] ["calendar", "row"] (defScope s_require_row) := ⟨rfl, rfl, rfl, by decide +kernel, rfl, by decide +kernel, by decide +kernel⟩
abbrev s_is_night : Stmt := topS 15
theorem sc_is_night : FnScope ["value"] ["value"] (defScope s_is_night) := ⟨rfl, rfl, rfl, by decide +kernel, rfl, by decide +kernel, by decide +kernel⟩
abbrev s_require_queue : Stmt := topS 16
theorem sc_require_queue : FnScope ["queue", "index", "entry"] ["queue"] (defScope s_require_queue) := ⟨rfl, rfl, rfl, by decide +kernel, rfl, by decide +kernel, by decide +kernel⟩
abbrev s_waiting_mornings : Stmt := topS 17
theorem sc_waiting_mornings : FnScope ["queue", "numbers", "found", "day", "owned", "mended", "broken"] ["queue", "numbers"] (defScope s_waiting_mornings) := ⟨rfl, rfl, rfl, by decide +kernel, rfl, by decide +kernel, by decide +kernel⟩
abbrev s_queue_over : Stmt := topS 18
theorem sc_queue_over : FnScope ["queue", "numbers", "day", "waits", "broken"] ["queue", "numbers"] (defScope s_queue_over) := ⟨rfl, rfl, rfl, by decide +kernel, rfl, by decide +kernel, by decide +kernel⟩
abbrev s_require_queue_past : Stmt := topS 19
theorem sc_require_queue_past : FnScope ["queue", "past", "day"] ["queue", "past"] (defScope s_require_queue_past) := ⟨rfl, rfl, rfl, by decide +kernel, rfl, by decide +kernel, by decide +kernel⟩
abbrev s_Rooms_init : Stmt := inClass (topS 20) 0
theorem sc_Rooms_init : FnScope ["self", "queue", "owned", "mended", "day", "later", "top", "nexts", "busy", "waits"] ["self", "queue"] (defScope s_Rooms_init) := ⟨rfl, rfl, rfl, by decide +kernel, rfl, by decide +kernel, by decide +kernel⟩
abbrev s_Rooms_ways_behind : Stmt := inClass (topS 20) 1
theorem sc_Rooms_ways_behind : FnScope ["self", "past"] ["self", "past"] (defScope s_Rooms_ways_behind) := ⟨rfl, rfl, rfl, by decide +kernel, rfl, by decide +kernel, by decide +kernel⟩
abbrev s_Rooms_room_behind : Stmt := inClass (topS 20) 2
theorem sc_Rooms_room_behind : FnScope ["self", "past"] ["self", "past"] (defScope s_Rooms_room_behind) := ⟨rfl, rfl, rfl, by decide +kernel, rfl, by decide +kernel, by decide +kernel⟩
abbrev s_Rooms_ways_on : Stmt := inClass (topS 20) 3
theorem sc_Rooms_ways_on : FnScope ["self", "day", "busy"] ["self", "day", "busy"] (defScope s_Rooms_ways_on) := ⟨rfl, rfl, rfl, by decide +kernel, rfl, by decide +kernel, by decide +kernel⟩
abbrev s_Rooms_numbered_row : Stmt := inClass (topS 20) 4
theorem sc_Rooms_numbered_row : FnScope ["self", "number", "found", "waits", "day", "owned", "mended", "busy"] ["self", "number"] (defScope s_Rooms_numbered_row) := ⟨rfl, rfl, rfl, by decide +kernel, rfl, by decide +kernel, by decide +kernel⟩
abbrev s_Rooms_number_of_row : Stmt := inClass (topS 20) 5
theorem sc_Rooms_number_of_row : FnScope ["self", "row", "found", "waits", "day", "broken", "busy"] ["self", "row"] (defScope s_Rooms_number_of_row) := ⟨rfl, rfl, rfl, by decide +kernel, rfl, by decide +kernel, by decide +kernel⟩
abbrev s_queue_ready : Stmt := topS 21
theorem sc_queue_ready : FnScope ["queue", "past"] ["queue", "past"] (defScope s_queue_ready) := ⟨rfl, rfl, rfl, by decide +kernel, rfl, by decide +kernel, by decide +kernel⟩
abbrev s_queue_fault : Stmt := topS 22
theorem sc_queue_fault : FnScope ["queue", "row"] ["queue", "row"] (defScope s_queue_fault) := ⟨rfl, rfl, rfl, by decide +kernel, rfl, by decide +kernel, by decide +kernel⟩
abbrev s_queue_count : Stmt := topS 23
theorem sc_queue_count : FnScope ["queue", "past"] ["queue", "past"] (defScope s_queue_count) := ⟨rfl, rfl, rfl, by decide +kernel, rfl, by decide +kernel, by decide +kernel⟩
abbrev s_queue_row_at : Stmt := topS 24
theorem sc_queue_row_at : FnScope ["queue", "number", "rooms"] ["queue", "number"] (defScope s_queue_row_at) := ⟨rfl, rfl, rfl, by decide +kernel, rfl, by decide +kernel, by decide +kernel⟩
abbrev s_queue_number_of : Stmt := topS 25
theorem sc_queue_number_of : FnScope ["queue", "row"] ["queue", "row"] (defScope s_queue_number_of) := ⟨rfl, rfl, rfl, by decide +kernel, rfl, by decide +kernel, by decide +kernel⟩
abbrev s_law_cell_at : Stmt := topS 27
theorem sc_law_cell_at : FnScope ["_law_script", "_law_k"] ["_law_script", "_law_k"] (defScope s_law_cell_at) := ⟨rfl, rfl, rfl, by decide +kernel, rfl, by decide +kernel, by decide +kernel⟩
abbrev s_law_source : Stmt := topS 28
theorem sc_law_source : FnScope ["_law_cell"] ["_law_cell"] (defScope s_law_source) := ⟨rfl, rfl, rfl, by decide +kernel, rfl, by decide +kernel, by decide +kernel⟩
abbrev s_law_take : Stmt := topS 29
theorem sc_law_take : FnScope ["_law_source_here", "_law_bound", "_law_prime", "_law_mixed", "_law_digit"] ["_law_source_here", "_law_bound"] (defScope s_law_take) := ⟨rfl, rfl, rfl, by decide +kernel, rfl, by decide +kernel, by decide +kernel⟩
abbrev s_law_large : Stmt := topS 30
theorem sc_law_large : FnScope ["_law_source_here", "_law_bound", "_law_total", "_law_part"] ["_law_source_here", "_law_bound"] (defScope s_law_large) := ⟨rfl, rfl, rfl, by decide +kernel, rfl, by decide +kernel, by decide +kernel⟩
abbrev s_law_queue : Stmt := topS 31
theorem sc_law_queue : FnScope ["_law_source_here", "_law_most", "_law_top", "_law_same", "_law_found", "_law_at", "_law_stock"] ["_law_source_here", "_law_most", "_law_top"] (defScope s_law_queue) := ⟨rfl, rfl, rfl, by decide +kernel, rfl, by decide +kernel, by decide +kernel⟩
abbrev s_law_over : Stmt := topS 32
theorem sc_law_over : FnScope ["_law_plan", "_law_numbers", "_law_line", "_law_at", "_law_stock", "_law_able", "_law_here"] ["_law_plan", "_law_numbers"] (defScope s_law_over) := ⟨rfl, rfl, rfl, by decide +kernel, rfl, by decide +kernel, by decide +kernel⟩
abbrev s_law_begun : Stmt := topS 33
theorem sc_law_begun : FnScope ["_law_plan", "_law_places", "_law_found", "_law_at", "_law_longer", "_law_numbers", "_law_more"] ["_law_plan", "_law_places"] (defScope s_law_begun) := ⟨rfl, rfl, rfl, by decide +kernel, rfl, by decide +kernel, by decide +kernel⟩
abbrev s_law_small_right : Stmt := topS 34
theorem sc_law_small_right : FnScope ["_law_source_here", "_law_plan", "_law_size", "_law_rows_here", "_law_places", "_law_numbers", "_law_odd", "_law_expected", "_law_at", "_law_some"] ["_law_source_here"] (defScope s_law_small_right) := ⟨rfl, rfl, rfl, by decide +kernel, rfl, by decide +kernel, by decide +kernel⟩
abbrev s_law_large_right : Stmt := topS 35
theorem sc_law_large_right : FnScope ["_law_source_here", "_law_size", "_law_tops", "_law_plan", "_law_whole", "_law_turn", "_law_at", "_law_line", "_law_numbers", "_law_more", "_law_ways", "_law_some"] ["_law_source_here"] (defScope s_law_large_right) := ⟨rfl, rfl, rfl, by decide +kernel, rfl, by decide +kernel, by decide +kernel⟩
abbrev s_law : Stmt := topS 36
theorem sc_law : FnScope ["_law_script", "_law_cell", "_law_source_here"] ["_law_script"] (defScope s_law) := ⟨rfl, rfl, rfl, by decide +kernel, rfl, by decide +kernel, by decide +kernel⟩
@[simp] theorem sne_nights_number_of_row : ((("nights" : Str) == "number_of_row") = false) := by decide +kernel
@[simp] theorem snp_nights_number_of_row : ((("nights" : Str) = "number_of_row") = False) := eq_false (by decide +kernel)
@[simp] theorem sne_nights_numbered_row : ((("nights" : Str) == "numbered_row") = false) := by decide +kernel
@[simp] theorem snp_nights_numbered_row : ((("nights" : Str) = "numbered_row") = False) := eq_false (by decide +kernel)
@[simp] theorem sne_nights_room_behind : ((("nights" : Str) == "room_behind") = false) := by decide +kernel
@[simp] theorem snp_nights_room_behind : ((("nights" : Str) = "room_behind") = False) := eq_false (by decide +kernel)
@[simp] theorem sne_nights_tops_by_day : ((("nights" : Str) == "tops_by_day") = false) := by decide +kernel
@[simp] theorem snp_nights_tops_by_day : ((("nights" : Str) = "tops_by_day") = False) := eq_false (by decide +kernel)
@[simp] theorem sne_nights_ways_behind : ((("nights" : Str) == "ways_behind") = false) := by decide +kernel
@[simp] theorem snp_nights_ways_behind : ((("nights" : Str) = "ways_behind") = False) := eq_false (by decide +kernel)
@[simp] theorem sne_nights_ways_by_day : ((("nights" : Str) == "ways_by_day") = false) := by decide +kernel
@[simp] theorem snp_nights_ways_by_day : ((("nights" : Str) = "ways_by_day") = False) := eq_false (by decide +kernel)
@[simp] theorem sne_nights_ways_on : ((("nights" : Str) == "ways_on") = false) := by decide +kernel
@[simp] theorem snp_nights_ways_on : ((("nights" : Str) = "ways_on") = False) := eq_false (by decide +kernel)
@[simp] theorem sne_number_of_row_nights : ((("number_of_row" : Str) == "nights") = false) := by decide +kernel
@[simp] theorem snp_number_of_row_nights : ((("number_of_row" : Str) = "nights") = False) := eq_false (by decide +kernel)
@[simp] theorem sne_number_of_row_numbered_row : ((("number_of_row" : Str) == "numbered_row") = false) := by decide +kernel
@[simp] theorem snp_number_of_row_numbered_row : ((("number_of_row" : Str) = "numbered_row") = False) := eq_false (by decide +kernel)
@[simp] theorem sne_number_of_row_room_behind : ((("number_of_row" : Str) == "room_behind") = false) := by decide +kernel
@[simp] theorem snp_number_of_row_room_behind : ((("number_of_row" : Str) = "room_behind") = False) := eq_false (by decide +kernel)
@[simp] theorem sne_number_of_row_tops_by_day : ((("number_of_row" : Str) == "tops_by_day") = false) := by decide +kernel
@[simp] theorem snp_number_of_row_tops_by_day : ((("number_of_row" : Str) = "tops_by_day") = False) := eq_false (by decide +kernel)
@[simp] theorem sne_number_of_row_ways_behind : ((("number_of_row" : Str) == "ways_behind") = false) := by decide +kernel
@[simp] theorem snp_number_of_row_ways_behind : ((("number_of_row" : Str) = "ways_behind") = False) := eq_false (by decide +kernel)
@[simp] theorem sne_number_of_row_ways_by_day : ((("number_of_row" : Str) == "ways_by_day") = false) := by decide +kernel
@[simp] theorem snp_number_of_row_ways_by_day : ((("number_of_row" : Str) = "ways_by_day") = False) := eq_false (by decide +kernel)
@[simp] theorem sne_number_of_row_ways_on : ((("number_of_row" : Str) == "ways_on") = false) := by decide +kernel
@[simp] theorem snp_number_of_row_ways_on : ((("number_of_row" : Str) = "ways_on") = False) := eq_false (by decide +kernel)
@[simp] theorem sne_numbered_row_nights : ((("numbered_row" : Str) == "nights") = false) := by decide +kernel
@[simp] theorem snp_numbered_row_nights : ((("numbered_row" : Str) = "nights") = False) := eq_false (by decide +kernel)
@[simp] theorem sne_numbered_row_number_of_row : ((("numbered_row" : Str) == "number_of_row") = false) := by decide +kernel
@[simp] theorem snp_numbered_row_number_of_row : ((("numbered_row" : Str) = "number_of_row") = False) := eq_false (by decide +kernel)
@[simp] theorem sne_numbered_row_room_behind : ((("numbered_row" : Str) == "room_behind") = false) := by decide +kernel
@[simp] theorem snp_numbered_row_room_behind : ((("numbered_row" : Str) = "room_behind") = False) := eq_false (by decide +kernel)
@[simp] theorem sne_numbered_row_tops_by_day : ((("numbered_row" : Str) == "tops_by_day") = false) := by decide +kernel
@[simp] theorem snp_numbered_row_tops_by_day : ((("numbered_row" : Str) = "tops_by_day") = False) := eq_false (by decide +kernel)
@[simp] theorem sne_numbered_row_ways_behind : ((("numbered_row" : Str) == "ways_behind") = false) := by decide +kernel
@[simp] theorem snp_numbered_row_ways_behind : ((("numbered_row" : Str) = "ways_behind") = False) := eq_false (by decide +kernel)
@[simp] theorem sne_numbered_row_ways_by_day : ((("numbered_row" : Str) == "ways_by_day") = false) := by decide +kernel
@[simp] theorem snp_numbered_row_ways_by_day : ((("numbered_row" : Str) = "ways_by_day") = False) := eq_false (by decide +kernel)
@[simp] theorem sne_numbered_row_ways_on : ((("numbered_row" : Str) == "ways_on") = false) := by decide +kernel
@[simp] theorem snp_numbered_row_ways_on : ((("numbered_row" : Str) = "ways_on") = False) := eq_false (by decide +kernel)
@[simp] theorem sne_room_behind_nights : ((("room_behind" : Str) == "nights") = false) := by decide +kernel
@[simp] theorem snp_room_behind_nights : ((("room_behind" : Str) = "nights") = False) := eq_false (by decide +kernel)
@[simp] theorem sne_room_behind_number_of_row : ((("room_behind" : Str) == "number_of_row") = false) := by decide +kernel
@[simp] theorem snp_room_behind_number_of_row : ((("room_behind" : Str) = "number_of_row") = False) := eq_false (by decide +kernel)
@[simp] theorem sne_room_behind_numbered_row : ((("room_behind" : Str) == "numbered_row") = false) := by decide +kernel
@[simp] theorem snp_room_behind_numbered_row : ((("room_behind" : Str) = "numbered_row") = False) := eq_false (by decide +kernel)
@[simp] theorem sne_room_behind_tops_by_day : ((("room_behind" : Str) == "tops_by_day") = false) := by decide +kernel
@[simp] theorem snp_room_behind_tops_by_day : ((("room_behind" : Str) = "tops_by_day") = False) := eq_false (by decide +kernel)
@[simp] theorem sne_room_behind_ways_behind : ((("room_behind" : Str) == "ways_behind") = false) := by decide +kernel
@[simp] theorem snp_room_behind_ways_behind : ((("room_behind" : Str) = "ways_behind") = False) := eq_false (by decide +kernel)
@[simp] theorem sne_room_behind_ways_by_day : ((("room_behind" : Str) == "ways_by_day") = false) := by decide +kernel
@[simp] theorem snp_room_behind_ways_by_day : ((("room_behind" : Str) = "ways_by_day") = False) := eq_false (by decide +kernel)
@[simp] theorem sne_room_behind_ways_on : ((("room_behind" : Str) == "ways_on") = false) := by decide +kernel
@[simp] theorem snp_room_behind_ways_on : ((("room_behind" : Str) = "ways_on") = False) := eq_false (by decide +kernel)
@[simp] theorem sne_tops_by_day_nights : ((("tops_by_day" : Str) == "nights") = false) := by decide +kernel
@[simp] theorem snp_tops_by_day_nights : ((("tops_by_day" : Str) = "nights") = False) := eq_false (by decide +kernel)
@[simp] theorem sne_tops_by_day_number_of_row : ((("tops_by_day" : Str) == "number_of_row") = false) := by decide +kernel
@[simp] theorem snp_tops_by_day_number_of_row : ((("tops_by_day" : Str) = "number_of_row") = False) := eq_false (by decide +kernel)
@[simp] theorem sne_tops_by_day_numbered_row : ((("tops_by_day" : Str) == "numbered_row") = false) := by decide +kernel
@[simp] theorem snp_tops_by_day_numbered_row : ((("tops_by_day" : Str) = "numbered_row") = False) := eq_false (by decide +kernel)
@[simp] theorem sne_tops_by_day_room_behind : ((("tops_by_day" : Str) == "room_behind") = false) := by decide +kernel
@[simp] theorem snp_tops_by_day_room_behind : ((("tops_by_day" : Str) = "room_behind") = False) := eq_false (by decide +kernel)
@[simp] theorem sne_tops_by_day_ways_behind : ((("tops_by_day" : Str) == "ways_behind") = false) := by decide +kernel
@[simp] theorem snp_tops_by_day_ways_behind : ((("tops_by_day" : Str) = "ways_behind") = False) := eq_false (by decide +kernel)
@[simp] theorem sne_tops_by_day_ways_by_day : ((("tops_by_day" : Str) == "ways_by_day") = false) := by decide +kernel
@[simp] theorem snp_tops_by_day_ways_by_day : ((("tops_by_day" : Str) = "ways_by_day") = False) := eq_false (by decide +kernel)
@[simp] theorem sne_tops_by_day_ways_on : ((("tops_by_day" : Str) == "ways_on") = false) := by decide +kernel
@[simp] theorem snp_tops_by_day_ways_on : ((("tops_by_day" : Str) = "ways_on") = False) := eq_false (by decide +kernel)
@[simp] theorem sne_ways_behind_nights : ((("ways_behind" : Str) == "nights") = false) := by decide +kernel
@[simp] theorem snp_ways_behind_nights : ((("ways_behind" : Str) = "nights") = False) := eq_false (by decide +kernel)
@[simp] theorem sne_ways_behind_number_of_row : ((("ways_behind" : Str) == "number_of_row") = false) := by decide +kernel
@[simp] theorem snp_ways_behind_number_of_row : ((("ways_behind" : Str) = "number_of_row") = False) := eq_false (by decide +kernel)
@[simp] theorem sne_ways_behind_numbered_row : ((("ways_behind" : Str) == "numbered_row") = false) := by decide +kernel
@[simp] theorem snp_ways_behind_numbered_row : ((("ways_behind" : Str) = "numbered_row") = False) := eq_false (by decide +kernel)
@[simp] theorem sne_ways_behind_room_behind : ((("ways_behind" : Str) == "room_behind") = false) := by decide +kernel
@[simp] theorem snp_ways_behind_room_behind : ((("ways_behind" : Str) = "room_behind") = False) := eq_false (by decide +kernel)
@[simp] theorem sne_ways_behind_tops_by_day : ((("ways_behind" : Str) == "tops_by_day") = false) := by decide +kernel
@[simp] theorem snp_ways_behind_tops_by_day : ((("ways_behind" : Str) = "tops_by_day") = False) := eq_false (by decide +kernel)
@[simp] theorem sne_ways_behind_ways_by_day : ((("ways_behind" : Str) == "ways_by_day") = false) := by decide +kernel
@[simp] theorem snp_ways_behind_ways_by_day : ((("ways_behind" : Str) = "ways_by_day") = False) := eq_false (by decide +kernel)
@[simp] theorem sne_ways_behind_ways_on : ((("ways_behind" : Str) == "ways_on") = false) := by decide +kernel
@[simp] theorem snp_ways_behind_ways_on : ((("ways_behind" : Str) = "ways_on") = False) := eq_false (by decide +kernel)
@[simp] theorem sne_ways_by_day_nights : ((("ways_by_day" : Str) == "nights") = false) := by decide +kernel
@[simp] theorem snp_ways_by_day_nights : ((("ways_by_day" : Str) = "nights") = False) := eq_false (by decide +kernel)
@[simp] theorem sne_ways_by_day_number_of_row : ((("ways_by_day" : Str) == "number_of_row") = false) := by decide +kernel
@[simp] theorem snp_ways_by_day_number_of_row : ((("ways_by_day" : Str) = "number_of_row") = False) := eq_false (by decide +kernel)
@[simp] theorem sne_ways_by_day_numbered_row : ((("ways_by_day" : Str) == "numbered_row") = false) := by decide +kernel
@[simp] theorem snp_ways_by_day_numbered_row : ((("ways_by_day" : Str) = "numbered_row") = False) := eq_false (by decide +kernel)
@[simp] theorem sne_ways_by_day_room_behind : ((("ways_by_day" : Str) == "room_behind") = false) := by decide +kernel
@[simp] theorem snp_ways_by_day_room_behind : ((("ways_by_day" : Str) = "room_behind") = False) := eq_false (by decide +kernel)
@[simp] theorem sne_ways_by_day_tops_by_day : ((("ways_by_day" : Str) == "tops_by_day") = false) := by decide +kernel
@[simp] theorem snp_ways_by_day_tops_by_day : ((("ways_by_day" : Str) = "tops_by_day") = False) := eq_false (by decide +kernel)
@[simp] theorem sne_ways_by_day_ways_behind : ((("ways_by_day" : Str) == "ways_behind") = false) := by decide +kernel
@[simp] theorem snp_ways_by_day_ways_behind : ((("ways_by_day" : Str) = "ways_behind") = False) := eq_false (by decide +kernel)
@[simp] theorem sne_ways_by_day_ways_on : ((("ways_by_day" : Str) == "ways_on") = false) := by decide +kernel
@[simp] theorem snp_ways_by_day_ways_on : ((("ways_by_day" : Str) = "ways_on") = False) := eq_false (by decide +kernel)
@[simp] theorem sne_ways_on_nights : ((("ways_on" : Str) == "nights") = false) := by decide +kernel
@[simp] theorem snp_ways_on_nights : ((("ways_on" : Str) = "nights") = False) := eq_false (by decide +kernel)
@[simp] theorem sne_ways_on_number_of_row : ((("ways_on" : Str) == "number_of_row") = false) := by decide +kernel
@[simp] theorem snp_ways_on_number_of_row : ((("ways_on" : Str) = "number_of_row") = False) := eq_false (by decide +kernel)
@[simp] theorem sne_ways_on_numbered_row : ((("ways_on" : Str) == "numbered_row") = false) := by decide +kernel
@[simp] theorem snp_ways_on_numbered_row : ((("ways_on" : Str) = "numbered_row") = False) := eq_false (by decide +kernel)
@[simp] theorem sne_ways_on_room_behind : ((("ways_on" : Str) == "room_behind") = false) := by decide +kernel
@[simp] theorem snp_ways_on_room_behind : ((("ways_on" : Str) = "room_behind") = False) := eq_false (by decide +kernel)
@[simp] theorem sne_ways_on_tops_by_day : ((("ways_on" : Str) == "tops_by_day") = false) := by decide +kernel
@[simp] theorem snp_ways_on_tops_by_day : ((("ways_on" : Str) = "tops_by_day") = False) := eq_false (by decide +kernel)
@[simp] theorem sne_ways_on_ways_behind : ((("ways_on" : Str) == "ways_behind") = false) := by decide +kernel
@[simp] theorem snp_ways_on_ways_behind : ((("ways_on" : Str) = "ways_behind") = False) := eq_false (by decide +kernel)
@[simp] theorem sne_ways_on_ways_by_day : ((("ways_on" : Str) == "ways_by_day") = false) := by decide +kernel
@[simp] theorem snp_ways_on_ways_by_day : ((("ways_on" : Str) = "ways_by_day") = False) := eq_false (by decide +kernel)
/-! ### what the bodies compute -/
def b_is_integer : GS := gRet (gAndV (gOp1 (dIsi "int") (gV 0)) (gOp1 dNot (gOp1 (dIsi "bool") (gV 0))))
def F_is_integer : List D → List MO → R D := runF 1 b_is_integer
def b_is_at_least : GS := gRet (gAndV (gCallF 1 F_is_integer (gCons (gV 0) (gNil))) (gOp2 dGeA (gV 0) (gV 1)))
def F_is_at_least : List D → List MO → R D := runF 2 b_is_at_least
def b_is_between : GS := gRet (gAndV (gCallF 1 F_is_integer (gCons (gV 0) (gNil))) (gChain dLe dLe (gV 1) (gV 0) (gV 2)))
def F_is_between : List D → List MO → R D := runF 3 b_is_between
def le_are_numbers_1 : GE := gCallF 2 F_is_at_least (gCons (gV 1) (gCons (gC (.int 0)) (gNil)))
def b_are_numbers : GS := gRet (gAndV (gOp1 (dIsi "tuple") (gV 0)) (gCall (fn1 dAll) (gCons (gLc (gSeqI (gV 0)) (gTo 1) (gYes) (le_are_numbers_1) [1]) (gNil))))
def F_are_numbers : List D → List MO → R D := runF 2 b_are_numbers
def lb_require_row_1 : GS := gSeq (gIf (gNotT (gVal (gCallF 2 F_is_at_least (gCons (gV 3) (gCons (gC (.int 0)) (gNil)))))) (gBad) (gPass)) (gForget [2, 3])
def b_require_row : GS := gSeq (gIf (gOrT (gNotT (gVal (gOp1 (dIsi "tuple") (gV 1)))) (gVal (gOp2 dNeA (gCall (fn1 dLen) (gCons (gV 1) (gNil))) (gCall (fn1 dLen) (gCons (gV 0) (gNil)))))) (gBad) (gPass)) (gSeq (gSeq (gForget [2, 3]) (gFor (gEnum (gV 1)) (gToT (gToCons (gTo 2) (gToCons (gTo 3) (gToNil)))) (lb_require_row_1))) (gForget [2, 3]))
def F_require_row : List D → List MO → R D := runF 4 b_require_row
def b_is_night : GS := gSeq (gIf (gOrT (gNotT (gVal (gOp1 (dIsi "tuple") (gV 0)))) (gVal (gOp2 dNeA (gCall (fn1 dLen) (gCons (gV 0) (gNil))) (gC (.int 2))))) (gRet (gC (.bl false))) (gPass)) (gRet (gAndV (gCallF 3 F_is_between (gCons (gOp2 dIx (gV 0) (gC (.int 0))) (gCons (gC (.int 0)) (gCons (gC (.int 12)) (gNil))))) (gCallF 3 F_is_between (gCons (gOp2 dIx (gV 0) (gC (.int 1))) (gCons (gC (.int 0)) (gCons (gC (.int 12)) (gNil)))))))
def F_is_night : List D → List MO → R D := runF 1 b_is_night
def lb_require_queue_1 : GS := gSeq (gIf (gNotT (gVal (gCallF 1 F_is_night (gCons (gV 2) (gNil))))) (gBad) (gPass)) (gForget [1, 2])
def b_require_queue : GS := gSeq (gIf (gOrT (gNotT (gVal (gOp1 (dIsiT ["list", "tuple"]) (gV 0)))) (gVal (gOp2 dGt (gCall (fn1 dLen) (gCons (gV 0) (gNil))) (gC (.int 100))))) (gBad) (gPass)) (gSeq (gSeq (gForget [1, 2]) (gFor (gEnum (gV 0)) (gToT (gToCons (gTo 1) (gToCons (gTo 2) (gToNil)))) (lb_require_queue_1))) (gForget [1, 2]))
def F_require_queue : List D → List MO → R D := runF 3 b_require_queue
def lb_waiting_mornings_1 : GS := gSeq (gAsg (gIfE (gVal (gOp2 dLt (gV 3) (gCall (fn1 dLen) (gCons (gV 1) (gNil))))) (gOp2 dIx (gV 1) (gV 3)) (gC (.int 0))) (gTo 6)) (gSeq (gExpr (gMeth1 mAppend (gV 2) (gCall (fn2 dMax2) (gCons (gC (.int 0)) (gCons (gOp2 dSub (gOp2 dAdd (gOp2 dIx (gV 2) (gOp1 dNeg (gC (.int 1)))) (gV 6)) (gV 5)) (gNil)))))) (gForget [3, 4, 5, 6]))
def b_waiting_mornings : GS := gSeq (gAsg (gLstO (gCons (gC (.int 0)) (gNil))) (gTo 2)) (gSeq (gSeq (gSeq (gSeq (gForget [3, 4, 5, 6]) (gFor (gEnum (gV 0)) (gToT (gToCons (gTo 3) (gToCons (gToT (gToCons (gTo 4) (gToCons (gTo 5) (gToNil)))) (gToNil)))) (lb_waiting_mornings_1))) (gForget [3, 4, 5, 6])) (gFz 2)) (gRet (gV 2)))
def F_waiting_mornings : List D → List MO → R D := runF 7 b_waiting_mornings
def lb_queue_over_1 : GS := gSeq (gAsg (gIfE (gVal (gOp2 dLt (gV 2) (gCall (fn1 dLen) (gCons (gV 1) (gNil))))) (gOp2 dIx (gV 1) (gV 2)) (gC (.int 0))) (gTo 4)) (gSeq (gIf (gVal (gOp2 dGt (gOp2 dAdd (gV 3) (gV 4)) (gOp2 dIx (gOp2 dIx (gV 0) (gV 2)) (gC (.int 0))))) (gRet (gOp2 dAdd (gV 2) (gC (.int 1)))) (gPass)) (gForget [2, 3, 4]))
def b_queue_over : GS := gSeq (gSeq (gSeq (gForget [2, 3, 4]) (gFor (gEnum (gSl (gCallF 2 F_waiting_mornings (gCons (gV 0) (gCons (gV 1) (gNil)))) (gNoO) (gO (gOp1 dNeg (gC (.int 1)))))) (gToT (gToCons (gTo 2) (gToCons (gTo 3) (gToNil)))) (lb_queue_over_1))) (gForget [2, 3, 4])) (gRet (gC .non))
def F_queue_over : List D → List MO → R D := runF 5 b_queue_over
def b_require_queue_past : GS := gSeq (gIf (gOrT (gNotT (gVal (gCallF 1 F_are_numbers (gCons (gV 1) (gNil))))) (gVal (gOp2 dGt (gCall (fn1 dLen) (gCons (gV 1) (gNil))) (gCall (fn1 dLen) (gCons (gV 0) (gNil)))))) (gBad) (gPass)) (gSeq (gAsg (gCallF 2 F_queue_over (gCons (gV 0) (gCons (gV 1) (gNil)))) (gTo 2)) (gIf (gVal (gOp2 dNotN (gV 2) (gC .non))) (gBad) (gPass)))
def F_require_queue_past : List D → List MO → R D := runF 3 b_require_queue_past
def lb_Rooms_init_1 : GS := gSeq (gExpr (gMeth1 mAppend (gFld "Rooms" "tops_by_day" (gV 0)) (gCall (fn2 dMin2) (gCons (gV 2) (gCons (gOp2 dAdd (gOp2 dIx (gFld "Rooms" "tops_by_day" (gV 0)) (gOp1 dNeg (gC (.int 1)))) (gV 3)) (gNil)))))) (gForget [2, 3])
def le_Rooms_init_1 : GE := gOp2 dIx (gV 5) (gCall (fn2 dMax2) (gCons (gC (.int 0)) (gCons (gOp2 dSub (gV 8) (gV 3)) (gNil))))
def le_Rooms_init_2 : GE := gCall (fn1 dSum) (gCons (gSl (gV 7) (gO (gV 9)) (gNoO)) (gNil))
def lb_Rooms_init_2 : GS := gSeq (gAsg (gOp2 dIx (gFld "Rooms" "ways_by_day" (gV 0)) (gOp1 dNeg (gC (.int 1)))) (gTo 5)) (gSeq (gAsg (gTup (gCons (gOp2 dIx (gFld "Rooms" "tops_by_day" (gV 0)) (gV 4)) (gCons (gOp2 dIx (gOp2 dIx (gV 1) (gV 4)) (gC (.int 1))) (gNil)))) (gToT (gToCons (gTo 6) (gToCons (gTo 3) (gToNil))))) (gSeq (gAsg (gLc (gRng1 (gCons (gOp2 dAdd (gV 6) (gC (.int 1))) (gNil))) (gTo 8) (gYes) (le_Rooms_init_1) [8]) (gTo 7)) (gSeq (gExpr (gMeth1 mAppend (gFld "Rooms" "ways_by_day" (gV 0)) (gLc (gRng1 (gCons (gOp2 dAdd (gV 6) (gC (.int 1))) (gNil))) (gTo 9) (gYes) (le_Rooms_init_2) [9]))) (gForget [3, 4, 5, 6, 7]))))
def b_Rooms_init : GS := gSeq (gSetF "Rooms" "nights" (gV 1) (gV 0)) (gSeq (gSetF "Rooms" "tops_by_day" (gLstO (gCons (gC (.int 12)) (gNil))) (gV 0)) (gSeq (gSeq (gSeq (gForget [2, 3]) (gFor (gRev (gV 1)) (gToT (gToCons (gTo 2) (gToCons (gTo 3) (gToNil)))) (lb_Rooms_init_1))) (gForget [2, 3])) (gSeq (gSeq (gExpr (gMeth0 mReverse (gFld "Rooms" "tops_by_day" (gV 0)))) (gFzF 0 "tops_by_day")) (gSeq (gSetF "Rooms" "ways_by_day" (gLstO (gCons (gOp2 dMulT (gLst (gCons (gC (.int 1)) (gNil))) (gOp2 dAdd (gC (.int 12)) (gC (.int 1)))) (gNil))) (gV 0)) (gSeq (gSeq (gSeq (gForget [3, 4, 5, 6, 7]) (gFor (gRng3 (gCons (gOp2 dSub (gCall (fn1 dLen) (gCons (gV 1) (gNil))) (gC (.int 1))) (gCons (gOp1 dNeg (gC (.int 1))) (gCons (gOp1 dNeg (gC (.int 1))) (gNil))))) (gTo 4) (lb_Rooms_init_2))) (gForget [3, 4, 5, 6, 7])) (gSeq (gExpr (gMeth0 mReverse (gFld "Rooms" "ways_by_day" (gV 0)))) (gFzF 0 "ways_by_day")))))))
def F_Rooms_init : List D → List MO → R D := runF 10 b_Rooms_init
def b_Rooms_ways_behind : GS := gRet (gOp2 dIx (gOp2 dIx (gFld "Rooms" "ways_by_day" (gV 0)) (gCall (fn1 dLen) (gCons (gV 1) (gNil)))) (gOp2 dIx (gCallF 2 F_waiting_mornings (gCons (gFld "Rooms" "nights" (gV 0)) (gCons (gV 1) (gNil)))) (gCall (fn1 dLen) (gCons (gV 1) (gNil)))))
def F_Rooms_ways_behind : List D → List MO → R D := runF 2 b_Rooms_ways_behind
def b_Rooms_room_behind : GS := gRet (gOp2 dSub (gOp2 dIx (gFld "Rooms" "tops_by_day" (gV 0)) (gCall (fn1 dLen) (gCons (gV 1) (gNil)))) (gOp2 dIx (gCallF 2 F_waiting_mornings (gCons (gFld "Rooms" "nights" (gV 0)) (gCons (gV 1) (gNil)))) (gCall (fn1 dLen) (gCons (gV 1) (gNil)))))
def F_Rooms_room_behind : List D → List MO → R D := runF 2 b_Rooms_room_behind
def b_Rooms_ways_on : GS := gRet (gOp2 dIx (gOp2 dIx (gFld "Rooms" "ways_by_day" (gV 0)) (gOp2 dAdd (gV 1) (gC (.int 1)))) (gCall (fn2 dMax2) (gCons (gC (.int 0)) (gCons (gOp2 dSub (gV 2) (gOp2 dIx (gOp2 dIx (gFld "Rooms" "nights" (gV 0)) (gV 1)) (gC (.int 1)))) (gNil)))))
def F_Rooms_ways_on : List D → List MO → R D := runF 3 b_Rooms_ways_on
def lb_Rooms_numbered_row_2 : GS := gSeq (gAug 1 (fun i j => i - j) (gMeth "Rooms" "ways_on" 3 F_Rooms_ways_on (gV 0) (gCons (gV 4) (gCons (gV 7) (gNil))))) (gSeq (gAug 7 (fun i j => i - j) (gC (.int 1))) (gForget []))
def lw_Rooms_numbered_row_2 : GT := gVal (gOp2 dGeA (gV 1) (gMeth "Rooms" "ways_on" 3 F_Rooms_ways_on (gV 0) (gCons (gV 4) (gCons (gV 7) (gNil)))))
def lb_Rooms_numbered_row_1 : GS := gSeq (gAsg (gOp2 dIx (gFld "Rooms" "tops_by_day" (gV 0)) (gV 4)) (gTo 7)) (gSeq (gSeq (gSeq (gForget []) (gWhile (lw_Rooms_numbered_row_2) (lb_Rooms_numbered_row_2) 1000000000)) (gForget [])) (gSeq (gExpr (gMeth1 mAppend (gV 2) (gOp2 dSub (gV 7) (gV 3)))) (gSeq (gAsg (gCall (fn2 dMax2) (gCons (gC (.int 0)) (gCons (gOp2 dSub (gV 7) (gV 6)) (gNil)))) (gTo 3)) (gForget [4, 5, 6, 7]))))
def b_Rooms_numbered_row : GS := gSeq (gPar2 2 3 (gCons (gLstO (gNil)) (gCons (gC (.int 0)) (gNil)))) (gSeq (gSeq (gSeq (gSeq (gForget [4, 5, 6, 7]) (gFor (gEnum (gFld "Rooms" "nights" (gV 0))) (gToT (gToCons (gTo 4) (gToCons (gToT (gToCons (gTo 5) (gToCons (gTo 6) (gToNil)))) (gToNil)))) (lb_Rooms_numbered_row_1))) (gForget [1, 3, 4, 5, 6, 7])) (gFz 2)) (gRet (gCall (fn1 dTuple) (gCons (gV 2) (gNil)))))
def F_Rooms_numbered_row : List D → List MO → R D := runF 8 b_Rooms_numbered_row
def lb_Rooms_number_of_row_2 : GS := gSeq (gAug 6 (fun i j => i + j) (gC (.int 1))) (gSeq (gAug 2 (fun i j => i + j) (gMeth "Rooms" "ways_on" 3 F_Rooms_ways_on (gV 0) (gCons (gV 4) (gCons (gV 6) (gNil))))) (gForget []))
def lw_Rooms_number_of_row_2 : GT := gVal (gOp2 dLt (gV 6) (gOp2 dIx (gFld "Rooms" "tops_by_day" (gV 0)) (gV 4)))
def lb_Rooms_number_of_row_1 : GS := gSeq (gAsg (gOp2 dAdd (gV 3) (gV 5)) (gTo 6)) (gSeq (gSeq (gSeq (gForget []) (gWhile (lw_Rooms_number_of_row_2) (lb_Rooms_number_of_row_2) 1000000000)) (gForget [6])) (gSeq (gAsg (gCall (fn2 dMax2) (gCons (gC (.int 0)) (gCons (gOp2 dSub (gOp2 dAdd (gV 3) (gV 5)) (gOp2 dIx (gOp2 dIx (gFld "Rooms" "nights" (gV 0)) (gV 4)) (gC (.int 1)))) (gNil)))) (gTo 3)) (gForget [4, 5, 6])))
def b_Rooms_number_of_row : GS := gSeq (gAsg (gTup (gCons (gC (.int 0)) (gCons (gC (.int 0)) (gNil)))) (gToT (gToCons (gTo 2) (gToCons (gTo 3) (gToNil))))) (gSeq (gSeq (gSeq (gForget [4, 5, 6]) (gFor (gEnum (gV 1)) (gToT (gToCons (gTo 4) (gToCons (gTo 5) (gToNil)))) (lb_Rooms_number_of_row_1))) (gForget [3, 4, 5, 6])) (gRet (gV 2)))
def F_Rooms_number_of_row : List D → List MO → R D := runF 7 b_Rooms_number_of_row
def b_queue_ready : GS := gSeq (gExpr (gCallF 1 F_require_queue (gCons (gV 0) (gNil)))) (gSeq (gExpr (gCallF 2 F_require_queue_past (gCons (gV 0) (gCons (gV 1) (gNil))))) (gRet (gIfE (gVal (gOp2 dLt (gCall (fn1 dLen) (gCons (gV 1) (gNil))) (gCall (fn1 dLen) (gCons (gV 0) (gNil))))) (gMeth "Rooms" "room_behind" 2 F_Rooms_room_behind (gNew "Rooms" 2 F_Rooms_init (gCons (gV 0) (gNil))) (gCons (gV 1) (gNil))) (gC .non))))
def F_queue_ready : List D → List MO → R D := runF 2 b_queue_ready
def b_queue_fault : GS := gSeq (gExpr (gCallF 1 F_require_queue (gCons (gV 0) (gNil)))) (gSeq (gExpr (gCallF 2 F_require_row (gCons (gV 0) (gCons (gV 1) (gNil))))) (gRet (gCallF 2 F_queue_over (gCons (gV 0) (gCons (gV 1) (gNil))))))
def F_queue_fault : List D → List MO → R D := runF 2 b_queue_fault
def b_queue_count : GS := gSeq (gExpr (gCallF 1 F_require_queue (gCons (gV 0) (gNil)))) (gSeq (gExpr (gCallF 2 F_require_queue_past (gCons (gV 0) (gCons (gV 1) (gNil))))) (gRet (gMeth "Rooms" "ways_behind" 2 F_Rooms_ways_behind (gNew "Rooms" 2 F_Rooms_init (gCons (gV 0) (gNil))) (gCons (gV 1) (gNil)))))
def F_queue_count : List D → List MO → R D := runF 2 b_queue_count
def b_queue_row_at : GS := gSeq (gExpr (gCallF 1 F_require_queue (gCons (gV 0) (gNil)))) (gSeq (gAsg (gNew "Rooms" 2 F_Rooms_init (gCons (gV 0) (gNil))) (gTo 2)) (gSeq (gIf (gOrT (gNotT (gVal (gCallF 2 F_is_at_least (gCons (gV 1) (gCons (gC (.int 0)) (gNil)))))) (gVal (gOp2 dGeA (gV 1) (gMeth "Rooms" "ways_behind" 2 F_Rooms_ways_behind (gV 2) (gCons (gTup (gNil)) (gNil)))))) (gBad) (gPass)) (gRet (gMeth "Rooms" "numbered_row" 2 F_Rooms_numbered_row (gV 2) (gCons (gV 1) (gNil))))))
def F_queue_row_at : List D → List MO → R D := runF 3 b_queue_row_at
def b_queue_number_of : GS := gSeq (gExpr (gCallF 1 F_require_queue (gCons (gV 0) (gNil)))) (gSeq (gExpr (gCallF 2 F_require_row (gCons (gV 0) (gCons (gV 1) (gNil))))) (gSeq (gIf (gVal (gOp2 dNotN (gCallF 2 F_queue_over (gCons (gV 0) (gCons (gV 1) (gNil)))) (gC .non))) (gRet (gC .non)) (gPass)) (gRet (gMeth "Rooms" "number_of_row" 2 F_Rooms_number_of_row (gNew "Rooms" 2 F_Rooms_init (gCons (gV 0) (gNil))) (gCons (gV 1) (gNil))))))
def F_queue_number_of : List D → List MO → R D := runF 2 b_queue_number_of
def b_law_cell_at : GS := gRet (gIfE (gVal (gOp2 dLt (gV 1) (gCall (fn1 dLen) (gCons (gV 0) (gNil))))) (gOp2 dIx (gV 0) (gV 1)) (gC (.int 0)))
def F_law_cell_at : List D → List MO → R D := runF 2 b_law_cell_at
def b_law_source : GS := gRet (gLstO (gCons (gOp2 dMulT (gV 0) (gCall (fn1 dInt) (gCons (gOp2 dGeA (gV 0) (gOp2 dPow (gC (.int 10)) (gC (.int 18)))) (gNil)))) (gCons (gOp2 dMod (gV 0) (gC (.int 2147483647))) (gCons (gC (.int 0)) (gNil)))))
def F_law_source : List D → List MO → R D := runF 1 b_law_source
def b_law_take : GS := gSeq (gIf (gVal (gOp2 dGt (gOp2 dIx (gV 0) (gC (.int 0))) (gC (.int 0)))) (gSeq (gAsg (gOp2 dMod (gOp2 dIx (gV 0) (gC (.int 0))) (gV 1)) (gTo 4)) (gSeq (gSetI (gOp2 dFdiv (gOp2 dIx (gV 0) (gC (.int 0))) (gV 1)) (gV 0) (gC (.int 0))) (gRet (gV 4)))) (gPass)) (gSeq (gSetI (gOp2 dAdd (gOp2 dIx (gV 0) (gC (.int 2))) (gC (.int 1))) (gV 0) (gC (.int 2))) (gSeq (gAsg (gOp2 dIx (gLst (gCons (gC (.int 2147483629)) (gCons (gC (.int 2147483587)) (gCons (gC (.int 2147483579)) (gCons (gC (.int 2147483563)) (gNil)))))) (gOp2 dMod (gOp2 dIx (gV 0) (gC (.int 2))) (gC (.int 4)))) (gTo 2)) (gSeq (gAsg (gOp2 dMod (gOp2 dPow (gOp2 dAdd (gOp2 dAdd (gOp2 dIx (gV 0) (gC (.int 1))) (gOp2 dMulT (gC (.int 6007)) (gOp2 dIx (gV 0) (gC (.int 2))))) (gC (.int 29))) (gC (.int 3))) (gV 2)) (gTo 3)) (gSeq (gAsg (gOp2 dMod (gOp2 dMulT (gOp2 dAdd (gV 3) (gOp2 dIx (gV 0) (gC (.int 2)))) (gOp2 dAdd (gOp2 dFdiv (gV 3) (gC (.int 1021))) (gC (.int 50021)))) (gV 2)) (gTo 3)) (gSeq (gAsg (gOp2 dMod (gOp2 dMulT (gV 3) (gOp2 dAdd (gOp2 dAdd (gOp2 dFdiv (gV 3) (gC (.int 887))) (gOp2 dMulT (gC (.int 31)) (gOp2 dIx (gV 0) (gC (.int 2))))) (gC (.int 3)))) (gV 2)) (gTo 3)) (gRet (gOp2 dMod (gOp2 dFdiv (gV 3) (gC (.int 13))) (gV 1))))))))
def F_law_take : List D → List MO → R D := runF 5 b_law_take
def lb_law_large_1 : GS := gSeq (gAsg (gOp2 dAdd (gOp2 dMulT (gV 2) (gOp2 dPow (gC (.int 10)) (gC (.int 9)))) (gCallF 2 F_law_take (gCons (gV 0) (gCons (gOp2 dPow (gC (.int 10)) (gC (.int 9))) (gNil))))) (gTo 2)) (gForget [3])
def b_law_large : GS := gSeq (gAsg (gC (.int 0)) (gTo 2)) (gSeq (gSeq (gSeq (gForget [3]) (gFor (gRng1 (gCons (gC (.int 4)) (gNil))) (gTo 3) (lb_law_large_1))) (gForget [3])) (gRet (gOp2 dMod (gV 2) (gV 1))))
def F_law_large : List D → List MO → R D := runF 4 b_law_large
def lb_law_queue_1 : GS := gSeq (gAsg (gOp2 dIx (gLst (gCons (gV 2) (gCons (gCallF 2 F_law_take (gCons (gV 0) (gCons (gOp2 dAdd (gV 2) (gC (.int 1))) (gNil)))) (gCons (gCallF 2 F_law_take (gCons (gV 0) (gCons (gOp2 dAdd (gV 2) (gC (.int 1))) (gNil)))) (gNil))))) (gV 3)) (gTo 6)) (gSeq (gExpr (gMeth1 mAppend (gV 4) (gTup (gCons (gV 6) (gCons (gOp2 dIx (gLst (gCons (gC (.int 0)) (gCons (gC (.int 1)) (gCons (gCallF 2 F_law_take (gCons (gV 0) (gCons (gOp2 dAdd (gV 2) (gC (.int 1))) (gNil)))) (gNil))))) (gCallF 2 F_law_take (gCons (gV 0) (gCons (gC (.int 3)) (gNil))))) (gNil)))))) (gForget [5, 6]))
def b_law_queue : GS := gSeq (gAsg (gCallF 2 F_law_take (gCons (gV 0) (gCons (gC (.int 3)) (gNil)))) (gTo 3)) (gSeq (gAsg (gLstO (gNil)) (gTo 4)) (gSeq (gSeq (gSeq (gSeq (gForget [5, 6]) (gFor (gRng1 (gCons (gCallF 2 F_law_take (gCons (gV 0) (gCons (gOp2 dAdd (gV 1) (gC (.int 1))) (gNil)))) (gNil))) (gTo 5) (lb_law_queue_1))) (gForget [5, 6])) (gFz 4)) (gRet (gV 4))))
def F_law_queue : List D → List MO → R D := runF 7 b_law_queue
def lb_law_over_1 : GS := gSeq (gAsg (gOp2 dAdd (gV 2) (gIfE (gVal (gOp2 dLt (gV 3) (gCall (fn1 dLen) (gCons (gV 1) (gNil))))) (gOp2 dIx (gV 1) (gV 3)) (gC (.int 0)))) (gTo 6)) (gSeq (gIf (gVal (gOp2 dGt (gV 6) (gV 4))) (gRet (gOp2 dAdd (gV 3) (gC (.int 1)))) (gPass)) (gSeq (gAsg (gCall (fn2 dMax2) (gCons (gC (.int 0)) (gCons (gOp2 dSub (gV 6) (gV 5)) (gNil)))) (gTo 2)) (gForget [3, 4, 5, 6])))
def b_law_over : GS := gSeq (gAsg (gC (.int 0)) (gTo 2)) (gSeq (gSeq (gSeq (gForget [3, 4, 5, 6]) (gFor (gEnum (gV 0)) (gToT (gToCons (gTo 3) (gToCons (gToT (gToCons (gTo 4) (gToCons (gTo 5) (gToNil)))) (gToNil)))) (lb_law_over_1))) (gForget [2, 3, 4, 5, 6])) (gRet (gC .non)))
def F_law_over : List D → List MO → R D := runF 7 b_law_over
def le_law_begun_1 : GE := gOp2 dAdd (gV 5) (gTup (gCons (gV 6) (gNil)))
def lb_law_begun_2 : GS := gSeq (gExpr (gMeth1 mExtend (gV 4) (gLc (gRng3 (gCons (gOp2 dIx (gOp2 dIx (gV 0) (gV 3)) (gC (.int 0))) (gCons (gOp1 dNeg (gC (.int 1))) (gCons (gOp1 dNeg (gC (.int 1))) (gNil))))) (gTo 6) (gYes) (le_law_begun_1) [6]))) (gForget [5])
def lb_law_begun_1 : GS := gScope (gSeq (gAsg (gLstO (gNil)) (gTo 4)) (gSeq (gSeq (gSeq (gSeq (gForget [5]) (gFor (gSeqI (gV 2)) (gTo 5) (lb_law_begun_2))) (gForget [5])) (gFz 4)) (gSeq (gAsg (gLc (gSeqI (gV 4)) (gTo 5) (gVal (gOp2 dIsN (gCallF 2 F_law_over (gCons (gV 0) (gCons (gV 5) (gNil)))) (gC .non))) (gV 5) [5]) (gTo 2)) (gForget [3, 4, 5]))))
def b_law_begun : GS := gSeq (gAsg (gLst (gCons (gTup (gNil)) (gNil))) (gTo 2)) (gSeq (gSeq (gSeq (gForget [3, 4, 5]) (gFor (gRng1 (gCons (gV 1) (gNil))) (gTo 3) (lb_law_begun_1))) (gForget [3, 4, 5])) (gRet (gV 2)))
def F_law_begun : List D → List MO → R D := runF 7 b_law_begun
def lb_law_small_right_1 : GS := gSeq (gAsg (gCall (fn1 dLen) (gCons (gLc (gSeqI (gV 3)) (gTo 9) (gVal (gOp2 dEqA (gSl (gV 9) (gNoO) (gO (gV 4))) (gV 5))) (gV 9) [9]) (gNil))) (gTo 7)) (gSeq (gIf (gVal (gOp2 dNeA (gCallF 2 F_queue_count (gCons (gV 1) (gCons (gV 5) (gNil)))) (gV 7))) (gRet (gC (.bl false))) (gPass)) (gForget [5, 7]))
def le_law_small_right_2 : GE := gCallF 2 F_queue_row_at (gCons (gV 1) (gCons (gV 8) (gNil)))
def le_law_small_right_3 : GE := gCallF 2 F_queue_number_of (gCons (gV 1) (gCons (gV 9) (gNil)))
def le_law_small_right_4 : GE := gCallF 2 F_law_take (gCons (gV 0) (gCons (gC (.int 5)) (gNil)))
def b_law_small_right : GS := gSeq (gAsg (gCallF 3 F_law_queue (gCons (gV 0) (gCons (gC (.int 4)) (gCons (gOp2 dAdd (gC (.int 1)) (gCallF 2 F_law_take (gCons (gV 0) (gCons (gC (.int 3)) (gNil))))) (gNil))))) (gTo 1)) (gSeq (gAsg (gCall (fn1 dLen) (gCons (gV 1) (gNil))) (gTo 2)) (gSeq (gAsg (gCallF 2 F_law_begun (gCons (gV 1) (gCons (gV 2) (gNil)))) (gTo 3)) (gSeq (gAsg (gCallF 2 F_law_take (gCons (gV 0) (gCons (gOp2 dAdd (gV 2) (gC (.int 1))) (gNil)))) (gTo 4)) (gSeq (gSeq (gSeq (gForget [5, 7]) (gFor (gSeqI (gCallF 2 F_law_begun (gCons (gV 1) (gCons (gV 4) (gNil))))) (gTo 5) (lb_law_small_right_1))) (gForget [5, 7])) (gSeq (gIf (gVal (gOp2 dNeA (gLc (gRng1 (gCons (gCall (fn1 dLen) (gCons (gV 3) (gNil))) (gNil))) (gTo 8) (gYes) (le_law_small_right_2) [8]) (gV 3))) (gRet (gC (.bl false))) (gPass)) (gSeq (gIf (gVal (gOp2 dNeA (gLc (gSeqI (gV 3)) (gTo 9) (gYes) (le_law_small_right_3) [9]) (gRgL false (gC (.int 0)) (gCall (fn1 dLen) (gCons (gV 3) (gNil)))))) (gRet (gC (.bl false))) (gPass)) (gSeq (gAsg (gCall (fn1 dTuple) (gCons (gLc (gRng1 (gCons (gV 2) (gNil))) (gTo 8) (gYes) (le_law_small_right_4) [8]) (gNil))) (gTo 6)) (gSeq (gAsg (gIfE (gVal (gOp2 dInA (gV 6) (gV 3))) (gIndex (gV 3) (gV 6)) (gC .non)) (gTo 7)) (gSeq (gIf (gVal (gOp2 dNeA (gCallK 2 F_queue_number_of [1, 0] gNil (gCons (gV 6) (gCons (gCall (fn1 dTuple) (gCons (gV 1) (gNil))) (gNil)))) (gV 7))) (gRet (gC (.bl false))) (gPass)) (gSeq (gAsg (gCallF 2 F_law_take (gCons (gV 0) (gCons (gCall (fn1 dLen) (gCons (gV 3) (gNil))) (gNil)))) (gTo 8)) (gSeq (gIf (gVal (gOp2 dNeA (gCallK 2 F_queue_count [1, 0] gNil (gCons (gTup (gNil)) (gCons (gCall (fn1 dTuple) (gCons (gV 1) (gNil))) (gNil)))) (gCall (fn1 dLen) (gCons (gV 3) (gNil))))) (gRet (gC (.bl false))) (gPass)) (gRet (gOp2 dEqA (gCallK 2 F_queue_row_at [1, 0] gNil (gCons (gV 8) (gCons (gCall (fn1 dTuple) (gCons (gV 1) (gNil))) (gNil)))) (gOp2 dIx (gV 3) (gV 8)))))))))))))))
def F_law_small_right : List D → List MO → R D := runF 10 b_law_small_right
def le_law_large_right_1 : GE := gTup (gCons (gCallF 2 F_law_take (gCons (gV 0) (gCons (gOp2 dAdd (gV 2) (gC (.int 1))) (gNil)))) (gCons (gCallF 2 F_law_take (gCons (gV 0) (gCons (gC (.int 4)) (gNil)))) (gNil)))
def le_law_large_right_2 : GE := gCallF 2 F_queue_count (gCons (gV 3) (gCons (gOp2 dAdd (gV 8) (gTup (gCons (gV 11) (gNil)))) (gNil)))
def lb_law_large_right_1 : GS := gSeq (gAsg (gCallF 2 F_law_large (gCons (gV 0) (gCons (gV 4) (gNil)))) (gTo 6)) (gSeq (gAsg (gCallF 2 F_queue_row_at (gCons (gV 3) (gCons (gV 6) (gNil)))) (gTo 7)) (gSeq (gIf (gOrT (gVal (gOp2 dNotN (gCallF 2 F_queue_fault (gCons (gV 3) (gCons (gV 7) (gNil)))) (gC .non))) (gOrT (gVal (gOp2 dNeA (gCallF 2 F_queue_number_of (gCons (gV 3) (gCons (gV 7) (gNil)))) (gV 6))) (gVal (gOp2 dNeA (gCall (fn1 dLen) (gCons (gV 7) (gNil))) (gV 1))))) (gRet (gC (.bl false))) (gPass)) (gSeq (gIf (gAndT (gVal (gOp2 dLt (gOp2 dAdd (gV 6) (gC (.int 1))) (gV 4))) (gVal (gOp2 dGeA (gCallF 2 F_queue_row_at (gCons (gV 3) (gCons (gOp2 dAdd (gV 6) (gC (.int 1))) (gNil)))) (gV 7)))) (gRet (gC (.bl false))) (gPass)) (gSeq (gAsg (gSl (gV 7) (gNoO) (gO (gCallF 2 F_law_take (gCons (gV 0) (gCons (gOp2 dAdd (gV 1) (gC (.int 1))) (gNil)))))) (gTo 8)) (gSeq (gIf (gVal (gOp2 dLt (gCall (fn1 dLen) (gCons (gV 8) (gNil))) (gV 1))) (gSeq (gAsg (gCallF 2 F_queue_ready (gCons (gV 3) (gCons (gV 8) (gNil)))) (gTo 9)) (gSeq (gAsg (gLc (gRng1 (gCons (gOp2 dAdd (gV 9) (gC (.int 1))) (gNil))) (gTo 11) (gYes) (le_law_large_right_2) [11]) (gTo 10)) (gIf (gOrT (gVal (gOp2 dNeA (gCall (fn1 dSum) (gCons (gV 10) (gNil))) (gCallF 2 F_queue_count (gCons (gV 3) (gCons (gV 8) (gNil)))))) (gVal (gOp2 dInA (gC (.int 0)) (gV 10)))) (gRet (gC (.bl false))) (gPass)))) (gPass)) (gForget [5, 6, 7, 8, 9, 10]))))))
def b_law_large_right : GS := gSeq (gAsg (gCallF 2 F_law_take (gCons (gV 0) (gCons (gOp2 dIx (gLst (gCons (gC (.int 13)) (gCons (gC (.int 101)) (gNil)))) (gCallF 2 F_law_take (gCons (gV 0) (gCons (gC (.int 2)) (gNil))))) (gNil)))) (gTo 1)) (gSeq (gAsg (gOp2 dIx (gLst (gCons (gC (.int 12)) (gCons (gC (.int 3)) (gNil)))) (gCallF 2 F_law_take (gCons (gV 0) (gCons (gC (.int 2)) (gNil))))) (gTo 2)) (gSeq (gAsg (gLc (gRng1 (gCons (gV 1) (gNil))) (gTo 6) (gYes) (le_law_large_right_1) [6]) (gTo 3)) (gSeq (gAsg (gCallF 2 F_queue_count (gCons (gV 3) (gCons (gTup (gNil)) (gNil)))) (gTo 4)) (gSeq (gSeq (gSeq (gForget [5, 6, 7, 8, 9, 10]) (gFor (gRng1 (gCons (gC (.int 2)) (gNil))) (gTo 5) (lb_law_large_right_1))) (gForget [5, 6, 7, 8, 9, 10])) (gRet (gC (.bl true)))))))
def F_law_large_right : List D → List MO → R D := runF 12 b_law_large_right
def lb_law_1 : GS := gScope (gSeq (gAsg (gCallF 1 F_law_source (gCons (gV 1) (gNil))) (gTo 2)) (gSeq (gIf (gOrT (gNotT (gVal (gCallF 1 F_law_small_right (gCons (gV 2) (gNil))))) (gNotT (gVal (gCallF 1 F_law_large_right (gCons (gV 2) (gNil)))))) (gRet (gC (.bl false))) (gPass)) (gForget [1, 2])))
def b_law : GS := gSeq (gSeq (gSeq (gForget [1, 2]) (gFor (gSeqI (gOp2 dAdd (gLst (gCons (gCallF 2 F_law_cell_at (gCons (gV 0) (gCons (gC (.int 0)) (gNil)))) (gNil))) (gSl (gV 0) (gO (gC (.int 1))) (gO (gC (.int 4)))))) (gTo 1) (lb_law_1))) (gForget [1, 2])) (gRet (gC (.bl true)))
def F_law : List D → List MO → R D := runF 3 b_law
/-! ### where everything stands -/
structure Ad where
  f_is_integer : Addr
  fd_is_integer : FuncData
  f_is_at_least : Addr
  fd_is_at_least : FuncData
  f_is_between : Addr
  fd_is_between : FuncData
  f_are_numbers : Addr
  fd_are_numbers : FuncData
  f_require_row : Addr
  fd_require_row : FuncData
  f_is_night : Addr
  fd_is_night : FuncData
  f_require_queue : Addr
  fd_require_queue : FuncData
  f_waiting_mornings : Addr
  fd_waiting_mornings : FuncData
  f_queue_over : Addr
  fd_queue_over : FuncData
  f_require_queue_past : Addr
  fd_require_queue_past : FuncData
  f_Rooms_init : Addr
  fd_Rooms_init : FuncData
  f_Rooms_ways_behind : Addr
  fd_Rooms_ways_behind : FuncData
  f_Rooms_room_behind : Addr
  fd_Rooms_room_behind : FuncData
  f_Rooms_ways_on : Addr
  fd_Rooms_ways_on : FuncData
  f_Rooms_numbered_row : Addr
  fd_Rooms_numbered_row : FuncData
  f_Rooms_number_of_row : Addr
  fd_Rooms_number_of_row : FuncData
  f_queue_ready : Addr
  fd_queue_ready : FuncData
  f_queue_fault : Addr
  fd_queue_fault : FuncData
  f_queue_count : Addr
  fd_queue_count : FuncData
  f_queue_row_at : Addr
  fd_queue_row_at : FuncData
  f_queue_number_of : Addr
  fd_queue_number_of : FuncData
  f_law_cell_at : Addr
  fd_law_cell_at : FuncData
  f_law_source : Addr
  fd_law_source : FuncData
  f_law_take : Addr
  fd_law_take : FuncData
  f_law_large : Addr
  fd_law_large : FuncData
  f_law_queue : Addr
  fd_law_queue : FuncData
  f_law_over : Addr
  fd_law_over : FuncData
  f_law_begun : Addr
  fd_law_begun : FuncData
  f_law_small_right : Addr
  fd_law_small_right : FuncData
  f_law_large_right : Addr
  fd_law_large_right : FuncData
  f_law : Addr
  fd_law : FuncData
  c_Rooms : Addr
  t_MAX_DAYS : Tok
  t_MAX_OWNED : Tok
structure Tx (K : PySem.W.Frag) (mg : Str → Option Value) (A : Ad) : Prop where
  F_is_integer : Fun K "is_integer" "is_integer" s_is_integer A.f_is_integer A.fd_is_integer
  b_is_integer : Binds K A.fd_is_integer ["value"] []
  g_is_integer : mg "is_integer" = some (.ref A.f_is_integer)
  F_is_at_least : Fun K "is_at_least" "is_at_least" s_is_at_least A.f_is_at_least A.fd_is_at_least
  b_is_at_least : Binds K A.fd_is_at_least ["value", "low"] []
  g_is_at_least : mg "is_at_least" = some (.ref A.f_is_at_least)
  F_is_between : Fun K "is_between" "is_between" s_is_between A.f_is_between A.fd_is_between
  b_is_between : Binds K A.fd_is_between ["value", "low", "high"] []
  g_is_between : mg "is_between" = some (.ref A.f_is_between)
  F_are_numbers : Fun K "are_numbers" "are_numbers" s_are_numbers A.f_are_numbers A.fd_are_numbers
  b_are_numbers : Binds K A.fd_are_numbers ["value"] []
  g_are_numbers : mg "are_numbers" = some (.ref A.f_are_numbers)
  F_require_row : Fun K "require_row" "require_row" s_require_row A.f_require_row A.fd_require_row
  b_require_row : Binds K A.fd_require_row ["calendar", "row"] []
  g_require_row : mg "require_row" = some (.ref A.f_require_row)
  F_is_night : Fun K "is_night" "is_night" s_is_night A.f_is_night A.fd_is_night
  b_is_night : Binds K A.fd_is_night ["value"] []
  g_is_night : mg "is_night" = some (.ref A.f_is_night)
  F_require_queue : Fun K "require_queue" "require_queue" s_require_queue A.f_require_queue A.fd_require_queue
  b_require_queue : Binds K A.fd_require_queue ["queue"] []
  g_require_queue : mg "require_queue" = some (.ref A.f_require_queue)
  F_waiting_mornings : Fun K "waiting_mornings" "waiting_mornings" s_waiting_mornings A.f_waiting_mornings A.fd_waiting_mornings
  b_waiting_mornings : Binds K A.fd_waiting_mornings ["queue", "numbers"] []
  g_waiting_mornings : mg "waiting_mornings" = some (.ref A.f_waiting_mornings)
  F_queue_over : Fun K "queue_over" "queue_over" s_queue_over A.f_queue_over A.fd_queue_over
  b_queue_over : Binds K A.fd_queue_over ["queue", "numbers"] []
  g_queue_over : mg "queue_over" = some (.ref A.f_queue_over)
  F_require_queue_past : Fun K "require_queue_past" "require_queue_past" s_require_queue_past A.f_require_queue_past A.fd_require_queue_past
  b_require_queue_past : Binds K A.fd_require_queue_past ["queue", "past"] []
  g_require_queue_past : mg "require_queue_past" = some (.ref A.f_require_queue_past)
  F_Rooms_init : Fun K "__init__" "Rooms.__init__" s_Rooms_init A.f_Rooms_init A.fd_Rooms_init
  b_Rooms_init : Binds K A.fd_Rooms_init ["self", "queue"] []
  F_Rooms_ways_behind : Fun K "ways_behind" "Rooms.ways_behind" s_Rooms_ways_behind A.f_Rooms_ways_behind A.fd_Rooms_ways_behind
  b_Rooms_ways_behind : Binds K A.fd_Rooms_ways_behind ["self", "past"] []
  m_Rooms_ways_behind : Meth K A.c_Rooms "ways_behind" A.f_Rooms_ways_behind
  F_Rooms_room_behind : Fun K "room_behind" "Rooms.room_behind" s_Rooms_room_behind A.f_Rooms_room_behind A.fd_Rooms_room_behind
  b_Rooms_room_behind : Binds K A.fd_Rooms_room_behind ["self", "past"] []
  m_Rooms_room_behind : Meth K A.c_Rooms "room_behind" A.f_Rooms_room_behind
  F_Rooms_ways_on : Fun K "ways_on" "Rooms.ways_on" s_Rooms_ways_on A.f_Rooms_ways_on A.fd_Rooms_ways_on
  b_Rooms_ways_on : Binds K A.fd_Rooms_ways_on ["self", "day", "busy"] []
  m_Rooms_ways_on : Meth K A.c_Rooms "ways_on" A.f_Rooms_ways_on
  F_Rooms_numbered_row : Fun K "numbered_row" "Rooms.numbered_row" s_Rooms_numbered_row A.f_Rooms_numbered_row A.fd_Rooms_numbered_row
  b_Rooms_numbered_row : Binds K A.fd_Rooms_numbered_row ["self", "number"] []
  m_Rooms_numbered_row : Meth K A.c_Rooms "numbered_row" A.f_Rooms_numbered_row
  F_Rooms_number_of_row : Fun K "number_of_row" "Rooms.number_of_row" s_Rooms_number_of_row A.f_Rooms_number_of_row A.fd_Rooms_number_of_row
  b_Rooms_number_of_row : Binds K A.fd_Rooms_number_of_row ["self", "row"] []
  m_Rooms_number_of_row : Meth K A.c_Rooms "number_of_row" A.f_Rooms_number_of_row
  F_queue_ready : Fun K "queue_ready" "queue_ready" s_queue_ready A.f_queue_ready A.fd_queue_ready
  b_queue_ready : Binds K A.fd_queue_ready ["queue", "past"] []
  g_queue_ready : mg "queue_ready" = some (.ref A.f_queue_ready)
  F_queue_fault : Fun K "queue_fault" "queue_fault" s_queue_fault A.f_queue_fault A.fd_queue_fault
  b_queue_fault : Binds K A.fd_queue_fault ["queue", "row"] []
  g_queue_fault : mg "queue_fault" = some (.ref A.f_queue_fault)
  F_queue_count : Fun K "queue_count" "queue_count" s_queue_count A.f_queue_count A.fd_queue_count
  b_queue_count : Binds K A.fd_queue_count ["queue", "past"] []
  g_queue_count : mg "queue_count" = some (.ref A.f_queue_count)
  F_queue_row_at : Fun K "queue_row_at" "queue_row_at" s_queue_row_at A.f_queue_row_at A.fd_queue_row_at
  b_queue_row_at : Binds K A.fd_queue_row_at ["queue", "number"] []
  g_queue_row_at : mg "queue_row_at" = some (.ref A.f_queue_row_at)
  F_queue_number_of : Fun K "queue_number_of" "queue_number_of" s_queue_number_of A.f_queue_number_of A.fd_queue_number_of
  b_queue_number_of : Binds K A.fd_queue_number_of ["queue", "row"] []
  g_queue_number_of : mg "queue_number_of" = some (.ref A.f_queue_number_of)
  F_law_cell_at : Fun K "_law_cell_at" "_law_cell_at" s_law_cell_at A.f_law_cell_at A.fd_law_cell_at
  b_law_cell_at : Binds K A.fd_law_cell_at ["_law_script", "_law_k"] []
  g_law_cell_at : mg "_law_cell_at" = some (.ref A.f_law_cell_at)
  F_law_source : Fun K "_law_source" "_law_source" s_law_source A.f_law_source A.fd_law_source
  b_law_source : Binds K A.fd_law_source ["_law_cell"] []
  g_law_source : mg "_law_source" = some (.ref A.f_law_source)
  F_law_take : Fun K "_law_take" "_law_take" s_law_take A.f_law_take A.fd_law_take
  b_law_take : Binds K A.fd_law_take ["_law_source_here", "_law_bound"] []
  g_law_take : mg "_law_take" = some (.ref A.f_law_take)
  F_law_large : Fun K "_law_large" "_law_large" s_law_large A.f_law_large A.fd_law_large
  b_law_large : Binds K A.fd_law_large ["_law_source_here", "_law_bound"] []
  g_law_large : mg "_law_large" = some (.ref A.f_law_large)
  F_law_queue : Fun K "_law_queue" "_law_queue" s_law_queue A.f_law_queue A.fd_law_queue
  b_law_queue : Binds K A.fd_law_queue ["_law_source_here", "_law_most", "_law_top"] []
  g_law_queue : mg "_law_queue" = some (.ref A.f_law_queue)
  F_law_over : Fun K "_law_over" "_law_over" s_law_over A.f_law_over A.fd_law_over
  b_law_over : Binds K A.fd_law_over ["_law_plan", "_law_numbers"] []
  g_law_over : mg "_law_over" = some (.ref A.f_law_over)
  F_law_begun : Fun K "_law_begun" "_law_begun" s_law_begun A.f_law_begun A.fd_law_begun
  b_law_begun : Binds K A.fd_law_begun ["_law_plan", "_law_places"] []
  g_law_begun : mg "_law_begun" = some (.ref A.f_law_begun)
  F_law_small_right : Fun K "_law_small_right" "_law_small_right" s_law_small_right A.f_law_small_right A.fd_law_small_right
  b_law_small_right : Binds K A.fd_law_small_right ["_law_source_here"] []
  g_law_small_right : mg "_law_small_right" = some (.ref A.f_law_small_right)
  F_law_large_right : Fun K "_law_large_right" "_law_large_right" s_law_large_right A.f_law_large_right A.fd_law_large_right
  b_law_large_right : Binds K A.fd_law_large_right ["_law_source_here"] []
  g_law_large_right : mg "_law_large_right" = some (.ref A.f_law_large_right)
  F_law : Fun K "law" "law" s_law A.f_law A.fd_law
  b_law : Binds K A.fd_law ["_law_script"] []
  g_law : mg "law" = some (.ref A.f_law)
  n_Rooms : PySem.W.nsIn K mainGlobals "Rooms" = some (some (.ref A.c_Rooms))
  cl_Rooms : Cls K A.c_Rooms
  g_Rooms : mg "Rooms" = some (.ref A.c_Rooms)
  mk_Rooms : Mk K A.c_Rooms A.f_Rooms_init
  na_Rooms_nights : NoAttr K A.c_Rooms "nights"
  na_Rooms_tops_by_day : NoAttr K A.c_Rooms "tops_by_day"
  na_Rooms_ways_by_day : NoAttr K A.c_Rooms "ways_by_day"
  k_queue_count_past_queue : KwBinds K A.fd_queue_count ["queue", "past"] ["past", "queue"] 0 [1, 0]
  k_queue_number_of_row_queue : KwBinds K A.fd_queue_number_of ["queue", "row"] ["row", "queue"] 0 [1, 0]
  k_queue_row_at_number_queue : KwBinds K A.fd_queue_row_at ["queue", "number"] ["number", "queue"] 0 [1, 0]
  m_all : mg "all" = none
  m_bool : mg "bool" = none
  m_enumerate : mg "enumerate" = none
  m_int : mg "int" = none
  m_isinstance : mg "isinstance" = none
  m_len : mg "len" = none
  m_list : mg "list" = none
  m_max : mg "max" = none
  m_min : mg "min" = none
  m_range : mg "range" = none
  m_reversed : mg "reversed" = none
  m_sum : mg "sum" = none
  m_tuple : mg "tuple" = none
  c_MAX_DAYS : mg "MAX_DAYS" = some (.int 100 A.t_MAX_DAYS)
  c_MAX_OWNED : mg "MAX_OWNED" = some (.int 12 A.t_MAX_OWNED)
/-! ### each def computes its function -/
section
variable {P : Program} {w : World} {K : PySem.W.Frag} {mg : Str → Option Value} {base : Heap} {C : CT} {A : Ad}
set_option maxHeartbeats 4000000 in
theorem ok_is_integer (T : Tx K mg A) : FnQ P w K mg base C 2 A.f_is_integer A.fd_is_integer ["value"] F_is_integer := by
  refine fq_of T.F_is_integer sc_is_integer fun cdv A' outer s H E hr hgu => ?_
  exact qss_one (qs_ret (qe_and (qe_isi rfl T.m_isinstance rfl T.m_int (by decide +kernel) (qe_v 0)) (qe_one (qe_not (qe_isi rfl T.m_isinstance rfl T.m_bool (by decide +kernel) (qe_v 0))))))
set_option maxHeartbeats 4000000 in
theorem ok_is_at_least (T : Tx K mg A) : FnQ P w K mg base C 3 A.f_is_at_least A.fd_is_at_least ["value", "low"] F_is_at_least := by
  have c_is_integer := ok_is_integer (P := P) (w := w) (base := base) (C := C) T
  refine fq_of T.F_is_at_least sc_is_at_least fun cdv A' outer s H E hr hgu => ?_
  exact qss_one (qs_ret (qe_and (qe_call c_is_integer (hr.mono (by decide)) hgu (takes_of rfl rfl rfl rfl) rfl T.g_is_integer T.F_is_integer.kp T.b_is_integer (qa_cons (qe_v 0) (qa_nil))) (qe_one (qe_cmp (op_geA hr.units0) ok_geA (qe_v 0) (qe_v 1) rfl))))
set_option maxHeartbeats 4000000 in
theorem ok_is_between (T : Tx K mg A) : FnQ P w K mg base C 3 A.f_is_between A.fd_is_between ["value", "low", "high"] F_is_between := by
  have c_is_integer := ok_is_integer (P := P) (w := w) (base := base) (C := C) T
  refine fq_of T.F_is_between sc_is_between fun cdv A' outer s H E hr hgu => ?_
  exact qss_one (qs_ret (qe_and (qe_call c_is_integer (hr.mono (by decide)) hgu (takes_of rfl rfl rfl rfl) rfl T.g_is_integer T.F_is_integer.kp T.b_is_integer (qa_cons (qe_v 0) (qa_nil))) (qe_one (qe_chain op_le ok_le op_le ok_le (qe_v 1) (qe_v 0) (qe_v 2)))))
set_option maxHeartbeats 4000000 in
theorem ok_are_numbers (T : Tx K mg A) : FnQ P w K mg base C 4 A.f_are_numbers A.fd_are_numbers ["value"] F_are_numbers := by
  have c_is_at_least := ok_is_at_least (P := P) (w := w) (base := base) (C := C) T
  refine fq_of T.F_are_numbers sc_are_numbers fun cdv A' outer s H E hr hgu => ?_
  exact qss_one (qs_ret (qe_and (qe_isi rfl T.m_isinstance rfl T.m_tuple (by decide +kernel) (qe_v 0)) (qe_one (qe_callB (cr_all rfl) (.of1 ok_all) rfl T.m_all (by decide +kernel) (qa_cons (qe_lc rfl sc_are_numbers.nd (qi_seq (qe_v 0)) (blkOk_by (N := ["value", "entry"]) (sc := defScope s_are_numbers) (own := [("entry", 1)]) (by decide +kernel)) (fun _ _ _ _ _ => qg_name 1 sc_are_numbers.nd) (fun _ _ _ _ _ => qts_nil) (fun _ _ _ _ _ => qe_call c_is_at_least (hr.mono (by decide)) hgu takes_no rfl T.g_is_at_least T.F_is_at_least.kp T.b_is_at_least (qa_cons (qe_v 1) (qa_cons (qe_int) (qa_nil))))) (qa_nil))))))
set_option maxHeartbeats 4000000 in
theorem ok_require_row (T : Tx K mg A) : FnQ P w K mg base C 4 A.f_require_row A.fd_require_row ["calendar", "row"] F_require_row := by
  have c_is_at_least := ok_is_at_least (P := P) (w := w) (base := base) (C := C) T
  refine fq_of T.F_require_row sc_require_row fun cdv A' outer s H E hr hgu => ?_
  exact qss_cons (qs_if (qt_of (qw_or (qt_not (qt_val (qe_isi rfl T.m_isinstance rfl T.m_tuple (by decide +kernel) (qe_v 1)))) (qw_or1 (qt_cmp (op_neA hr.units) ok_neA (qe_callB call_len (.of1 ok_len) rfl T.m_len (by decide +kernel) (qa_cons (qe_v 1) (qa_nil))) (qe_callB call_len (.of1 ok_len) rfl T.m_len (by decide +kernel) (qa_cons (qe_v 0) (qa_nil))) rfl)))) (qss_never) (qss_nil)) (qss_one (qs_forget [2, 3] (qs_pre [2, 3] (qs_for (passes_of rfl) rfl (qi_enum rfl T.m_enumerate (qe_v 1)) (qg_tup rfl (qgs_cons (qg_name 2 sc_require_row.nd) (qgs_cons (qg_name 3 sc_require_row.nd) (qgs_nil))) (hlen := len_cons (len_cons (len_nil)))) (qss_one (qs_forget [2, 3] (qs_if (qt_not (qt_val (qe_call c_is_at_least (hr.mono (by decide)) hgu (takes_of rfl rfl rfl rfl) rfl T.g_is_at_least T.F_is_at_least.kp T.b_is_at_least (qa_cons (qe_v 3) (qa_cons (qe_int) (qa_nil)))))) (qss_never) (qss_nil))))))))
set_option maxHeartbeats 4000000 in
theorem ok_is_night (T : Tx K mg A) : FnQ P w K mg base C 4 A.f_is_night A.fd_is_night ["value"] F_is_night := by
  have c_is_between := ok_is_between (P := P) (w := w) (base := base) (C := C) T
  refine fq_of T.F_is_night sc_is_night fun cdv A' outer s H E hr hgu => ?_
  exact qss_cons (qs_if (qt_of (qw_or (qt_not (qt_val (qe_isi rfl T.m_isinstance rfl T.m_tuple (by decide +kernel) (qe_v 0)))) (qw_or1 (qt_cmp (op_neA hr.units) ok_neA (qe_callB call_len (.of1 ok_len) rfl T.m_len (by decide +kernel) (qa_cons (qe_v 0) (qa_nil))) (qe_int) rfl)))) (qss_one (qs_ret (qe_bl))) (qss_nil)) (qss_one (qs_ret (qe_and (qe_call c_is_between (hr.mono (by decide)) hgu (takes_of rfl rfl rfl rfl) rfl T.g_is_between T.F_is_between.kp T.b_is_between (qa_cons (qe_ix ix_A ok_ix (qe_v 0) (qe_int)) (qa_cons (qe_int) (qa_cons (qe_gint rfl T.c_MAX_OWNED) (qa_nil))))) (qe_one (qe_call c_is_between (hr.mono (by decide)) hgu (takes_of rfl rfl rfl rfl) rfl T.g_is_between T.F_is_between.kp T.b_is_between (qa_cons (qe_ix ix_A ok_ix (qe_v 0) (qe_int)) (qa_cons (qe_int) (qa_cons (qe_gint rfl T.c_MAX_OWNED) (qa_nil)))))))))
set_option maxHeartbeats 4000000 in
theorem ok_require_queue (T : Tx K mg A) : FnQ P w K mg base C 5 A.f_require_queue A.fd_require_queue ["queue"] F_require_queue := by
  have c_is_night := ok_is_night (P := P) (w := w) (base := base) (C := C) T
  refine fq_of T.F_require_queue sc_require_queue fun cdv A' outer s H E hr hgu => ?_
  exact qss_cons (qs_if (qt_of (qw_or (qt_not (qt_val (qe_isi2 rfl T.m_isinstance rfl T.m_list (by decide +kernel) rfl T.m_tuple (by decide +kernel) (qe_v 0)))) (qw_or1 (qt_cmp op_gt ok_gt (qe_callB call_len (.of1 ok_len) rfl T.m_len (by decide +kernel) (qa_cons (qe_v 0) (qa_nil))) (qe_gint rfl T.c_MAX_DAYS) rfl)))) (qss_never) (qss_nil)) (qss_one (qs_forget [1, 2] (qs_pre [1, 2] (qs_for (passes_of rfl) rfl (qi_enum rfl T.m_enumerate (qe_v 0)) (qg_tup rfl (qgs_cons (qg_name 1 sc_require_queue.nd) (qgs_cons (qg_name 2 sc_require_queue.nd) (qgs_nil))) (hlen := len_cons (len_cons (len_nil)))) (qss_one (qs_forget [1, 2] (qs_if (qt_not (qt_val (qe_call c_is_night (hr.mono (by decide)) hgu (takes_of rfl rfl rfl rfl) rfl T.g_is_night T.F_is_night.kp T.b_is_night (qa_cons (qe_v 2) (qa_nil))))) (qss_never) (qss_nil))))))))
set_option maxHeartbeats 4000000 in
theorem ok_waiting_mornings (T : Tx K mg A) : FnQ P w K mg base C 2 A.f_waiting_mornings A.fd_waiting_mornings ["queue", "numbers"] F_waiting_mornings := by
  refine fq_of T.F_waiting_mornings sc_waiting_mornings fun cdv A' outer s H E hr hgu => ?_
  exact qss_cons (qs_asg (qe_lstO (qa_cons (qe_int) (qa_nil))) (qg_name 2 sc_waiting_mornings.nd)) (qss_cons (qs_fz 2 (qs_forget [3, 4, 5, 6] (qs_pre [3, 4, 5, 6] (qs_for (passes_of rfl) rfl (qi_enum rfl T.m_enumerate (qe_v 0)) (qg_tup rfl (qgs_cons (qg_name 3 sc_waiting_mornings.nd) (qgs_cons (qg_tup rfl (qgs_cons (qg_name 4 sc_waiting_mornings.nd) (qgs_cons (qg_name 5 sc_waiting_mornings.nd) (qgs_nil))) (hlen := len_cons (len_cons (len_nil)))) (qgs_nil))) (hlen := len_cons (len_cons (len_nil)))) (qss_cons (qs_asg (qe_if (qt_cmp op_lt ok_lt (qe_v 3) (qe_callB call_len (.of1 ok_len) rfl T.m_len (by decide +kernel) (qa_cons (qe_v 1) (qa_nil))) rfl) (qe_ix ix_A ok_ix (qe_v 1) (qe_v 3)) (qe_int)) (qg_name 6 sc_waiting_mornings.nd)) (qss_one (qs_forget [3, 4, 5, 6] (qs_expr (qe_meth1 PySem.F.slot_list_append PySem.F.type_list_append mt_append ok_append (qe_v 2) (qe_callB (call_max2 rfl) (.of2 ok_max2) rfl T.m_max (by decide +kernel) (qa_cons (qe_int) (qa_cons (qe_bin op_sub ok_sub (qe_bin op_addA ok_add (qe_ix ix_A ok_ix (qe_v 2) (qe_un un_neg ok_neg (qe_int))) (qe_v 6)) (qe_v 5)) (qa_nil))))))))))))) (qss_one (qs_ret (qe_v 2))))
set_option maxHeartbeats 4000000 in
theorem ok_queue_over (T : Tx K mg A) : FnQ P w K mg base C 3 A.f_queue_over A.fd_queue_over ["queue", "numbers"] F_queue_over := by
  have c_waiting_mornings := ok_waiting_mornings (P := P) (w := w) (base := base) (C := C) T
  refine fq_of T.F_queue_over sc_queue_over fun cdv A' outer s H E hr hgu => ?_
  exact qss_cons (qs_forget [2, 3, 4] (qs_pre [2, 3, 4] (qs_for (passes_of rfl) rfl (qi_enum rfl T.m_enumerate (qe_slice (qe_call c_waiting_mornings (hr.mono (by decide)) hgu (takes_of rfl rfl rfl rfl) rfl T.g_waiting_mornings T.F_waiting_mornings.kp T.b_waiting_mornings (qa_cons (qe_v 0) (qa_cons (qe_v 1) (qa_nil)))) (qo_none) (qo_some (qe_un un_neg ok_neg (qe_int))))) (qg_tup rfl (qgs_cons (qg_name 2 sc_queue_over.nd) (qgs_cons (qg_name 3 sc_queue_over.nd) (qgs_nil))) (hlen := len_cons (len_cons (len_nil)))) (qss_cons (qs_asg (qe_if (qt_cmp op_lt ok_lt (qe_v 2) (qe_callB call_len (.of1 ok_len) rfl T.m_len (by decide +kernel) (qa_cons (qe_v 1) (qa_nil))) rfl) (qe_ix ix_A ok_ix (qe_v 1) (qe_v 2)) (qe_int)) (qg_name 4 sc_queue_over.nd)) (qss_one (qs_forget [2, 3, 4] (qs_if (qt_cmp op_gt ok_gt (qe_bin op_addA ok_add (qe_v 3) (qe_v 4)) (qe_ix ix_A ok_ix (qe_ix ix_A ok_ix (qe_v 0) (qe_v 2)) (qe_int)) rfl) (qss_one (qs_ret (qe_bin op_addA ok_add (qe_v 2) (qe_int)))) (qss_nil)))))))) (qss_one (qs_ret (qe_non)))
set_option maxHeartbeats 4000000 in
theorem ok_require_queue_past (T : Tx K mg A) : FnQ P w K mg base C 5 A.f_require_queue_past A.fd_require_queue_past ["queue", "past"] F_require_queue_past := by
  have c_are_numbers := ok_are_numbers (P := P) (w := w) (base := base) (C := C) T
  have c_queue_over := ok_queue_over (P := P) (w := w) (base := base) (C := C) T
  refine fq_of T.F_require_queue_past sc_require_queue_past fun cdv A' outer s H E hr hgu => ?_
  exact qss_cons (qs_if (qt_of (qw_or (qt_not (qt_val (qe_call c_are_numbers (hr.mono (by decide)) hgu (takes_of rfl rfl rfl rfl) rfl T.g_are_numbers T.F_are_numbers.kp T.b_are_numbers (qa_cons (qe_v 1) (qa_nil))))) (qw_or1 (qt_cmp op_gt ok_gt (qe_callB call_len (.of1 ok_len) rfl T.m_len (by decide +kernel) (qa_cons (qe_v 1) (qa_nil))) (qe_callB call_len (.of1 ok_len) rfl T.m_len (by decide +kernel) (qa_cons (qe_v 0) (qa_nil))) rfl)))) (qss_never) (qss_nil)) (qss_cons (qs_asg (qe_call c_queue_over (hr.mono (by decide)) hgu (takes_of rfl rfl rfl rfl) rfl T.g_queue_over T.F_queue_over.kp T.b_queue_over (qa_cons (qe_v 0) (qa_cons (qe_v 1) (qa_nil)))) (qg_name 2 sc_require_queue_past.nd)) (qss_one (qs_if (qt_cmp op_notN ok_notN (qe_v 2) (qe_non) rfl) (qss_never) (qss_nil))))
set_option maxHeartbeats 4000000 in
theorem ok_Rooms_init (T : Tx K mg A) : FnQ P w K mg base C 2 A.f_Rooms_init A.fd_Rooms_init ["self", "queue"] F_Rooms_init := by
  refine fq_of T.F_Rooms_init sc_Rooms_init fun cdv A' outer s H E hr hgu => ?_
  exact qss_cons (qs_setF T.n_Rooms T.cl_Rooms T.na_Rooms_nights (qe_v 1) (qe_v 0)) (qss_cons (qs_setF T.n_Rooms T.cl_Rooms T.na_Rooms_tops_by_day (qe_lstO (qa_cons (qe_gint rfl T.c_MAX_OWNED) (qa_nil))) (qe_v 0)) (qss_cons (qs_forget [2, 3] (qs_pre [2, 3] (qs_for (passes_of rfl) rfl (qi_rev rfl T.m_reversed (qe_v 1)) (qg_tup rfl (qgs_cons (qg_name 2 sc_Rooms_init.nd) (qgs_cons (qg_name 3 sc_Rooms_init.nd) (qgs_nil))) (hlen := len_cons (len_cons (len_nil)))) (qss_one (qs_forget [2, 3] (qs_expr (qe_meth1 PySem.F.slot_list_append PySem.F.type_list_append mt_append ok_append (qe_fld T.n_Rooms T.cl_Rooms T.na_Rooms_tops_by_day (qe_v 0)) (qe_callB (call_min2 rfl) (.of2 ok_min2) rfl T.m_min (by decide +kernel) (qa_cons (qe_v 2) (qa_cons (qe_bin op_addA ok_add (qe_ix ix_A ok_ix (qe_fld T.n_Rooms T.cl_Rooms T.na_Rooms_tops_by_day (qe_v 0)) (qe_un un_neg ok_neg (qe_int))) (qe_v 3)) (qa_nil))))))))))) (qss_cons (qs_fzF 0 "tops_by_day" (qs_expr (qe_meth0 PySem.F.slot_list_reverse PySem.F.type_list_reverse mt_reverse ok_reverse (qe_fld T.n_Rooms T.cl_Rooms T.na_Rooms_tops_by_day (qe_v 0))))) (qss_cons (qs_setF T.n_Rooms T.cl_Rooms T.na_Rooms_ways_by_day (qe_lstO (qa_cons (qe_bin op_mulT ok_mulT (qe_lst (qa_cons (qe_int) (qa_nil))) (qe_bin op_addA ok_add (qe_gint rfl T.c_MAX_OWNED) (qe_int))) (qa_nil))) (qe_v 0)) (qss_cons (qs_forget [3, 4, 5, 6, 7] (qs_pre [3, 4, 5, 6, 7] (qs_for (passes_of rfl) rfl (qi_rng3 rfl T.m_range (qa_cons (qe_bin op_sub ok_sub (qe_callB call_len (.of1 ok_len) rfl T.m_len (by decide +kernel) (qa_cons (qe_v 1) (qa_nil))) (qe_int)) (qa_cons (qe_un un_neg ok_neg (qe_int)) (qa_cons (qe_un un_neg ok_neg (qe_int)) (qa_nil))))) (qg_name 4 sc_Rooms_init.nd) (qss_cons (qs_asg (qe_ix ix_A ok_ix (qe_fld T.n_Rooms T.cl_Rooms T.na_Rooms_ways_by_day (qe_v 0)) (qe_un un_neg ok_neg (qe_int))) (qg_name 5 sc_Rooms_init.nd)) (qss_cons (qs_asg (qe_tup (qa_cons (qe_ix ix_A ok_ix (qe_fld T.n_Rooms T.cl_Rooms T.na_Rooms_tops_by_day (qe_v 0)) (qe_v 4)) (qa_cons (qe_ix ix_A ok_ix (qe_ix ix_A ok_ix (qe_v 1) (qe_v 4)) (qe_int)) (qa_nil)))) (qg_tup rfl (qgs_cons (qg_name 6 sc_Rooms_init.nd) (qgs_cons (qg_name 3 sc_Rooms_init.nd) (qgs_nil))) (hlen := len_cons (len_cons (len_nil))))) (qss_cons (qs_asg (qe_lc rfl sc_Rooms_init.nd (qi_rng1 rfl T.m_range (qa_cons (qe_bin op_addA ok_add (qe_v 6) (qe_int)) (qa_nil))) (blkOk_by (N := ["self", "queue", "owned", "mended", "day", "later", "top", "nexts", "busy", "waits"]) (sc := defScope s_Rooms_init) (own := [("busy", 8)]) (by decide +kernel)) (fun _ _ _ _ _ => qg_name 8 sc_Rooms_init.nd) (fun _ _ _ _ _ => qts_nil) (fun _ _ _ _ _ => qe_ix ix_A ok_ix (qe_v 5) (qe_callB (call_max2 rfl) (.of2 ok_max2) rfl T.m_max (by decide +kernel) (qa_cons (qe_int) (qa_cons (qe_bin op_sub ok_sub (qe_v 8) (qe_v 3)) (qa_nil)))))) (qg_name 7 sc_Rooms_init.nd)) (qss_one (qs_forget [3, 4, 5, 6, 7] (qs_expr (qe_meth1 PySem.F.slot_list_append PySem.F.type_list_append mt_append ok_append (qe_fld T.n_Rooms T.cl_Rooms T.na_Rooms_ways_by_day (qe_v 0)) (qe_lc rfl sc_Rooms_init.nd (qi_rng1 rfl T.m_range (qa_cons (qe_bin op_addA ok_add (qe_v 6) (qe_int)) (qa_nil))) (blkOk_by (N := ["self", "queue", "owned", "mended", "day", "later", "top", "nexts", "busy", "waits"]) (sc := defScope s_Rooms_init) (own := [("waits", 9)]) (by decide +kernel)) (fun _ _ _ _ _ => qg_name 9 sc_Rooms_init.nd) (fun _ _ _ _ _ => qts_nil) (fun _ _ _ _ _ => qe_callB (cr_sum rfl) (.of1 ok_sum) rfl T.m_sum (by decide +kernel) (qa_cons (qe_slice (qe_v 7) (qo_some (qe_v 9)) (qo_none)) (qa_nil)))))))))))))) (qss_one (qs_fzF 0 "ways_by_day" (qs_expr (qe_meth0 PySem.F.slot_list_reverse PySem.F.type_list_reverse mt_reverse ok_reverse (qe_fld T.n_Rooms T.cl_Rooms T.na_Rooms_ways_by_day (qe_v 0)))))))))))
set_option maxHeartbeats 4000000 in
theorem ok_Rooms_ways_behind (T : Tx K mg A) : FnQ P w K mg base C 3 A.f_Rooms_ways_behind A.fd_Rooms_ways_behind ["self", "past"] F_Rooms_ways_behind := by
  have c_waiting_mornings := ok_waiting_mornings (P := P) (w := w) (base := base) (C := C) T
  refine fq_of T.F_Rooms_ways_behind sc_Rooms_ways_behind fun cdv A' outer s H E hr hgu => ?_
  exact qss_one (qs_ret (qe_ix ix_A ok_ix (qe_ix ix_A ok_ix (qe_fld T.n_Rooms T.cl_Rooms T.na_Rooms_ways_by_day (qe_v 0)) (qe_callB call_len (.of1 ok_len) rfl T.m_len (by decide +kernel) (qa_cons (qe_v 1) (qa_nil)))) (qe_ix ix_A ok_ix (qe_call c_waiting_mornings (hr.mono (by decide)) hgu (takes_of rfl rfl rfl rfl) rfl T.g_waiting_mornings T.F_waiting_mornings.kp T.b_waiting_mornings (qa_cons (qe_fld T.n_Rooms T.cl_Rooms T.na_Rooms_nights (qe_v 0)) (qa_cons (qe_v 1) (qa_nil)))) (qe_callB call_len (.of1 ok_len) rfl T.m_len (by decide +kernel) (qa_cons (qe_v 1) (qa_nil))))))
set_option maxHeartbeats 4000000 in
theorem ok_Rooms_room_behind (T : Tx K mg A) : FnQ P w K mg base C 3 A.f_Rooms_room_behind A.fd_Rooms_room_behind ["self", "past"] F_Rooms_room_behind := by
  have c_waiting_mornings := ok_waiting_mornings (P := P) (w := w) (base := base) (C := C) T
  refine fq_of T.F_Rooms_room_behind sc_Rooms_room_behind fun cdv A' outer s H E hr hgu => ?_
  exact qss_one (qs_ret (qe_bin op_sub ok_sub (qe_ix ix_A ok_ix (qe_fld T.n_Rooms T.cl_Rooms T.na_Rooms_tops_by_day (qe_v 0)) (qe_callB call_len (.of1 ok_len) rfl T.m_len (by decide +kernel) (qa_cons (qe_v 1) (qa_nil)))) (qe_ix ix_A ok_ix (qe_call c_waiting_mornings (hr.mono (by decide)) hgu (takes_of rfl rfl rfl rfl) rfl T.g_waiting_mornings T.F_waiting_mornings.kp T.b_waiting_mornings (qa_cons (qe_fld T.n_Rooms T.cl_Rooms T.na_Rooms_nights (qe_v 0)) (qa_cons (qe_v 1) (qa_nil)))) (qe_callB call_len (.of1 ok_len) rfl T.m_len (by decide +kernel) (qa_cons (qe_v 1) (qa_nil))))))
set_option maxHeartbeats 4000000 in
theorem ok_Rooms_ways_on (T : Tx K mg A) : FnQ P w K mg base C 2 A.f_Rooms_ways_on A.fd_Rooms_ways_on ["self", "day", "busy"] F_Rooms_ways_on := by
  refine fq_of T.F_Rooms_ways_on sc_Rooms_ways_on fun cdv A' outer s H E hr hgu => ?_
  exact qss_one (qs_ret (qe_ix ix_A ok_ix (qe_ix ix_A ok_ix (qe_fld T.n_Rooms T.cl_Rooms T.na_Rooms_ways_by_day (qe_v 0)) (qe_bin op_addA ok_add (qe_v 1) (qe_int))) (qe_callB (call_max2 rfl) (.of2 ok_max2) rfl T.m_max (by decide +kernel) (qa_cons (qe_int) (qa_cons (qe_bin op_sub ok_sub (qe_v 2) (qe_ix ix_A ok_ix (qe_ix ix_A ok_ix (qe_fld T.n_Rooms T.cl_Rooms T.na_Rooms_nights (qe_v 0)) (qe_v 1)) (qe_int))) (qa_nil))))))
set_option maxHeartbeats 4000000 in
theorem ok_Rooms_numbered_row (T : Tx K mg A) : FnQ P w K mg base C 3 A.f_Rooms_numbered_row A.fd_Rooms_numbered_row ["self", "number"] F_Rooms_numbered_row := by
  have c_Rooms_ways_on := ok_Rooms_ways_on (P := P) (w := w) (base := base) (C := C) T
  refine fq_of T.F_Rooms_numbered_row sc_Rooms_numbered_row fun cdv A' outer s H E hr hgu => ?_
  exact qss_cons (qs_par2 2 3 rfl sc_Rooms_numbered_row.nd (qa_cons (qe_lstO (qa_nil)) (qa_cons (qe_int) (qa_nil)))) (qss_cons (qs_fz 2 (qs_forget [1, 3, 4, 5, 6, 7] (qs_pre [4, 5, 6, 7] (qs_for (passes_of rfl) rfl (qi_enum rfl T.m_enumerate (qe_fld T.n_Rooms T.cl_Rooms T.na_Rooms_nights (qe_v 0))) (qg_tup rfl (qgs_cons (qg_name 4 sc_Rooms_numbered_row.nd) (qgs_cons (qg_tup rfl (qgs_cons (qg_name 5 sc_Rooms_numbered_row.nd) (qgs_cons (qg_name 6 sc_Rooms_numbered_row.nd) (qgs_nil))) (hlen := len_cons (len_cons (len_nil)))) (qgs_nil))) (hlen := len_cons (len_cons (len_nil)))) (qss_cons (qs_asg (qe_ix ix_A ok_ix (qe_fld T.n_Rooms T.cl_Rooms T.na_Rooms_tops_by_day (qe_v 0)) (qe_v 4)) (qg_name 7 sc_Rooms_numbered_row.nd)) (qss_cons (qs_forget [] (qs_pre [] (qs_while 1000000000 (passes_of rfl) (qt_cmp (op_geA hr.units0) ok_geA (qe_v 1) (qe_methF T.n_Rooms T.cl_Rooms T.m_Rooms_ways_on c_Rooms_ways_on (hr.mono (by decide)) hgu (takes_of rfl rfl rfl rfl) T.b_Rooms_ways_on (qe_v 0) (qa_cons (qe_v 4) (qa_cons (qe_v 7) (qa_nil)))) rfl) (qss_cons (qs_aug 1 sc_Rooms_numbered_row.nd ip_sub (qe_methF T.n_Rooms T.cl_Rooms T.m_Rooms_ways_on c_Rooms_ways_on (hr.mono (by decide)) hgu (takes_of rfl rfl rfl rfl) T.b_Rooms_ways_on (qe_v 0) (qa_cons (qe_v 4) (qa_cons (qe_v 7) (qa_nil))))) (qss_one (qs_forget [] (qs_aug 7 sc_Rooms_numbered_row.nd ip_sub (qe_int)))))))) (qss_cons (qs_expr (qe_meth1 PySem.F.slot_list_append PySem.F.type_list_append mt_append ok_append (qe_v 2) (qe_bin op_sub ok_sub (qe_v 7) (qe_v 3)))) (qss_one (qs_forget [4, 5, 6, 7] (qs_asg (qe_callB (call_max2 rfl) (.of2 ok_max2) rfl T.m_max (by decide +kernel) (qa_cons (qe_int) (qa_cons (qe_bin op_sub ok_sub (qe_v 7) (qe_v 6)) (qa_nil)))) (qg_name 3 sc_Rooms_numbered_row.nd))))))))))) (qss_one (qs_ret (qe_callTy (T := "") call_tuple_of (.of1 ok_tuple) rfl T.m_tuple (by decide +kernel) (qa_cons (qe_v 2) (qa_nil))))))
set_option maxHeartbeats 4000000 in
theorem ok_Rooms_number_of_row (T : Tx K mg A) : FnQ P w K mg base C 3 A.f_Rooms_number_of_row A.fd_Rooms_number_of_row ["self", "row"] F_Rooms_number_of_row := by
  have c_Rooms_ways_on := ok_Rooms_ways_on (P := P) (w := w) (base := base) (C := C) T
  refine fq_of T.F_Rooms_number_of_row sc_Rooms_number_of_row fun cdv A' outer s H E hr hgu => ?_
  exact qss_cons (qs_asg (qe_tup (qa_cons (qe_int) (qa_cons (qe_int) (qa_nil)))) (qg_tup rfl (qgs_cons (qg_name 2 sc_Rooms_number_of_row.nd) (qgs_cons (qg_name 3 sc_Rooms_number_of_row.nd) (qgs_nil))) (hlen := len_cons (len_cons (len_nil))))) (qss_cons (qs_forget [3, 4, 5, 6] (qs_pre [4, 5, 6] (qs_for (passes_of rfl) rfl (qi_enum rfl T.m_enumerate (qe_v 1)) (qg_tup rfl (qgs_cons (qg_name 4 sc_Rooms_number_of_row.nd) (qgs_cons (qg_name 5 sc_Rooms_number_of_row.nd) (qgs_nil))) (hlen := len_cons (len_cons (len_nil)))) (qss_cons (qs_asg (qe_bin op_addA ok_add (qe_v 3) (qe_v 5)) (qg_name 6 sc_Rooms_number_of_row.nd)) (qss_cons (qs_forget [6] (qs_pre [] (qs_while 1000000000 (passes_of rfl) (qt_cmp op_lt ok_lt (qe_v 6) (qe_ix ix_A ok_ix (qe_fld T.n_Rooms T.cl_Rooms T.na_Rooms_tops_by_day (qe_v 0)) (qe_v 4)) rfl) (qss_cons (qs_aug 6 sc_Rooms_number_of_row.nd ip_add (qe_int)) (qss_one (qs_forget [] (qs_aug 2 sc_Rooms_number_of_row.nd ip_add (qe_methF T.n_Rooms T.cl_Rooms T.m_Rooms_ways_on c_Rooms_ways_on (hr.mono (by decide)) hgu (takes_of rfl rfl rfl rfl) T.b_Rooms_ways_on (qe_v 0) (qa_cons (qe_v 4) (qa_cons (qe_v 6) (qa_nil))))))))))) (qss_one (qs_forget [4, 5, 6] (qs_asg (qe_callB (call_max2 rfl) (.of2 ok_max2) rfl T.m_max (by decide +kernel) (qa_cons (qe_int) (qa_cons (qe_bin op_sub ok_sub (qe_bin op_addA ok_add (qe_v 3) (qe_v 5)) (qe_ix ix_A ok_ix (qe_ix ix_A ok_ix (qe_fld T.n_Rooms T.cl_Rooms T.na_Rooms_nights (qe_v 0)) (qe_v 4)) (qe_int))) (qa_nil)))) (qg_name 3 sc_Rooms_number_of_row.nd))))))))) (qss_one (qs_ret (qe_v 2))))
set_option maxHeartbeats 4000000 in
theorem ok_queue_ready (T : Tx K mg A) : FnQ P w K mg base C 6 A.f_queue_ready A.fd_queue_ready ["queue", "past"] F_queue_ready := by
  have c_Rooms_init := ok_Rooms_init (P := P) (w := w) (base := base) (C := C) T
  have c_Rooms_room_behind := ok_Rooms_room_behind (P := P) (w := w) (base := base) (C := C) T
  have c_require_queue := ok_require_queue (P := P) (w := w) (base := base) (C := C) T
  have c_require_queue_past := ok_require_queue_past (P := P) (w := w) (base := base) (C := C) T
  refine fq_of T.F_queue_ready sc_queue_ready fun cdv A' outer s H E hr hgu => ?_
  exact qss_cons (qs_expr (qe_call c_require_queue (hr.mono (by decide)) hgu (takes_of rfl rfl rfl rfl) rfl T.g_require_queue T.F_require_queue.kp T.b_require_queue (qa_cons (qe_v 0) (qa_nil)))) (qss_cons (qs_expr (qe_call c_require_queue_past (hr.mono (by decide)) hgu (takes_of rfl rfl rfl rfl) rfl T.g_require_queue_past T.F_require_queue_past.kp T.b_require_queue_past (qa_cons (qe_v 0) (qa_cons (qe_v 1) (qa_nil))))) (qss_one (qs_ret (qe_if (qt_cmp op_lt ok_lt (qe_callB call_len (.of1 ok_len) rfl T.m_len (by decide +kernel) (qa_cons (qe_v 1) (qa_nil))) (qe_callB call_len (.of1 ok_len) rfl T.m_len (by decide +kernel) (qa_cons (qe_v 0) (qa_nil))) rfl) (qe_methF T.n_Rooms T.cl_Rooms T.m_Rooms_room_behind c_Rooms_room_behind (hr.mono (by decide)) hgu (takes_of rfl rfl rfl rfl) T.b_Rooms_room_behind (qe_new T.n_Rooms T.mk_Rooms c_Rooms_init (hr.mono (by decide)) hgu (takes_of rfl rfl rfl rfl) rfl T.g_Rooms T.b_Rooms_init (qa_cons (qe_v 0) (qa_nil))) (qa_cons (qe_v 1) (qa_nil))) (qe_non)))))
set_option maxHeartbeats 4000000 in
theorem ok_queue_fault (T : Tx K mg A) : FnQ P w K mg base C 6 A.f_queue_fault A.fd_queue_fault ["queue", "row"] F_queue_fault := by
  have c_queue_over := ok_queue_over (P := P) (w := w) (base := base) (C := C) T
  have c_require_queue := ok_require_queue (P := P) (w := w) (base := base) (C := C) T
  have c_require_row := ok_require_row (P := P) (w := w) (base := base) (C := C) T
  refine fq_of T.F_queue_fault sc_queue_fault fun cdv A' outer s H E hr hgu => ?_
  exact qss_cons (qs_expr (qe_call c_require_queue (hr.mono (by decide)) hgu (takes_of rfl rfl rfl rfl) rfl T.g_require_queue T.F_require_queue.kp T.b_require_queue (qa_cons (qe_v 0) (qa_nil)))) (qss_cons (qs_expr (qe_call c_require_row (hr.mono (by decide)) hgu (takes_of rfl rfl rfl rfl) rfl T.g_require_row T.F_require_row.kp T.b_require_row (qa_cons (qe_v 0) (qa_cons (qe_v 1) (qa_nil))))) (qss_one (qs_ret (qe_call c_queue_over (hr.mono (by decide)) hgu (takes_of rfl rfl rfl rfl) rfl T.g_queue_over T.F_queue_over.kp T.b_queue_over (qa_cons (qe_v 0) (qa_cons (qe_v 1) (qa_nil)))))))
set_option maxHeartbeats 4000000 in
theorem ok_queue_count (T : Tx K mg A) : FnQ P w K mg base C 6 A.f_queue_count A.fd_queue_count ["queue", "past"] F_queue_count := by
  have c_Rooms_init := ok_Rooms_init (P := P) (w := w) (base := base) (C := C) T
  have c_Rooms_ways_behind := ok_Rooms_ways_behind (P := P) (w := w) (base := base) (C := C) T
  have c_require_queue := ok_require_queue (P := P) (w := w) (base := base) (C := C) T
  have c_require_queue_past := ok_require_queue_past (P := P) (w := w) (base := base) (C := C) T
  refine fq_of T.F_queue_count sc_queue_count fun cdv A' outer s H E hr hgu => ?_
  exact qss_cons (qs_expr (qe_call c_require_queue (hr.mono (by decide)) hgu (takes_of rfl rfl rfl rfl) rfl T.g_require_queue T.F_require_queue.kp T.b_require_queue (qa_cons (qe_v 0) (qa_nil)))) (qss_cons (qs_expr (qe_call c_require_queue_past (hr.mono (by decide)) hgu (takes_of rfl rfl rfl rfl) rfl T.g_require_queue_past T.F_require_queue_past.kp T.b_require_queue_past (qa_cons (qe_v 0) (qa_cons (qe_v 1) (qa_nil))))) (qss_one (qs_ret (qe_methF T.n_Rooms T.cl_Rooms T.m_Rooms_ways_behind c_Rooms_ways_behind (hr.mono (by decide)) hgu (takes_of rfl rfl rfl rfl) T.b_Rooms_ways_behind (qe_new T.n_Rooms T.mk_Rooms c_Rooms_init (hr.mono (by decide)) hgu (takes_of rfl rfl rfl rfl) rfl T.g_Rooms T.b_Rooms_init (qa_cons (qe_v 0) (qa_nil))) (qa_cons (qe_v 1) (qa_nil))))))
set_option maxHeartbeats 4000000 in
theorem ok_queue_row_at (T : Tx K mg A) : FnQ P w K mg base C 6 A.f_queue_row_at A.fd_queue_row_at ["queue", "number"] F_queue_row_at := by
  have c_Rooms_init := ok_Rooms_init (P := P) (w := w) (base := base) (C := C) T
  have c_Rooms_numbered_row := ok_Rooms_numbered_row (P := P) (w := w) (base := base) (C := C) T
  have c_Rooms_ways_behind := ok_Rooms_ways_behind (P := P) (w := w) (base := base) (C := C) T
  have c_is_at_least := ok_is_at_least (P := P) (w := w) (base := base) (C := C) T
  have c_require_queue := ok_require_queue (P := P) (w := w) (base := base) (C := C) T
  refine fq_of T.F_queue_row_at sc_queue_row_at fun cdv A' outer s H E hr hgu => ?_
  exact qss_cons (qs_expr (qe_call c_require_queue (hr.mono (by decide)) hgu (takes_of rfl rfl rfl rfl) rfl T.g_require_queue T.F_require_queue.kp T.b_require_queue (qa_cons (qe_v 0) (qa_nil)))) (qss_cons (qs_asg (qe_new T.n_Rooms T.mk_Rooms c_Rooms_init (hr.mono (by decide)) hgu (takes_of rfl rfl rfl rfl) rfl T.g_Rooms T.b_Rooms_init (qa_cons (qe_v 0) (qa_nil))) (qg_name 2 sc_queue_row_at.nd)) (qss_cons (qs_if (qt_of (qw_or (qt_not (qt_val (qe_call c_is_at_least (hr.mono (by decide)) hgu (takes_of rfl rfl rfl rfl) rfl T.g_is_at_least T.F_is_at_least.kp T.b_is_at_least (qa_cons (qe_v 1) (qa_cons (qe_int) (qa_nil)))))) (qw_or1 (qt_cmp (op_geA hr.units0) ok_geA (qe_v 1) (qe_methF T.n_Rooms T.cl_Rooms T.m_Rooms_ways_behind c_Rooms_ways_behind (hr.mono (by decide)) hgu (takes_of rfl rfl rfl rfl) T.b_Rooms_ways_behind (qe_v 2) (qa_cons (qe_tup (qa_nil)) (qa_nil))) rfl)))) (qss_never) (qss_nil)) (qss_one (qs_ret (qe_methF T.n_Rooms T.cl_Rooms T.m_Rooms_numbered_row c_Rooms_numbered_row (hr.mono (by decide)) hgu (takes_of rfl rfl rfl rfl) T.b_Rooms_numbered_row (qe_v 2) (qa_cons (qe_v 1) (qa_nil)))))))
set_option maxHeartbeats 4000000 in
theorem ok_queue_number_of (T : Tx K mg A) : FnQ P w K mg base C 6 A.f_queue_number_of A.fd_queue_number_of ["queue", "row"] F_queue_number_of := by
  have c_Rooms_init := ok_Rooms_init (P := P) (w := w) (base := base) (C := C) T
  have c_Rooms_number_of_row := ok_Rooms_number_of_row (P := P) (w := w) (base := base) (C := C) T
  have c_queue_over := ok_queue_over (P := P) (w := w) (base := base) (C := C) T
  have c_require_queue := ok_require_queue (P := P) (w := w) (base := base) (C := C) T
  have c_require_row := ok_require_row (P := P) (w := w) (base := base) (C := C) T
  refine fq_of T.F_queue_number_of sc_queue_number_of fun cdv A' outer s H E hr hgu => ?_
  exact qss_cons (qs_expr (qe_call c_require_queue (hr.mono (by decide)) hgu (takes_of rfl rfl rfl rfl) rfl T.g_require_queue T.F_require_queue.kp T.b_require_queue (qa_cons (qe_v 0) (qa_nil)))) (qss_cons (qs_expr (qe_call c_require_row (hr.mono (by decide)) hgu (takes_of rfl rfl rfl rfl) rfl T.g_require_row T.F_require_row.kp T.b_require_row (qa_cons (qe_v 0) (qa_cons (qe_v 1) (qa_nil))))) (qss_cons (qs_if (qt_cmp op_notN ok_notN (qe_call c_queue_over (hr.mono (by decide)) hgu (takes_of rfl rfl rfl rfl) rfl T.g_queue_over T.F_queue_over.kp T.b_queue_over (qa_cons (qe_v 0) (qa_cons (qe_v 1) (qa_nil)))) (qe_non) rfl) (qss_one (qs_ret (qe_non))) (qss_nil)) (qss_one (qs_ret (qe_methF T.n_Rooms T.cl_Rooms T.m_Rooms_number_of_row c_Rooms_number_of_row (hr.mono (by decide)) hgu (takes_of rfl rfl rfl rfl) T.b_Rooms_number_of_row (qe_new T.n_Rooms T.mk_Rooms c_Rooms_init (hr.mono (by decide)) hgu (takes_of rfl rfl rfl rfl) rfl T.g_Rooms T.b_Rooms_init (qa_cons (qe_v 0) (qa_nil))) (qa_cons (qe_v 1) (qa_nil)))))))
set_option maxHeartbeats 4000000 in
theorem ok_law_cell_at (T : Tx K mg A) : FnQ P w K mg base C 2 A.f_law_cell_at A.fd_law_cell_at ["_law_script", "_law_k"] F_law_cell_at := by
  refine fq_of T.F_law_cell_at sc_law_cell_at fun cdv A' outer s H E hr hgu => ?_
  exact qss_one (qs_ret (qe_if (qt_cmp op_lt ok_lt (qe_v 1) (qe_callB call_len (.of1 ok_len) rfl T.m_len (by decide +kernel) (qa_cons (qe_v 0) (qa_nil))) rfl) (qe_ix ix_A ok_ix (qe_v 0) (qe_v 1)) (qe_int)))
set_option maxHeartbeats 4000000 in
theorem ok_law_source (T : Tx K mg A) : FnQ P w K mg base C 2 A.f_law_source A.fd_law_source ["_law_cell"] F_law_source := by
  refine fq_of T.F_law_source sc_law_source fun cdv A' outer s H E hr hgu => ?_
  exact qss_one (qs_ret (qe_lstO (qa_cons (qe_bin op_mulT ok_mulT (qe_v 0) (qe_callTy (T := "") call_int1 (.of1 ok_int) rfl T.m_int (by decide +kernel) (qa_cons (qe_cmp (op_geA hr.units0) ok_geA (qe_v 0) (qe_bin op_pow ok_pow (qe_int) (qe_int)) rfl) (qa_nil)))) (qa_cons (qe_bin op_modP ok_mod (qe_v 0) (qe_int)) (qa_cons (qe_int) (qa_nil))))))
set_option maxHeartbeats 4000000 in
theorem ok_law_take (T : Tx K mg A) : FnQ P w K mg base C 2 A.f_law_take A.fd_law_take ["_law_source_here", "_law_bound"] F_law_take := by
  refine fq_of T.F_law_take sc_law_take fun cdv A' outer s H E hr hgu => ?_
  exact qss_cons (qs_if (qt_cmp op_gt ok_gt (qe_ix ix_A ok_ix (qe_v 0) (qe_int)) (qe_int) rfl) (qss_cons (qs_asg (qe_bin op_modP ok_mod (qe_ix ix_A ok_ix (qe_v 0) (qe_int)) (qe_v 1)) (qg_name 4 sc_law_take.nd)) (qss_cons (qs_setI (qe_bin op_fdivW ok_fdiv (qe_ix ix_A ok_ix (qe_v 0) (qe_int)) (qe_v 1)) (qe_v 0) (qe_int)) (qss_one (qs_ret (qe_v 4))))) (qss_nil)) (qss_cons (qs_setI (qe_bin op_addA ok_add (qe_ix ix_A ok_ix (qe_v 0) (qe_int)) (qe_int)) (qe_v 0) (qe_int)) (qss_cons (qs_asg (qe_ix ix_A ok_ix (qe_lst (qa_cons (qe_int) (qa_cons (qe_int) (qa_cons (qe_int) (qa_cons (qe_int) (qa_nil)))))) (qe_bin op_modP ok_mod (qe_ix ix_A ok_ix (qe_v 0) (qe_int)) (qe_int))) (qg_name 2 sc_law_take.nd)) (qss_cons (qs_asg (qe_bin op_modP ok_mod (qe_bin op_pow ok_pow (qe_bin op_addA ok_add (qe_bin op_addA ok_add (qe_ix ix_A ok_ix (qe_v 0) (qe_int)) (qe_bin op_mulT ok_mulT (qe_int) (qe_ix ix_A ok_ix (qe_v 0) (qe_int)))) (qe_int)) (qe_int)) (qe_v 2)) (qg_name 3 sc_law_take.nd)) (qss_cons (qs_asg (qe_bin op_modP ok_mod (qe_bin op_mulT ok_mulT (qe_bin op_addA ok_add (qe_v 3) (qe_ix ix_A ok_ix (qe_v 0) (qe_int))) (qe_bin op_addA ok_add (qe_bin op_fdivW ok_fdiv (qe_v 3) (qe_int)) (qe_int))) (qe_v 2)) (qg_name 3 sc_law_take.nd)) (qss_cons (qs_asg (qe_bin op_modP ok_mod (qe_bin op_mulT ok_mulT (qe_v 3) (qe_bin op_addA ok_add (qe_bin op_addA ok_add (qe_bin op_fdivW ok_fdiv (qe_v 3) (qe_int)) (qe_bin op_mulT ok_mulT (qe_int) (qe_ix ix_A ok_ix (qe_v 0) (qe_int)))) (qe_int))) (qe_v 2)) (qg_name 3 sc_law_take.nd)) (qss_one (qs_ret (qe_bin op_modP ok_mod (qe_bin op_fdivW ok_fdiv (qe_v 3) (qe_int)) (qe_v 1)))))))))
set_option maxHeartbeats 4000000 in
theorem ok_law_large (T : Tx K mg A) : FnQ P w K mg base C 3 A.f_law_large A.fd_law_large ["_law_source_here", "_law_bound"] F_law_large := by
  have c_law_take := ok_law_take (P := P) (w := w) (base := base) (C := C) T
  refine fq_of T.F_law_large sc_law_large fun cdv A' outer s H E hr hgu => ?_
  exact qss_cons (qs_asg (qe_int) (qg_name 2 sc_law_large.nd)) (qss_cons (qs_forget [3] (qs_pre [3] (qs_for (passes_of rfl) rfl (qi_rng1 rfl T.m_range (qa_cons (qe_int) (qa_nil))) (qg_name 3 sc_law_large.nd) (qss_one (qs_forget [3] (qs_asg (qe_bin op_addA ok_add (qe_bin op_mulT ok_mulT (qe_v 2) (qe_bin op_pow ok_pow (qe_int) (qe_int))) (qe_call c_law_take (hr.mono (by decide)) hgu (takes_of rfl rfl rfl rfl) rfl T.g_law_take T.F_law_take.kp T.b_law_take (qa_cons (qe_v 0) (qa_cons (qe_bin op_pow ok_pow (qe_int) (qe_int)) (qa_nil))))) (qg_name 2 sc_law_large.nd))))))) (qss_one (qs_ret (qe_bin op_modP ok_mod (qe_v 2) (qe_v 1)))))
set_option maxHeartbeats 4000000 in
theorem ok_law_queue (T : Tx K mg A) : FnQ P w K mg base C 3 A.f_law_queue A.fd_law_queue ["_law_source_here", "_law_most", "_law_top"] F_law_queue := by
  have c_law_take := ok_law_take (P := P) (w := w) (base := base) (C := C) T
  refine fq_of T.F_law_queue sc_law_queue fun cdv A' outer s H E hr hgu => ?_
  exact qss_cons (qs_asg (qe_call c_law_take (hr.mono (by decide)) hgu (takes_of rfl rfl rfl rfl) rfl T.g_law_take T.F_law_take.kp T.b_law_take (qa_cons (qe_v 0) (qa_cons (qe_int) (qa_nil)))) (qg_name 3 sc_law_queue.nd)) (qss_cons (qs_asg (qe_lstO (qa_nil)) (qg_name 4 sc_law_queue.nd)) (qss_cons (qs_fz 4 (qs_forget [5, 6] (qs_pre [5, 6] (qs_for (passes_of rfl) rfl (qi_rng1 rfl T.m_range (qa_cons (qe_call c_law_take (hr.mono (by decide)) hgu (takes_of rfl rfl rfl rfl) rfl T.g_law_take T.F_law_take.kp T.b_law_take (qa_cons (qe_v 0) (qa_cons (qe_bin op_addA ok_add (qe_v 1) (qe_int)) (qa_nil)))) (qa_nil))) (qg_name 5 sc_law_queue.nd) (qss_cons (qs_asg (qe_ix ix_A ok_ix (qe_lst (qa_cons (qe_v 2) (qa_cons (qe_call c_law_take (hr.mono (by decide)) hgu (takes_of rfl rfl rfl rfl) rfl T.g_law_take T.F_law_take.kp T.b_law_take (qa_cons (qe_v 0) (qa_cons (qe_bin op_addA ok_add (qe_v 2) (qe_int)) (qa_nil)))) (qa_cons (qe_call c_law_take (hr.mono (by decide)) hgu (takes_of rfl rfl rfl rfl) rfl T.g_law_take T.F_law_take.kp T.b_law_take (qa_cons (qe_v 0) (qa_cons (qe_bin op_addA ok_add (qe_v 2) (qe_int)) (qa_nil)))) (qa_nil))))) (qe_v 3)) (qg_name 6 sc_law_queue.nd)) (qss_one (qs_forget [5, 6] (qs_expr (qe_meth1 PySem.F.slot_list_append PySem.F.type_list_append mt_append ok_append (qe_v 4) (qe_tup (qa_cons (qe_v 6) (qa_cons (qe_ix ix_A ok_ix (qe_lst (qa_cons (qe_int) (qa_cons (qe_int) (qa_cons (qe_call c_law_take (hr.mono (by decide)) hgu (takes_of rfl rfl rfl rfl) rfl T.g_law_take T.F_law_take.kp T.b_law_take (qa_cons (qe_v 0) (qa_cons (qe_bin op_addA ok_add (qe_v 2) (qe_int)) (qa_nil)))) (qa_nil))))) (qe_call c_law_take (hr.mono (by decide)) hgu (takes_of rfl rfl rfl rfl) rfl T.g_law_take T.F_law_take.kp T.b_law_take (qa_cons (qe_v 0) (qa_cons (qe_int) (qa_nil))))) (qa_nil))))))))))))) (qss_one (qs_ret (qe_v 4)))))
set_option maxHeartbeats 4000000 in
theorem ok_law_over (T : Tx K mg A) : FnQ P w K mg base C 2 A.f_law_over A.fd_law_over ["_law_plan", "_law_numbers"] F_law_over := by
  refine fq_of T.F_law_over sc_law_over fun cdv A' outer s H E hr hgu => ?_
  exact qss_cons (qs_asg (qe_int) (qg_name 2 sc_law_over.nd)) (qss_cons (qs_forget [2, 3, 4, 5, 6] (qs_pre [3, 4, 5, 6] (qs_for (passes_of rfl) rfl (qi_enum rfl T.m_enumerate (qe_v 0)) (qg_tup rfl (qgs_cons (qg_name 3 sc_law_over.nd) (qgs_cons (qg_tup rfl (qgs_cons (qg_name 4 sc_law_over.nd) (qgs_cons (qg_name 5 sc_law_over.nd) (qgs_nil))) (hlen := len_cons (len_cons (len_nil)))) (qgs_nil))) (hlen := len_cons (len_cons (len_nil)))) (qss_cons (qs_asg (qe_bin op_addA ok_add (qe_v 2) (qe_if (qt_cmp op_lt ok_lt (qe_v 3) (qe_callB call_len (.of1 ok_len) rfl T.m_len (by decide +kernel) (qa_cons (qe_v 1) (qa_nil))) rfl) (qe_ix ix_A ok_ix (qe_v 1) (qe_v 3)) (qe_int))) (qg_name 6 sc_law_over.nd)) (qss_cons (qs_if (qt_cmp op_gt ok_gt (qe_v 6) (qe_v 4) rfl) (qss_one (qs_ret (qe_bin op_addA ok_add (qe_v 3) (qe_int)))) (qss_nil)) (qss_one (qs_forget [3, 4, 5, 6] (qs_asg (qe_callB (call_max2 rfl) (.of2 ok_max2) rfl T.m_max (by decide +kernel) (qa_cons (qe_int) (qa_cons (qe_bin op_sub ok_sub (qe_v 6) (qe_v 5)) (qa_nil)))) (qg_name 2 sc_law_over.nd))))))))) (qss_one (qs_ret (qe_non))))
set_option maxHeartbeats 4000000 in
theorem ok_law_begun (T : Tx K mg A) : FnQ P w K mg base C 3 A.f_law_begun A.fd_law_begun ["_law_plan", "_law_places"] F_law_begun := by
  have c_law_over := ok_law_over (P := P) (w := w) (base := base) (C := C) T
  refine fq_of T.F_law_begun sc_law_begun fun cdv A' outer s H E hr hgu => ?_
  exact qss_cons (qs_asg (qe_lst (qa_cons (qe_tup (qa_nil)) (qa_nil))) (qg_name 2 sc_law_begun.nd)) (qss_cons (qs_forget [3, 4, 5] (qs_pre [3, 4, 5] (qs_for (passes_of rfl) rfl (qi_rng1 rfl T.m_range (qa_cons (qe_v 1) (qa_nil))) (qg_name 3 sc_law_begun.nd) (qss_scope (qss_cons (qs_asg (qe_lstO (qa_nil)) (qg_name 4 sc_law_begun.nd)) (qss_cons (qs_fz 4 (qs_forget [5] (qs_pre [5] (qs_for (passes_of rfl) rfl (qi_seq (qe_v 2)) (qg_name 5 sc_law_begun.nd) (qss_one (qs_forget [5] (qs_expr (qe_meth1 PySem.F.slot_list_extend PySem.F.type_list_extend mt_extendS ok_extend (qe_v 4) (qe_lc rfl sc_law_begun.nd (qi_rng3 rfl T.m_range (qa_cons (qe_ix ix_A ok_ix (qe_ix ix_A ok_ix (qe_v 0) (qe_v 3)) (qe_int)) (qa_cons (qe_un un_neg ok_neg (qe_int)) (qa_cons (qe_un un_neg ok_neg (qe_int)) (qa_nil))))) (blkOk_by (N := ["_law_plan", "_law_places", "_law_found", "_law_at", "_law_longer", "_law_numbers", "_law_more"]) (sc := defScope s_law_begun) (own := [("_law_more", 6)]) (by decide +kernel)) (fun _ _ _ _ _ => qg_name 6 sc_law_begun.nd) (fun _ _ _ _ _ => qts_nil) (fun _ _ _ _ _ => qe_bin op_addA ok_add (qe_v 5) (qe_tup (qa_cons (qe_v 6) (qa_nil))))))))))))) (qss_one (qs_forget [3, 4, 5] (qs_lc (i := 2) rfl sc_law_begun.nd rfl rfl (sw_true rfl rfl rfl (by decide +kernel)) (qi_seq (qe_v 4)) (blkOk_by (N := ["_law_plan", "_law_places", "_law_found", "_law_at", "_law_longer", "_law_numbers", "_law_more"]) (sc := defScope s_law_begun) (own := [("_law_numbers", 5)]) (by decide +kernel)) (fun _ _ _ _ _ => qg_name 5 sc_law_begun.nd) (fun _ _ _ _ _ => qts_one (qt_cmp op_isN ok_isN (qe_call c_law_over (hr.mono (by decide)) hgu takes_no rfl T.g_law_over T.F_law_over.kp T.b_law_over (qa_cons (qe_v 0) (qa_cons (qe_v 5) (qa_nil)))) (qe_non) rfl)) (fun _ _ _ _ _ => qe_v 5)))))))))) (qss_one (qs_ret (qe_v 2))))
set_option maxHeartbeats 4000000 in
theorem ok_law_small_right (T : Tx K mg A) : FnQ P w K mg base C 7 A.f_law_small_right A.fd_law_small_right ["_law_source_here"] F_law_small_right := by
  have c_law_begun := ok_law_begun (P := P) (w := w) (base := base) (C := C) T
  have c_law_queue := ok_law_queue (P := P) (w := w) (base := base) (C := C) T
  have c_law_take := ok_law_take (P := P) (w := w) (base := base) (C := C) T
  have c_queue_count := ok_queue_count (P := P) (w := w) (base := base) (C := C) T
  have c_queue_number_of := ok_queue_number_of (P := P) (w := w) (base := base) (C := C) T
  have c_queue_row_at := ok_queue_row_at (P := P) (w := w) (base := base) (C := C) T
  refine fq_of T.F_law_small_right sc_law_small_right fun cdv A' outer s H E hr hgu => ?_
  exact qss_cons (qs_asg (qe_call c_law_queue (hr.mono (by decide)) hgu (takes_of rfl rfl rfl rfl) rfl T.g_law_queue T.F_law_queue.kp T.b_law_queue (qa_cons (qe_v 0) (qa_cons (qe_int) (qa_cons (qe_bin op_addA ok_add (qe_int) (qe_call c_law_take (hr.mono (by decide)) hgu (takes_of rfl rfl rfl rfl) rfl T.g_law_take T.F_law_take.kp T.b_law_take (qa_cons (qe_v 0) (qa_cons (qe_int) (qa_nil))))) (qa_nil))))) (qg_name 1 sc_law_small_right.nd)) (qss_cons (qs_asg (qe_callB call_len (.of1 ok_len) rfl T.m_len (by decide +kernel) (qa_cons (qe_v 1) (qa_nil))) (qg_name 2 sc_law_small_right.nd)) (qss_cons (qs_asg (qe_call c_law_begun (hr.mono (by decide)) hgu (takes_of rfl rfl rfl rfl) rfl T.g_law_begun T.F_law_begun.kp T.b_law_begun (qa_cons (qe_v 1) (qa_cons (qe_v 2) (qa_nil)))) (qg_name 3 sc_law_small_right.nd)) (qss_cons (qs_asg (qe_call c_law_take (hr.mono (by decide)) hgu (takes_of rfl rfl rfl rfl) rfl T.g_law_take T.F_law_take.kp T.b_law_take (qa_cons (qe_v 0) (qa_cons (qe_bin op_addA ok_add (qe_v 2) (qe_int)) (qa_nil)))) (qg_name 4 sc_law_small_right.nd)) (qss_cons (qs_forget [5, 7] (qs_pre [5, 7] (qs_for (passes_of rfl) rfl (qi_seq (qe_call c_law_begun (hr.mono (by decide)) hgu (takes_of rfl rfl rfl rfl) rfl T.g_law_begun T.F_law_begun.kp T.b_law_begun (qa_cons (qe_v 1) (qa_cons (qe_v 4) (qa_nil))))) (qg_name 5 sc_law_small_right.nd) (qss_cons (qs_asg (qe_callB call_len (.of1 ok_len) rfl T.m_len (by decide +kernel) (qa_cons (qe_lc rfl sc_law_small_right.nd (qi_seq (qe_v 3)) (blkOk_by (N := ["_law_source_here", "_law_plan", "_law_size", "_law_rows_here", "_law_places", "_law_numbers", "_law_odd", "_law_expected", "_law_at", "_law_some"]) (sc := defScope s_law_small_right) (own := [("_law_some", 9)]) (by decide +kernel)) (fun _ _ _ _ _ => qg_name 9 sc_law_small_right.nd) (fun _ _ _ _ _ => qts_one (qt_cmp (op_eqA hr.units) ok_eqA (qe_slice (qe_v 9) (qo_none) (qo_some (qe_v 4))) (qe_v 5) rfl)) (fun _ _ _ _ _ => qe_v 9)) (qa_nil))) (qg_name 7 sc_law_small_right.nd)) (qss_one (qs_forget [5, 7] (qs_if (qt_cmp (op_neA hr.units) ok_neA (qe_call c_queue_count (hr.mono (by decide)) hgu (takes_of rfl rfl rfl rfl) rfl T.g_queue_count T.F_queue_count.kp T.b_queue_count (qa_cons (qe_v 1) (qa_cons (qe_v 5) (qa_nil)))) (qe_v 7) rfl) (qss_one (qs_ret (qe_bl))) (qss_nil)))))))) (qss_cons (qs_if (qt_cmp (op_neA hr.units) ok_neA (qe_lc rfl sc_law_small_right.nd (qi_rng1 rfl T.m_range (qa_cons (qe_callB call_len (.of1 ok_len) rfl T.m_len (by decide +kernel) (qa_cons (qe_v 3) (qa_nil))) (qa_nil))) (blkOk_by (N := ["_law_source_here", "_law_plan", "_law_size", "_law_rows_here", "_law_places", "_law_numbers", "_law_odd", "_law_expected", "_law_at", "_law_some"]) (sc := defScope s_law_small_right) (own := [("_law_at", 8)]) (by decide +kernel)) (fun _ _ _ _ _ => qg_name 8 sc_law_small_right.nd) (fun _ _ _ _ _ => qts_nil) (fun _ _ _ _ _ => qe_call c_queue_row_at (hr.mono (by decide)) hgu takes_no rfl T.g_queue_row_at T.F_queue_row_at.kp T.b_queue_row_at (qa_cons (qe_v 1) (qa_cons (qe_v 8) (qa_nil))))) (qe_v 3) rfl) (qss_one (qs_ret (qe_bl))) (qss_nil)) (qss_cons (qs_if (qt_cmp (op_neA hr.units) ok_neA (qe_lc rfl sc_law_small_right.nd (qi_seq (qe_v 3)) (blkOk_by (N := ["_law_source_here", "_law_plan", "_law_size", "_law_rows_here", "_law_places", "_law_numbers", "_law_odd", "_law_expected", "_law_at", "_law_some"]) (sc := defScope s_law_small_right) (own := [("_law_some", 9)]) (by decide +kernel)) (fun _ _ _ _ _ => qg_name 9 sc_law_small_right.nd) (fun _ _ _ _ _ => qts_nil) (fun _ _ _ _ _ => qe_call c_queue_number_of (hr.mono (by decide)) hgu takes_no rfl T.g_queue_number_of T.F_queue_number_of.kp T.b_queue_number_of (qa_cons (qe_v 1) (qa_cons (qe_v 9) (qa_nil))))) (qe_lrg1 false rfl rfl T.m_list rfl T.m_range (qe_callB call_len (.of1 ok_len) rfl T.m_len (by decide +kernel) (qa_cons (qe_v 3) (qa_nil)))) rfl) (qss_one (qs_ret (qe_bl))) (qss_nil)) (qss_cons (qs_asg (qe_callTy (T := "") call_tuple_of (.of1 ok_tuple) rfl T.m_tuple (by decide +kernel) (qa_cons (qe_lc rfl sc_law_small_right.nd (qi_rng1 rfl T.m_range (qa_cons (qe_v 2) (qa_nil))) (blkOk_by (N := ["_law_source_here", "_law_plan", "_law_size", "_law_rows_here", "_law_places", "_law_numbers", "_law_odd", "_law_expected", "_law_at", "_law_some"]) (sc := defScope s_law_small_right) (own := [("_law_at", 8)]) (by decide +kernel)) (fun _ _ _ _ _ => qg_name 8 sc_law_small_right.nd) (fun _ _ _ _ _ => qts_nil) (fun _ _ _ _ _ => qe_call c_law_take (hr.mono (by decide)) hgu takes_no rfl T.g_law_take T.F_law_take.kp T.b_law_take (qa_cons (qe_v 0) (qa_cons (qe_int) (qa_nil))))) (qa_nil))) (qg_name 6 sc_law_small_right.nd)) (qss_cons (qs_asg (qe_if (qt_cmp (op_inA (units65 hr)) ok_inA (qe_v 6) (qe_v 3) rfl) (qe_index (units65 hr) (qe_v 3) (qe_v 6)) (qe_non)) (qg_name 7 sc_law_small_right.nd)) (qss_cons (qs_if (qt_cmp (op_neA hr.units) ok_neA (qe_callK0 c_queue_number_of (hr.mono (by decide)) hgu (takes_of rfl rfl rfl rfl) rfl T.g_queue_number_of T.F_queue_number_of.kp T.k_queue_number_of_row_queue (qk_cons (qe_v 6) (qk_cons (qe_callTy (T := "") call_tuple_of (.of1 ok_tuple) rfl T.m_tuple (by decide +kernel) (qa_cons (qe_v 1) (qa_nil))) (qk_nil))) (gCons_len (gCons_len (fun _ _ _ _ h => gNil_len h)))) (qe_v 7) rfl) (qss_one (qs_ret (qe_bl))) (qss_nil)) (qss_cons (qs_asg (qe_call c_law_take (hr.mono (by decide)) hgu (takes_of rfl rfl rfl rfl) rfl T.g_law_take T.F_law_take.kp T.b_law_take (qa_cons (qe_v 0) (qa_cons (qe_callB call_len (.of1 ok_len) rfl T.m_len (by decide +kernel) (qa_cons (qe_v 3) (qa_nil))) (qa_nil)))) (qg_name 8 sc_law_small_right.nd)) (qss_cons (qs_if (qt_cmp (op_neA hr.units) ok_neA (qe_callK0 c_queue_count (hr.mono (by decide)) hgu (takes_of rfl rfl rfl rfl) rfl T.g_queue_count T.F_queue_count.kp T.k_queue_count_past_queue (qk_cons (qe_tup (qa_nil)) (qk_cons (qe_callTy (T := "") call_tuple_of (.of1 ok_tuple) rfl T.m_tuple (by decide +kernel) (qa_cons (qe_v 1) (qa_nil))) (qk_nil))) (gCons_len (gCons_len (fun _ _ _ _ h => gNil_len h)))) (qe_callB call_len (.of1 ok_len) rfl T.m_len (by decide +kernel) (qa_cons (qe_v 3) (qa_nil))) rfl) (qss_one (qs_ret (qe_bl))) (qss_nil)) (qss_one (qs_ret (qe_cmp (op_eqA hr.units) ok_eqA (qe_callK0 c_queue_row_at (hr.mono (by decide)) hgu (takes_of rfl rfl rfl rfl) rfl T.g_queue_row_at T.F_queue_row_at.kp T.k_queue_row_at_number_queue (qk_cons (qe_v 8) (qk_cons (qe_callTy (T := "") call_tuple_of (.of1 ok_tuple) rfl T.m_tuple (by decide +kernel) (qa_cons (qe_v 1) (qa_nil))) (qk_nil))) (gCons_len (gCons_len (fun _ _ _ _ h => gNil_len h)))) (qe_ix ix_A ok_ix (qe_v 3) (qe_v 8)) rfl))))))))))))))
set_option maxHeartbeats 4000000 in
theorem ok_law_large_right (T : Tx K mg A) : FnQ P w K mg base C 7 A.f_law_large_right A.fd_law_large_right ["_law_source_here"] F_law_large_right := by
  have c_law_large := ok_law_large (P := P) (w := w) (base := base) (C := C) T
  have c_law_take := ok_law_take (P := P) (w := w) (base := base) (C := C) T
  have c_queue_count := ok_queue_count (P := P) (w := w) (base := base) (C := C) T
  have c_queue_fault := ok_queue_fault (P := P) (w := w) (base := base) (C := C) T
  have c_queue_number_of := ok_queue_number_of (P := P) (w := w) (base := base) (C := C) T
  have c_queue_ready := ok_queue_ready (P := P) (w := w) (base := base) (C := C) T
  have c_queue_row_at := ok_queue_row_at (P := P) (w := w) (base := base) (C := C) T
  refine fq_of T.F_law_large_right sc_law_large_right fun cdv A' outer s H E hr hgu => ?_
  exact qss_cons (qs_asg (qe_call c_law_take (hr.mono (by decide)) hgu (takes_of rfl rfl rfl rfl) rfl T.g_law_take T.F_law_take.kp T.b_law_take (qa_cons (qe_v 0) (qa_cons (qe_ix ix_A ok_ix (qe_lst (qa_cons (qe_int) (qa_cons (qe_int) (qa_nil)))) (qe_call c_law_take (hr.mono (by decide)) hgu (takes_of rfl rfl rfl rfl) rfl T.g_law_take T.F_law_take.kp T.b_law_take (qa_cons (qe_v 0) (qa_cons (qe_int) (qa_nil))))) (qa_nil)))) (qg_name 1 sc_law_large_right.nd)) (qss_cons (qs_asg (qe_ix ix_A ok_ix (qe_lst (qa_cons (qe_int) (qa_cons (qe_int) (qa_nil)))) (qe_call c_law_take (hr.mono (by decide)) hgu (takes_of rfl rfl rfl rfl) rfl T.g_law_take T.F_law_take.kp T.b_law_take (qa_cons (qe_v 0) (qa_cons (qe_int) (qa_nil))))) (qg_name 2 sc_law_large_right.nd)) (qss_cons (qs_asg (qe_lc rfl sc_law_large_right.nd (qi_rng1 rfl T.m_range (qa_cons (qe_v 1) (qa_nil))) (blkOk_by (N := ["_law_source_here", "_law_size", "_law_tops", "_law_plan", "_law_whole", "_law_turn", "_law_at", "_law_line", "_law_numbers", "_law_more", "_law_ways", "_law_some"]) (sc := defScope s_law_large_right) (own := [("_law_at", 6)]) (by decide +kernel)) (fun _ _ _ _ _ => qg_name 6 sc_law_large_right.nd) (fun _ _ _ _ _ => qts_nil) (fun _ _ _ _ _ => qe_tup (qa_cons (qe_call c_law_take (hr.mono (by decide)) hgu takes_no rfl T.g_law_take T.F_law_take.kp T.b_law_take (qa_cons (qe_v 0) (qa_cons (qe_bin op_addA ok_add (qe_v 2) (qe_int)) (qa_nil)))) (qa_cons (qe_call c_law_take (hr.mono (by decide)) hgu takes_no rfl T.g_law_take T.F_law_take.kp T.b_law_take (qa_cons (qe_v 0) (qa_cons (qe_int) (qa_nil)))) (qa_nil))))) (qg_name 3 sc_law_large_right.nd)) (qss_cons (qs_asg (qe_call c_queue_count (hr.mono (by decide)) hgu (takes_of rfl rfl rfl rfl) rfl T.g_queue_count T.F_queue_count.kp T.b_queue_count (qa_cons (qe_v 3) (qa_cons (qe_tup (qa_nil)) (qa_nil)))) (qg_name 4 sc_law_large_right.nd)) (qss_cons (qs_forget [5, 6, 7, 8, 9, 10] (qs_pre [5, 6, 7, 8, 9, 10] (qs_for (passes_of rfl) rfl (qi_rng1 rfl T.m_range (qa_cons (qe_int) (qa_nil))) (qg_name 5 sc_law_large_right.nd) (qss_cons (qs_asg (qe_call c_law_large (hr.mono (by decide)) hgu (takes_of rfl rfl rfl rfl) rfl T.g_law_large T.F_law_large.kp T.b_law_large (qa_cons (qe_v 0) (qa_cons (qe_v 4) (qa_nil)))) (qg_name 6 sc_law_large_right.nd)) (qss_cons (qs_asg (qe_call c_queue_row_at (hr.mono (by decide)) hgu (takes_of rfl rfl rfl rfl) rfl T.g_queue_row_at T.F_queue_row_at.kp T.b_queue_row_at (qa_cons (qe_v 3) (qa_cons (qe_v 6) (qa_nil)))) (qg_name 7 sc_law_large_right.nd)) (qss_cons (qs_if (qt_of (qw_or (qt_cmp op_notN ok_notN (qe_call c_queue_fault (hr.mono (by decide)) hgu (takes_of rfl rfl rfl rfl) rfl T.g_queue_fault T.F_queue_fault.kp T.b_queue_fault (qa_cons (qe_v 3) (qa_cons (qe_v 7) (qa_nil)))) (qe_non) rfl) (qw_or (qt_cmp (op_neA hr.units) ok_neA (qe_call c_queue_number_of (hr.mono (by decide)) hgu (takes_of rfl rfl rfl rfl) rfl T.g_queue_number_of T.F_queue_number_of.kp T.b_queue_number_of (qa_cons (qe_v 3) (qa_cons (qe_v 7) (qa_nil)))) (qe_v 6) rfl) (qw_or1 (qt_cmp (op_neA hr.units) ok_neA (qe_callB call_len (.of1 ok_len) rfl T.m_len (by decide +kernel) (qa_cons (qe_v 7) (qa_nil))) (qe_v 1) rfl))))) (qss_one (qs_ret (qe_bl))) (qss_nil)) (qss_cons (qs_if (qt_of (qw_and (qt_cmp op_lt ok_lt (qe_bin op_addA ok_add (qe_v 6) (qe_int)) (qe_v 4) rfl) (qw_and1 (qt_cmp (op_geA hr.units0) ok_geA (qe_call c_queue_row_at (hr.mono (by decide)) hgu (takes_of rfl rfl rfl rfl) rfl T.g_queue_row_at T.F_queue_row_at.kp T.b_queue_row_at (qa_cons (qe_v 3) (qa_cons (qe_bin op_addA ok_add (qe_v 6) (qe_int)) (qa_nil)))) (qe_v 7) rfl)))) (qss_one (qs_ret (qe_bl))) (qss_nil)) (qss_cons (qs_asg (qe_slice (qe_v 7) (qo_none) (qo_some (qe_call c_law_take (hr.mono (by decide)) hgu (takes_of rfl rfl rfl rfl) rfl T.g_law_take T.F_law_take.kp T.b_law_take (qa_cons (qe_v 0) (qa_cons (qe_bin op_addA ok_add (qe_v 1) (qe_int)) (qa_nil)))))) (qg_name 8 sc_law_large_right.nd)) (qss_one (qs_forget [5, 6, 7, 8, 9, 10] (qs_if (qt_cmp op_lt ok_lt (qe_callB call_len (.of1 ok_len) rfl T.m_len (by decide +kernel) (qa_cons (qe_v 8) (qa_nil))) (qe_v 1) rfl) (qss_cons (qs_asg (qe_call c_queue_ready (hr.mono (by decide)) hgu (takes_of rfl rfl rfl rfl) rfl T.g_queue_ready T.F_queue_ready.kp T.b_queue_ready (qa_cons (qe_v 3) (qa_cons (qe_v 8) (qa_nil)))) (qg_name 9 sc_law_large_right.nd)) (qss_cons (qs_lc (i := 10) rfl sc_law_large_right.nd rfl rfl (sw_true rfl rfl rfl (by decide +kernel)) (qi_rng1 rfl T.m_range (qa_cons (qe_bin op_addA ok_add (qe_v 9) (qe_int)) (qa_nil))) (blkOk_by (N := ["_law_source_here", "_law_size", "_law_tops", "_law_plan", "_law_whole", "_law_turn", "_law_at", "_law_line", "_law_numbers", "_law_more", "_law_ways", "_law_some"]) (sc := defScope s_law_large_right) (own := [("_law_some", 11)]) (by decide +kernel)) (fun _ _ _ _ _ => qg_name 11 sc_law_large_right.nd) (fun _ _ _ _ _ => qts_nil) (fun _ _ _ _ _ => qe_call c_queue_count (hr.mono (by decide)) hgu takes_no rfl T.g_queue_count T.F_queue_count.kp T.b_queue_count (qa_cons (qe_v 3) (qa_cons (qe_bin op_addA ok_add (qe_v 8) (qe_tup (qa_cons (qe_v 11) (qa_nil)))) (qa_nil))))) (qss_one (qs_if (qt_of (qw_or (qt_cmp (op_neA hr.units) ok_neA (qe_callB (cr_sum rfl) (.of1 ok_sum) rfl T.m_sum (by decide +kernel) (qa_cons (qe_v 10) (qa_nil))) (qe_call c_queue_count (hr.mono (by decide)) hgu (takes_of rfl rfl rfl rfl) rfl T.g_queue_count T.F_queue_count.kp T.b_queue_count (qa_cons (qe_v 3) (qa_cons (qe_v 8) (qa_nil)))) rfl) (qw_or1 (qt_cmp (op_inA (units65 hr)) ok_inA (qe_int) (qe_v 10) rfl)))) (qss_one (qs_ret (qe_bl))) (qss_nil))))) (qss_nil)))))))))))) (qss_one (qs_ret (qe_bl)))))))
set_option maxHeartbeats 4000000 in
theorem ok_law (T : Tx K mg A) : FnQ P w K mg base C 8 A.f_law A.fd_law ["_law_script"] F_law := by
  have c_law_cell_at := ok_law_cell_at (P := P) (w := w) (base := base) (C := C) T
  have c_law_large_right := ok_law_large_right (P := P) (w := w) (base := base) (C := C) T
  have c_law_small_right := ok_law_small_right (P := P) (w := w) (base := base) (C := C) T
  have c_law_source := ok_law_source (P := P) (w := w) (base := base) (C := C) T
  refine fq_of T.F_law sc_law fun cdv A' outer s H E hr hgu => ?_
  exact qss_cons (qs_forget [1, 2] (qs_pre [1, 2] (qs_for (passes_of rfl) rfl (qi_seq (qe_bin op_addA ok_add (qe_lst (qa_cons (qe_call c_law_cell_at (hr.mono (by decide)) hgu (takes_of rfl rfl rfl rfl) rfl T.g_law_cell_at T.F_law_cell_at.kp T.b_law_cell_at (qa_cons (qe_v 0) (qa_cons (qe_int) (qa_nil)))) (qa_nil))) (qe_slice (qe_v 0) (qo_some (qe_int)) (qo_some (qe_int))))) (qg_name 1 sc_law.nd) (qss_scope (qss_cons (qs_asg (qe_call c_law_source (hr.mono (by decide)) hgu (takes_of rfl rfl rfl rfl) rfl T.g_law_source T.F_law_source.kp T.b_law_source (qa_cons (qe_v 1) (qa_nil))) (qg_name 2 sc_law.nd)) (qss_one (qs_forget [1, 2] (qs_if (qt_of (qw_or (qt_not (qt_val (qe_call c_law_small_right (hr.mono (by decide)) hgu (takes_of rfl rfl rfl rfl) rfl T.g_law_small_right T.F_law_small_right.kp T.b_law_small_right (qa_cons (qe_v 2) (qa_nil))))) (qw_or1 (qt_not (qt_val (qe_call c_law_large_right (hr.mono (by decide)) hgu (takes_of rfl rfl rfl rfl) rfl T.g_law_large_right T.F_law_large_right.kp T.b_law_large_right (qa_cons (qe_v 2) (qa_nil)))))))) (qss_one (qs_ret (qe_bl))) (qss_nil))))))))) (qss_one (qs_ret (qe_bl)))
end
end My

set_option Elab.async false
set_option linter.all false
set_option maxRecDepth 100000
set_option maxHeartbeats 4000000
namespace My
open PySem PySem.Spec PyProof.Rows L2 Bk
/-! ### the law's draws, second kind -/
theorem fd_small {i j : Int} (h0 : 0 < j) (h : j < 2 ^ 62) : fdivOk i j = true := by
  have a : j.natAbs < 2 ^ 62 := by omega
  have b : j.natAbs.log2 < 62 := by
    by_cases z : j.natAbs = 0
    · omega
    · exact (Nat.log2_lt z).mpr a
  simp [fdivOk, h0]
  omega
def primeQ (n : Int) : Int := if n % 4 = 0 then 2147483629 else if n % 4 = 1 then 2147483587 else if n % 4 = 2 then 2147483579 else 2147483563
theorem primeQ_pos (n : Int) : 0 < primeQ n ∧ primeQ n ≤ 2147483629 := by
  unfold primeQ
  split
  · decide
  · split
    · decide
    · split <;> decide
theorem prime_ix (n : Int) : atI [D.int 2147483629, .int 2147483587, .int 2147483579, .int 2147483563] (n % 4) = some (.int (primeQ n)) := by
  have a := Int.emod_nonneg n (by decide : (4 : Int) ≠ 0)
  have b := Int.emod_lt_of_pos n (by decide : (0 : Int) < 4)
  unfold primeQ
  obtain h | h | h | h : n % 4 = 0 ∨ n % 4 = 1 ∨ n % 4 = 2 ∨ n % 4 = 3 := by omega
  · rw [h]; simp
  · rw [h]; simp
  · rw [h]; simp
  · rw [h]; simp
def mixQ (b c : Int) : Int :=
  let p := primeQ c
  let f := (b + 6007 * c + 29) ^ 3 % p
  let f := (f + c) * (f / 1021 + 50021) % p
  f * (f / 887 + 31 * c + 3) % p
/-- a source: what is left of the number, what is mixed, how often -/
abbrev Src3 := Int × Int × Int
def srcO (s : Src3) : MO := .lst [.int s.1, .int s.2.1, .int s.2.2]
@[simp] theorem srcO_bl (m : Nat) (s : Src3) : belowO m (srcO s) = true := rfl
def tk (s : Src3) (n : Int) : Int := if 0 < s.1 then s.1 % n else mixQ s.2.1 (s.2.2 + 1) / 13 % n
def tn (s : Src3) (n : Int) : Src3 := if 0 < s.1 then (s.1 / n, s.2.1, s.2.2) else (s.1, s.2.1, s.2.2 + 1)
/-- a source from which so many draws at most have been made -/
structure Sk (m : Nat) (s : Src3) : Prop where
  a : 0 ≤ s.2.1
  b : s.2.1 < 2147483647
  c : 0 ≤ s.2.2
  d : s.2.2 ≤ m
theorem Sk.step {m : Nat} {s : Src3} (h : Sk m s) (n : Int) : Sk (m + 1) (tn s n) := by
  obtain ⟨a, b, c, d⟩ := h
  unfold tn
  split
  · exact ⟨a, b, c, by simp only; omega⟩
  · exact ⟨a, b, by simp only; omega, by simp only; omega⟩
theorem Sk.mono {m k : Nat} {s : Src3} (h : Sk m s) (e : m ≤ k) : Sk k s := ⟨h.a, h.b, h.c, by have := h.d; omega⟩
theorem m_take {m : Nat} {s : Src3} (hs : Sk m s) (hm : m ≤ 1000000) {n : Int} (h0 : 0 < n) (dn : ∀ i, fdivOk i n = true) : F_law_take [.ref 0, .int n] [srcO s] = .ok (.int (tk s n)) [srcO (tn s n)] := by
  obtain ⟨p0, p1⟩ := primeQ_pos (s.2.2 + 1)
  obtain ⟨a, b, c, d⟩ := hs
  have d1 : ∀ x : Int, fdivOk x 1021 = true := fun x => fd_small (by decide) (by decide)
  have d2 : ∀ x : Int, fdivOk x 887 = true := fun x => fd_small (by decide) (by decide)
  have d3 : ∀ x : Int, fdivOk x 13 = true := fun x => fd_small (by decide) (by decide)
  have r1 : ∀ x : Int, mulOk 6007 x = true := fun x => mulOk_l x (by decide) (by decide)
  have r2 : ∀ x : Int, mulOk 31 x = true := fun x => mulOk_l x (by decide) (by decide)
  have r3 : ∀ x y : Int, mulOk (x % primeQ (s.2.2 + 1)) y = true := fun x y => mulOk_m x y p0 (by omega)
  have r4 : ∀ x : Int, mulOk (x % primeQ (s.2.2 + 1) + (s.2.2 + 1)) (x % primeQ (s.2.2 + 1) / 1021 + 50021) = true := fun x => by
    have q1 := Int.emod_nonneg x (by omega : primeQ (s.2.2 + 1) ≠ 0)
    have q2 := Int.emod_lt_of_pos x p0
    exact mulOk_l _ (by omega) (by omega)
  have pw : powOk (s.2.1 + 6007 * (s.2.2 + 1) + 29) 3 = true := by
    simp only [powOk, Bool.and_eq_true, decide_eq_true_eq]
    omega
  have ix := prime_ix (s.2.2 + 1)
  have t3 : (3 : Int).toNat = 3 := rfl
  simp only [tk, tn, mixQ]
  by_cases q : 0 < s.1
  · simp [F_law_take, b_law_take, runF, srcO, listD, setR, ixN, dn, h0, q]
  · simp [F_law_take, b_law_take, runF, srcO, listD, setR, ixN, dn, h0, q, e_mul, d1, d2, d3, r1, r2, r3, r4, pw, ix, p0, t3]
theorem tk_lo (s : Src3) {n : Int} (h : 0 < n) : 0 ≤ tk s n := by
  unfold tk
  split <;> exact Int.emod_nonneg _ (by omega)
theorem tk_hi (s : Src3) {n : Int} (h : 0 < n) : tk s n < n := by
  unfold tk
  split <;> exact Int.emod_lt_of_pos _ h
theorem t_0 {m : Nat} {s : Src3} (hs : Sk m s) (hm : m ≤ 1000000) (n : Int) (R : List MO) (h0 : 0 < n) (h : n < 4611686018427387904) : callF F_law_take [.ref 0, .int n] (srcO s :: R) = .ok (.int (tk s n)) (srcO (tn s n) :: R) := by
  have e : lentOk [srcO s] = true := rfl
  have e2 : ∀ t : Src3, belowO 0 (srcO t) = true := fun t => rfl
  have d : ∀ i, fdivOk i n = true := fun i => fd_small h0 (by omega)
  simp [callF, lendK, getAll, flatArgs, below, e, e2, lendA, m_take hs hm h0 d, backD, setAll]
def src0 (v : Int) : Src3 := (v * (if 1000000000000000000 ≤ v then 1 else 0), v % 2147483647, 0)
theorem src0_ok (v : Int) : Sk 0 (src0 v) := ⟨Int.emod_nonneg _ (by decide), Int.emod_lt_of_pos _ (by decide), Int.le_refl _, Int.le_refl _⟩
theorem m_source (v : Int) : F_law_source [.int v] [] = .ok (.ref 0) [srcO (src0 v)] := by
  have p : powOk 10 18 = true := by decide
  have e : (10 : Int) ^ (18 : Int).toNat = 1000000000000000000 := rfl
  have m0 : mulOk v 0 = true := mulOk_r v (by decide) (by decide)
  have m1 : mulOk v 1 = true := mulOk_r v (by decide) (by decide)
  unfold src0
  by_cases q : (1000000000000000000 : Int) ≤ v
  · simp [F_law_source, b_law_source, runF, p, e, q, e_mul, m1, srcO]
  · simp [F_law_source, b_law_source, runF, p, e, q, e_mul, m0, srcO]
theorem c_source (v : Int) (M : List MO) : callF F_law_source [.int v] M = .ok (.ref M.length) (M ++ [srcO (src0 v)]) := by
  simp [callF, lendK, getAll, flatArgs, below, lentOk, lendA, m_source, backD, setAll, srcO, belowO, belows]
end My

set_option Elab.async false
set_option linter.all false
set_option maxRecDepth 100000
set_option maxHeartbeats 4000000
namespace My
open PySem PySem.Spec PyProof.Rows L2 Bk
/-! ### numbers -/
theorem m_isint (i : Int) : F_is_integer [.int i] [] = .ok (.bl true) [] := by
  simp [F_is_integer, b_is_integer, runF]
theorem m_atleast (i lo : Int) : F_is_at_least [.int i, .int lo] [] = .ok (.bl (decide (lo ≤ i))) [] := by
  have c := fun M => c_flat (m_isint i) M (by simp) (by simp)
  simp [F_is_at_least, b_is_at_least, runF, c]
theorem m_between (i lo hi : Int) : F_is_between [.int i, .int lo, .int hi] [] = .ok (.bl (decide (lo ≤ i ∧ i ≤ hi))) [] := by
  have c := fun M => c_flat (m_isint i) M (by simp) (by simp)
  by_cases h : lo ≤ i
  · by_cases h' : i ≤ hi <;> simp [F_is_between, b_is_between, runF, c, h, h']
  · simp [F_is_between, b_is_between, runF, c, h]
theorem c_between (i lo hi : Int) (M : List MO) : callF F_is_between [.int i, .int lo, .int hi] M = .ok (.bl (decide (lo ≤ i ∧ i ≤ hi))) M := c_flat (m_between i lo hi) M (by simp) (by simp)
theorem c_atleast (i lo : Int) (M : List MO) : callF F_is_at_least [.int i, .int lo] M = .ok (.bl (decide (lo ≤ i))) M := c_flat (m_atleast i lo) M (by simp) (by simp)
end My

set_option Elab.async false
set_option linter.all false
set_option maxRecDepth 100000
set_option maxHeartbeats 4000000
namespace My
open PySem PySem.Spec PyProof.Rows L2 Bk
theorem backD_any {ks : List Nat} {n : Nat} {d : D} (h : below 0 d = true) : backD ks n d = some d := by
  cases d with
  | ref k => simp [below] at h
  | _ => simp [backD, h]
theorem c_lend1 {F : List D → List MO → Bk.R D} {ds : List D} {d : D} {o o' : MO} {k : Nat} {M : List MO} (h : F (.ref 0 :: ds) [o] = .ok d [o']) (hk : M[k]? = some o) (ho : isDead o = false) (hb : belowO 0 o = true) (hb' : belowO 0 o' = true) (ha : belows 0 ds = true) (hd : below 0 d = true) : callF F (.ref k :: ds) M = .ok d (M.set k o') := by
  have l1 := lendK_nil ha
  have l2 : lendA 1 ds = ds := lendA_nil ha
  have l3 := flatArgs_of ha
  simp [callF, lendK, l1, l2, l3, getAll, hk, flatArgs, lentOk, ho, hb, lendA, h, hb', backD_any hd, setAll]
theorem inR_i {i : Int} (h0 : 0 ≤ i) (h : i ≤ 100000) : Bk.inR i = true := inR_of (by omega) (by omega)
theorem big_i {i : Int} (h0 : 0 ≤ i) (h : i ≤ 100000) : -9223372036854775808 ≤ i ∧ i < 9223372036854775808 := ⟨by omega, by omega⟩
theorem cutD_from {ds : List D} {n : Nat} : Bk.cutD ds (some (n : Int)) none = ds.drop n := by
  unfold Bk.cutD
  rw [HT.sIx_none, HT.sIx_nat]
  by_cases h : n ≤ ds.length
  · rw [Nat.min_eq_left h, List.take_of_length_le (by simp)]
  · rw [Nat.min_eq_right (by omega), List.drop_eq_nil_of_le (by omega), List.drop_eq_nil_of_le (by omega)]
    simp
theorem intR_up : ∀ (n : Nat) (lo : Int), intR (lo + 1) n = (intR lo n).map (· + 1)
  | 0, _ => rfl
  | n + 1, lo => by simp [intR, intR_up n]
theorem intR_sorted : ∀ (n : Nat) (lo : Int), (intR lo n).Pairwise (· < ·)
  | 0, _ => .nil
  | n + 1, lo => List.pairwise_cons.mpr ⟨fun y hy => by have := mem_intR.mp hy; omega, intR_sorted n _⟩
theorem zip_take_long {α β : Type} : ∀ (a : List α) (b : List β) (k : Nat), b.length ≤ k → (a.take k).zip b = a.zip b
  | [], _, _, _ => by simp
  | _ :: _, [], _, _ => by simp
  | x :: a, y :: b, 0, h => by simp at h
  | x :: a, y :: b, k + 1, h => by simp [zip_take_long a b k (by simpa using h)]
theorem zip_take_in {α β : Type} : ∀ (a : List α) (b e : List β) (k : Nat), k ≤ b.length → (a.take k).zip (b ++ e) = (a.take k).zip b
  | _, _, _, 0, _ => by simp
  | [], _, _, _ + 1, _ => by simp
  | _ :: _, [], _, k + 1, h => by simp at h
  | x :: a, y :: b, e, k + 1, h => by simp [zip_take_in a b e k (by simpa using h)]
/-! ### one number more -/
theorem zip_snoc {α β : Type} : ∀ (a : List α) (b : List β) (k : β) (p : α), a[b.length]? = some p → a.zip (b ++ [k]) = a.zip b ++ [(p, k)]
  | [], b, k, p, h => by simp at h
  | x :: a, [], k, p, h => by
    have : x = p := by simpa using h
    subst this
    simp
  | x :: a, y :: b, k, p, h => by
    have := zip_snoc a b k p (by simpa using h)
    simp [this]
theorem take_zip1 {α β : Type} : ∀ (a : List α) (b : List β) (k : Nat), (a.zip b).take k = (a.take k).zip b
  | [], _, _ => by simp
  | _ :: _, [], _ => by simp
  | _ :: _, _ :: _, 0 => by simp
  | x :: a, y :: b, k + 1 => by simp [take_zip1 a b k]
theorem minI_le : ∀ {is : List Int}, is ≠ [] → minI is ∈ is ∧ ∀ y ∈ is, minI is ≤ y
  | [], h => absurd rfl h
  | [i], _ => ⟨by simp [minI], fun y hy => by
      have e : y = i := by simpa using hy
      rw [e]
      exact Int.le_refl i⟩
  | i :: j :: r, _ => by
    obtain ⟨h1, h2⟩ := minI_le (is := j :: r) (by simp)
    have e : minI (i :: j :: r) = if i ≤ minI (j :: r) then i else minI (j :: r) := rfl
    rw [e]
    split
    · rename_i q
      refine ⟨by simp, fun y hy => ?_⟩
      rcases List.mem_cons.mp hy with z | z
      · omega
      · have := h2 y z
        omega
    · rename_i q
      refine ⟨List.mem_cons_of_mem _ h1, fun y hy => ?_⟩
      rcases List.mem_cons.mp hy with z | z
      · omega
      · exact h2 y z
theorem ints_bl (f : Int → Int) (l : List Int) : belows 0 (l.map fun d => D.int (f d)) = true := by
  have := belows_ints 0 (l.map f)
  rw [List.map_map] at this
  exact this
end My

set_option Elab.async false
set_option linter.all false
set_option maxRecDepth 100000
set_option maxHeartbeats 4000000
namespace My
open PySem PySem.Spec PyProof.Rows L2 Bk
/-! ### queues: what waits -/
abbrev Que := List (Int × Int)
/-- an entry: owned, mended -/
structure OkN (p : Int × Int) : Prop where
  a : 0 ≤ p.1
  b : p.1 ≤ 12
  c : 0 ≤ p.2
  d : p.2 ≤ 12
structure OkQ (c : Que) : Prop where
  l : c.length ≤ 100
  v : ∀ p ∈ c, OkN p
def nth (ns : List Int) (i : Nat) : Int := ns.getD i 0
def max0 (x : Int) : Int := if 0 < x then x else 0
theorem max0_pos (x : Int) : 0 ≤ max0 x := by unfold max0; split <;> omega
/-- what waits in the mornings behind each day -/
def wl (ns : List Int) : Nat → Int → Que → List Int
  | _, _, [] => []
  | i, w, p :: r => max0 (w + nth ns i - p.2) :: wl ns (i + 1) (max0 (w + nth ns i - p.2)) r
def wend (ns : List Int) : Nat → Int → Que → Int
  | _, w, [] => w
  | i, w, p :: r => wend ns (i + 1) (max0 (w + nth ns i - p.2)) r
/-- the first day with too many -/
def qo (ns : List Int) : Nat → Int → Que → Option Int
  | _, _, [] => none
  | i, w, p :: r => if p.1 < w + nth ns i then some ((i : Int) + 1) else qo ns (i + 1) (max0 (w + nth ns i - p.2)) r
theorem wl_length (ns : List Int) : ∀ (r : Que) (i : Nat) (w : Int), (wl ns i w r).length = r.length
  | [], _, _ => rfl
  | p :: r, i, w => by simp [wl, wl_length ns r]
/-- what waits in the morning of each day -/
theorem wl_get (ns : List Int) : ∀ (r : Que) (i k : Nat) (w : Int), k ≤ r.length → (w :: wl ns i w r)[k]? = some (wend ns i w (r.take k))
  | r, i, 0, w, _ => by simp [wend]
  | [], i, k + 1, w, h => by simp at h
  | p :: r, i, k + 1, w, h => by
    have := wl_get ns r (i + 1) k (max0 (w + nth ns i - p.2)) (by simpa using h)
    simp only [List.getElem?_cons_succ, List.take_succ_cons, wend, wl]
    exact this
theorem qo_app (ns : List Int) : ∀ (a b : Que) (i : Nat) (w : Int), qo ns i w (a ++ b) = none ↔ qo ns i w a = none ∧ qo ns (i + a.length) (wend ns i w a) b = none
  | [], b, i, w => by simp [qo, wend]
  | p :: a, b, i, w => by
    rw [List.cons_append, qo, qo, wend]
    by_cases h : p.1 < w + nth ns i
    · rw [if_pos h, if_pos h]
      simp
    · rw [if_neg h, if_neg h, qo_app ns a b (i + 1)]
      have e : i + 1 + a.length = i + (p :: a).length := by simp; omega
      rw [e]
theorem qo_congr {ns ms : List Int} : ∀ (r : Que) (i : Nat) (w : Int), (∀ j, i ≤ j → j < i + r.length → nth ns j = nth ms j) → qo ns i w r = qo ms i w r ∧ wend ns i w r = wend ms i w r
  | [], _, _, _ => ⟨rfl, rfl⟩
  | p :: r, i, w, h => by
    have h0 := h i (Nat.le_refl _) (by simp)
    obtain ⟨a, b⟩ := qo_congr (ns := ns) (ms := ms) r (i + 1) (max0 (w + nth ns i - p.2)) fun j h1 h2 => h j (by omega) (by simp only [List.length_cons]; omega)
    simp only [qo, wend, h0]
    rw [h0] at a b
    exact ⟨by rw [a], b⟩
theorem nth_in {ns es : List Int} {j : Nat} (h : j < ns.length) : nth (ns ++ es) j = nth ns j := by
  unfold nth
  rw [List.getD_eq_getElem?_getD, List.getD_eq_getElem?_getD, List.getElem?_append_left h]
theorem nth_end {ns : List Int} {k : Int} : nth (ns ++ [k]) ns.length = k := by
  unfold nth
  rw [List.getD_eq_getElem?_getD]
  simp
theorem nth_off {ns : List Int} {j : Nat} (h : ns.length ≤ j) : nth ns j = 0 := by
  unfold nth
  rw [List.getD_eq_getElem?_getD, List.getElem?_eq_none h]
  rfl
theorem nth_pos {ns : List Int} (h : ∀ n ∈ ns, 0 ≤ n) (j : Nat) : 0 ≤ nth ns j := by
  unfold nth
  rw [List.getD_eq_getElem?_getD]
  cases hx : ns[j]? with
  | none => exact Int.le_refl _
  | some y => exact h y (List.mem_of_getElem? hx)
/-- the most that may wait or break on the first of these days -/
def top : Que → Int
  | [] => 12
  | p :: r => if top r + p.2 < p.1 then top r + p.2 else p.1
theorem top_in : ∀ {r : Que}, (∀ p ∈ r, OkN p) → 0 ≤ top r ∧ top r ≤ 12
  | [], _ => by simp [top]
  | p :: r, h => by
    have a := top_in (r := r) fun x hx => h x (by simp [hx])
    have b := h p (by simp)
    have b1 := b.a
    have b2 := b.b
    have b3 := b.c
    unfold top
    split <;> omega
/-- with nothing more, all goes well if at most top wait -/
theorem qo_zero {ns : List Int} : ∀ {r : Que} {i : Nat} {w : Int}, (∀ p ∈ r, OkN p) → ns.length ≤ i → 0 ≤ w → (qo ns i w r = none ↔ r = [] ∨ w ≤ top r)
  | [], i, w, _, _, _ => by simp [qo]
  | p :: r, i, w, h, hi, hw => by
    have b := h p (by simp)
    have b1 := b.a
    have b2 := b.b
    have b3 := b.c
    have hr : ∀ x ∈ r, OkN x := fun x hx => h x (by simp [hx])
    have t := top_in hr
    have z := nth_off hi
    have ih := qo_zero (ns := ns) (r := r) (i := i + 1) (w := max0 (w + nth ns i - p.2)) hr (by omega) (max0_pos _)
    rw [qo]
    have e : top (p :: r) = if top r + p.2 < p.1 then top r + p.2 else p.1 := rfl
    rw [e]
    by_cases g : p.1 < w + nth ns i
    · rw [if_pos g]
      constructor
      · intro q; cases q
      · intro q
        rcases q with q | q
        · cases q
        · split at q <;> omega
    · rw [if_neg g, ih]
      have m : max0 (w + nth ns i - p.2) ≤ top r ↔ w - p.2 ≤ top r := by
        unfold max0
        split <;> omega
      rw [m]
      constructor
      · intro q
        right
        rcases q with q | q
        · subst q
          have e0 : top ([] : Que) = 12 := rfl
          split <;> omega
        · split <;> omega
      · intro q
        rcases q with q | q
        · cases q
        · right
          split at q <;> omega
/-- numbers that may have been -/
structure OkR (c : Que) (ns : List Int) : Prop where
  l : ns.length ≤ c.length
  p : ∀ n ∈ ns, 0 ≤ n
  f : qo ns 0 0 c = none
/-- what waits behind a past -/
def wt (c : Que) (ns : List Int) : Int := wend ns 0 0 (c.take ns.length)
theorem wend_pos (ns : List Int) : ∀ (r : Que) (i : Nat) (w : Int), 0 ≤ w → 0 ≤ wend ns i w r
  | [], _, _, h => h
  | p :: r, i, w, h => wend_pos ns r _ _ (max0_pos _)
theorem wt_pos (c : Que) (ns : List Int) : 0 ≤ wt c ns := wend_pos _ _ _ _ (Int.le_refl _)
/-- how many may follow -/
def gnq (c : Que) (ns : List Int) : Int := top (c.drop ns.length) - wt c ns
theorem qo_snoc {c : Que} {ns : List Int} (hc : OkQ c) (h : OkR c ns) (hl : ns.length < c.length) {k : Int} (h0 : 0 ≤ k) : qo (ns ++ [k]) 0 0 c = none ↔ k ≤ gnq c ns := by
  have hn := h.f
  have q1 : ∀ m : List Int, qo m 0 0 c = qo m 0 0 (c.take ns.length ++ c.drop ns.length) := fun m => by rw [List.take_append_drop]
  rw [q1] at hn ⊢
  rw [qo_app] at hn ⊢
  have tl : (c.take ns.length).length = ns.length := by rw [List.length_take]; omega
  obtain ⟨e1, e2⟩ := qo_congr (ns := ns ++ [k]) (ms := ns) (c.take ns.length) 0 0 fun j _ hj => nth_in (by omega)
  rw [e1, e2, tl, Nat.zero_add]
  obtain ⟨p, r, hd⟩ : ∃ p r, c.drop ns.length = p :: r := ⟨c[ns.length], c.drop (ns.length + 1), List.drop_eq_getElem_cons hl⟩
  have vp : OkN p := hc.v p (List.mem_of_mem_drop (by rw [hd]; simp))
  have vr : ∀ x ∈ r, OkN x := fun x hx => hc.v x (List.mem_of_mem_drop (i := ns.length) (by rw [hd]; simp [hx]))
  have w0 := wt_pos c ns
  have wd : wend ns 0 0 (c.take ns.length) = wt c ns := rfl
  have gd : gnq c ns = top (p :: r) - wt c ns := by unfold gnq; rw [hd]
  have t := top_in vr
  rw [wd, hd, gd, qo, nth_end]
  have et : top (p :: r) = if top r + p.2 < p.1 then top r + p.2 else p.1 := rfl
  rw [et]
  have b1 := vp.a
  have b2 := vp.b
  have b3 := vp.c
  by_cases g : p.1 < wt c ns + k
  · rw [if_pos g]
    constructor
    · intro q; cases q.2
    · intro q; split at q <;> omega
  · rw [if_neg g, qo_zero (r := r) vr (by simp) (max0_pos _)]
    have m : max0 (wt c ns + k - p.2) ≤ top r ↔ wt c ns + k - p.2 ≤ top r := by
      unfold max0
      split <;> omega
    rw [m]
    constructor
    · rintro ⟨_, q⟩
      rcases q with q | q
      · subst q
        have e0 : top ([] : Que) = 12 := rfl
        split <;> omega
      · split <;> omega
    · intro q
      refine ⟨hn.1, .inr ?_⟩
      split at q <;> omega
theorem gnq_pos {c : Que} {ns : List Int} (hc : OkQ c) (h : OkR c ns) (hl : ns.length < c.length) : 0 ≤ gnq c ns := by
  refine (qo_snoc hc h hl (Int.le_refl 0)).mp ?_
  have : ∀ j, nth (ns ++ [0]) j = nth ns j := fun j => by
    by_cases q : j < ns.length
    · exact nth_in q
    · by_cases e : j = ns.length
      · rw [e, nth_end, nth_off (Nat.le_refl _)]
      · rw [nth_off (by simp; omega), nth_off (by omega)]
  rw [(qo_congr (ns := ns ++ [0]) (ms := ns) c 0 0 fun j _ _ => this j).1]
  exact h.f
theorem gnq_le {c : Que} {ns : List Int} (hc : OkQ c) : gnq c ns ≤ 12 := by
  have a := wt_pos c ns
  have b := top_in (r := c.drop ns.length) fun x hx => hc.v x (List.mem_of_mem_drop hx)
  unfold gnq
  omega
theorem OkR.snoc {c : Que} {ns : List Int} (hc : OkQ c) (h : OkR c ns) (hl : ns.length < c.length) {k : Int} (h0 : 0 ≤ k) (hk : k ≤ gnq c ns) : OkR c (ns ++ [k]) :=
  ⟨by simp; omega, fun n hn => by
    rcases List.mem_append.mp hn with w | w
    · exact h.p n w
    · have e : n = k := by simpa using w
      rw [e]
      exact h0, (qo_snoc hc h hl h0).mpr hk⟩
end My

set_option Elab.async false
set_option linter.all false
set_option maxRecDepth 100000
set_option maxHeartbeats 4000000
namespace My
open PySem PySem.Spec PyProof.Rows L2 Bk
def optD : Option Int → D
  | none => .non
  | some r => .int r
@[simp] theorem optD_below (m : Nat) (o : Option Int) : below m (optD o) = true := by cases o <;> rfl
def optP : Option Int → PyData
  | none => .none
  | some r => .int r
theorem optD_dt (n : Nat) (o : Option Int) : Dt n (optD o) (optP o) := by
  cases o
  · exact .non n
  · exact .int n _
theorem optD_eqP (M : List MO) (a b : Option Int) : eqP M (optD a) (optD b) = some (decide (a = b)) := by
  rw [eqP_of (optD_dt 0 a) (optD_dt 0 b) (optD_dt 0 a).deref (optD_dt 0 b).deref (by decide) (by decide)]
  congr 1
  cases a with
  | none => cases b <;> simp [optP, PyData.eqv]
  | some a => cases b <;> simp [optP, PyData.eqv, Bool.beq_eq_decide_eq]
theorem optD_eq (M : List MO) (a b : Option Int) : dEqA M (optD a) (optD b) = some (.bl (decide (a = b))) := dEqA_p (optD_eqP M a b) (fun _ h => by cases a <;> cases h)
theorem optD_ne (M : List MO) (a b : Option Int) : dNeA M (optD a) (optD b) = some (.bl !(decide (a = b))) := dNeA_p (optD_eqP M a b) (fun _ h => by cases a <;> cases h)
theorem isN_opt (M : List MO) (o : Option Int) : dIsN M (optD o) .non = some (.bl (decide (o = none))) := by
  cases o with
  | none => simp [optD]
  | some i => simp [optD]
theorem notN_opt (M : List MO) (o : Option Int) : dNotN M (optD o) .non = some (.bl !(decide (o = none))) := by
  cases o with
  | none => simp [optD]
  | some i => simp [optD]
/-! ### queues -/
def entQ (p : Int × Int) : D := .tup [.int p.1, .int p.2]
def queD (t : Bool) (c : Que) : D := if t = true then .tup (c.map entQ) else .lst (c.map entQ)
def entQP (p : Int × Int) : PyData := .tuple [.int p.1, .int p.2]
theorem entQ_dt (n : Nat) (p : Int × Int) : Dt (n + 1) (entQ p) (entQP p) := Dts.tup (.cons (.int n p.1) (.cons (.int n _) (.nil n)))
theorem entsQ_dt (n : Nat) (c : Que) : Dts (n + 1) (c.map entQ) (c.map entQP) := .map _ fun p _ => entQ_dt n p
@[simp] theorem entsQ_below (m : Nat) (c : Que) : belows m (c.map entQ) = true := (entsQ_dt 0 c).belows
@[simp] theorem queD_below (m : Nat) (t : Bool) (c : Que) : below m (queD t c) = true := by cases t <;> simp [queD]
@[simp] theorem queD_items (M : List MO) (t : Bool) (c : Que) : itemsD M (queD t c) = some (c.map entQ) := by cases t <;> rfl
@[simp] theorem queD_seq (t : Bool) (c : Que) : seqD (queD t c) = some (c.map entQ) := by cases t <;> rfl
@[simp] theorem queD_len (M : List MO) (t : Bool) (c : Que) : dLen M (queD t c) = some (.int c.length) := by cases t <;> simp [queD]
@[simp] theorem queD_isi (M : List MO) (t : Bool) (c : Que) : dIsiT ["list", "tuple"] M (queD t c) = some (.bl true) := by cases t <;> rfl
theorem m_nums (ns : List Int) (hl : ns.length ≤ 1000) (h : ∀ n ∈ ns, 0 ≤ n) : F_are_numbers [.tup (ns.map D.int)] [] = .ok (.bl true) [] := by
  have key := lcL_map (gg := gTo 1) (ge := le_are_numbers_1) (Γ := [some (.tup (ns.map D.int)), none]) (M := []) (f := fun _ => .bl true) (ns.map D.int) [] (by rw [List.length_map]; exact Nat.le_trans (by simpa using hl) (by decide)) fun d hd => by
    obtain ⟨i, hi, rfl⟩ := List.mem_map.mp hd
    exact ⟨_, rfl, by simp [le_are_numbers_1, c_atleast, h i hi]⟩
  have e : (ns.map D.int).map (fun _ => D.bl true) = (ns.map fun _ => true).map D.bl := by simp
  have q : ((ns.map fun _ => true).all id) = true := by simp
  rw [e, List.nil_append] at key
  simp [F_are_numbers, b_are_numbers, runF, key, dAll, ofBls, blsD_map, -List.map_map]
theorem m_night {p : Int × Int} (h : OkN p) : F_is_night [entQ p] [] = .ok (.bl true) [] := by
  simp [F_is_night, b_is_night, runF, entQ, c_between, h.a, h.b, h.c, h.d]
theorem m_reqq (t : Bool) {c : Que} (h : OkQ c) : F_require_queue [queD t c] [] = .ok .non [] := by
  have key : ∀ (post : Que) (n : Int), (∀ p ∈ post, OkN p) →
      gForL (gToT (gToCons (gTo 1) (gToCons (gTo 2) (gToNil)))) lb_require_queue_1 (enumL n (post.map entQ)) [some (queD t c), none, none] [] = .nx [some (queD t c), none, none] [] := by
    intro post
    induction post with
    | nil => intro n _; simp [enumL]
    | cons p post ih =>
      intro n hp
      have cd := c_flat (m_night (hp p (by simp))) [] (by simp [(entQ_dt 0 p).below]) (by simp)
      rw [List.map_cons, enumL]
      refine (forL_cons (Γ1 := [some (queD t c), some (.int n), some (entQ p)]) (by simp) ?_).trans (ih (n + 1) fun x hx => hp x (by simp [hx]))
      simp [lb_require_queue_1, cd]
  have k := key c 0 h.v
  have z : ¬ (100 : Int) < c.length := by have := h.l; omega
  simp [F_require_queue, b_require_queue, runF, z, k]
theorem c_reqq (t : Bool) {c : Que} (h : OkQ c) (M : List MO) : callF F_require_queue [queD t c] M = .ok .non M := c_flat (m_reqq t h) M (by simp) (by simp)
theorem atI_last (ds : List D) (d : D) : atI (ds ++ [d]) (-1) = some d := by
  have e : ixN (ds ++ [d]).length (-1) = some ds.length := by
    simp [ixN]
    omega
  unfold atI
  rw [e]
  simp
theorem nth_ix (M : List MO) (ns : List Int) (i : Nat) (h : i < ns.length) : dIx M (.tup (ns.map D.int)) (.int i) = some (.int (nth ns i)) := by
  have e : ns.getD i 0 = ns[i] := by simp [h]
  simp [Bk.atI_nat, h, nth]
theorem m_wm (t : Bool) {c : Que} (ns : List Int) (hl : c.length ≤ 100) : F_waiting_mornings [queD t c, .tup (ns.map D.int)] [] = .ok (.lst ((0 :: wl ns 0 0 c).map D.int)) [] := by
  have sz : 2000 ≤ sizeLine := by rw [sizeLine_eq]; omega
  have key : ∀ (post : Que) (i : Nat) (acc : List Int) (w : Int), acc.length + post.length ≤ 200 →
      gForL (gToT (gToCons (gTo 3) (gToCons (gToT (gToCons (gTo 4) (gToCons (gTo 5) (gToNil)))) (gToNil)))) lb_waiting_mornings_1 (enumL (i : Int) (post.map entQ)) [some (queD t c), some (.tup (ns.map D.int)), some (.ref 0), none, none, none, none] [.lst ((acc ++ [w]).map D.int)]
      = .nx [some (queD t c), some (.tup (ns.map D.int)), some (.ref 0), none, none, none, none] [.lst ((acc ++ w :: wl ns i w post).map D.int)] := by
    intro post
    induction post with
    | nil => intro i acc w _; simp [enumL, wl]
    | cons p post ih =>
      intro i acc w hq
      obtain ⟨o, m⟩ := p
      simp only [List.length_cons] at hq
      have e2 := ih (i + 1) (acc ++ [w]) (max0 (w + nth ns i - m)) (by simp; omega)
      have e3 : ((i + 1 : Nat) : Int) = (i : Int) + 1 := by omega
      rw [e3] at e2
      have q : acc.length + 1 < sizeLine := by omega
      rw [List.map_cons, enumL]
      refine (forL_cons (Γ1 := [some (queD t c), some (.tup (ns.map D.int)), some (.ref 0), some (.int i), some (.int o), some (.int m), none]) (by simp [entQ]) ?_).trans (e2.trans (by simp [wl]))
      have la := atI_last (acc.map D.int) (.int w)
      have lx : ∀ R, dIx (.lst (acc.map D.int ++ [.int w]) :: R) (.ref 0) (.int (-1)) = some (.int w) := fun R => by
        rw [e_ix]
        simp [listD, la]
      by_cases h : i < ns.length
      · have h' : (i : Int) < ns.length := by omega
        have ix := nth_ix [.lst (acc.map D.int ++ [.int w])] ns i h
        simp [-e_ix, lb_waiting_mornings_1, h', ix, lx, listD, mutR, q, max0]
      · have h' : ¬ (i : Int) < ns.length := by omega
        have z : nth ns i = 0 := nth_off (by omega)
        simp [-e_ix, lb_waiting_mornings_1, h', lx, listD, mutR, q, max0, z]
  have k := key c 0 [] 0 (by simp; omega)
  have k0 : gForL _ _ (enumL 0 (c.map entQ)) _ [.lst [.int 0]] = _ := k
  have b := belows_ints 0 (0 :: wl ns 0 0 c)
  simp only [List.nil_append, List.map_cons] at k0 b
  simp [F_waiting_mornings, b_waiting_mornings, runF, k0]
theorem c_wm (t : Bool) {c : Que} (ns : List Int) (hl : c.length ≤ 100) (M : List MO) : callF F_waiting_mornings [queD t c, .tup (ns.map D.int)] M = .ok (.lst ((0 :: wl ns 0 0 c).map D.int)) M := c_flat (m_wm t ns hl) M (by simp) (by simpa using belows_ints 0 (wl ns 0 0 c))
/-- what waits in the mornings of the days -/
def ws (ns : List Int) : Nat → Int → Que → List Int
  | _, _, [] => []
  | i, w, p :: r => w :: ws ns (i + 1) (max0 (w + nth ns i - p.2)) r
theorem ws_end (ns : List Int) : ∀ (r : Que) (i : Nat) (w : Int), w :: wl ns i w r = ws ns i w r ++ [wend ns i w r]
  | [], _, _ => rfl
  | p :: r, i, w => by
    have := ws_end ns r (i + 1) (max0 (w + nth ns i - p.2))
    simp only [wl, ws, wend, List.cons_append]
    rw [this]
theorem cutD_most (ds : List D) (α : D) : Bk.cutD (ds ++ [α]) none (some (-1)) = ds := by
  have e : Bk.cutD (ds ++ [α]) none (some (-1)) = Bk.cutD (ds ++ [α]) none (some (ds.length : Int)) := by
    unfold Bk.cutD
    congr 2
    simp [HT.sIx]
    rw [if_neg (by omega)]
    omega
  rw [e, cutD_upto]
  simp
theorem que_ix (M : List MO) (t : Bool) (c : Que) (i : Nat) (p : Int × Int) (h : c[i]? = some p) : dIx M (queD t c) (.int i) = some (entQ p) := by
  simp [Bk.atI_nat, h]
theorem m_qover (t : Bool) {c : Que} (ns : List Int) (hl : c.length ≤ 100) : F_queue_over [queD t c, .tup (ns.map D.int)] [] = .ok (optD (qo ns 0 0 c)) [] := by
  have key : ∀ (r : Que) (i : Nat) (w : Int), c.drop i = r →
      gForL (gToT (gToCons (gTo 2) (gToCons (gTo 3) (gToNil)))) lb_queue_over_1 (enumL (i : Int) ((ws ns i w r).map D.int)) [some (queD t c), some (.tup (ns.map D.int)), none, none, none] []
      = match qo ns i w r with
        | none => .nx [some (queD t c), some (.tup (ns.map D.int)), none, none, none] []
        | some d => .rt (.int d) [] := by
    intro r
    induction r with
    | nil => intro i w _; simp [enumL, ws, qo]
    | cons p r ih =>
      intro i w h
      have li : i < c.length := by
        rcases Nat.lt_or_ge i c.length with z | z
        · exact z
        · rw [List.drop_eq_nil_of_le z] at h; cases h
      have h' := h
      rw [List.drop_eq_getElem_cons li] at h'
      simp only [List.cons.injEq] at h'
      have e2 := ih (i + 1) (max0 (w + nth ns i - p.2)) h'.2
      have e3 : ((i + 1 : Nat) : Int) = (i : Int) + 1 := by omega
      rw [e3] at e2
      have ix := que_ix [] t c i p (by rw [List.getElem?_eq_getElem li, h'.1])
      have ix0 : ∀ (a b : D), dIx [] (.tup [a, b]) (.int 0) = some a := fun _ _ => rfl
      obtain ⟨o, m⟩ := p
      rw [ws, List.map_cons, enumL, qo]
      by_cases g : i < ns.length
      · have g' : (i : Int) < ns.length := by omega
        have nx := nth_ix [] ns i g
        by_cases z : o < w + nth ns i
        · simp [-e_ix, lb_queue_over_1, g', nx, ix, ix0, entQ, z]
        · simp [-e_ix, lb_queue_over_1, g', nx, ix, ix0, entQ, z]
          simpa [lb_queue_over_1] using e2
      · have g' : ¬ (i : Int) < ns.length := by omega
        have nz : nth ns i = 0 := nth_off (by omega)
        by_cases z : o < w + nth ns i
        · simp only [nz, Int.add_zero] at z
          simp [-e_ix, lb_queue_over_1, g', ix, ix0, entQ, z, nz]
        · have z' := z
          simp only [nz, Int.add_zero] at z'
          simp [-e_ix, lb_queue_over_1, g', ix, ix0, entQ, z', nz]
          rw [nz] at e2
          simpa [lb_queue_over_1] using e2
  have k := key c 0 0 rfl
  have cw := c_wm t ns hl []
  have wsE := ws_end ns c 0 0
  have cut : ∀ M, dCut M none (some (-1)) (.lst ((0 :: wl ns 0 0 c).map D.int)) = some (.lst ((ws ns 0 0 c).map D.int)) := fun M => by
    rw [wsE, List.map_append, List.map_cons, List.map_nil]
    simp only [dCut, listD, Option.map_some, cutD_most]
  have k0 : gForL (gToT (gToCons (gTo 2) (gToCons (gTo 3) (gToNil)))) lb_queue_over_1 (enumL 0 ((ws ns 0 0 c).map D.int)) [some (queD t c), some (.tup (ns.map D.int)), none, none, none] [] = _ := k
  simp only [List.map_cons] at cw cut
  cases e : qo ns 0 0 c with
  | none =>
    rw [e] at k0
    simp [F_queue_over, b_queue_over, runF, cw, cut, k0, optD]
  | some d =>
    rw [e] at k0
    simp [F_queue_over, b_queue_over, runF, cw, cut, k0, optD]
theorem c_qover (t : Bool) {c : Que} (ns : List Int) (hl : c.length ≤ 100) (M : List MO) : callF F_queue_over [queD t c, .tup (ns.map D.int)] M = .ok (optD (qo ns 0 0 c)) M := c_flat (m_qover t ns hl) M (by simp) (by simp)
theorem m_reqp (t : Bool) {c : Que} {ns : List Int} (hc : OkQ c) (h : OkR c ns) : F_require_queue_past [queD t c, .tup (ns.map D.int)] [] = .ok .non [] := by
  have c1 := c_flat (m_nums ns (by have := h.l; have := hc.l; omega) h.p) [] (by simp) (by simp)
  have z : ¬ (c.length : Int) < ns.length := by have := h.l; omega
  simp [F_require_queue_past, b_require_queue_past, runF, c1, z, c_qover t ns hc.l, h.f, optD]
theorem c_reqp (t : Bool) {c : Que} {ns : List Int} (hc : OkQ c) (h : OkR c ns) (M : List MO) : callF F_require_queue_past [queD t c, .tup (ns.map D.int)] M = .ok .non M := c_flat (m_reqp t hc h) M (by simp) (by simp)
end My

set_option Elab.async false
set_option linter.all false
set_option maxRecDepth 100000
set_option maxHeartbeats 4000000
namespace My
open PySem PySem.Spec PyProof.Rows L2 Bk
theorem m_reqrowQ (t : Bool) (c : Que) (ns : List Int) (hl : ns.length = c.length) (h : ∀ n ∈ ns, 0 ≤ n) : F_require_row [queD t c, .tup (ns.map D.int)] [] = .ok .non [] := by
  have key : ∀ (post : List Int) (n : Int), (∀ i ∈ post, 0 ≤ i) →
      gForL (gToT (gToCons (gTo 2) (gToCons (gTo 3) (gToNil)))) lb_require_row_1 (enumL n (post.map D.int)) [some (queD t c), some (.tup (ns.map D.int)), none, none] [] = .nx [some (queD t c), some (.tup (ns.map D.int)), none, none] [] := by
    intro post
    induction post with
    | nil => intro n _; simp [enumL]
    | cons p post ih =>
      intro n h
      have h0 := h p (by simp)
      rw [List.map_cons, enumL]
      refine (forL_cons (Γ1 := [some (queD t c), some (.tup (ns.map D.int)), some (.int n), some (.int p)]) (by simp) ?_).trans (ih (n + 1) fun i hi => h i (by simp [hi]))
      simp [lb_require_row_1, c_atleast, h0]
  have k0 := key ns 0 h
  have al : ((ns.length : Int) = c.length) = True := eq_true (by omega)
  simp [F_require_row, b_require_row, runF, al, k0]
theorem m_qfault (t : Bool) {c : Que} {ns : List Int} (hc : OkQ c) (hl : ns.length = c.length) (h : ∀ n ∈ ns, 0 ≤ n) : F_queue_fault [queD t c, .tup (ns.map D.int)] [] = .ok (optD (qo ns 0 0 c)) [] := by
  have c1 := c_flat (m_reqrowQ t c ns hl h) [] (by simp) (by simp)
  simp [F_queue_fault, b_queue_fault, runF, c_reqq t hc, c1, c_qover t ns hc.l]
  cases qo ns 0 0 c <;> simp [optD]
theorem c_qfault (t : Bool) {c : Que} {ns : List Int} (hc : OkQ c) (hl : ns.length = c.length) (h : ∀ n ∈ ns, 0 ≤ n) (M : List MO) : callF F_queue_fault [queD t c, .tup (ns.map D.int)] M = .ok (optD (qo ns 0 0 c)) M := c_flat (m_qfault t hc hl h) M (by simp) (by simp)
end My

set_option Elab.async false
set_option linter.all false
set_option maxRecDepth 100000
set_option maxHeartbeats 4000000
namespace My
open PySem PySem.Spec PyProof.Rows L2 Bk
/-! ### the numbers of ways of a queue -/
def topsUp : Que → List Int
  | [] => [12]
  | p :: r => topsUp r ++ [top (p :: r)]
def topsDn : Que → List Int
  | [] => [12]
  | p :: r => top (p :: r) :: topsDn r
theorem tops_rev : ∀ c : Que, (topsUp c).reverse = topsDn c
  | [] => rfl
  | p :: r => by simp [topsUp, topsDn, tops_rev r]
theorem topsUp_last : ∀ c : Que, ∃ l, topsUp c = l ++ [top c]
  | [] => ⟨[], rfl⟩
  | p :: r => ⟨topsUp r, rfl⟩
theorem topsUp_length : ∀ c : Que, (topsUp c).length = c.length + 1
  | [] => rfl
  | p :: r => by simp [topsUp, topsUp_length r]
theorem topsDn_get : ∀ (c : Que) (k : Nat), k ≤ c.length → (topsDn c)[k]? = some (top (c.drop k))
  | [], 0, _ => rfl
  | [], k + 1, h => by simp at h
  | p :: r, 0, _ => rfl
  | p :: r, k + 1, h => by
    have := topsDn_get r k (by simpa using h)
    simpa [topsDn] using this
theorem topsDn_length : ∀ c : Que, (topsDn c).length = c.length + 1
  | [] => rfl
  | p :: r => by simp [topsDn, topsDn_length r]
def nextsOf (ws : List Int) (m tp : Int) : List Int := (intR 0 (tp + 1).toNat).map fun b => ws.getD (max0 (b - m)).toNat 0
def sumsOf (nx : List Int) (tp : Int) : List Int := (intR 0 (tp + 1).toNat).map fun w => (nx.drop w.toNat).sum
/-- how many ways to go on, by what waits -/
def ways : Que → List Int
  | [] => List.replicate 13 1
  | p :: r => sumsOf (nextsOf (ways r) p.2 (top (p :: r))) (top (p :: r))
def waysUp : Que → List (List Int)
  | [] => [ways []]
  | p :: r => waysUp r ++ [ways (p :: r)]
def waysDn : Que → List (List Int)
  | [] => [ways []]
  | p :: r => ways (p :: r) :: waysDn r
theorem ways_rev : ∀ c : Que, (waysUp c).reverse = waysDn c
  | [] => rfl
  | p :: r => by simp [waysUp, waysDn, ways_rev r]
theorem waysUp_last : ∀ c : Que, ∃ l, waysUp c = l ++ [ways c]
  | [] => ⟨[], rfl⟩
  | p :: r => ⟨waysUp r, rfl⟩
theorem waysUp_length : ∀ c : Que, (waysUp c).length = c.length + 1
  | [] => rfl
  | p :: r => by simp [waysUp, waysUp_length r]
theorem waysDn_get : ∀ (c : Que) (k : Nat), k ≤ c.length → (waysDn c)[k]? = some (ways (c.drop k))
  | [], 0, _ => rfl
  | [], k + 1, h => by simp at h
  | p :: r, 0, _ => rfl
  | p :: r, k + 1, h => by
    have := waysDn_get r k (by simpa using h)
    simpa [waysDn] using this
theorem ways_length : ∀ {c : Que}, (∀ p ∈ c, OkN p) → ((ways c).length : Int) = top c + 1
  | [], _ => rfl
  | p :: r, h => by
    have := top_in h
    simp [ways, sumsOf]
    omega
theorem ways_le : ∀ {c : Que}, (∀ p ∈ c, OkN p) → (ways c).length ≤ 13
  | [], _ => by simp [ways]
  | p :: r, h => by
    have := top_in h
    simp [ways, sumsOf]
    omega
def rowI (l : List Int) : D := .lst (l.map D.int)
theorem rowI_dt (n : Nat) (l : List Int) : Dt (n + 1) (rowI l) (.list (l.map PyData.int)) := (Dts.ints n l).lst
theorem rowsI_dt (n : Nat) (ls : List (List Int)) : Dts (n + 1) (ls.map rowI) (ls.map fun l => .list (l.map PyData.int)) := .map _ fun l _ => rowI_dt n l
@[simp] theorem rowsI_below (m : Nat) (ls : List (List Int)) : belows m (ls.map rowI) = true := (rowsI_dt 0 ls).belows
@[simp] theorem rowI_below (m : Nat) (l : List Int) : below m (rowI l) = true := (rowI_dt 0 l).below
/-- the object -/
def roomsO (t : Bool) (c : Que) : MO := .obj "Rooms" [("nights", queD t c), ("tops_by_day", .lst ((topsDn c).map D.int)), ("ways_by_day", .lst ((waysDn c).map rowI))]
theorem roomsO_bl (m : Nat) (t : Bool) (c : Que) : belowO m (roomsO t c) = true := by simp [roomsO]
theorem getD_ix {l : List Int} {i : Int} (h0 : 0 ≤ i) (h1 : i < l.length) (M : List MO) : dIx M (rowI l) (.int i) = some (.int (l.getD i.toNat 0)) := by
  have lt : i.toNat < l.length := by omega
  have e : i = ((i.toNat : Nat) : Int) := by omega
  have a : atI (l.map D.int) i = atI (l.map D.int) ((i.toNat : Nat) : Int) := by rw [← e]
  rw [rowI, e_ix]
  simp only [itemsD_l, Option.bind_some]
  rw [a, Bk.atI_nat]
  simp [lt]
theorem dSum_ints (M : List MO) (is : List Int) : dSum M (.lst (is.map D.int)) = some (.int is.sum) := by simp [dSum, ofInts, intsD_map]
abbrev RO (t : Bool) (c : Que) (k : D) : MO := .obj "Rooms" [("nights", queD t c), ("tops_by_day", k)]
abbrev RW (t : Bool) (c : Que) (k : D) : MO := .obj "Rooms" [("nights", queD t c), ("tops_by_day", .lst ((topsDn c).map D.int)), ("ways_by_day", k)]
theorem tops_loop (t : Bool) (c : Que) : ∀ (l r : Que), l.length + r.length ≤ 100 →
    gForL (gToT (gToCons (gTo 2) (gToCons (gTo 3) (gToNil)))) lb_Rooms_init_1 (l.map entQ) [some (.ref 0), some (queD t c), none, none, none, none, none, none, none, none] [RO t c (.ref 1), .lst ((topsUp r).map D.int)]
    = .nx [some (.ref 0), some (queD t c), none, none, none, none, none, none, none, none] [RO t c (.ref 1), .lst ((topsUp (l.reverse ++ r)).map D.int)] := by
  have sz : 2000 ≤ sizeLine := by rw [sizeLine_eq]; omega
  intro l
  induction l with
  | nil => intro r _; simp
  | cons p l ih =>
    intro r h
    simp only [List.length_cons] at h
    have e2 := ih (p :: r) (by simp only [List.length_cons]; omega)
    obtain ⟨l0, hl0⟩ := topsUp_last r
    have lr := topsUp_length r
    have lx : ∀ o, dIx [o, .lst ((topsUp r).map D.int)] (.ref 1) (.int (-1)) = some (.int (top r)) := fun o => by
      rw [e_ix, hl0]
      simp [listD, atI_last]
    have q : (topsUp r).length < sizeLine := by omega
    have et : top (p :: r) = if top r + p.2 < p.1 then top r + p.2 else p.1 := rfl
    rw [List.map_cons]
    refine (forL_cons (Γ1 := [some (.ref 0), some (queD t c), some (.int p.1), some (.int p.2), none, none, none, none, none, none]) (by simp [entQ]) ?_).trans (e2.trans (by simp))
    simp [-e_ix, lb_Rooms_init_1, List.lookup, listD, lx, mutR, q, topsUp, et]
theorem ways_loop (t : Bool) {c : Que} (hc : OkQ c) : ∀ (l r : Que), c = l.reverse ++ r →
    gForL (gTo 4) lb_Rooms_init_2 (rngDn ((l.length : Int) - 1) l.length) [some (.ref 0), some (queD t c), none, none, none, none, none, none, none, none] [RW t c (.ref 2), .dead, .lst ((waysUp r).map rowI)]
    = .nx [some (.ref 0), some (queD t c), none, none, none, none, none, none, none, none] [RW t c (.ref 2), .dead, .lst ((waysUp c).map rowI)] := by
  have sz : 2000 ≤ sizeLine := by rw [sizeLine_eq]; omega
  have hcl := hc.l
  intro l
  induction l with
  | nil => intro r h; simp [rngDn, h]
  | cons p l ih =>
    intro r h
    have h2 : c = l.reverse ++ (p :: r) := by rw [h]; simp
    have e2 := ih (p :: r) h2
    have lc : c.length = l.length + 1 + r.length := by rw [h2]; simp; omega
    have dl : c.drop l.length = p :: r := by rw [h2, List.drop_append_of_le_length (by simp)]; simp
    have gp : c[l.length]? = some p := by
      have := congrArg (fun x => x[0]?) dl
      simpa [List.getElem?_drop] using this
    have vr : ∀ x ∈ p :: r, OkN x := fun x hx => hc.v x (by rw [h2]; simp at hx ⊢; right; exact hx)
    have vr' : ∀ x ∈ r, OkN x := fun x hx => vr x (by simp [hx])
    have vp := vr p (by simp)
    have tin := top_in vr
    have tin' := top_in vr'
    have et : top (p :: r) = if top r + p.2 < p.1 then top r + p.2 else p.1 := rfl
    have wlen := ways_length vr'
    have e0 : ((p :: l).length : Int) - 1 = (l.length : Int) := by simp
    have e1 : (l.length : Int) - 1 = ((l.length : Int)) - 1 := rfl
    rw [e0]
    show gForL (gTo 4) lb_Rooms_init_2 (rngDn (l.length : Int) (l.length + 1)) _ _ = _
    rw [rngDn]
    obtain ⟨l0, hl0⟩ := waysUp_last r
    have lr := waysUp_length r
    have lx : ∀ o o2, dIx [o, o2, .lst ((waysUp r).map rowI)] (.ref 2) (.int (-1)) = some (rowI (ways r)) := fun o o2 => by
      rw [e_ix, hl0]
      simp [listD, atI_last]
    have tx : ∀ M, dIx M (.lst ((topsDn c).map D.int)) (.int l.length) = some (.int (top (p :: r))) := fun M => by
      rw [e_ix]
      simp [Bk.atI_nat, topsDn_get c l.length (by omega), dl]
    have qx := fun M => que_ix M t c l.length p gp
    have ix1 : ∀ (M : List MO) (a b : D), dIx M (.tup [a, b]) (.int 1) = some b := fun _ _ _ => rfl
    have q : (waysUp r).length < sizeLine := by omega
    have i1 : Bk.inR (top (p :: r) + 1) = true := inR_of (by omega) (by omega)
    have kn := fun (v7 v9 : Option D) (M : List MO) => lcL_run (gg := gTo 8) (ge := le_Rooms_init_1) (Γ := [some (.ref 0), some (queD t c), none, some (.int p.2), some (.int l.length), some (rowI (ways r)), some (.int (top (p :: r))), v7, none, v9]) (M := M) D.int (fun b => D.int ((ways r).getD (max0 (b - p.2)).toNat 0)) (intR 0 (top (p :: r) + 1).toNat) [] (by simp; omega) fun b hb => by
      have hb' := mem_intR.mp hb
      have b0 := max0_pos (b - p.2)
      have b1 : max0 (b - p.2) < (ways r).length := by
        have m : max0 (b - p.2) ≤ top r := by
          have z : b ≤ top (p :: r) := by omega
          rw [et] at z
          unfold max0
          have := vp.c
          split <;> split at z <;> omega
        omega
      have gx := getD_ix (l := ways r) b0 b1 M
      have z : max0 (b - p.2) = if p.2 < b then b - p.2 else 0 := by unfold max0; congr 1; simp
      rw [z] at gx
      exact ⟨[some (.ref 0), some (queD t c), none, some (.int p.2), some (.int l.length), some (rowI (ways r)), some (.int (top (p :: r))), v7, some (.int b), v9], by simp, by
        simp [-e_ix, le_Rooms_init_1, gx, z]⟩
    have en : (intR 0 (top (p :: r) + 1).toNat).map (fun b => D.int ((ways r).getD (max0 (b - p.2)).toNat 0)) = (nextsOf (ways r) p.2 (top (p :: r))).map D.int := by simp [nextsOf]
    simp only [List.nil_append, en, ← rngL_int] at kn
    have ks := fun (M : List MO) => lcL_run (gg := gTo 9) (ge := le_Rooms_init_2) (Γ := [some (.ref 0), some (queD t c), none, some (.int p.2), some (.int l.length), some (rowI (ways r)), some (.int (top (p :: r))), some (.lst ((nextsOf (ways r) p.2 (top (p :: r))).map D.int)), none, none]) (M := M) D.int (fun b => D.int ((nextsOf (ways r) p.2 (top (p :: r))).drop b.toNat).sum) (intR 0 (top (p :: r) + 1).toNat) [] (by simp; omega) fun b hb => by
      have hb' := mem_intR.mp hb
      have cut : dCut M (some b) none (.lst ((nextsOf (ways r) p.2 (top (p :: r))).map D.int)) = some (.lst (((nextsOf (ways r) p.2 (top (p :: r))).drop b.toNat).map D.int)) := by
        have e : b = ((b.toNat : Nat) : Int) := by omega
        have a : ∀ X, dCut M (some b) none X = dCut M (some ((b.toNat : Nat) : Int)) none X := fun X => by rw [← e]
        rw [a]
        simp only [dCut, listD, Option.map_some, cutD_from, List.map_drop]
      have su := dSum_ints M ((nextsOf (ways r) p.2 (top (p :: r))).drop b.toNat)
      simp only [List.map_drop] at cut su
      exact ⟨[some (.ref 0), some (queD t c), none, some (.int p.2), some (.int l.length), some (rowI (ways r)), some (.int (top (p :: r))), some (.lst ((nextsOf (ways r) p.2 (top (p :: r))).map D.int)), none, some (.int b)], by simp, by simp [le_Rooms_init_2, cut, su]⟩
    have es : (intR 0 (top (p :: r) + 1).toNat).map (fun b => D.int ((nextsOf (ways r) p.2 (top (p :: r))).drop b.toNat).sum) = (ways (p :: r)).map D.int := by simp [ways, sumsOf]
    simp only [List.nil_append, es, ← rngL_int] at ks
    have rw0 : D.lst ((ways (p :: r)).map D.int) = rowI (ways (p :: r)) := rfl
    refine (forL_cons (Γ1 := [some (.ref 0), some (queD t c), none, none, some (.int l.length), none, none, none, none, none]) (by simp) ?_).trans e2
    simp [-e_ix, lb_Rooms_init_2, List.lookup, listD, lx, tx, qx, entQ, ix1, i1, kn, ks, mutR, q, waysUp, rw0]
theorem m_rooms (t : Bool) {c : Que} (hc : OkQ c) : F_Rooms_init [.ref 0, queD t c] [.obj "Rooms" []] = .ok .non [roomsO t c] := by
  have hl := hc.l
  have k1 := tops_loop t c c.reverse [] (by simp; omega)
  rw [List.reverse_reverse, List.append_nil, List.map_reverse] at k1
  have k1' : gForL (gToT (gToCons (gTo 2) (gToCons (gTo 3) (gToNil)))) lb_Rooms_init_1 (c.map entQ).reverse [some (.ref 0), some (queD t c), none, none, none, none, none, none, none, none] [RO t c (.ref 1), .lst [.int 12]] = _ := k1
  have k2 := ways_loop t hc c.reverse [] (by simp)
  rw [List.length_reverse] at k2
  have mu : ∀ M, dMulT M (.lst [.int 1]) (.int 13) = some (rowI (ways [])) := fun M => by
    rw [e_mulTl, e_mulL M [.int 1] 13 (by decide) (by decide) (by decide)]
    rfl
  have w0 : [D.lst ((ways []).map D.int)] = (waysUp []).map rowI := rfl
  have i1 : Bk.inR ((c.length : Int) - 1) = true := inR_of (by omega) (by omega)
  have i2 : Bk.inR (-1) = true := rfl
  have e1 : ((c.length : Int) - 1 - -1).toNat = c.length := by omega
  have k2' : gForL (gTo 4) lb_Rooms_init_2 (rngDn ((c.length : Int) - 1) c.length) [some (.ref 0), some (queD t c), none, none, none, none, none, none, none, none] [RW t c (.ref 2), .dead, .lst [rowI (ways [])]] = _ := k2
  have tr := tops_rev c
  have wr := ways_rev c
  have tr' : ((topsUp c).map D.int).reverse = (topsDn c).map D.int := by rw [← tr, List.map_reverse]
  have wr' : ((waysUp c).map rowI).reverse = (waysDn c).map rowI := by rw [← wr, List.map_reverse]
  simp [F_Rooms_init, b_Rooms_init, runF, List.lookup, putD, mu, k1', listD, mutR, tr', i1, i2, e1, k2', wr', roomsO]
theorem c_rooms (t : Bool) {c : Que} (hc : OkQ c) (M : List MO) : callF F_Rooms_init [.ref M.length, queD t c] (M ++ [.obj "Rooms" []]) = .ok .non (M ++ [roomsO t c]) := by
  have := c_lend1 (k := M.length) (M := M ++ [.obj "Rooms" []]) (m_rooms t hc) (by simp) rfl rfl (roomsO_bl 0 t c) (by simp) (by simp)
  rw [this]
  simp
end My

set_option Elab.async false
set_option linter.all false
set_option maxRecDepth 100000
set_option maxHeartbeats 4000000
namespace My
open PySem PySem.Spec PyProof.Rows L2 Bk
theorem m_room (t : Bool) {c : Que} {ns : List Int} (hc : OkQ c) (h : OkR c ns) : F_Rooms_room_behind [.ref 0, .tup (ns.map D.int)] [roomsO t c] = .ok (.int (gnq c ns)) [roomsO t c] := by
  have hl := h.l
  have cw := c_wm t ns hc.l [roomsO t c]
  have tx : dIx [roomsO t c] (.lst ((topsDn c).map D.int)) (.int ns.length) = some (.int (top (c.drop ns.length))) := by
    rw [e_ix]
    simp [Bk.atI_nat, topsDn_get c ns.length hl]
  have wx : dIx [roomsO t c] (.lst ((0 :: wl ns 0 0 c).map D.int)) (.int ns.length) = some (.int (wt c ns)) := by
    rw [e_ix]
    simp only [itemsD_l, Option.bind_some]
    rw [Bk.atI_nat, List.getElem?_map, wl_get ns c 0 ns.length 0 hl]
    rfl
  have bo := fun m => roomsO_bl m t c
  simp only [List.map_cons] at cw wx
  have bo' := bo 1
  simp only [roomsO] at cw tx wx bo' ⊢
  simp [-e_ix, F_Rooms_room_behind, b_Rooms_room_behind, runF, List.lookup, tx, cw, wx, gnq]
theorem c_room (t : Bool) {c : Que} {ns : List Int} (hc : OkQ c) (h : OkR c ns) : callF F_Rooms_room_behind [.ref 0, .tup (ns.map D.int)] [roomsO t c] = .ok (.int (gnq c ns)) [roomsO t c] :=
  c_lend1 (k := 0) (M := [roomsO t c]) (m_room t hc h) rfl rfl (roomsO_bl 0 t c) (roomsO_bl 0 t c) (by simp) (by simp)
def rdq (c : Que) (ns : List Int) : Option Int := if ns.length < c.length then some (gnq c ns) else none
theorem m_qready (t : Bool) {c : Que} {ns : List Int} (hc : OkQ c) (h : OkR c ns) : F_queue_ready [queD t c, .tup (ns.map D.int)] [] = .ok (optD (rdq c ns)) [] := by
  have cn := c_rooms t hc []
  have cr := c_room t hc h
  simp only [List.nil_append, List.length_nil] at cn
  have io : isObj "Rooms" "room_behind" [roomsO t c] (.ref 0) = true := by simp [roomsO, List.lookup]
  by_cases q : ns.length < c.length
  · simp [-u_isObj, F_queue_ready, b_queue_ready, runF, c_reqq t hc, c_reqp t hc h, q, cn, cr, io, rdq, optD]
  · simp [F_queue_ready, b_queue_ready, runF, c_reqq t hc, c_reqp t hc h, q, rdq, optD]
theorem c_qready (t : Bool) {c : Que} {ns : List Int} (hc : OkQ c) (h : OkR c ns) (M : List MO) : callF F_queue_ready [queD t c, .tup (ns.map D.int)] M = .ok (optD (rdq c ns)) M := c_flat (m_qready t hc h) M (by simp) (by simp)
end My

set_option Elab.async false
set_option linter.all false
set_option maxRecDepth 100000
set_option maxHeartbeats 4000000
namespace My
open PySem PySem.Spec PyProof.Rows L2 Bk
/-! ### the law's own look -/
theorem m_lover (c : Que) (ns : List Int) : F_law_over [queD false c, .tup (ns.map D.int)] [] = .ok (optD (qo ns 0 0 c)) [] := by
  have key : ∀ (r : Que) (i : Nat) (w : Int),
      (∃ x, gForL (gToT (gToCons (gTo 3) (gToCons (gToT (gToCons (gTo 4) (gToCons (gTo 5) (gToNil)))) (gToNil)))) lb_law_over_1 (enumL (i : Int) (r.map entQ)) [some (queD false c), some (.tup (ns.map D.int)), some (.int w), none, none, none, none] []
      = .nx [some (queD false c), some (.tup (ns.map D.int)), some (.int x), none, none, none, none] [] ∧ qo ns i w r = none) ∨
      ∃ d, gForL (gToT (gToCons (gTo 3) (gToCons (gToT (gToCons (gTo 4) (gToCons (gTo 5) (gToNil)))) (gToNil)))) lb_law_over_1 (enumL (i : Int) (r.map entQ)) [some (queD false c), some (.tup (ns.map D.int)), some (.int w), none, none, none, none] [] = .rt (.int d) [] ∧ qo ns i w r = some d := by
    intro r
    induction r with
    | nil => intro i w; exact .inl ⟨w, by simp [enumL], rfl⟩
    | cons p r ih =>
      intro i w
      obtain ⟨o, m⟩ := p
      have e2 := ih (i + 1) (max0 (w + nth ns i - m))
      have e3 : ((i + 1 : Nat) : Int) = (i : Int) + 1 := by omega
      rw [e3] at e2
      rw [List.map_cons, enumL, qo]
      have st : ∀ (z : ¬ o < w + nth ns i), lb_law_over_1 [some (queD false c), some (.tup (ns.map D.int)), some (.int w), some (.int i), some (.int o), some (.int m), none] [] = .nx [some (queD false c), some (.tup (ns.map D.int)), some (.int (max0 (w + nth ns i - m))), none, none, none, none] [] := fun z => by
        by_cases g : i < ns.length
        · have g' : (i : Int) < ns.length := by omega
          have nx := nth_ix [] ns i g
          simp [-e_ix, lb_law_over_1, g', nx, z, max0]
        · have g' : ¬ (i : Int) < ns.length := by omega
          have nz : nth ns i = 0 := nth_off (by omega)
          rw [nz] at z ⊢
          simp only [Int.add_zero] at z
          simp [-e_ix, lb_law_over_1, g', z, max0]
      have sb : ∀ (z : o < w + nth ns i), lb_law_over_1 [some (queD false c), some (.tup (ns.map D.int)), some (.int w), some (.int i), some (.int o), some (.int m), none] [] = .rt (.int ((i : Int) + 1)) [] := fun z => by
        by_cases g : i < ns.length
        · have g' : (i : Int) < ns.length := by omega
          have nx := nth_ix [] ns i g
          simp [-e_ix, lb_law_over_1, g', nx, z]
        · have g' : ¬ (i : Int) < ns.length := by omega
          have nz : nth ns i = 0 := nth_off (by omega)
          rw [nz] at z
          simp only [Int.add_zero] at z
          simp [-e_ix, lb_law_over_1, g', z]
      by_cases z : o < w + nth ns i
      · right
        refine ⟨(i : Int) + 1, ?_, by rw [if_pos z]⟩
        rw [u_gForLc]
        simp [entQ, sb z]
      · simp only [if_neg z]
        have s := forL_cons (gg := gToT (gToCons (gTo 3) (gToCons (gToT (gToCons (gTo 4) (gToCons (gTo 5) (gToNil)))) (gToNil)))) (b := lb_law_over_1) (d := .tup [.int i, entQ (o, m)]) (ds := enumL ((i : Int) + 1) (r.map entQ)) (Γ := [some (queD false c), some (.tup (ns.map D.int)), some (.int w), none, none, none, none]) (Γ1 := [some (queD false c), some (.tup (ns.map D.int)), some (.int w), some (.int i), some (.int o), some (.int m), none]) (by simp [entQ]) (st z)
        rw [s]
        exact e2
  have i0 : ((0 : Nat) : Int) = 0 := rfl
  rcases key c 0 0 with ⟨x, e, q⟩ | ⟨d, e, q⟩
  · rw [i0] at e
    rw [q]
    simp [F_law_over, b_law_over, runF, e, optD]
  · rw [i0] at e
    rw [q]
    simp [F_law_over, b_law_over, runF, e, optD]
theorem c_lover (c : Que) (ns : List Int) (M : List MO) : callF F_law_over [queD false c, .tup (ns.map D.int)] M = .ok (optD (qo ns 0 0 c)) M := c_flat (m_lover c ns) M (by simp) (by simp)
theorem tri_ix {a b c i : Int} (h0 : 0 ≤ i) (h3 : i < 3) : ∃ v : Int, atI [D.int a, .int b, .int c] i = some (.int v) ∧ (v = a ∨ v = b ∨ v = c) := by
  obtain rfl | rfl | rfl : i = 0 ∨ i = 1 ∨ i = 2 := by omega
  · exact ⟨a, by simp, by simp⟩
  · exact ⟨b, by simp, by simp⟩
  · exact ⟨c, by simp, by simp⟩
end My

set_option Elab.async false
set_option linter.all false
set_option maxRecDepth 100000
set_option maxHeartbeats 4000000
namespace My
open PySem PySem.Spec PyProof.Rows L2 Bk
/-! ### the drawn queue -/
theorem queue_loop {most tp same : Int} (h0 : 0 ≤ tp) (h12 : tp ≤ 12) (hs0 : 0 ≤ same) (hs3 : same < 3) : ∀ (n i : Nat) (m : Nat) (acc : Que) (s : Src3), Sk m s → m + 4 * n ≤ 1000000 → acc.length + n ≤ 100 → (∀ p ∈ acc, OkN p) →
    ∃ (acc' : Que) (s' : Src3), gForL (gTo 5) lb_law_queue_1 (rngL (i : Int) n) [some (.ref 0), some (.int most), some (.int tp), some (.int same), some (.ref 1), none, none] [srcO s, .lst (acc.map entQ)]
      = .nx [some (.ref 0), some (.int most), some (.int tp), some (.int same), some (.ref 1), none, none] [srcO s', .lst (acc'.map entQ)] ∧ acc'.length = acc.length + n ∧ (∀ p ∈ acc', OkN p) ∧ Sk (m + 4 * n) s' := by
  have sz : 2000 ≤ sizeLine := by rw [sizeLine_eq]; omega
  intro n
  induction n with
  | zero => intro i m acc s hs _ _ h; exact ⟨acc, s, by simp [rngL], rfl, h, hs⟩
  | succ n ih =>
    intro i m acc s hs hm hq h
    have z1 : 0 < tp + 1 := by omega
    have z2 : tp + 1 < 4611686018427387904 := by omega
    have s1 := hs.step (tp + 1)
    have s2 := s1.step (tp + 1)
    have s3 := s2.step (tp + 1)
    have s4 := s3.step 3
    have t1 := fun R => t_0 hs (by omega) (tp + 1) R z1 z2
    have t2 := fun R => t_0 s1 (by omega) (tp + 1) R z1 z2
    have t3 := fun R => t_0 s2 (by omega) (tp + 1) R z1 z2
    have t4 := fun R => t_0 s3 (by omega) 3 R (by decide) (by decide)
    obtain ⟨v, ev, hv⟩ := tri_ix (a := tp) (b := tk s (tp + 1)) (c := tk (tn s (tp + 1)) (tp + 1)) hs0 hs3
    obtain ⟨u, eu, hu⟩ := tri_ix (a := 0) (b := 1) (c := tk (tn (tn s (tp + 1)) (tp + 1)) (tp + 1)) (i := tk (tn (tn (tn s (tp + 1)) (tp + 1)) (tp + 1)) 3) (tk_lo _ (by decide)) (tk_hi _ (by decide))
    have a1 := tk_lo s z1
    have a2 := tk_hi s z1
    have b1 := tk_lo (tn s (tp + 1)) z1
    have b2 := tk_hi (tn s (tp + 1)) z1
    have c1 := tk_lo (tn (tn s (tp + 1)) (tp + 1)) z1
    have c2 := tk_hi (tn (tn s (tp + 1)) (tp + 1)) z1
    have on : OkN (v, u) := ⟨by simp only; rcases hv with w | w | w <;> omega, by simp only; rcases hv with w | w | w <;> omega, by simp only; rcases hu with w | w | w <;> omega, by simp only; rcases hu with w | w | w <;> omega⟩
    obtain ⟨acc', s', e', l', f', k'⟩ := ih (i + 1) (m + 1 + 1 + 1 + 1) (acc ++ [(v, u)]) _ s4 (by omega) (by simp; omega) fun p hp => by
      rcases List.mem_append.mp hp with w | w
      · exact h p w
      · have : p = (v, u) := by simpa using w
        rw [this]
        exact on
    have e3 : ((i + 1 : Nat) : Int) = (i : Int) + 1 := by omega
    rw [e3] at e'
    have q : acc.length < sizeLine := by omega
    refine ⟨acc', s', ?_, by rw [l']; simp; omega, f', k'.mono (by omega)⟩
    rw [rngL]
    refine (forL_cons (Γ1 := [some (.ref 0), some (.int most), some (.int tp), some (.int same), some (.ref 1), some (.int i), none]) (by simp) ?_).trans e'
    simp [lb_law_queue_1, t1, t2, t3, t4, ev, eu, listD, mutR, q, entQ]
theorem m_lqueue {most tp : Int} (h0 : 0 ≤ tp) (h12 : tp ≤ 12) (m0 : 0 ≤ most) (m99 : most ≤ 99) {m : Nat} {s : Src3} (hs : Sk m s) (hm : m ≤ 999000) : ∃ (c : Que) (s' : Src3), F_law_queue [.ref 0, .int most, .int tp] [srcO s] = .ok (queD false c) [srcO s'] ∧ OkQ c ∧ (c.length : Int) ≤ most ∧ Sk (m + 402) s' := by
  have t1 := fun R => t_0 hs (by omega) 3 R (by decide) (by decide)
  have s1 := hs.step 3
  have z1 : 0 < most + 1 := by omega
  have t2 := fun R => t_0 s1 (by omega) (most + 1) R z1 (by omega)
  have s2 := s1.step (most + 1)
  have a1 := tk_lo (tn s 3) z1
  have a2 := tk_hi (tn s 3) z1
  obtain ⟨acc, s', e, l, f, k⟩ := queue_loop (most := most) h0 h12 (tk_lo s (by decide)) (tk_hi s (by decide)) (tk (tn s 3) (most + 1)).toNat 0 (m + 1 + 1) [] _ s2 (by omega) (by simp; omega) (by simp)
  have e' : gForL (gTo 5) lb_law_queue_1 (rngL 0 (tk (tn s 3) (most + 1)).toNat) _ [_, .lst []] = _ := e
  have i1 : Bk.inR (tk (tn s 3) (most + 1)) = true := inR_i (by omega) (by omega)
  simp only [List.length_nil, Nat.zero_add] at l
  refine ⟨acc, s', ?_, ⟨by omega, f⟩, by omega, k.mono (by omega)⟩
  simp [F_law_queue, b_law_queue, runF, t1, t2, i1, e', queD]
end My

set_option Elab.async false
set_option linter.all false
set_option maxRecDepth 100000
set_option maxHeartbeats 4000000
namespace My
open PySem PySem.Spec PyProof.Rows L2 Bk
/-! ### how many ways, as a sum -/
/-- ways to go on with w waiting -/
def wy (r : Que) (w : Int) : Int := (ways r).getD w.toNat 0
theorem intR_drop : ∀ (n k : Nat) (lo : Int), (intR lo n).drop k = intR (lo + k) (n - k)
  | n, 0, lo => by simp
  | 0, k + 1, lo => by simp [intR]
  | n + 1, k + 1, lo => by
    rw [intR, List.drop_succ_cons, intR_drop n k (lo + 1)]
    congr 1
    · push_cast; omega
    · omega
theorem wy_nil {w : Int} (h0 : 0 ≤ w) (h1 : w ≤ 12) : wy [] w = 1 := by
  have l : w.toNat < 13 := by omega
  unfold wy ways
  rw [List.getD_eq_getElem?_getD, List.getElem?_replicate, if_pos l]
  rfl
theorem wy_cons {p : Int × Int} {r : Que} {w : Int} (h0 : 0 ≤ w) (h1 : w ≤ top (p :: r)) : wy (p :: r) w = ((intR w (top (p :: r) - w + 1).toNat).map fun b => wy r (max0 (b - p.2))).sum := by
  show (sumsOf (nextsOf (ways r) p.2 (top (p :: r))) (top (p :: r))).getD w.toNat 0 = _
  unfold sumsOf nextsOf
  have l : w.toNat < (top (p :: r) + 1).toNat := by omega
  rw [List.getD_eq_getElem?_getD, List.getElem?_map, intR_get l]
  simp only [Option.map_some, Option.getD_some]
  have e0 : (0 + (w.toNat : Int)).toNat = w.toNat := by omega
  rw [e0, ← List.map_drop, intR_drop]
  have e1 : (0 : Int) + (w.toNat : Int) = w := by omega
  have e2 : (top (p :: r) + 1).toNat - w.toNat = (top (p :: r) - w + 1).toNat := by omega
  rw [e1, e2]
  rfl
theorem sum_pos {l : List Int} (h : ∀ x ∈ l, 0 ≤ x) : 0 ≤ l.sum := by
  induction l with
  | nil => simp
  | cons a l ih =>
    have := h a (by simp)
    have := ih fun x hx => h x (by simp [hx])
    simp only [List.sum_cons]
    omega
theorem max0_le {b m t : Int} (h : b ≤ t + m) (ht : 0 ≤ t) : max0 (b - m) ≤ t := by unfold max0; split <;> omega
theorem wy_pos : ∀ {r : Que} {w : Int}, (∀ p ∈ r, OkN p) → 0 ≤ w → w ≤ top r → 1 ≤ wy r w
  | [], w, _, h0, h1 => by rw [wy_nil h0 h1]; exact Int.le_refl _
  | p :: r, w, h, h0, h1 => by
    have hr : ∀ x ∈ r, OkN x := fun x hx => h x (by simp [hx])
    have et : top (p :: r) = if top r + p.2 < p.1 then top r + p.2 else p.1 := rfl
    have t := top_in hr
    rw [wy_cons h0 h1]
    have e : (top (p :: r) - w + 1).toNat = (top (p :: r) - w).toNat + 1 := by omega
    rw [e, intR, List.map_cons, List.sum_cons]
    have mle : ∀ b, b ≤ top (p :: r) → max0 (b - p.2) ≤ top r := fun b hb => max0_le (by rw [et] at hb; split at hb <;> omega) t.1
    have a := wy_pos hr (max0_pos (w - p.2)) (mle w h1)
    have b : 0 ≤ ((intR (w + 1) (top (p :: r) - w).toNat).map fun b => wy r (max0 (b - p.2))).sum := sum_pos fun x hx => by
      obtain ⟨y, hy, rfl⟩ := List.mem_map.mp hx
      have hy' := mem_intR.mp hy
      have := wy_pos hr (max0_pos (y - p.2)) (mle y (by omega))
      omega
    omega
/-! ### all beginnings -/
def down (n : Int) : List Int := (intR 0 (n + 1).toNat).reverse
theorem rngDn_down : ∀ (k : Nat) (n : Int), n + 1 = k → rngDn n k = (down n).map D.int
  | 0, n, h => by
    have : (n + 1).toNat = 0 := by omega
    simp [rngDn, down, this, intR]
  | k + 1, n, h => by
    have e : (n + 1).toNat = (n - 1 + 1).toNat + 1 := by omega
    rw [rngDn, rngDn_down k (n - 1) (by omega)]
    unfold down
    rw [e, intR_succ, List.reverse_append]
    have e2 : (0 : Int) + ((n - 1 + 1).toNat : Int) = n := by omega
    rw [e2]
    rfl
theorem down_filter {n g : Int} (hg : 0 ≤ g) (h : g ≤ n) : (down n).filter (fun k => decide (k ≤ g)) = down g := by
  unfold down
  rw [List.filter_reverse]
  congr 1
  have e : (n + 1).toNat = (g + 1).toNat + (n - g).toNat := by omega
  have sp : ∀ (a b : Nat) (lo : Int), intR lo (a + b) = intR lo a ++ intR (lo + a) b := by
    intro a
    induction a with
    | zero => intro b lo; simp [intR]
    | succ a ih =>
      intro b lo
      have e : a + 1 + b = (a + b) + 1 := by omega
      rw [e, intR, ih b (lo + 1), intR]
      simp only [List.cons_append]
      congr 2
      congr 1
      push_cast
      omega
  rw [e, sp, List.filter_append]
  have f1 : (intR 0 (g + 1).toNat).filter (fun k => decide (k ≤ g)) = intR 0 (g + 1).toNat := List.filter_eq_self.mpr fun x hx => by
    have := mem_intR.mp hx
    simp
    omega
  have f2 : (intR (0 + ((g + 1).toNat : Int)) (n - g).toNat).filter (fun k => decide (k ≤ g)) = [] := List.filter_eq_nil_iff.mpr fun x hx => by
    have := mem_intR.mp hx
    simp
    omega
  rw [f1, f2, List.append_nil]
theorem sum_rev (l : List Int) : l.reverse.sum = l.sum := by
  induction l with
  | nil => rfl
  | cons a l ih => simp [ih]; omega
theorem sum_down (g : Int) (f : Int → Int) : ((down g).map f).sum = ((intR 0 (g + 1).toNat).map f).sum := by
  unfold down
  rw [List.map_reverse, sum_rev]
theorem intR_shift (f : Int → Int) (w : Int) : ∀ (n : Nat) (lo : Int), ((intR lo n).map fun k => f (w + k)) = (intR (w + lo) n).map f
  | 0, _ => rfl
  | n + 1, lo => by
    rw [intR, intR, List.map_cons, List.map_cons, intR_shift f w n (lo + 1)]
    congr 3
    omega
def ownQ (c : Que) (i : Nat) : Int := (c.getD i (0, 0)).1
def longer (c : Que) (i : Nat) (l : List (List Int)) : List (List Int) := l.flatMap fun p => (down (ownQ c i)).map fun k => p ++ [k]
def begun (c : Que) : Nat → List (List Int)
  | 0 => [[]]
  | i + 1 => (longer c i (begun c i)).filter fun q => decide (qo q 0 0 c = none)
theorem nil_ok {c : Que} (hc : OkQ c) : OkR c [] := ⟨by simp, by simp, by
    have := qo_zero (ns := []) (r := c) (i := 0) (w := 0) hc.v (by simp) (Int.le_refl _)
    exact this.mpr (.inr (top_in hc.v).1)⟩
theorem begun_ok {c : Que} (hc : OkQ c) : ∀ i, i ≤ c.length → ∀ p ∈ begun c i, OkR c p ∧ p.length = i
  | 0, _, p, h => by
    have : p = [] := by simpa [begun] using h
    rw [this]
    exact ⟨nil_ok hc, rfl⟩
  | i + 1, hi, p, h => by
    obtain ⟨h1, h2⟩ := List.mem_filter.mp h
    obtain ⟨q, hq, h3⟩ := List.mem_flatMap.mp h1
    obtain ⟨k, hk, rfl⟩ := List.mem_map.mp h3
    obtain ⟨a, b⟩ := begun_ok hc i (by omega) q hq
    have k0 : 0 ≤ k := by
      have := mem_intR.mp (List.mem_reverse.mp hk)
      omega
    exact ⟨⟨by simp; omega, fun n hn => by
      rcases List.mem_append.mp hn with w | w
      · exact a.p n w
      · have : n = k := by simpa using w
        omega, by simpa using h2⟩, by simp; omega⟩
theorem wt_snoc {c : Que} {ns : List Int} {k : Int} {p : Int × Int} (hp : c[ns.length]? = some p) : wt c (ns ++ [k]) = max0 (wt c ns + k - p.2) := by
  unfold wt
  have lt : ns.length < c.length := (List.getElem?_eq_some_iff.mp hp).1
  have e : c.take (ns ++ [k]).length = c.take ns.length ++ [p] := by
    rw [List.length_append, List.length_singleton, List.take_add_one, hp]
    rfl
  rw [e]
  have ap : ∀ (ms : List Int) (a b : Que) (i : Nat) (w : Int), wend ms i w (a ++ b) = wend ms (i + a.length) (wend ms i w a) b := by
    intro ms a
    induction a with
    | nil => intro b i w; rfl
    | cons x a ih =>
      intro b i w
      rw [List.cons_append, wend, wend, ih]
      have : i + 1 + a.length = i + (x :: a).length := by simp; omega
      rw [this]
  have tl : (c.take ns.length).length = ns.length := by rw [List.length_take]; omega
  rw [ap, tl]
  have := (qo_congr (ns := ns ++ [k]) (ms := ns) (c.take ns.length) 0 0 fun j _ hj => nth_in (by omega)).2
  rw [this, Nat.zero_add]
  simp only [wend]
  rw [nth_end]
theorem wt_le {c : Que} {ns : List Int} (hc : OkQ c) (h : OkR c ns) : wt c ns ≤ top (c.drop ns.length) := by
  by_cases q : ns.length < c.length
  · have := gnq_pos hc h q
    unfold gnq at this
    omega
  · have e : c.drop ns.length = [] := List.drop_eq_nil_of_le (by omega)
    have e2 : ns.length = c.length := by have := h.l; omega
    rw [e]
    show wt c ns ≤ 12
    -- the last day
    cases hn : c.length with
    | zero =>
      have : c = [] := List.eq_nil_of_length_eq_zero hn
      subst this
      simp [wt, wend]
    | succ n =>
      obtain ⟨p, hp⟩ : ∃ p, c[n]? = some p := ⟨c[n], List.getElem?_eq_getElem (by omega)⟩
      obtain ⟨ms, k, hms⟩ : ∃ ms k, ns = ms ++ [k] := ⟨ns.dropLast, ns.getLast (by intro z; rw [z] at e2; simp at e2; omega), (List.dropLast_concat_getLast _).symm⟩
      have lm : ms.length = n := by
        have := congrArg List.length hms
        simp at this
        omega
      subst hms
      rw [← lm] at hp
      rw [wt_snoc hp]
      have vp := hc.v p (List.mem_of_getElem? hp)
      have f := h.f
      have ec : c = c.take ms.length ++ [p] := by
        conv => lhs; rw [← List.take_append_drop ms.length c]
        congr 1
        rw [List.drop_eq_getElem_cons (by omega), List.drop_eq_nil_of_le (by omega)]
        rw [List.getElem?_eq_getElem (by omega)] at hp
        rw [Option.some.inj hp]
      have q1 : qo (ms ++ [k]) 0 0 c = qo (ms ++ [k]) 0 0 (c.take ms.length ++ [p]) := by rw [← ec]
      rw [q1, qo_app] at f
      have tl : (c.take ms.length).length = ms.length := by rw [List.length_take]; omega
      have f2 := f.2
      have := (qo_congr (ns := ms ++ [k]) (ms := ms) (c.take ms.length) 0 0 fun j _ hj => nth_in (by omega)).2
      rw [this, tl, Nat.zero_add, qo, nth_end] at f2
      have wd : wend ms 0 0 (c.take ms.length) = wt c ms := rfl
      rw [wd] at f2
      split at f2
      · cases f2
      · have := vp.b
        have := vp.c
        unfold max0
        split <;> omega
/-- the ways behind a past, by the next number -/
theorem wy_step {c : Que} {ns : List Int} (hc : OkQ c) (h : OkR c ns) (hl : ns.length < c.length) : wy (c.drop ns.length) (wt c ns) = ((down (gnq c ns)).map fun k => wy (c.drop (ns.length + 1)) (wt c (ns ++ [k]))).sum := by
  obtain ⟨p, hp⟩ : ∃ p, c[ns.length]? = some p := ⟨c[ns.length], List.getElem?_eq_getElem hl⟩
  have hd : c.drop ns.length = p :: c.drop (ns.length + 1) := by
    rw [List.drop_eq_getElem_cons hl]
    rw [List.getElem?_eq_getElem hl] at hp
    rw [Option.some.inj hp]
  have g0 := gnq_pos hc h hl
  have w0 := wt_pos c ns
  have gd : gnq c ns = top (p :: c.drop (ns.length + 1)) - wt c ns := by unfold gnq; rw [hd]
  rw [hd, wy_cons w0 (by omega), sum_down]
  have e : (top (p :: c.drop (ns.length + 1)) - wt c ns + 1).toNat = (gnq c ns + 1).toNat := by rw [gd]
  rw [e]
  have sh := intR_shift (fun b => wy (c.drop (ns.length + 1)) (max0 (b - p.2))) (wt c ns) (gnq c ns + 1).toNat 0
  rw [Int.add_zero] at sh
  rw [← sh]
  congr 1
  apply List.map_congr_left
  intro k _
  rw [wt_snoc hp]
theorem flat_sum {α : Type} (f : List Int → Int) (g : α → List (List Int)) : ∀ l : List α, ((l.flatMap g).map f).sum = (l.map fun x => ((g x).map f).sum).sum
  | [] => rfl
  | x :: l => by simp [flat_sum f g l]
theorem gnq_own {c : Que} {ns : List Int} (hl : ns.length < c.length) : gnq c ns ≤ ownQ c ns.length := by
  have w0 := wt_pos c ns
  have hd := List.drop_eq_getElem_cons hl
  unfold gnq
  rw [hd]
  have e : ownQ c ns.length = c[ns.length].1 := by simp [ownQ, hl]
  rw [e]
  simp only [top]
  split <;> omega
/-- all beginnings of a length hold all ways -/
theorem begun_sum {c : Que} (hc : OkQ c) : ∀ i, i ≤ c.length → ((begun c i).map fun p => wy (c.drop i) (wt c p)).sum = wy c 0
  | 0, _ => by simp [begun, wt, wend]
  | i + 1, hi => by
    rw [← begun_sum hc i (by omega)]
    have e : begun c (i + 1) = (begun c i).flatMap fun p => (down (gnq c p)).map fun k => p ++ [k] := by
      show (longer c i (begun c i)).filter _ = _
      unfold longer
      have key : ∀ l : List (List Int), (∀ p ∈ l, OkR c p ∧ p.length = i) → ((l.flatMap fun p => (down (ownQ c i)).map fun k => p ++ [k]).filter fun q => decide (qo q 0 0 c = none)) = l.flatMap fun p => (down (gnq c p)).map fun k => p ++ [k] := by
        intro l
        induction l with
        | nil => intro _; rfl
        | cons p l ih =>
          intro h
          obtain ⟨a, b⟩ := h p (by simp)
          rw [List.flatMap_cons, List.flatMap_cons, List.filter_append, ih fun x hx => h x (by simp [hx])]
          congr 1
          rw [List.filter_map]
          have g0 := gnq_pos hc a (by omega)
          have g1 := gnq_own (c := c) (ns := p) (by omega)
          rw [b] at g1
          rw [← down_filter g0 g1]
          congr 1
          apply List.filter_congr
          intro k hk
          have k0 : 0 ≤ k := by
            have := mem_intR.mp (List.mem_reverse.mp hk)
            omega
          have := qo_snoc hc a (by omega) (k := k) k0
          simp only [Function.comp]
          rw [decide_eq_decide]
          exact this
      exact key _ (begun_ok hc i (by omega))
    rw [e, flat_sum]
    congr 1
    apply List.map_congr_left
    intro p hp
    obtain ⟨a, b⟩ := begun_ok hc i (by omega) p hp
    have := wy_step hc a (by omega)
    rw [b] at this
    rw [this, List.map_map]
    rfl
theorem begun_count {c : Que} (hc : OkQ c) : ((begun c c.length).length : Int) = wy c 0 := by
  rw [← begun_sum hc c.length (Nat.le_refl _)]
  have : ∀ p ∈ begun c c.length, wy (c.drop c.length) (wt c p) = 1 := fun p hp => by
    obtain ⟨a, b⟩ := begun_ok hc c.length (Nat.le_refl _) p hp
    have w1 := wt_le hc a
    rw [b] at w1
    rw [List.drop_eq_nil_of_le (Nat.le_refl _)] at w1 ⊢
    exact wy_nil (wt_pos c p) w1
  have key : ∀ l : List (List Int), (∀ p ∈ l, wy (c.drop c.length) (wt c p) = 1) → (l.map fun p => wy (c.drop c.length) (wt c p)).sum = l.length := by
    intro l
    induction l with
    | nil => intro _; rfl
    | cons p l ih =>
      intro h
      rw [List.map_cons, List.sum_cons, h p (by simp), ih fun x hx => h x (by simp [hx])]
      simp
      omega
  rw [key _ this]
end My

set_option Elab.async false
set_option linter.all false
set_option maxRecDepth 100000
set_option maxHeartbeats 4000000
namespace My
open PySem PySem.Spec PyProof.Rows L2 Bk
theorem m_ways (t : Bool) {c : Que} {ns : List Int} (hc : OkQ c) (h : OkR c ns) : F_Rooms_ways_behind [.ref 0, .tup (ns.map D.int)] [roomsO t c] = .ok (.int (wy (c.drop ns.length) (wt c ns))) [roomsO t c] := by
  have hl := h.l
  have cw := c_wm t ns hc.l [roomsO t c]
  have vd : ∀ p ∈ c.drop ns.length, OkN p := fun p hp => hc.v p (List.mem_of_mem_drop hp)
  have wl1 := ways_length vd
  have w0 := wt_pos c ns
  have w1 := wt_le hc h
  have tx : dIx [roomsO t c] (.lst ((waysDn c).map rowI)) (.int ns.length) = some (rowI (ways (c.drop ns.length))) := by
    rw [e_ix]
    simp [Bk.atI_nat, waysDn_get c ns.length hl]
  have wx : dIx [roomsO t c] (.lst ((0 :: wl ns 0 0 c).map D.int)) (.int ns.length) = some (.int (wt c ns)) := by
    rw [e_ix]
    simp only [itemsD_l, Option.bind_some]
    rw [Bk.atI_nat, List.getElem?_map, wl_get ns c 0 ns.length 0 hl]
    rfl
  have gx := getD_ix (l := ways (c.drop ns.length)) w0 (by omega) [roomsO t c]
  have bo' := roomsO_bl 1 t c
  simp only [List.map_cons] at cw wx
  simp only [roomsO] at cw tx wx gx bo' ⊢
  simp [-e_ix, F_Rooms_ways_behind, b_Rooms_ways_behind, runF, List.lookup, tx, cw, wx, gx, wy]
theorem c_ways (t : Bool) {c : Que} {ns : List Int} (hc : OkQ c) (h : OkR c ns) (M : List MO) : callF F_Rooms_ways_behind [.ref M.length, .tup (ns.map D.int)] (M ++ [roomsO t c]) = .ok (.int (wy (c.drop ns.length) (wt c ns))) (M ++ [roomsO t c]) := by
  have := c_lend1 (k := M.length) (M := M ++ [roomsO t c]) (m_ways t hc h) (by simp) rfl (roomsO_bl 0 t c) (roomsO_bl 0 t c) (by simp) (by simp)
  rw [this]
  simp
theorem io_ways (t : Bool) (c : Que) : isObj "Rooms" "ways_behind" [roomsO t c] (.ref 0) = true := by simp [roomsO, List.lookup]
theorem m_qcount (t : Bool) {c : Que} {ns : List Int} (hc : OkQ c) (h : OkR c ns) : F_queue_count [queD t c, .tup (ns.map D.int)] [] = .ok (.int (wy (c.drop ns.length) (wt c ns))) [] := by
  have cn := c_rooms t hc []
  have cr := c_ways t hc h []
  simp only [List.nil_append, List.length_nil] at cn cr
  have io := io_ways t c
  simp [-u_isObj, F_queue_count, b_queue_count, runF, c_reqq t hc, c_reqp t hc h, cn, cr, io]
theorem c_qcount (t : Bool) {c : Que} {ns : List Int} (hc : OkQ c) (h : OkR c ns) (M : List MO) : callF F_queue_count [queD t c, .tup (ns.map D.int)] M = .ok (.int (wy (c.drop ns.length) (wt c ns))) M := c_flat (m_qcount t hc h) M (by simp) (by simp)
theorem wt_nil (c : Que) : wt c [] = 0 := by simp [wt, wend]
theorem c_qcount0 (t : Bool) {c : Que} (hc : OkQ c) (M : List MO) : callF F_queue_count [queD t c, .tup []] M = .ok (.int (wy c 0)) M := by
  have := c_qcount t hc (nil_ok hc) M
  simpa [wt_nil] using this
end My

set_option Elab.async false
set_option linter.all false
set_option maxRecDepth 100000
set_option maxHeartbeats 4000000
namespace My
open PySem PySem.Spec PyProof.Rows L2 Bk
def rowD (r : List Int) : D := .tup (r.map D.int)
def rowP (r : List Int) : PyData := .tuple (r.map PyData.int)
theorem row_dt (n : Nat) (r : List Int) : Dt (n + 1) (rowD r) (rowP r) := (Dts.ints n r).tup
theorem rows_dt (n : Nat) (rs : List (List Int)) : Dts (n + 1) (rs.map rowD) (rs.map rowP) := .map _ fun r _ => row_dt n r
@[simp] theorem rows_below (m : Nat) (rs : List (List Int)) : belows m (rs.map rowD) = true := (rows_dt 0 rs).belows
@[simp] theorem row_below (m : Nat) (r : List Int) : below m (rowD r) = true := (row_dt 0 r).below
theorem down_length (n : Int) : (down n).length = (n + 1).toNat := by simp [down]
theorem longer_length {c : Que} (i : Nat) (b : Nat) (hb : (ownQ c i + 1).toNat ≤ b) : ∀ l : List (List Int), (longer c i l).length ≤ l.length * b
  | [] => by simp [longer]
  | p :: l => by
    have := longer_length i b hb l
    simp only [longer, List.flatMap_cons, List.length_append, List.length_map, down_length, List.length_cons] at this ⊢
    rw [Nat.succ_mul]
    omega
theorem begun_size {c : Que} (b : Nat) (hb : ∀ i, (ownQ c i + 1).toNat ≤ b) : ∀ i, (begun c i).length ≤ b ^ i
  | 0 => by simp [begun]
  | i + 1 => by
    have h1 : (begun c (i + 1)).length ≤ (longer c i (begun c i)).length := List.length_filter_le _ _
    have h2 := longer_length i b (hb i) (begun c i)
    have h3 := begun_size b hb i
    have h4 : (begun c i).length * b ≤ b ^ i * b := Nat.mul_le_mul_right b h3
    rw [Nat.pow_succ]
    omega
theorem begun_in {c : Que} (hc : OkQ c) (places : D) (i : Nat) (hi : i < c.length) {p0 : Int × Int} (hp : c[i]? = some p0) (B : Nat) (hB : B ≤ 100000) : ∀ (l acc : List (List Int)) (v2 : Option D), (longer c i l).length + acc.length ≤ B → (∀ p ∈ l, p.length ≤ 100) →
    gForL (gTo 5) lb_law_begun_2 (l.map rowD) [some (queD false c), some places, v2, some (.int i), some (.ref 0), none, none] [.lst (acc.map rowD)]
    = .nx [some (queD false c), some places, v2, some (.int i), some (.ref 0), none, none] [.lst ((acc ++ longer c i l).map rowD)] := by
  have sz : 200000 ≤ sizeLine := by rw [sizeLine_eq]; omega
  intro l
  induction l with
  | nil => intro acc v2 _ _; simp [longer]
  | cons p l ih =>
    intro acc v2 hq hl
    have v0 := (hc.v p0 (List.mem_of_getElem? hp)).a
    have v1 := (hc.v p0 (List.mem_of_getElem? hp)).b
    have eo : ownQ c i = p0.1 := by simp [ownQ, hp]
    have el : longer c i (p :: l) = ((down (ownQ c i)).map fun k => p ++ [k]) ++ longer c i l := by simp [longer]
    rw [el] at hq ⊢
    simp only [List.length_append, List.length_map, down_length] at hq
    have e2 := ih (acc ++ (down (ownQ c i)).map fun k => p ++ [k]) v2 (by simp [down_length]; omega) fun x hx => hl x (by simp [hx])
    have qx := fun M => que_ix M false c i p0 hp
    have ix0 : ∀ (M : List MO) (a b : D), dIx M (.tup [a, b]) (.int 0) = some a := fun _ _ _ => rfl
    have lp := hl p (by simp)
    have i1 : Bk.inR (ownQ c i) = true := inR_of (by omega) (by omega)
    have i2 : Bk.inR (-1) = true := rfl
    have e1 : ownQ c i - -1 = ownQ c i + 1 := by omega
    have rd := rngDn_down (ownQ c i + 1).toNat (ownQ c i) (by omega)
    have ks := fun (M : List MO) => lcL_run (gg := gTo 6) (ge := le_law_begun_1) (Γ := [some (queD false c), some places, v2, some (.int i), some (.ref 0), some (rowD p), none]) (M := M) D.int (fun k => rowD (p ++ [k])) (down (ownQ c i)) [] (by simp [down_length]; omega) fun k _ =>
      ⟨[some (queD false c), some places, v2, some (.int i), some (.ref 0), some (rowD p), some (.int k)], by simp, by
        have ad : dAdd M (.tup (p.map D.int)) (.tup [.int k]) = some (.tup ((p ++ [k]).map D.int)) := by
          rw [e_addT, if_pos (by simp; omega)]
          simp
        simp only [List.map_append, List.map_cons, List.map_nil] at ad
        simp [-e_addT, le_law_begun_1, rowD, ad]⟩
    have em : (down (ownQ c i)).map (fun k => rowD (p ++ [k])) = ((down (ownQ c i)).map fun k => p ++ [k]).map rowD := by rw [List.map_map]; rfl
    simp only [List.nil_append, em, ← rd] at ks
    rw [eo] at ks e2 i1 e1 rd ⊢
    have xt : ∀ M ds es, ds.length + es.length ≤ sizeLine → mExtend M ds (.lst es) = some (ds ++ es, .non) := fun M ds es h => by
      simp [mExtend, h]
    have xl : (acc.map rowD).length + (((down p0.1).map fun k => p ++ [k]).map rowD).length ≤ sizeLine := by simp [down_length]; rw [eo] at hq; omega
    have xe := xt [.lst (acc.map rowD)] _ _ xl
    rw [List.map_cons]
    refine (forL_cons (Γ1 := [some (queD false c), some places, v2, some (.int i), some (.ref 0), some (rowD p), none]) (by simp) ?_).trans (e2.trans (by simp))
    generalize ((down p0.1).map fun k => p ++ [k]) = L at *
    simp [-e_ix, lb_law_begun_2, qx, entQ, ix0, i1, i2, e1, ks, listD, mutR, xe]
theorem begun_loop {c : Que} (hc : OkQ c) (places : D) (hpl : below 0 places = true) (b : Nat) (hb : ∀ i, (ownQ c i + 1).toNat ≤ b) (hbb : b ^ c.length * b ≤ 100000) (hb1 : 1 ≤ b) : ∀ (n i : Nat), i + n ≤ c.length →
    gForL (gTo 3) lb_law_begun_1 (rngL (i : Int) n) [some (queD false c), some places, some (.lst ((begun c i).map rowD)), none, none, none, none] []
    = .nx [some (queD false c), some places, some (.lst ((begun c (i + n)).map rowD)), none, none, none, none] [] := by
  have sz : 200000 ≤ sizeLine := by rw [sizeLine_eq]; omega
  intro n
  induction n with
  | zero => intro i _; simp [rngL]
  | succ n ih =>
    intro i hi
    have e2 := ih (i + 1) (by omega)
    have e3 : ((i + 1 : Nat) : Int) = (i : Int) + 1 := by omega
    have e4 : i + 1 + n = i + (n + 1) := by omega
    rw [e3, e4] at e2
    have h1 := longer_length i b (hb i) (begun c i)
    have h2 := begun_size b hb i
    have h3 : (begun c i).length * b ≤ 100000 := by
      have a : b ^ i ≤ b ^ c.length := Nat.pow_le_pow_right hb1 (by omega)
      have : (begun c i).length * b ≤ b ^ c.length * b := Nat.mul_le_mul_right b (by omega)
      omega
    have li := begun_in hc places i (by omega) (p0 := c[i]) (List.getElem?_eq_getElem (by omega)) 100000 (Nat.le_refl _) (begun c i) [] (some (.lst ((begun c i).map rowD))) (by simp; omega) fun p hp => by
      have := (begun_ok hc i (by omega) p hp).2
      have := hc.l
      omega
    rw [List.map_nil, List.nil_append] at li
    have l3 : (longer c i (begun c i)).length ≤ 100000 := by omega
    have eb : (longer c i (begun c i)).filter (fun q => decide (qo q 0 0 c = none)) = begun c (i + 1) := rfl
    have ks2 := fun M => lcL_sel (gg := gTo 5) (gt := gVal (gOp2 dIsN (gCallF 2 F_law_over (gCons (gV 0) (gCons (gV 5) (gNil)))) (gC .non))) (ge := gV 5) (Γ := [some (queD false c), some places, some (.lst ((begun c i).map rowD)), some (.int i), some (.lst ((longer c i (begun c i)).map rowD)), none, none]) (M := M) rowD rowD (fun q => decide (qo q 0 0 c = none)) (longer c i (begun c i)) [] (by simp; omega) fun q _ => by
      have co := c_lover c q M
      have iN := isN_opt M (qo q 0 0 c)
      exact ⟨[some (queD false c), some places, some (.lst ((begun c i).map rowD)), some (.int i), some (.lst ((longer c i (begun c i)).map rowD)), some (rowD q), none], by simp, by simp [rowD, co, iN], fun _ => by simp⟩
    simp only [eb, List.nil_append] at ks2
    rw [rngL]
    refine (forL_cons (Γ1 := [some (queD false c), some places, some (.lst ((begun c i).map rowD)), some (.int i), none, none, none]) (by simp) ?_).trans e2
    simp [lb_law_begun_1, li, ks2, clean, hpl]
theorem m_begun {c : Que} (hc : OkQ c) (b : Nat) (hb : ∀ i, (ownQ c i + 1).toNat ≤ b) (hbb : b ^ c.length * b ≤ 100000) (hb1 : 1 ≤ b) : F_law_begun [queD false c, .int c.length] [] = .ok (.lst ((begun c c.length).map rowD)) [] := by
  have hl := hc.l
  have k := begun_loop hc (.int c.length) (by simp) b hb hbb hb1 c.length 0 (by omega)
  rw [Nat.zero_add] at k
  have k0 : gForL (gTo 3) lb_law_begun_1 (rngL 0 c.length) [some (queD false c), some (.int c.length), some (.lst [.tup []]), none, none, none, none] [] = _ := k
  have i1 : Bk.inR (c.length : Int) = true := inR_i (by omega) (by omega)
  simp [F_law_begun, b_law_begun, runF, i1, k0]
end My

set_option Elab.async false
set_option linter.all false
set_option maxRecDepth 100000
set_option maxHeartbeats 4000000
namespace My
open PySem PySem.Spec PyProof.Rows L2 Bk
/-! ### numbers of rows -/
/-- the ways with more than b busy on the first day -/
def above (p : Int × Int) (r : Que) (b : Int) : Int := ((intR (b + 1) (top (p :: r) - b).toNat).map fun x => wy r (max0 (x - p.2))).sum
def numQ : Que → Int → List Int → Int
  | p :: r, w, k :: ks => above p r (w + k) + numQ r (max0 (w + k - p.2)) ks
  | _, _, _ => 0
def Rw : Que → Int → List Int → Prop
  | [], _, [] => True
  | p :: r, w, k :: ks => 0 ≤ k ∧ w + k ≤ top (p :: r) ∧ Rw r (max0 (w + k - p.2)) ks
  | _, _, _ => False
theorem above_step {p : Int × Int} {r : Que} {b : Int} (h : b ≤ top (p :: r)) : above p r (b - 1) = wy r (max0 (b - p.2)) + above p r b := by
  unfold above
  have e : (top (p :: r) - (b - 1)).toNat = (top (p :: r) - b).toNat + 1 := by omega
  have e2 : b - 1 + 1 = b := by omega
  rw [e, e2, intR, List.map_cons, List.sum_cons]
theorem above_top {p : Int × Int} {r : Que} : above p r (top (p :: r)) = 0 := by
  unfold above
  have e : (top (p :: r) - top (p :: r)).toNat = 0 := by omega
  rw [e]
  rfl
theorem above_wy {p : Int × Int} {r : Que} {w : Int} (h0 : 0 ≤ w) (h1 : w ≤ top (p :: r)) : wy (p :: r) w = above p r (w - 1) := by
  rw [wy_cons h0 h1]
  unfold above
  have e : (top (p :: r) - (w - 1)).toNat = (top (p :: r) - w + 1).toNat := by omega
  have e2 : w - 1 + 1 = w := by omega
  rw [e, e2]
theorem mle {p : Int × Int} {r : Que} (h : ∀ x ∈ p :: r, OkN x) {b : Int} (hb : b ≤ top (p :: r)) : max0 (b - p.2) ≤ top r := by
  have hr : ∀ x ∈ r, OkN x := fun x hx => h x (by simp [hx])
  have et : top (p :: r) = if top r + p.2 < p.1 then top r + p.2 else p.1 := rfl
  have t := top_in hr
  exact max0_le (by rw [et] at hb; split at hb <;> omega) t.1
theorem above_anti {p : Int × Int} {r : Que} (h : ∀ x ∈ p :: r, OkN x) : ∀ (d : Nat) (b : Int), b ≤ top (p :: r) → above p r b ≤ above p r (b - d)
  | 0, b, _ => by simp
  | d + 1, b, hb => by
    have hr : ∀ x ∈ r, OkN x := fun x hx => h x (by simp [hx])
    have a := above_anti h d b hb
    have s := above_step (p := p) (r := r) (b := b - d) (by omega)
    have := wy_pos hr (max0_pos (b - d - p.2)) (mle h (by omega))
    have e : b - ((d + 1 : Nat) : Int) = b - d - 1 := by push_cast; omega
    rw [e]
    omega
theorem above_le {p : Int × Int} {r : Que} (h : ∀ x ∈ p :: r, OkN x) {a b : Int} (hab : a ≤ b) (hb : b ≤ top (p :: r)) : above p r b ≤ above p r a := by
  have := above_anti h (b - a).toNat b hb
  have e : b - ((b - a).toNat : Int) = a := by omega
  rwa [e] at this
theorem above_pos {p : Int × Int} {r : Que} (h : ∀ x ∈ p :: r, OkN x) {a : Int} (hb : a ≤ top (p :: r)) : 0 ≤ above p r a := by
  have := above_le h hb (Int.le_refl _)
  rwa [above_top] at this
theorem num_lt : ∀ {r : Que} {w : Int} {ks : List Int}, (∀ x ∈ r, OkN x) → 0 ≤ w → w ≤ top r → Rw r w ks → 0 ≤ numQ r w ks ∧ numQ r w ks < wy r w
  | [], w, [], _, h0, h1, _ => by
    have : w ≤ 12 := h1
    rw [wy_nil h0 this]
    exact ⟨Int.le_refl _, show (0 : Int) < 1 by decide⟩
  | [], w, _ :: _, _, _, _, h => h.elim
  | p :: r, w, [], _, _, _, h => h.elim
  | p :: r, w, k :: ks, h, h0, h1, ⟨a, b, c⟩ => by
    have hr : ∀ x ∈ r, OkN x := fun x hx => h x (by simp [hx])
    have ih := num_lt hr (max0_pos _) (mle h b) c
    have e : numQ (p :: r) w (k :: ks) = above p r (w + k) + numQ r (max0 (w + k - p.2)) ks := rfl
    rw [e, above_wy h0 h1]
    have s := above_step (p := p) (r := r) b
    have q := above_pos h b
    have l := above_le h (a := w - 1) (b := w + k - 1) (by omega) (by omega)
    omega
theorem num_order : ∀ {r : Que} {w : Int} {ks ms : List Int}, (∀ x ∈ r, OkN x) → 0 ≤ w → w ≤ top r → Rw r w ks → Rw r w ms → numQ r w ks < numQ r w ms →
    ∃ j, j < ks.length ∧ j < ms.length ∧ (∀ m, m < j → ms.getD m 0 = ks.getD m 0) ∧ ms.getD j 0 < ks.getD j 0
  | [], w, [], [], _, _, _, _, _, h => absurd h (by simp [numQ])
  | [], w, _ :: _, _, _, _, _, h, _, _ => h.elim
  | [], w, [], _ :: _, _, _, _, _, h, _ => h.elim
  | p :: r, w, [], _, _, _, _, h, _, _ => h.elim
  | p :: r, w, _ :: _, [], _, _, _, _, h, _ => h.elim
  | p :: r, w, k :: ks, m :: ms, h, h0, h1, ⟨a, b, c⟩, ⟨a', b', c'⟩, lt => by
    have hr : ∀ x ∈ r, OkN x := fun x hx => h x (by simp [hx])
    have e : numQ (p :: r) w (k :: ks) = above p r (w + k) + numQ r (max0 (w + k - p.2)) ks := rfl
    have e' : numQ (p :: r) w (m :: ms) = above p r (w + m) + numQ r (max0 (w + m - p.2)) ms := rfl
    rw [e, e'] at lt
    by_cases q : k = m
    · subst q
      obtain ⟨j, h1, h2, h3, h4⟩ := num_order hr (max0_pos _) (mle h b) c c' (by omega)
      refine ⟨j + 1, by simp; omega, by simp; omega, fun i hi => ?_, by simpa using h4⟩
      cases i with
      | zero => rfl
      | succ i => simpa using h3 i (by omega)
    · by_cases q2 : m < k
      · exact ⟨0, by simp, by simp, fun i hi => absurd hi (Nat.not_lt_zero _), by simpa using q2⟩
      · exfalso
        have i1 := num_lt hr (max0_pos _) (mle h b) c
        have i2 := num_lt hr (max0_pos _) (mle h b') c'
        have s := above_step (p := p) (r := r) b'
        have l := above_le h (a := w + k) (b := w + m - 1) (by omega) (by omega)
        omega
theorem num_inj {r : Que} {w : Int} {ks ms : List Int} (h : ∀ x ∈ r, OkN x) (h0 : 0 ≤ w) (h1 : w ≤ top r) : Rw r w ks → Rw r w ms → numQ r w ks = numQ r w ms → ks = ms := by
  induction r generalizing w ks ms with
  | nil => intro a b _; cases ks with
    | nil => cases ms with
      | nil => rfl
      | cons _ _ => exact b.elim
    | cons _ _ => exact a.elim
  | cons p r ih =>
    intro x y e
    cases ks with
    | nil => exact x.elim
    | cons k ks =>
      cases ms with
      | nil => exact y.elim
      | cons m ms =>
        obtain ⟨a, b, c⟩ := x
        obtain ⟨a', b', c'⟩ := y
        have hr : ∀ x ∈ r, OkN x := fun x hx => h x (by simp [hx])
        have i1 := num_lt hr (max0_pos _) (mle h b) c
        have i2 := num_lt hr (max0_pos _) (mle h b') c'
        have e1 : numQ (p :: r) w (k :: ks) = above p r (w + k) + numQ r (max0 (w + k - p.2)) ks := rfl
        have e2 : numQ (p :: r) w (m :: ms) = above p r (w + m) + numQ r (max0 (w + m - p.2)) ms := rfl
        rw [e1, e2] at e
        have km : k = m := by
          rcases Int.lt_trichotomy k m with q | q | q
          · exfalso
            have s := above_step (p := p) (r := r) b'
            have l := above_le h (a := w + k) (b := w + m - 1) (by omega) (by omega)
            omega
          · exact q
          · exfalso
            have s := above_step (p := p) (r := r) b
            have l := above_le h (a := w + m) (b := w + k - 1) (by omega) (by omega)
            omega
        subst km
        rw [ih hr (max0_pos _) (mle h b) c c' (by omega)]
theorem Rw_length : ∀ {r : Que} {w : Int} {ks : List Int}, Rw r w ks → ks.length = r.length
  | [], _, [], _ => rfl
  | [], _, _ :: _, h => h.elim
  | _ :: _, _, [], h => h.elim
  | p :: r, w, k :: ks, h => by simp [Rw_length h.2.2]
theorem drop_at {c : Que} {i : Nat} (hl : i < c.length) : ∃ p, c[i]? = some p ∧ c.drop i = p :: c.drop (i + 1) :=
  ⟨c[i], List.getElem?_eq_getElem hl, List.drop_eq_getElem_cons hl⟩
theorem qo_le {ms : List Int} : ∀ {r : Que} {i : Nat} {w : Int}, (∀ p ∈ r, OkN p) → (∀ n ∈ ms, 0 ≤ n) → 0 ≤ w → qo ms i w r = none → r = [] ∨ w ≤ top r
  | [], i, w, _, _, _, _ => .inl rfl
  | p :: r, i, w, h, hm, hw, f => by
    have b := h p (by simp)
    have b1 := b.a
    have b2 := b.b
    have b3 := b.c
    have hr : ∀ x ∈ r, OkN x := fun x hx => h x (by simp [hx])
    have t := top_in hr
    have z := nth_pos hm i
    rw [qo] at f
    split at f
    · cases f
    · have ih := qo_le hr hm (max0_pos _) f
      right
      have e : top (p :: r) = if top r + p.2 < p.1 then top r + p.2 else p.1 := rfl
      have m : w - p.2 ≤ top r := by
        rcases ih with ih | ih
        · rw [ih]
          show w - p.2 ≤ 12
          omega
        · unfold max0 at ih
          split at ih <;> omega
      rw [e]
      split <;> omega
/-- a row from a past on is allowed, and so are its beginnings -/
theorem Rw_ok {c : Que} (hc : OkQ c) : ∀ {ks ns : List Int}, OkR c ns → Rw (c.drop ns.length) (wt c ns) ks → ∀ m, OkR c (ns ++ ks.take m)
  | [], ns, h, _, m => by simpa using h
  | k :: ks, ns, h, hw, 0 => by simpa using h
  | k :: ks, ns, h, hw, m + 1 => by
    have hl : ns.length < c.length := by
      have := Rw_length hw
      rw [List.length_drop] at this
      simp at this
      omega
    obtain ⟨p, hp, hd⟩ := drop_at hl
    rw [hd] at hw
    obtain ⟨a, b, d⟩ := hw
    have g : k ≤ gnq c ns := by unfold gnq; rw [hd]; omega
    have ok := h.snoc hc hl a g
    have := Rw_ok hc (ks := ks) ok (by rw [wt_snoc hp, List.length_append, List.length_singleton]; exact d) m
    simpa using this
theorem Rw_ok0 {c : Que} (hc : OkQ c) {ks : List Int} (h : Rw c 0 ks) (m : Nat) : OkR c (ks.take m) := by
  have := Rw_ok hc (ns := []) (nil_ok hc) (by simpa [wt, wend] using h) m
  simpa using this
/-- allowed rows are such -/
theorem ok_Rw {c : Que} (hc : OkQ c) : ∀ (n : Nat) {ns ks : List Int}, n = ks.length → OkR c ns → OkR c (ns ++ ks) → (ns ++ ks).length = c.length → Rw (c.drop ns.length) (wt c ns) ks
  | 0, ns, ks, hn, h, h2, l => by
    have : ks = [] := List.eq_nil_of_length_eq_zero hn.symm
    subst this
    rw [List.append_nil] at l
    rw [List.drop_eq_nil_of_le (by omega)]
    trivial
  | n + 1, ns, [], hn, _, _, _ => by simp at hn
  | n + 1, ns, k :: ks, hn, h, h2, l => by
    have hl : ns.length < c.length := by simp at l; omega
    obtain ⟨p, hp, hd⟩ := drop_at hl
    have k0 : 0 ≤ k := h2.p k (by simp)
    have e : ns ++ k :: ks = (ns ++ [k]) ++ ks := by simp
    have q : qo (ns ++ [k]) 0 0 c = none := by
      have ec : c = c.take (ns.length + 1) ++ c.drop (ns.length + 1) := (List.take_append_drop _ _).symm
      have tl : (c.take (ns.length + 1)).length = ns.length + 1 := by rw [List.length_take]; omega
      have f := h2.f
      rw [ec, qo_app] at f ⊢
      obtain ⟨f1, f2⟩ := f
      have cg := qo_congr (ns := ns ++ k :: ks) (ms := ns ++ [k]) (c.take (ns.length + 1)) 0 0 fun j _ hj => by rw [e]; exact nth_in (by simp; omega)
      refine ⟨cg.1 ▸ f1, ?_⟩
      rw [tl] at f2 ⊢
      have vd : ∀ p ∈ c.drop (ns.length + 1), OkN p := fun p hp => hc.v p (List.mem_of_mem_drop hp)
      have z := qo_zero (ns := ns ++ [k]) (r := c.drop (ns.length + 1)) (i := 0 + (ns.length + 1)) (w := wend (ns ++ [k]) 0 0 (c.take (ns.length + 1))) vd (by simp) (wend_pos _ _ _ _ (Int.le_refl _))
      rw [z]
      rw [cg.2] at f2
      exact qo_le vd (fun n hn => h2.p n hn) (wend_pos _ _ _ _ (Int.le_refl _)) f2
    have ok : OkR c (ns ++ [k]) := ⟨by simp; omega, fun n hn => by
      rcases List.mem_append.mp hn with x | x
      · exact h.p n x
      · have : n = k := by simpa using x
        omega, q⟩
    have g := (qo_snoc hc h hl k0).mp q
    have ih := ok_Rw hc n (ns := ns ++ [k]) (ks := ks) (by simp at hn; omega) ok (e ▸ h2) (by rw [← e]; exact l)
    rw [wt_snoc hp, List.length_append, List.length_singleton] at ih
    rw [hd]
    refine ⟨k0, ?_, ih⟩
    unfold gnq at g
    rw [hd] at g
    omega
theorem ok_Rw0 {c : Que} (hc : OkQ c) {ks : List Int} (h : OkR c ks) (l : ks.length = c.length) : Rw c 0 ks := by
  have := ok_Rw hc ks.length (ns := []) rfl (nil_ok hc) (by simpa using h) (by simpa using l)
  simpa [wt, wend] using this
end My

set_option Elab.async false
set_option linter.all false
set_option maxRecDepth 100000
set_option maxHeartbeats 4000000
namespace My
open PySem PySem.Spec PyProof.Rows L2 Bk
/-! ### the place of a row among all rows is its number -/
theorem begun_step {c : Que} (hc : OkQ c) {i : Nat} (hi : i + 1 ≤ c.length) : begun c (i + 1) = (begun c i).flatMap fun p => (down (gnq c p)).map fun k => p ++ [k] := by
    show (longer c i (begun c i)).filter _ = _
    unfold longer
    have key : ∀ l : List (List Int), (∀ p ∈ l, OkR c p ∧ p.length = i) → ((l.flatMap fun p => (down (ownQ c i)).map fun k => p ++ [k]).filter fun q => decide (qo q 0 0 c = none)) = l.flatMap fun p => (down (gnq c p)).map fun k => p ++ [k] := by
      intro l
      induction l with
      | nil => intro _; rfl
      | cons p l ih =>
        intro h
        obtain ⟨a, b⟩ := h p (by simp)
        rw [List.flatMap_cons, List.flatMap_cons, List.filter_append, ih fun x hx => h x (by simp [hx])]
        congr 1
        rw [List.filter_map]
        have g0 := gnq_pos hc a (by omega)
        have g1 := gnq_own (c := c) (ns := p) (by omega)
        rw [b] at g1
        rw [← down_filter g0 g1]
        congr 1
        apply List.filter_congr
        intro k hk
        have k0 : 0 ≤ k := by
          have := mem_intR.mp (List.mem_reverse.mp hk)
          omega
        have := qo_snoc hc a (by omega) (k := k) k0
        simp only [Function.comp]
        rw [decide_eq_decide]
        exact this
    exact key _ (begun_ok hc i (by omega))
/-- each place holds what comes before it -/
def Pre {α : Type} (f g : α → Int) : Int → List α → Prop
  | _, [] => True
  | a, x :: l => g x = a ∧ Pre f g (a + f x) l
theorem Pre_app {α : Type} {f g : α → Int} : ∀ {l l' : List α} {a : Int}, Pre f g a l → Pre f g (a + (l.map f).sum) l' → Pre f g a (l ++ l')
  | [], l', a, _, h => by simpa using h
  | x :: l, l', a, h, h' => by
    refine ⟨h.1, Pre_app h.2 ?_⟩
    rw [List.map_cons, List.sum_cons] at h'
    have e : a + f x + (l.map f).sum = a + (f x + (l.map f).sum) := by omega
    rw [e]
    exact h'
theorem Pre_flat {α β : Type} {f g : α → Int} {f' g' : β → Int} {h : α → List β} : ∀ {l : List α} {a : Int}, (∀ x ∈ l, Pre f' g' (g x) (h x) ∧ ((h x).map f').sum = f x) → Pre f g a l → Pre f' g' a (l.flatMap h)
  | [], _, _, _ => trivial
  | x :: l, a, hx, hp => by
    obtain ⟨e, r⟩ := hp
    obtain ⟨p, s⟩ := hx x (by simp)
    rw [List.flatMap_cons]
    refine Pre_app (e ▸ p) ?_
    rw [s]
    exact Pre_flat (fun y hy => hx y (by simp [hy])) r
theorem Pre_get {α : Type} {f g : α → Int} : ∀ {l : List α} {a : Int}, (∀ x ∈ l, f x = 1) → Pre f g a l → ∀ (i : Nat) (x : α), l[i]? = some x → g x = a + i
  | [], _, _, _, _, _, h => by simp at h
  | y :: l, a, h1, hp, 0, x, h => by
    have : y = x := by simpa using h
    subst this
    rw [hp.1]
    simp
  | y :: l, a, h1, hp, i + 1, x, h => by
    have ih := Pre_get (fun z hz => h1 z (by simp [hz])) hp.2 i x (by simpa using h)
    rw [h1 y (by simp)] at ih
    rw [ih]
    push_cast
    omega
theorem numQ_nil (r : Que) (w : Int) : numQ r w [] = 0 := by cases r <;> rfl
theorem numQ_snoc {c : Que} {P : Int × Int} {k : Int} : ∀ {ks ns : List Int}, c[(ns ++ ks).length]? = some P →
    numQ (c.drop ns.length) (wt c ns) (ks ++ [k]) = numQ (c.drop ns.length) (wt c ns) ks + above P (c.drop ((ns ++ ks).length + 1)) (wt c (ns ++ ks) + k)
  | [], ns, h => by
    rw [List.append_nil] at h ⊢
    have hl : ns.length < c.length := (List.getElem?_eq_some_iff.mp h).1
    obtain ⟨p, hp, hd⟩ := drop_at hl
    rw [h] at hp
    cases hp
    rw [hd, numQ_nil]
    show above P (c.drop (ns.length + 1)) (wt c ns + k) + numQ _ _ [] = _
    rw [numQ_nil]
    omega
  | k0 :: ks, ns, h => by
    have hl : ns.length < c.length := by
      have := (List.getElem?_eq_some_iff.mp h).1
      simp at this
      omega
    obtain ⟨p, hp, hd⟩ := drop_at hl
    have e : ns ++ k0 :: ks = (ns ++ [k0]) ++ ks := by simp
    have ih := numQ_snoc (c := c) (P := P) (k := k) (ks := ks) (ns := ns ++ [k0]) (by rw [← e]; exact h)
    rw [← e, wt_snoc hp, List.length_append, List.length_singleton] at ih
    rw [hd]
    show above p (c.drop (ns.length + 1)) (wt c ns + k0) + numQ (c.drop (ns.length + 1)) (max0 (wt c ns + k0 - p.2)) (ks ++ [k]) = above p (c.drop (ns.length + 1)) (wt c ns + k0) + numQ (c.drop (ns.length + 1)) (max0 (wt c ns + k0 - p.2)) ks + _
    rw [ih]
    omega
theorem numQ_snoc0 {c : Que} {P : Int × Int} {k : Int} {ks : List Int} (h : c[ks.length]? = some P) : numQ c 0 (ks ++ [k]) = numQ c 0 ks + above P (c.drop (ks.length + 1)) (wt c ks + k) := by
  have := numQ_snoc (c := c) (P := P) (k := k) (ks := ks) (ns := []) (by simpa using h)
  simpa [wt, wend] using this
theorem down_cons {j : Int} (h : 0 ≤ j) : down j = j :: down (j - 1) := by
  unfold down
  have e : (j + 1).toNat = (j - 1 + 1).toNat + 1 := by omega
  rw [e, intR_succ, List.reverse_append]
  have e2 : (0 : Int) + ((j - 1 + 1).toNat : Int) = j := by omega
  rw [e2]
  rfl
theorem begun_block {c : Que} {ns : List Int} {P : Int × Int} (hp : c[ns.length]? = some P) (hd : c.drop ns.length = P :: c.drop (ns.length + 1)) : ∀ (n : Nat) (j : Int), j + 1 = n → j ≤ gnq c ns →
    Pre (fun q => wy (c.drop (ns.length + 1)) (wt c q)) (numQ c 0) (numQ c 0 ns + above P (c.drop (ns.length + 1)) (wt c ns + j)) ((down j).map fun k => ns ++ [k])
  | 0, j, h, _ => by
    have : (j + 1).toNat = 0 := by omega
    simp [down, this, intR, Pre]
  | n + 1, j, h, hj => by
    have ih := begun_block hp hd n (j - 1) (by omega) (by omega)
    rw [down_cons (by omega), List.map_cons]
    refine ⟨numQ_snoc0 hp, ?_⟩
    have s := above_step (p := P) (r := c.drop (ns.length + 1)) (b := wt c ns + j) (by unfold gnq at hj; rw [hd] at hj; omega)
    have e : wt c ns + (j - 1) = wt c ns + j - 1 := by omega
    rw [e, s] at ih
    show Pre _ (numQ c 0) (numQ c 0 ns + above P (c.drop (ns.length + 1)) (wt c ns + j) + wy (c.drop (ns.length + 1)) (wt c (ns ++ [j]))) _
    rw [wt_snoc hp]
    have e2 : numQ c 0 ns + above P (c.drop (ns.length + 1)) (wt c ns + j) + wy (c.drop (ns.length + 1)) (max0 (wt c ns + j - P.2)) = numQ c 0 ns + (wy (c.drop (ns.length + 1)) (max0 (wt c ns + j - P.2)) + above P (c.drop (ns.length + 1)) (wt c ns + j)) := by omega
    rw [e2]
    exact ih
theorem begun_pre {c : Que} (hc : OkQ c) : ∀ i, i ≤ c.length → Pre (fun q => wy (c.drop i) (wt c q)) (numQ c 0) 0 (begun c i)
  | 0, _ => ⟨numQ_nil _ _, trivial⟩
  | i + 1, hi => by
    rw [begun_step hc hi]
    refine Pre_flat (fun ns hn => ?_) (begun_pre hc i (by omega))
    obtain ⟨ok, l⟩ := begun_ok hc i (by omega) ns hn
    subst l
    obtain ⟨P, hp, hd⟩ := drop_at (c := c) (i := ns.length) (by omega)
    have g := gnq_pos hc ok (by omega)
    have b := begun_block hp hd (gnq c ns + 1).toNat (gnq c ns) (by omega) (Int.le_refl _)
    have e : wt c ns + gnq c ns = top (P :: c.drop (ns.length + 1)) := by unfold gnq; rw [hd]; omega
    rw [e, above_top, Int.add_zero] at b
    refine ⟨b, ?_⟩
    rw [List.map_map, wy_step hc ok (by omega)]
    rfl
theorem begun_num {c : Que} (hc : OkQ c) {i : Nat} {q : List Int} (h : (begun c c.length)[i]? = some q) : Rw c 0 q ∧ numQ c 0 q = i := by
  obtain ⟨ok, l⟩ := begun_ok hc c.length (Nat.le_refl _) q (List.mem_of_getElem? h)
  have := Pre_get (fun p hp => by
    obtain ⟨a, b⟩ := begun_ok hc c.length (Nat.le_refl _) p hp
    have w1 := wt_le hc a
    rw [b] at w1
    rw [List.drop_eq_nil_of_le (Nat.le_refl _)] at w1 ⊢
    exact wy_nil (wt_pos c p) w1) (begun_pre hc c.length (Nat.le_refl _)) i q h
  exact ⟨ok_Rw0 hc ok l, by rw [this]; omega⟩
theorem begun_has {c : Que} (hc : OkQ c) {q : List Int} (h : Rw c 0 q) : (begun c c.length)[(numQ c 0 q).toNat]? = some q := by
  have t := top_in hc.v
  have b := num_lt hc.v (Int.le_refl _) t.1 h
  have n := begun_count hc
  have lt : (numQ c 0 q).toNat < (begun c c.length).length := by omega
  obtain ⟨x, hx⟩ : ∃ x, (begun c c.length)[(numQ c 0 q).toNat]? = some x := ⟨_, List.getElem?_eq_getElem lt⟩
  obtain ⟨r, e⟩ := begun_num hc hx
  have : x = q := num_inj hc.v (Int.le_refl _) t.1 r h (by rw [e]; omega)
  rw [hx, this]
end My

set_option Elab.async false
set_option linter.all false
set_option maxRecDepth 100000
set_option maxHeartbeats 4000000
namespace My
open PySem PySem.Spec PyProof.Rows L2 Bk
theorem m_wayson (t : Bool) {c : Que} (hc : OkQ c) {i : Nat} {P : Int × Int} (hp : c[i]? = some P) {b : Int} (hb : max0 (b - P.2) ≤ top (c.drop (i + 1))) : F_Rooms_ways_on [.ref 0, .int i, .int b] [roomsO t c] = .ok (.int (wy (c.drop (i + 1)) (max0 (b - P.2)))) [roomsO t c] := by
  have hl : i < c.length := (List.getElem?_eq_some_iff.mp hp).1
  have hl2 := hc.l
  have vd : ∀ p ∈ c.drop (i + 1), OkN p := fun p hp => hc.v p (List.mem_of_mem_drop hp)
  have wl1 := ways_length vd
  have w0 := max0_pos (b - P.2)
  have tx : dIx [roomsO t c] (.lst ((waysDn c).map rowI)) (.int (i + 1)) = some (rowI (ways (c.drop (i + 1)))) := by
    have : ((i : Int) + 1) = ((i + 1 : Nat) : Int) := by push_cast; rfl
    rw [e_ix, this]
    simp only [itemsD_l, Option.bind_some]
    rw [Bk.atI_nat, List.getElem?_map, waysDn_get c (i + 1) (by omega)]
    rfl
  have qx : dIx [roomsO t c] (queD t c) (.int i) = some (entQ P) := by
    rw [e_ix]
    simp only [queD_items, Option.bind_some]
    rw [Bk.atI_nat, List.getElem?_map, hp]
    rfl
  have px : ∀ M, dIx M (entQ P) (.int 1) = some (.int P.2) := fun M => by simp [entQ]
  have gx := getD_ix (l := ways (c.drop (i + 1))) w0 (by omega) [roomsO t c]
  have mx : (if P.2 < b then b - P.2 else 0) = max0 (b - P.2) := by unfold max0; split <;> split <;> omega
  have bo' := roomsO_bl 1 t c
  simp only [roomsO] at tx qx gx bo' ⊢
  simp [-e_ix, F_Rooms_ways_on, b_Rooms_ways_on, runF, List.lookup, tx, qx, px, mx, gx, wy]
theorem c_wayson (t : Bool) {c : Que} (hc : OkQ c) {i : Nat} {P : Int × Int} (hp : c[i]? = some P) {b : Int} (hb : max0 (b - P.2) ≤ top (c.drop (i + 1))) (R : List MO) : callF F_Rooms_ways_on [.ref 0, .int i, .int b] (roomsO t c :: R) = .ok (.int (wy (c.drop (i + 1)) (max0 (b - P.2)))) (roomsO t c :: R) := by
  have := c_lend1 (k := 0) (M := roomsO t c :: R) (m_wayson t hc hp hb) rfl rfl (roomsO_bl 0 t c) (roomsO_bl 0 t c) (by simp) (by simp)
  rw [this]
  rfl
theorem io_on (t : Bool) (c : Que) (R : List MO) : isObj "Rooms" "ways_on" (roomsO t c :: R) (.ref 0) = true := by simp [roomsO, List.lookup]
abbrev EN (n : D) (w day own md busy : Option D) : Bk.Env := [some (.ref 0), some n, some (.ref 1), w, day, own, md, busy]
/-- from the greatest number down, until it is reached -/
theorem pick (t : Bool) {c : Que} (hc : OkQ c) {i : Nat} {P : Int × Int} (hp : c[i]? = some P) {w : Int} (hw : 0 ≤ w) (O : MO) : ∀ (j N : Nat) (b n : Int), b = w + j → b ≤ top (P :: c.drop (i + 1)) → 0 ≤ n → n + above P (c.drop (i + 1)) b < above P (c.drop (i + 1)) (w - 1) → j < N →
    ∃ b' n', w ≤ b' ∧ b' ≤ top (P :: c.drop (i + 1)) ∧ 0 ≤ n' ∧ n' < wy (c.drop (i + 1)) (max0 (b' - P.2)) ∧ n' + above P (c.drop (i + 1)) b' = n + above P (c.drop (i + 1)) b ∧
      gWhile lw_Rooms_numbered_row_2 lb_Rooms_numbered_row_2 N (EN (.int n) (some (.int w)) (some (.int i)) (some (.int P.1)) (some (.int P.2)) (some (.int b))) [roomsO t c, O]
      = .nx (EN (.int n') (some (.int w)) (some (.int i)) (some (.int P.1)) (some (.int P.2)) (some (.int b'))) [roomsO t c, O]
  | j, 0, b, n, _, _, _, _, h => absurd h (Nat.not_lt_zero _)
  | j, N + 1, b, n, e, hb, h0, h1, hN => by
    have hl : i < c.length := (List.getElem?_eq_some_iff.mp hp).1
    have vd : ∀ p ∈ P :: c.drop (i + 1), OkN p := fun p hp' => by
      rcases List.mem_cons.mp hp' with rfl | q
      · exact hc.v _ (List.mem_of_getElem? hp)
      · exact hc.v p (List.mem_of_mem_drop q)
    have ml := mle vd hb
    have cw := c_wayson t hc hp ml [O]
    have io := io_on t c [O]
    have s := above_step (p := P) (r := c.drop (i + 1)) hb
    by_cases q : wy (c.drop (i + 1)) (max0 (b - P.2)) ≤ n
    · have jn : j ≠ 0 := fun z => by
        have eb : b = w := by rw [e, z]; simp
        rw [eb] at s q h1
        omega
      have e1 : b - 1 = w + ((j - 1 : Nat) : Int) := by omega
      obtain ⟨b', n', a1, a2, a3, a4, a5, a6⟩ := pick t hc hp hw O (j - 1) N (b - 1) (n - wy (c.drop (i + 1)) (max0 (b - P.2))) e1 (by omega) (by omega) (by omega) (by omega)
      refine ⟨b', n', a1, a2, a3, a4, by omega, ?_⟩
      refine (while_go (M1 := [roomsO t c, O]) (Γ2 := EN (.int (n - wy (c.drop (i + 1)) (max0 (b - P.2)))) (some (.int w)) (some (.int i)) (some (.int P.1)) (some (.int P.2)) (some (.int (b - 1)))) (M2 := [roomsO t c, O]) ?_ ?_).trans a6
      · simp [-u_isObj, lw_Rooms_numbered_row_2, EN, io, cw, q]
      · simp [-u_isObj, lb_Rooms_numbered_row_2, EN, io, cw]
    · refine ⟨b, n, by omega, hb, h0, by omega, rfl, ?_⟩
      exact while_end (M1 := [roomsO t c, O]) (by simp [-u_isObj, lw_Rooms_numbered_row_2, EN, io, cw, q])
theorem tops_ix (t : Bool) {c : Que} {i : Nat} (hl : i ≤ c.length) (M : List MO) : dIx M (.lst ((topsDn c).map D.int)) (.int i) = some (.int (top (c.drop i))) := by
  rw [e_ix]
  simp [Bk.atI_nat, topsDn_get c i hl]
theorem row_loop (t : Bool) {c : Que} (hc : OkQ c) : ∀ (r : Que) (i : Nat) (w n : Int) (acc : List Int), c.drop i = r → i + r.length = c.length → acc.length = i → 0 ≤ w → w ≤ top r → 0 ≤ n → n < wy r w →
    ∃ (row : List Int) (n' w' : Int), Rw r w row ∧ numQ r w row = n ∧ gForL (gToT (gToCons (gTo 4) (gToCons (gToT (gToCons (gTo 5) (gToCons (gTo 6) (gToNil)))) (gToNil)))) lb_Rooms_numbered_row_1 (enumL i (r.map entQ)) (EN (.int n) (some (.int w)) none none none none) [roomsO t c, .lst (acc.map D.int)]
      = .nx (EN (.int n') (some (.int w')) none none none none) [roomsO t c, .lst ((acc ++ row).map D.int)]
  | [], i, w, n, acc, hd, hlen, ha, h0, h1, h2, h3 => by
    have : w ≤ 12 := h1
    rw [wy_nil h0 this] at h3
    exact ⟨[], n, w, trivial, by simp [numQ]; omega, by simp [enumL]⟩
  | P :: r, i, w, n, acc, hd, hlen, ha, h0, h1, h2, h3 => by
    have sz : 1000 ≤ sizeLine := by rw [sizeLine_eq]; omega
    have hcl := hc.l
    have hl : i < c.length := by simp at hlen; omega
    obtain ⟨P', hp, hd'⟩ := drop_at hl
    rw [hd] at hd'
    obtain ⟨rfl, hr⟩ := List.cons_eq_cons.mp hd'
    have vd : ∀ p ∈ P :: r, OkN p := fun p hp' => by
      rcases List.mem_cons.mp hp' with rfl | q
      · exact hc.v _ (List.mem_of_getElem? hp)
      · exact hc.v p (by rw [hr] at q; exact List.mem_of_mem_drop q)
    subst hr
    have at0 := above_top (p := P) (r := c.drop (i + 1))
    rw [above_wy h0 h1] at h3
    obtain ⟨b', n', a1, a2, a3, a4, a5, a6⟩ := pick t hc hp h0 (.lst (acc.map D.int)) (top (P :: c.drop (i + 1)) - w).toNat 1000000000 (top (P :: c.drop (i + 1))) n (by omega) (Int.le_refl _) h2 (by omega) (by have := top_in vd; omega)
    have ml := mle vd a2
    obtain ⟨row, n2, w2, r1, r2, r3⟩ := row_loop t hc (c.drop (i + 1)) (i + 1) (max0 (b' - P.2)) n' (acc ++ [b' - w]) rfl (by rw [List.length_drop]; omega) (by simp; omega) (max0_pos _) ml a3 a4
    have eb : w + (b' - w) = b' := by omega
    refine ⟨(b' - w) :: row, n2, w2, ⟨by omega, by omega, by rw [eb]; exact r1⟩, ?_, ?_⟩
    · show above P (c.drop (i + 1)) (w + (b' - w)) + numQ (c.drop (i + 1)) (max0 (w + (b' - w) - P.2)) row = n
      rw [eb, r2]
      omega
    · have tx := tops_ix t (c := c) (i := i) (by omega) [roomsO t c, .lst (acc.map D.int)]
      rw [hd] at tx
      have mx : (if P.2 < b' then b' - P.2 else 0) = max0 (b' - P.2) := by unfold max0; split <;> split <;> omega
      have q : acc.length < sizeLine := by omega
      have ci : ((i : Int) + 1) = ((i + 1 : Nat) : Int) := by push_cast; rfl
      rw [List.append_assoc] at r3
      rw [List.map_cons, enumL, ci]
      refine (forL_cons (Γ1 := EN (.int n) (some (.int w)) (some (.int i)) (some (.int P.1)) (some (.int P.2)) none) (by simp [entQ, EN]) ?_).trans r3
      have fx : ∀ O, (roomsO t c :: O)[0]? = some (roomsO t c) := fun O => rfl
      simp only [EN] at a6
      have a6' := a6
      simp only [roomsO] at tx a6' ⊢
      simp [-e_ix, lb_Rooms_numbered_row_1, EN, List.lookup, listD, tx, a6', mutR, q, mx]
theorem c_top {c : Que} (hc : OkQ c) : 0 ≤ top c := (top_in hc.v).1
theorem m_numbered (t : Bool) {c : Que} (hc : OkQ c) {n : Int} (h0 : 0 ≤ n) (h1 : n < wy c 0) : ∃ row, Rw c 0 row ∧ numQ c 0 row = n ∧ F_Rooms_numbered_row [.ref 0, .int n] [roomsO t c] = .ok (.tup (row.map D.int)) [roomsO t c] := by
  obtain ⟨row, n', w', r1, r2, r3⟩ := row_loop t hc c 0 0 n [] rfl (by simp) rfl (Int.le_refl _) (c_top hc) h0 h1
  refine ⟨row, r1, r2, ?_⟩
  have r3' : gForL _ lb_Rooms_numbered_row_1 (enumL 0 (c.map entQ)) (EN (.int n) (some (.int 0)) none none none none) [roomsO t c, .lst []] = _ := r3
  simp only [EN, roomsO] at r3' ⊢
  simp [-e_ix, F_Rooms_numbered_row, b_Rooms_numbered_row, runF, List.lookup, listD, r3', EN, dTuple]
  done
theorem io_nr (t : Bool) (c : Que) (R : List MO) : isObj "Rooms" "numbered_row" (roomsO t c :: R) (.ref 0) = true := by simp [roomsO, List.lookup]
theorem io_no (t : Bool) (c : Que) (R : List MO) : isObj "Rooms" "number_of_row" (roomsO t c :: R) (.ref 0) = true := by simp [roomsO, List.lookup]
theorem m_rowat (t : Bool) {c : Que} (hc : OkQ c) {n : Int} (h0 : 0 ≤ n) (h1 : n < wy c 0) : ∃ row, Rw c 0 row ∧ numQ c 0 row = n ∧ F_queue_row_at [queD t c, .int n] [] = .ok (.tup (row.map D.int)) [] := by
  obtain ⟨row, r1, r2, r3⟩ := m_numbered t hc h0 h1
  refine ⟨row, r1, r2, ?_⟩
  have cn := c_rooms t hc []
  have cr := c_ways t hc (nil_ok hc) []
  simp only [List.nil_append, List.length_nil, List.map_nil, List.drop_zero, wt_nil] at cn cr
  have io := io_ways t c
  have io2 := io_nr t c []
  have c3 := c_lend1 (k := 0) (M := [roomsO t c]) r3 rfl rfl (roomsO_bl 0 t c) (roomsO_bl 0 t c) (by simp) (by simp)
  have q : ¬ wy c 0 ≤ n := by omega
  simp only [List.set_cons_zero] at c3
  simp [-u_isObj, F_queue_row_at, b_queue_row_at, runF, c_reqq t hc, cn, c_atleast, h0, cr, io, q, io2, c3]
  done
end My

set_option Elab.async false
set_option linter.all false
set_option maxRecDepth 100000
set_option maxHeartbeats 4000000
namespace My
open PySem PySem.Spec PyProof.Rows L2 Bk
abbrev EO (row : D) (f w : Int) (day broken busy : Option D) : Bk.Env := [some (.ref 0), some row, some (.int f), some (.int w), day, broken, busy]
theorem count_up (t : Bool) {c : Que} (hc : OkQ c) {i : Nat} {P : Int × Int} (hp : c[i]? = some P) (hd : c.drop i = P :: c.drop (i + 1)) (row : D) (w k : Int) : ∀ (j N : Nat) (b f : Int), b + j = top (P :: c.drop (i + 1)) → j < N →
    gWhile lw_Rooms_number_of_row_2 lb_Rooms_number_of_row_2 N (EO row f w (some (.int i)) (some (.int k)) (some (.int b))) [roomsO t c]
      = .nx (EO row (f + above P (c.drop (i + 1)) b) w (some (.int i)) (some (.int k)) (some (.int (top (P :: c.drop (i + 1)))))) [roomsO t c]
  | j, 0, b, f, _, h => absurd h (Nat.not_lt_zero _)
  | 0, N + 1, b, f, e, _ => by
    have hl : i < c.length := (List.getElem?_eq_some_iff.mp hp).1
    have tx := tops_ix t (c := c) (i := i) (by omega) [roomsO t c]
    rw [hd] at tx
    have eb : b = top (P :: c.drop (i + 1)) := by simpa using e
    subst eb
    have z := above_top (p := P) (r := c.drop (i + 1))
    rw [z, Int.add_zero]
    refine while_end (M1 := [roomsO t c]) ?_
    simp only [roomsO] at tx ⊢
    simp [-e_ix, lw_Rooms_number_of_row_2, EO, List.lookup, tx]
  | j + 1, N + 1, b, f, e, h => by
    have hl : i < c.length := (List.getElem?_eq_some_iff.mp hp).1
    have vd : ∀ p ∈ P :: c.drop (i + 1), OkN p := fun p hp' => by
      rcases List.mem_cons.mp hp' with rfl | q
      · exact hc.v _ (List.mem_of_getElem? hp)
      · exact hc.v p (List.mem_of_mem_drop q)
    have tx := tops_ix t (c := c) (i := i) (by omega) [roomsO t c]
    rw [hd] at tx
    have lt : b < top (P :: c.drop (i + 1)) := by push_cast at e; omega
    have hb : b + 1 ≤ top (P :: c.drop (i + 1)) := by omega
    have cw := c_wayson t hc hp (mle vd hb) []
    have io := io_on t c []
    have s := above_step (p := P) (r := c.drop (i + 1)) hb
    have e1 : b + 1 - 1 = b := by omega
    rw [e1] at s
    have ih := count_up t hc hp hd row w k j N (b + 1) (f + wy (c.drop (i + 1)) (max0 (b + 1 - P.2))) (by push_cast at e; omega) (by omega)
    have e2 : f + wy (c.drop (i + 1)) (max0 (b + 1 - P.2)) + above P (c.drop (i + 1)) (b + 1) = f + above P (c.drop (i + 1)) b := by omega
    rw [e2] at ih
    refine (while_go (M1 := [roomsO t c]) (Γ2 := EO row (f + wy (c.drop (i + 1)) (max0 (b + 1 - P.2))) w (some (.int i)) (some (.int k)) (some (.int (b + 1)))) (M2 := [roomsO t c]) ?_ ?_).trans ih
    · simp only [roomsO] at tx ⊢
      simp [-e_ix, lw_Rooms_number_of_row_2, EO, List.lookup, tx, lt]
    · simp [-u_isObj, lb_Rooms_number_of_row_2, EO, io, cw]
theorem num_loop (t : Bool) {c : Que} (hc : OkQ c) (row : D) : ∀ (ks : List Int) (r : Que) (i : Nat) (w f : Int), c.drop i = r → i + r.length = c.length → 0 ≤ w → w ≤ top r → Rw r w ks →
    ∃ w', gForL (gToT (gToCons (gTo 4) (gToCons (gTo 5) (gToNil)))) lb_Rooms_number_of_row_1 (enumL i (ks.map D.int)) (EO row f w none none none) [roomsO t c] = .nx (EO row (f + numQ r w ks) w' none none none) [roomsO t c]
  | [], r, i, w, f, _, _, _, _, _ => ⟨w, by rw [numQ_nil]; simp [enumL]⟩
  | k :: ks, [], i, w, f, _, _, _, _, h => h.elim
  | k :: ks, P :: r, i, w, f, hd, hlen, h0, h1, ⟨a, b, d⟩ => by
    have hl : i < c.length := by simp at hlen; omega
    obtain ⟨P', hp, hd'⟩ := drop_at hl
    have hd0 := hd'
    rw [hd] at hd'
    obtain ⟨rfl, hr⟩ := List.cons_eq_cons.mp hd'
    have vd : ∀ p ∈ P :: r, OkN p := fun p hp' => by
      rcases List.mem_cons.mp hp' with rfl | q
      · exact hc.v _ (List.mem_of_getElem? hp)
      · exact hc.v p (by rw [hr] at q; exact List.mem_of_mem_drop q)
    subst hr
    have tt := top_in vd
    have up := count_up t hc hp hd0 row w k (top (P :: c.drop (i + 1)) - (w + k)).toNat 1000000000 (w + k) f (by omega) (by omega)
    obtain ⟨w', ih⟩ := num_loop t hc row ks (c.drop (i + 1)) (i + 1) (max0 (w + k - P.2)) (f + above P (c.drop (i + 1)) (w + k)) rfl (by rw [List.length_drop]; omega) (max0_pos _) (mle vd b) d
    have e1 : f + above P (c.drop (i + 1)) (w + k) + numQ (c.drop (i + 1)) (max0 (w + k - P.2)) ks = f + numQ (P :: c.drop (i + 1)) w (k :: ks) := by
      show _ = f + (above P (c.drop (i + 1)) (w + k) + numQ (c.drop (i + 1)) (max0 (w + k - P.2)) ks)
      omega
    rw [e1] at ih
    refine ⟨w', ?_⟩
    have ci : ((i : Int) + 1) = ((i + 1 : Nat) : Int) := by push_cast; rfl
    have mx : (if P.2 < w + k then w + k - P.2 else 0) = max0 (w + k - P.2) := by unfold max0; split <;> split <;> omega
    have qx : ∀ M, dIx M (queD t c) (.int i) = some (entQ P) := fun M => by
      rw [e_ix]
      simp only [queD_items, Option.bind_some]
      rw [Bk.atI_nat, List.getElem?_map, hp]
      rfl
    have px : ∀ M, dIx M (entQ P) (.int 1) = some (.int P.2) := fun M => by simp [entQ]
    rw [List.map_cons, enumL, ci]
    refine (forL_cons (Γ1 := EO row f w (some (.int i)) (some (.int k)) none) (by simp [EO]) ?_).trans ih
    simp only [EO, roomsO] at up ⊢
    simp [-e_ix, lb_Rooms_number_of_row_1, EO, List.lookup, up, qx, px, mx]
theorem m_numberof (t : Bool) {c : Que} (hc : OkQ c) {ks : List Int} (h : Rw c 0 ks) : F_Rooms_number_of_row [.ref 0, .tup (ks.map D.int)] [roomsO t c] = .ok (.int (numQ c 0 ks)) [roomsO t c] := by
  obtain ⟨w', e⟩ := num_loop t hc (.tup (ks.map D.int)) ks c 0 0 0 rfl (by simp) (Int.le_refl _) (c_top hc) h
  rw [Int.zero_add] at e
  have e' : gForL _ lb_Rooms_number_of_row_1 (enumL 0 (ks.map D.int)) _ [roomsO t c] = _ := e
  simp only [EO] at e'
  simp [F_Rooms_number_of_row, b_Rooms_number_of_row, runF, e', roomsO_bl]
  done
def nOf (c : Que) (ks : List Int) : Option Int := if qo ks 0 0 c = none then some (numQ c 0 ks) else none
theorem m_qnum (t : Bool) {c : Que} (hc : OkQ c) {ks : List Int} (hl : ks.length = c.length) (hk : ∀ n ∈ ks, 0 ≤ n) : F_queue_number_of [queD t c, .tup (ks.map D.int)] [] = .ok (optD (nOf c ks)) [] := by
  have c1 := c_flat (m_reqrowQ t c ks hl hk) [] (by simp) (by simp)
  have cn := c_rooms t hc []
  simp only [List.nil_append, List.length_nil] at cn
  unfold nOf
  cases q : qo ks 0 0 c with
  | some d => simp [-u_isObj, F_queue_number_of, b_queue_number_of, runF, c_reqq t hc, c1, c_qover t ks hc.l, q, optD]
  | none =>
    have ok : OkR c ks := ⟨by omega, hk, q⟩
    have io := io_no t c []
    have c3 := c_lend1 (k := 0) (M := [roomsO t c]) (m_numberof t hc (ok_Rw0 hc ok hl)) rfl rfl (roomsO_bl 0 t c) (roomsO_bl 0 t c) (by simp) (by simp)
    simp only [List.set_cons_zero] at c3
    simp [-u_isObj, F_queue_number_of, b_queue_number_of, runF, c_reqq t hc, c1, c_qover t ks hc.l, q, optD, cn, io, c3]
theorem c_qnum (t : Bool) {c : Que} (hc : OkQ c) {ks : List Int} (hl : ks.length = c.length) (hk : ∀ n ∈ ks, 0 ≤ n) (M : List MO) : callF F_queue_number_of [queD t c, .tup (ks.map D.int)] M = .ok (optD (nOf c ks)) M := c_flat (m_qnum t hc hl hk) M (by simp) (by simp)
theorem c_rowat (t : Bool) {c : Que} (hc : OkQ c) {n : Int} (h0 : 0 ≤ n) (h1 : n < wy c 0) : ∃ row, Rw c 0 row ∧ numQ c 0 row = n ∧ ∀ M, callF F_queue_row_at [queD t c, .int n] M = .ok (.tup (row.map D.int)) M := by
  obtain ⟨row, a, b, e⟩ := m_rowat t hc h0 h1
  exact ⟨row, a, b, fun M => c_flat e M (by simp) (by simp)⟩
end My

set_option Elab.async false
set_option linter.all false
set_option maxRecDepth 100000
set_option maxHeartbeats 4000000
namespace My
open PySem PySem.Spec PyProof.Rows L2 Bk
theorem queue_loopB {most tp same : Int} (h0 : 0 ≤ tp) (h12 : tp ≤ 12) (hs0 : 0 ≤ same) (hs3 : same < 3) : ∀ (n i : Nat) (m : Nat) (acc : Que) (s : Src3), Sk m s → m + 4 * n ≤ 1000000 → acc.length + n ≤ 100 → (∀ p ∈ acc, OkN p ∧ p.1 ≤ tp) →
    ∃ (acc' : Que) (s' : Src3), gForL (gTo 5) lb_law_queue_1 (rngL (i : Int) n) [some (.ref 0), some (.int most), some (.int tp), some (.int same), some (.ref 1), none, none] [srcO s, .lst (acc.map entQ)]
      = .nx [some (.ref 0), some (.int most), some (.int tp), some (.int same), some (.ref 1), none, none] [srcO s', .lst (acc'.map entQ)] ∧ acc'.length = acc.length + n ∧ (∀ p ∈ acc', OkN p ∧ p.1 ≤ tp) ∧ Sk (m + 4 * n) s' := by
  have sz : 2000 ≤ sizeLine := by rw [sizeLine_eq]; omega
  intro n
  induction n with
  | zero => intro i m acc s hs _ _ h; exact ⟨acc, s, by simp [rngL], rfl, h, hs⟩
  | succ n ih =>
    intro i m acc s hs hm hq h
    have z1 : 0 < tp + 1 := by omega
    have z2 : tp + 1 < 4611686018427387904 := by omega
    have s1 := hs.step (tp + 1)
    have s2 := s1.step (tp + 1)
    have s3 := s2.step (tp + 1)
    have s4 := s3.step 3
    have t1 := fun R => t_0 hs (by omega) (tp + 1) R z1 z2
    have t2 := fun R => t_0 s1 (by omega) (tp + 1) R z1 z2
    have t3 := fun R => t_0 s2 (by omega) (tp + 1) R z1 z2
    have t4 := fun R => t_0 s3 (by omega) 3 R (by decide) (by decide)
    obtain ⟨v, ev, hv⟩ := tri_ix (a := tp) (b := tk s (tp + 1)) (c := tk (tn s (tp + 1)) (tp + 1)) hs0 hs3
    obtain ⟨u, eu, hu⟩ := tri_ix (a := 0) (b := 1) (c := tk (tn (tn s (tp + 1)) (tp + 1)) (tp + 1)) (i := tk (tn (tn (tn s (tp + 1)) (tp + 1)) (tp + 1)) 3) (tk_lo _ (by decide)) (tk_hi _ (by decide))
    have a1 := tk_lo s z1
    have a2 := tk_hi s z1
    have b1 := tk_lo (tn s (tp + 1)) z1
    have b2 := tk_hi (tn s (tp + 1)) z1
    have c1 := tk_lo (tn (tn s (tp + 1)) (tp + 1)) z1
    have c2 := tk_hi (tn (tn s (tp + 1)) (tp + 1)) z1
    have on : OkN (v, u) := ⟨by simp only; rcases hv with w | w | w <;> omega, by simp only; rcases hv with w | w | w <;> omega, by simp only; rcases hu with w | w | w <;> omega, by simp only; rcases hu with w | w | w <;> omega⟩
    obtain ⟨acc', s', e', l', f', k'⟩ := ih (i + 1) (m + 1 + 1 + 1 + 1) (acc ++ [(v, u)]) _ s4 (by omega) (by simp; omega) fun p hp => by
      rcases List.mem_append.mp hp with w | w
      · exact h p w
      · have : p = (v, u) := by simpa using w
        rw [this]
        exact ⟨on, by simp only; rcases hv with w | w | w <;> omega⟩
    have e3 : ((i + 1 : Nat) : Int) = (i : Int) + 1 := by omega
    rw [e3] at e'
    have q : acc.length < sizeLine := by omega
    refine ⟨acc', s', ?_, by rw [l']; simp; omega, f', k'.mono (by omega)⟩
    rw [rngL]
    refine (forL_cons (Γ1 := [some (.ref 0), some (.int most), some (.int tp), some (.int same), some (.ref 1), some (.int i), none]) (by simp) ?_).trans e'
    simp [lb_law_queue_1, t1, t2, t3, t4, ev, eu, listD, mutR, q, entQ]
theorem m_lqueueB {most tp : Int} (h0 : 0 ≤ tp) (h12 : tp ≤ 12) (m0 : 0 ≤ most) (m99 : most ≤ 99) {m : Nat} {s : Src3} (hs : Sk m s) (hm : m ≤ 999000) : ∃ (c : Que) (s' : Src3), F_law_queue [.ref 0, .int most, .int tp] [srcO s] = .ok (queD false c) [srcO s'] ∧ OkQ c ∧ (c.length : Int) ≤ most ∧ Sk (m + 402) s' ∧ ∀ p ∈ c, p.1 ≤ tp := by
  have t1 := fun R => t_0 hs (by omega) 3 R (by decide) (by decide)
  have s1 := hs.step 3
  have z1 : 0 < most + 1 := by omega
  have t2 := fun R => t_0 s1 (by omega) (most + 1) R z1 (by omega)
  have s2 := s1.step (most + 1)
  have a1 := tk_lo (tn s 3) z1
  have a2 := tk_hi (tn s 3) z1
  obtain ⟨acc, s', e, l, f, k⟩ := queue_loopB (most := most) h0 h12 (tk_lo s (by decide)) (tk_hi s (by decide)) (tk (tn s 3) (most + 1)).toNat 0 (m + 1 + 1) [] _ s2 (by omega) (by simp; omega) (by simp)
  have e' : gForL (gTo 5) lb_law_queue_1 (rngL 0 (tk (tn s 3) (most + 1)).toNat) _ [_, .lst []] = _ := e
  have i1 : Bk.inR (tk (tn s 3) (most + 1)) = true := inR_i (by omega) (by omega)
  simp only [List.length_nil, Nat.zero_add] at l
  refine ⟨acc, s', ?_, ⟨by omega, fun p hp => (f p hp).1⟩, by omega, k.mono (by omega), fun p hp => (f p hp).2⟩
  simp [F_law_queue, b_law_queue, runF, t1, t2, i1, e', queD]
theorem m_begunN {c : Que} (hc : OkQ c) (b : Nat) (hb : ∀ i, (ownQ c i + 1).toNat ≤ b) (hbb : b ^ c.length * b ≤ 100000) (hb1 : 1 ≤ b) {n : Nat} (hn : n ≤ c.length) : F_law_begun [queD false c, .int n] [] = .ok (.lst ((begun c n).map rowD)) [] := by
  have hl := hc.l
  have k := begun_loop hc (.int n) (by simp) b hb hbb hb1 n 0 (by omega)
  rw [Nat.zero_add] at k
  have k0 : gForL (gTo 3) lb_law_begun_1 (rngL 0 n) [some (queD false c), some (.int n), some (.lst [.tup []]), none, none, none, none] [] = _ := k
  have i1 : Bk.inR (n : Int) = true := inR_i (by omega) (by omega)
  simp [F_law_begun, b_law_begun, runF, i1, k0]
theorem c_begunN {c : Que} (hc : OkQ c) (hl : c.length ≤ 4) (ho : ∀ p ∈ c, p.1 ≤ 3) {n : Nat} (hn : n ≤ c.length) (M : List MO) : callF F_law_begun [queD false c, .int n] M = .ok (.lst ((begun c n).map rowD)) M := by
  have ow : ∀ i, (ownQ c i + 1).toNat ≤ 4 := fun i => by
    unfold ownQ
    rw [List.getD_eq_getElem?_getD]
    cases hx : c[i]? with
    | none => simp
    | some p =>
      have := ho p (List.mem_of_getElem? hx)
      simp
      omega
  have pw : 4 ^ c.length * 4 ≤ 100000 := by
    have a : 4 ^ c.length ≤ 4 ^ 4 := Nat.pow_le_pow_right (by decide) hl
    have : 4 ^ 4 = 256 := by decide
    omega
  exact c_flat (m_begunN hc 4 ow pw (by decide) hn) M (by simp) (by simp)
theorem begun_le {c : Que} (hl : c.length ≤ 4) (ho : ∀ p ∈ c, p.1 ≤ 3) {n : Nat} (hn : n ≤ c.length) : (begun c n).length ≤ 256 := by
  have ow : ∀ i, (ownQ c i + 1).toNat ≤ 4 := fun i => by
    unfold ownQ
    rw [List.getD_eq_getElem?_getD]
    cases hx : c[i]? with
    | none => simp
    | some p =>
      have := ho p (List.mem_of_getElem? hx)
      simp
      omega
  have := begun_size 4 ow n
  have a : 4 ^ n ≤ 4 ^ 4 := Nat.pow_le_pow_right (by decide) (by omega)
  have : 4 ^ 4 = 256 := by decide
  omega
theorem row_eqv : ∀ a b : List Int, PyData.eqvAll (a.map PyData.int) (b.map PyData.int) = decide (a = b)
  | [], [] => by simp [PyData.eqvAll]
  | [], _ :: _ => by simp [PyData.eqvAll]
  | _ :: _, [] => by simp [PyData.eqvAll]
  | x :: a, y :: b => by
    simp only [List.map_cons, PyData.eqvAll, PyData.eqv, row_eqv a b]
    by_cases h : x = y
    · subst h
      simp
    · simp [h]
theorem rowP_eqv (a b : List Int) : PyData.eqv (rowP a) (rowP b) = decide (a = b) := by
  simp only [rowP, PyData.eqv]
  exact row_eqv a b
theorem row_eqD (M : List MO) (a b : List Int) : dEqA M (rowD a) (rowD b) = some (.bl (decide (a = b))) := by
  rw [dEqA_p (eqP_of (row_dt 0 a) (row_dt 0 b) (row_dt 0 a).deref (row_dt 0 b).deref (by decide) (by decide)) (fun _ h => by cases h), rowP_eqv]
theorem rows_ne (M : List MO) (a : List (List Int)) : dNeA M (.lst (a.map rowD)) (.lst (a.map rowD)) = some (.bl false) := by
  have d := (rows_dt 0 a).lst
  rw [dNeA_p (eqP_same d d.deref d.deref (by decide)) (fun _ h => by cases h)]
  rfl
theorem ints_ne (M : List MO) (a : List Int) : dNeA M (.lst (a.map D.int)) (.lst (a.map D.int)) = some (.bl false) := by
  have d := (Dts.ints 0 a).lst
  rw [dNeA_p (eqP_same d d.deref d.deref (by decide)) (fun _ h => by cases h)]
  rfl
theorem row_toV (q : List Int) : toV (rowD q) = none := rfl
theorem rows_in (M : List MO) (q : List Int) (a : List (List Int)) : dInA M (rowD q) (.lst (a.map rowD)) = some (.bl (decide (q ∈ a))) := by
  have d := (rows_dt 0 a).lst
  have e := row_dt 0 q
  have h1 : inP M (rowD q) (.lst (a.map rowD)) = none := rfl
  have s : (SeqAt.shaped (rowP q) && SeqAt.shaped (.list (a.map rowP))) = true := by rw [e.shaped (by decide), d.shaped (by decide)]; rfl
  unfold dInA inAP
  rw [h1]
  unfold inDP
  rw [e.deref, d.deref, e.e, d.e]
  simp only [s, if_true, Option.map_some]
  congr 2
  rw [List.any_map]
  rw [Bool.eq_iff_iff]
  simp only [List.any_eq_true, Function.comp, rowP_eqv, decide_eq_true_eq]
  exact ⟨fun ⟨x, h, e⟩ => e ▸ h, fun h => ⟨q, h, rfl⟩⟩
theorem rows_index (M : List MO) (q : List Int) (a : List (List Int)) {j : Nat} (h : a[j]? = some q) (hu : ∀ m, m < j → a[m]? ≠ some q) : dIndex M (.lst (a.map rowD)) (rowD q) = some (.int j) := by
  have d := (rows_dt 0 a).lst
  have e := row_dt 0 q
  have s : (SeqAt.shaped (.list (a.map rowP)) && SeqAt.shaped (rowP q)) = true := by rw [e.shaped (by decide), d.shaped (by decide)]; rfl
  unfold dIndex
  rw [e.deref, d.deref, e.e, d.e]
  simp only [s, if_true]
  have f : (a.map rowP).findIdx? (fun z => PyData.eqv z (rowP q)) = some j := by
    obtain ⟨hj, hq⟩ := List.getElem?_eq_some_iff.mp h
    rw [List.findIdx?_eq_some_iff_getElem]
    refine ⟨by simpa using hj, by simp [rowP_eqv, hq], fun m hm => ?_⟩
    have : a[m]? ≠ some q := hu m hm
    rw [List.getElem?_eq_getElem (by omega)] at this
    simp only [List.getElem_map, rowP_eqv, decide_eq_true_eq]
    intro z
    exact this (by rw [z])
  rw [f]
  rfl
/-! ### how many rows begin with a past -/
theorem Pre_low {α : Type} {f g : α → Int} : ∀ {l : List α} {a : Int}, (∀ x ∈ l, 1 ≤ f x) → Pre f g a l → ∀ x ∈ l, a ≤ g x
  | [], _, _, _, _, h => by cases h
  | y :: l, a, hf, hp, x, hx => by
    rcases List.mem_cons.mp hx with rfl | h
    · rw [hp.1]; exact Int.le_refl _
    · have := Pre_low (fun z hz => hf z (by simp [hz])) hp.2 x h
      have := hf y (by simp)
      omega
theorem Pre_once {α : Type} [DecidableEq α] {f g : α → Int} : ∀ {l : List α} {a : Int} {p : α}, (∀ x ∈ l, 1 ≤ f x) → Pre f g a l → p ∈ l → l.filter (fun x => decide (x = p)) = [p]
  | [], _, _, _, _, h => by cases h
  | y :: l, a, p, hf, hp, h => by
    by_cases e : y = p
    · subst e
      rw [List.filter_cons, if_pos (by simp)]
      congr 1
      rw [List.filter_eq_nil_iff]
      intro x hx
      have := Pre_low (fun z hz => hf z (by simp [hz])) hp.2 x hx
      have := hf y (by simp)
      have := hp.1
      simp only [decide_eq_true_eq]
      intro z
      subst z
      omega
    · rw [List.filter_cons, if_neg (by simpa using e)]
      exact Pre_once (fun z hz => hf z (by simp [hz])) hp.2 (by
        rcases List.mem_cons.mp h with z | z
        · exact absurd z.symm e
        · exact z)
theorem begun_wy {c : Que} (hc : OkQ c) {i : Nat} (hi : i ≤ c.length) : ∀ q ∈ begun c i, 1 ≤ wy (c.drop i) (wt c q) := fun q hq => by
  obtain ⟨ok, l⟩ := begun_ok hc i hi q hq
  subst l
  exact wy_pos (fun p hp => hc.v p (List.mem_of_mem_drop hp)) (wt_pos c q) (wt_le hc ok)
theorem begun_with {c : Que} (hc : OkQ c) {i : Nat} {p : List Int} (hp : p ∈ begun c i) : ∀ (d : Nat), i + d ≤ c.length →
    (((begun c (i + d)).filter fun q => decide (q.take i = p)).map fun q => wy (c.drop (i + d)) (wt c q)).sum = wy (c.drop i) (wt c p)
  | 0, hi => by
    rw [Nat.add_zero] at hi ⊢
    have e : (begun c i).filter (fun q => decide (q.take i = p)) = (begun c i).filter (fun q => decide (q = p)) := List.filter_congr fun q hq => by
      have := (begun_ok hc i hi q hq).2
      rw [List.take_of_length_le (by omega)]
    rw [e, Pre_once (begun_wy hc hi) (begun_pre hc i hi) hp]
    simp
  | d + 1, hi => by
    rw [← begun_with hc hp d (by omega)]
    have ea : i + (d + 1) = i + d + 1 := by omega
    rw [ea, begun_step hc (by omega)]
    have key : ∀ l : List (List Int), (∀ q ∈ l, OkR c q ∧ q.length = i + d) →
        (((l.flatMap fun q => (down (gnq c q)).map fun k => q ++ [k]).filter fun q => decide (q.take i = p)).map fun q => wy (c.drop (i + d + 1)) (wt c q)).sum
        = ((l.filter fun q => decide (q.take i = p)).map fun q => wy (c.drop (i + d)) (wt c q)).sum := by
      intro l
      induction l with
      | nil => intro _; rfl
      | cons q l ih =>
        intro h
        obtain ⟨ok, lq⟩ := h q (by simp)
        rw [List.flatMap_cons, List.filter_append, List.map_append, List.sum_append, ih fun x hx => h x (by simp [hx]), List.filter_cons]
        have tk : ∀ k, (q ++ [k]).take i = q.take i := fun k => by rw [List.take_append_of_le_length (by omega)]
        by_cases z : q.take i = p
        · have f1 : ((down (gnq c q)).map fun k => q ++ [k]).filter (fun q => decide (q.take i = p)) = (down (gnq c q)).map fun k => q ++ [k] := List.filter_eq_self.mpr fun x hx => by
            obtain ⟨k, _, rfl⟩ := List.mem_map.mp hx
            rw [tk]
            simpa using z
          have ws := wy_step hc ok (by omega)
          rw [lq] at ws
          rw [f1, if_pos (by simpa using z), List.map_cons, List.sum_cons, ws, List.map_map]
          rfl
        · have f1 : ((down (gnq c q)).map fun k => q ++ [k]).filter (fun q => decide (q.take i = p)) = [] := List.filter_eq_nil_iff.mpr fun x hx => by
            obtain ⟨k, _, rfl⟩ := List.mem_map.mp hx
            rw [tk]
            simpa using z
          rw [f1, if_neg (by simpa using z)]
          simp
    exact key _ (begun_ok hc (i + d) (by omega))
theorem begun_cnt {c : Que} (hc : OkQ c) {i : Nat} {p : List Int} (hi : i ≤ c.length) (hp : p ∈ begun c i) : ((((begun c c.length).filter fun q => decide (q.take i = p)).length : Nat) : Int) = wy (c.drop i) (wt c p) := by
  obtain ⟨d, hd⟩ : ∃ d, c.length = i + d := ⟨c.length - i, by omega⟩
  have := begun_with hc hp d (by omega)
  rw [← hd] at this
  rw [← this]
  have one : ∀ q ∈ begun c c.length, wy (c.drop c.length) (wt c q) = 1 := fun q hq => by
    obtain ⟨a, b⟩ := begun_ok hc c.length (Nat.le_refl _) q hq
    have w1 := wt_le hc a
    rw [b] at w1
    rw [List.drop_eq_nil_of_le (Nat.le_refl _)] at w1 ⊢
    exact wy_nil (wt_pos c q) w1
  have key : ∀ l : List (List Int), (∀ q ∈ l, wy (c.drop c.length) (wt c q) = 1) → (l.map fun q => wy (c.drop c.length) (wt c q)).sum = l.length := by
    intro l
    induction l with
    | nil => intro _; rfl
    | cons p l ih =>
      intro h
      rw [List.map_cons, List.sum_cons, h p (by simp), ih fun x hx => h x (by simp [hx])]
      simp
      omega
  rw [key _ fun q hq => one q (List.mem_filter.mp hq).1]
end My

set_option Elab.async false
set_option linter.all false
set_option maxRecDepth 100000
set_option maxHeartbeats 4000000
namespace My
open PySem PySem.Spec PyProof.Rows L2 Bk
theorem lc_drawsQ {gg : GG} {ge : GE} {Γ : Bk.Env} {R : List MO} {P : D → D → Prop} {B : Nat} : ∀ (ds acc : List D) (m : Nat) (s : Src3), Sk m s → m + ds.length ≤ B → acc.length + ds.length ≤ sizeLine → (∀ d ∈ ds, ∀ (m : Nat) (s : Src3), Sk m s → m ≤ B → ∃ Γ1 e s2, gg d Γ = some Γ1 ∧ ge Γ1 (srcO s :: R) = .ok e (srcO s2 :: R) ∧ P d e ∧ Sk (m + 1) s2) →
    ∃ (es : List D) (s' : Src3), gLcL gg gYes ge Γ ds acc (srcO s :: R) = .ok (acc ++ es) (srcO s' :: R) ∧ es.length = ds.length ∧ (∀ (i : Nat) d e, ds[i]? = some d → es[i]? = some e → P d e) ∧ Sk (m + ds.length) s'
  | [], acc, m, s, hs, _, _, _ => ⟨[], s, by simp [gLcL], rfl, by simp, hs⟩
  | d :: ds, acc, m, s, hs, hB, h, hf => by
    simp only [List.length_cons] at h hB
    obtain ⟨Γ1, e, s2, h1, h2, h3, h4⟩ := hf d (by simp) m s hs (by omega)
    obtain ⟨es, s', e', l', p', k'⟩ := lc_drawsQ (gg := gg) (ge := ge) (Γ := Γ) (R := R) (P := P) (B := B) ds (acc ++ [e]) (m + 1) s2 h4 (by omega) (by simp; omega) fun x hx => hf x (by simp [hx])
    have q : acc.length < sizeLine := by omega
    refine ⟨e :: es, s', ?_, by simp [l'], fun i x y hx hy => ?_, k'.mono (by simp only [List.length_cons]; omega)⟩
    · simp [gLcL, h1, h2, q, e']
    · cases i with
      | zero =>
        have a : d = x := by simpa using hx
        have b : e = y := by simpa using hy
        rw [← a, ← b]
        exact h3
      | succ i => exact p' i x y (by simpa using hx) (by simpa using hy)
theorem ints_of : ∀ (es : List D), (∀ (i : Nat) e, es[i]? = some e → ∃ v : Int, e = .int v ∧ 0 ≤ v) → ∃ vs : List Int, es = vs.map D.int ∧ ∀ v ∈ vs, 0 ≤ v
  | [], _ => ⟨[], rfl, by simp⟩
  | e :: es, h => by
    obtain ⟨v, hv, h0⟩ := h 0 e rfl
    obtain ⟨vs, hvs, hp⟩ := ints_of es fun i x hx => h (i + 1) x (by simpa using hx)
    refine ⟨v :: vs, by rw [hv, hvs]; rfl, fun x hx => ?_⟩
    rcases List.mem_cons.mp hx with w | w
    · rw [w]; exact h0
    · exact hp x w
theorem row_cut (M : List MO) (q : List Int) (n : Nat) : dCut M none (some (n : Int)) (rowD q) = some (rowD (q.take n)) := by
  simp [dCut, rowD, cutD_upto, List.map_take]
abbrev ES (c : Que) (i : D) (v5 v6 v7 v8 v9 : Option D) : Bk.Env := [some (.ref 0), some (queD false c), some (.int c.length), some (.lst ((begun c c.length).map rowD)), some i, v5, v6, v7, v8, v9]
theorem small_1 {c : Que} (hc : OkQ c) (hl : c.length ≤ 4) (ho : ∀ p ∈ c, p.1 ≤ 3) {i : Nat} (hi : i ≤ c.length) {p : List Int} (hp : p ∈ begun c i) (o : MO) :
    lb_law_small_right_1 (ES c (.int i) (some (rowD p)) none none none none) [o] = .nx (ES c (.int i) none none none none none) [o] := by
  have sz : 1000 ≤ sizeLine := by rw [sizeLine_eq]; omega
  obtain ⟨ok, lp⟩ := begun_ok hc i hi p hp
  have bl := begun_le hl ho (Nat.le_refl _)
  have ks := fun M => lcL_sel (gg := gTo 9) (gt := gVal (gOp2 dEqA (gSl (gV 9) (gNoO) (gO (gV 4))) (gV 5))) (ge := gV 9) (Γ := ES c (.int i) (some (rowD p)) none none none none) (M := M) rowD rowD (fun q => decide (q.take i = p)) (begun c c.length) [] (by simp; omega) fun q _ => by
    have cu := fun M => row_cut M q i
    have eq := fun M => row_eqD M (q.take i) p
    exact ⟨ES c (.int i) (some (rowD p)) none none none (some (rowD q)), by simp [ES], by simp [ES, cu, eq, toI], fun _ => by simp [ES]⟩
  have cnt := begun_cnt hc hi hp
  have qc := fun M => c_qcount false hc ok M
  rw [lp] at qc
  generalize ((begun c c.length).filter fun q => decide (q.take i = p)) = L at *
  have lx : ∀ M, dLen M (.lst (L.map rowD)) = some (.int (wy (c.drop i) (wt c p))) := fun M => by
    rw [← cnt]
    simp
  have qc' : ∀ M, callF F_queue_count [queD false c, rowD p] M = .ok (.int (wy (c.drop i) (wt c p))) M := qc
  simp only [List.nil_append] at ks
  simp [lb_law_small_right_1, ES, ks, lx, qc']
  done
theorem small_loop {c : Que} (hc : OkQ c) (hl : c.length ≤ 4) (ho : ∀ p ∈ c, p.1 ≤ 3) {i : Nat} (hi : i ≤ c.length) (o : MO) : ∀ ps : List (List Int), (∀ p ∈ ps, p ∈ begun c i) →
    gForL (gTo 5) lb_law_small_right_1 (ps.map rowD) (ES c (.int i) none none none none none) [o] = .nx (ES c (.int i) none none none none none) [o]
  | [], _ => by simp
  | p :: ps, h => by
    rw [List.map_cons]
    exact (forL_cons (Γ1 := ES c (.int i) (some (rowD p)) none none none none) (by simp [ES]) (small_1 hc hl ho hi (h p (by simp)) o)).trans (small_loop hc hl ho hi o ps fun x hx => h x (by simp [hx]))
theorem rows_at {c : Que} (hc : OkQ c) (t : Bool) {j : Int} (h0 : 0 ≤ j) (h1 : j < (begun c c.length).length) : ∃ q, (begun c c.length)[j.toNat]? = some q ∧ ∀ M, callF F_queue_row_at [queD t c, .int j] M = .ok (rowD q) M := by
  have n := begun_count hc
  obtain ⟨row, a, b, e⟩ := c_rowat t hc h0 (by omega)
  have := begun_has hc a
  rw [b] at this
  exact ⟨row, this, e⟩
theorem small_2 {c : Que} (hc : OkQ c) (hl : c.length ≤ 4) (ho : ∀ p ∈ c, p.1 ≤ 3) (i : D) (M : List MO) :
    gLcL (gTo 8) gYes le_law_small_right_2 (ES c i none none none none none) (rngL 0 (begun c c.length).length) [] M = .ok ((begun c c.length).map rowD) M := by
  have sz : 1000 ≤ sizeLine := by rw [sizeLine_eq]; omega
  have bl := begun_le hl ho (Nat.le_refl _)
  have ks := lcL_run (gg := gTo 8) (ge := le_law_small_right_2) (Γ := ES c i none none none none none) (M := M) D.int (fun j => rowD ((begun c c.length).getD j.toNat [])) (intR 0 (begun c c.length).length) [] (by simp; omega) fun j hj => by
    have hj' := mem_intR.mp hj
    obtain ⟨q, e1, e2⟩ := rows_at hc false hj'.1 (by omega)
    refine ⟨ES c i none none none (some (.int j)) none, by simp [ES], ?_⟩
    rw [List.getD_eq_getElem?_getD, e1]
    simp [le_law_small_right_2, ES, e2]
  rw [← rngL_int] at ks
  rw [ks, List.nil_append]
  congr 1
  apply List.ext_getElem?
  intro k
  rw [List.getElem?_map, List.getElem?_map]
  by_cases h : k < (begun c c.length).length
  · rw [intR_get h, List.getElem?_eq_getElem h]
    have : (0 + (k : Int)).toNat = k := by omega
    simp only [Option.map_some, this]
    rw [List.getD_eq_getElem?_getD, List.getElem?_eq_getElem h]
    rfl
  · have l : (intR 0 (begun c c.length).length).length = (begun c c.length).length := by simp
    rw [List.getElem?_eq_none (by omega), List.getElem?_eq_none (by omega)]
    rfl
theorem small_3 {c : Que} (hc : OkQ c) (hl : c.length ≤ 4) (ho : ∀ p ∈ c, p.1 ≤ 3) (i : D) (M : List MO) :
    gLcL (gTo 9) gYes le_law_small_right_3 (ES c i none none none none none) ((begun c c.length).map rowD) [] M = .ok ((intR 0 (begun c c.length).length).map D.int) M := by
  have sz : 1000 ≤ sizeLine := by rw [sizeLine_eq]; omega
  have bl := begun_le hl ho (Nat.le_refl _)
  have ks := lcL_run (gg := gTo 9) (ge := le_law_small_right_3) (Γ := ES c i none none none none none) (M := M) rowD (fun q => D.int (numQ c 0 q)) (begun c c.length) [] (by simp; omega) fun q hq => by
    obtain ⟨ok, l⟩ := begun_ok hc _ (Nat.le_refl _) q hq
    have e := fun M => c_qnum false hc l ok.p M
    have n : nOf c q = some (numQ c 0 q) := if_pos ok.f
    rw [n] at e
    have e' : ∀ M, callF F_queue_number_of [queD false c, rowD q] M = .ok (.int (numQ c 0 q)) M := e
    exact ⟨ES c i none none none none (some (rowD q)), by simp [ES], by simp [le_law_small_right_3, ES, e']⟩
  rw [ks, List.nil_append]
  congr 1
  apply List.ext_getElem?
  intro k
  rw [List.getElem?_map, List.getElem?_map]
  by_cases h : k < (begun c c.length).length
  · obtain ⟨q, hq⟩ : ∃ q, (begun c c.length)[k]? = some q := ⟨_, List.getElem?_eq_getElem h⟩
    obtain ⟨_, e⟩ := begun_num hc hq
    rw [intR_get h, hq]
    simp [e]
  · have l : (intR 0 (begun c c.length).length).length = (begun c c.length).length := by simp
    rw [List.getElem?_eq_none (by omega), List.getElem?_eq_none (by omega)]
    rfl
/-- the place of a row, if it is one -/
theorem small_4 {c : Que} (hc : OkQ c) {q : List Int} (hl : q.length = c.length) (hq : ∀ n ∈ q, 0 ≤ n) (M : List MO) :
    (q ∈ begun c c.length → dIndex M (.lst ((begun c c.length).map rowD)) (rowD q) = some (optD (nOf c q))) ∧ (q ∉ begun c c.length → nOf c q = none) := by
  constructor
  · intro h
    obtain ⟨ok, l⟩ := begun_ok hc _ (Nat.le_refl _) q h
    have n : nOf c q = some (numQ c 0 q) := if_pos ok.f
    have r := ok_Rw0 hc ok l
    have b := num_lt hc.v (Int.le_refl _) (c_top hc) r
    rw [n, rows_index M q _ (begun_has hc r) fun m hm z => by
      have := (begun_num hc z).2
      omega]
    have : (((numQ c 0 q).toNat : Nat) : Int) = numQ c 0 q := by omega
    rw [this]
    rfl
  · intro h
    unfold nOf
    split
    · rename_i f
      have ok : OkR c q := ⟨by omega, hq, f⟩
      exact absurd (List.mem_of_getElem? (begun_has hc (ok_Rw0 hc ok hl))) h
    · rfl
end My

set_option Elab.async false
set_option linter.all false
set_option maxRecDepth 100000
set_option maxHeartbeats 4000000
namespace My
open PySem PySem.Spec PyProof.Rows L2 Bk
theorem m_small {m : Nat} {s : Src3} (hs : Sk m s) (hm : m ≤ 900000) : ∃ s' : Src3, F_law_small_right [.ref 0] [srcO s] = .ok (.bl true) [srcO s'] ∧ Sk (m + 1000) s' := by
  have sz : 1000 ≤ sizeLine := by rw [sizeLine_eq]; omega
  have t1 := fun R => t_0 hs (by omega) 3 R (by decide) (by decide)
  have s1 := hs.step 3
  have x0 := tk_lo s (n := 3) (by decide)
  have x1 := tk_hi s (n := 3) (by decide)
  generalize tn s 3 = sa at *
  generalize tk s 3 = a at *
  obtain ⟨c, sb, e2, hc, l2, k2, ho⟩ := m_lqueueB (most := 4) (tp := 1 + a) (by omega) (by omega) (by decide) (by decide) s1 (by omega)
  have e2' := c_lend1 (k := 0) (M := [srcO sa]) e2 rfl rfl rfl rfl (by simp) (by simp)
  simp only [List.set_cons_zero] at e2'
  have hl : c.length ≤ 4 := by omega
  have ho3 : ∀ p ∈ c, p.1 ≤ 3 := fun p hp => by have := ho p hp; omega
  have b1 := fun M => c_begunN hc hl ho3 (Nat.le_refl _) M
  have bl := begun_le hl ho3 (Nat.le_refl _)
  have bn := begun_count hc
  have wp := wy_pos hc.v (Int.le_refl _) (c_top hc)
  have zc : (0 : Int) < c.length + 1 := by omega
  have t3 := fun R => t_0 k2 (by omega) ((c.length : Int) + 1) R zc (by omega)
  have k3 := k2.step ((c.length : Int) + 1)
  have y0 := tk_lo sb zc
  have y1 := tk_hi sb zc
  generalize tn sb ((c.length : Int) + 1) = sd at *
  generalize tk sb ((c.length : Int) + 1) = i' at *
  obtain ⟨i, rfl⟩ := Int.eq_ofNat_of_zero_le y0
  have hi : i ≤ c.length := by omega
  have b2 := fun M => c_begunN hc hl ho3 hi M
  have lp := small_loop hc hl ho3 hi (srcO sd) (begun c i) fun p hp => hp
  have q2 := fun M => small_2 hc hl ho3 (.int i) M
  have q3 := fun M => small_3 hc hl ho3 (.int i) M
  have ne1 := fun M => rows_ne M (begun c c.length)
  have ne2 := fun M => ints_ne M (intR 0 (begun c c.length).length)
  have iL : Bk.inR ((begun c c.length).length : Int) = true := inR_i (by omega) (by omega)
  have rg : rngOk 0 ((begun c c.length).length : Int) = true := by
    have i0 : Bk.inR 0 = true := rfl
    unfold rngOk
    rw [iL, i0]
    simp
    omega
  simp only [← rngL_int] at q3 ne2
  have iC : Bk.inR (c.length : Int) = true := inR_i (by omega) (by omega)
  obtain ⟨es, se, w1, l1, p1, k4⟩ := lc_drawsQ (gg := gTo 8) (ge := le_law_small_right_4) (Γ := ES c (.int i) none none none none none) (R := []) (P := fun _ e => ∃ v : Int, e = .int v ∧ 0 ≤ v) (B := 999000) (rngL 0 c.length) [] _ sd k3 (by rw [rngL_length]; omega) (by rw [rngL_length]; simp; omega) fun d hd m s hs hm => by
    have t4 := t_0 hs (by omega) 5 [] (by decide) (by decide)
    exact ⟨_, .int (tk s 5), tn s 5, rfl, by simp [le_law_small_right_4, ES, t4], ⟨_, rfl, tk_lo s (by decide)⟩, hs.step 5⟩
  rw [rngL_length] at l1 k4
  obtain ⟨vs, rfl, hv⟩ := ints_of es fun j e he => by
    have l : j < (rngL 0 c.length).length := by rw [rngL_length, ← l1]; exact (List.getElem?_eq_some_iff.mp he).1
    exact p1 j _ e (List.getElem?_eq_getElem l) he
  simp only [List.length_map, List.nil_append] at l1 w1
  obtain ⟨d1, d2⟩ := small_4 hc l1 hv [srcO se]
  have inq := fun M => rows_in M vs (begun c c.length)
  have qn := fun M => c_qnum true hc l1 hv M
  have zL : (0 : Int) < (begun c c.length).length := by omega
  have t5 := fun R => t_0 k4 (by omega) ((begun c c.length).length : Int) R zL (by omega)
  have k5 := k4.step ((begun c c.length).length : Int)
  have v0 := tk_lo se zL
  have v1 := tk_hi se zL
  generalize tn se ((begun c c.length).length : Int) = sf at *
  generalize tk se ((begun c c.length).length : Int) = j at *
  have qc := fun M => c_qcount0 true hc M
  rw [← bn] at qc
  obtain ⟨q, hq, r5⟩ := rows_at hc true v0 v1
  obtain ⟨j', rfl⟩ := Int.eq_ofNat_of_zero_le v0
  have rx : ∀ M, dIx M (.lst ((begun c c.length).map rowD)) (.int (j' : Nat)) = some (rowD q) := fun M => by
    rw [e_ix]
    simp only [itemsD_l, Option.bind_some]
    rw [Bk.atI_nat, List.getElem?_map]
    have : ((j' : Nat) : Int).toNat = j' := by omega
    rw [this] at hq
    rw [hq]
    rfl
  have eqq := fun M => row_eqD M q q
  have tq : ∀ M, dTuple M (queD false c) = some (queD true c) := fun M => rfl
  have tl2 : ∀ (M : List MO) (ds : List D), dTuple M (.lst ds) = some (.tup ds) := fun M ds => rfl
  have rd : D.tup (vs.map D.int) = rowD vs := rfl
  have lx : ∀ M, dLen M (.lst ((begun c c.length).map rowD)) = some (.int (begun c c.length).length) := fun M => by simp
  have il : isListD [srcO se] (.lst ((begun c c.length).map rowD)) = true := rfl
  have nn := fun M => optD_ne M (nOf c vs) (nOf c vs)
  simp only [ES] at lp q2 q3 w1
  rw [rd] at qn
  generalize begun c c.length = B at *
  generalize begun c i = B2 at *
  refine ⟨sf, ?_, k5.mono (by omega)⟩
  by_cases hin : vs ∈ B
  · have d3 := d1 hin
    simp [-u_isListD, -e_ix, F_law_small_right, b_law_small_right, runF, t1, e2', b1, t3, b2, lp, lx, iL, q2, ne1, q3, rg, ne2, iC, w1, tl2, tq, rd, inq, hin, d3, qn, nn, t5, qc, r5, rx, eqq, il]
    done
  · have d3 := d2 hin
    rw [d3] at qn nn
    simp only [optD] at qn nn
    simp [-u_isListD, -e_ix, F_law_small_right, b_law_small_right, runF, t1, e2', b1, t3, b2, lp, lx, iL, q2, ne1, q3, rg, ne2, iC, w1, tl2, tq, rd, inq, hin, qn, nn, t5, qc, r5, rx, eqq]
    done
end My

set_option Elab.async false
set_option linter.all false
set_option maxRecDepth 100000
set_option maxHeartbeats 4000000
namespace My
open PySem PySem.Spec PyProof.Rows L2 Bk
theorem large_loopB (B : Int) : ∀ (n : Nat) (i : Int) (m : Nat) (s : Src3) (t : Int), Sk m s → m + n ≤ 1000000 → ∃ (t' : Int) (s' : Src3), gForL (gTo 3) lb_law_large_1 (rngL i n) [some (.ref 0), some (.int B), some (.int t), none] [srcO s] = .nx [some (.ref 0), some (.int B), some (.int t'), none] [srcO s'] ∧ Sk (m + n) s' := by
  intro n
  induction n with
  | zero => intro i m s t hs _; exact ⟨t, s, by simp [rngL], hs⟩
  | succ n ih =>
    intro i m s t hs hm
    have p9 : powOk 10 9 = true := by decide
    have e9 : (10 : Int) ^ (9 : Int).toNat = 1000000000 := rfl
    have t1 := fun R => t_0 hs (by omega) 1000000000 R (by decide) (by decide)
    have mo : mulOk t 1000000000 = true := mulOk_r t (by decide) (by decide)
    obtain ⟨t', s', e', k'⟩ := ih (i + 1) (m + 1) (tn s 1000000000) (t * 1000000000 + tk s 1000000000) (hs.step _) (by omega)
    refine ⟨t', s', ?_, k'.mono (by omega)⟩
    rw [rngL]
    refine (forL_cons (Γ1 := [some (.ref 0), some (.int B), some (.int t), some (.int i)]) (by simp) ?_).trans e'
    simp [lb_law_large_1, p9, e9, t1, e_mul, mo]
theorem m_largeB {B : Int} (hB : 0 < B) {m : Nat} {s : Src3} (hs : Sk m s) (hm : m ≤ 900000) : ∃ (v : Int) (s' : Src3), F_law_large [.ref 0, .int B] [srcO s] = .ok (.int v) [srcO s'] ∧ 0 ≤ v ∧ v < B ∧ Sk (m + 4) s' := by
  obtain ⟨t, s', e, k⟩ := large_loopB B 4 0 m s 0 hs (by omega)
  have i4 : Bk.inR 4 = true := rfl
  refine ⟨t % B, s', ?_, Int.emod_nonneg _ (by omega), Int.emod_lt_of_pos _ hB, k⟩
  simp [F_law_large, b_law_large, runF, i4, e, hB]
theorem lc_drawsK {gg : GG} {ge : GE} {Γ : Bk.Env} {R : List MO} {P : D → D → Prop} {B g : Nat} : ∀ (ds acc : List D) (m : Nat) (s : Src3), Sk m s → m + g * ds.length ≤ B → acc.length + ds.length ≤ sizeLine → (∀ d ∈ ds, ∀ (m : Nat) (s : Src3), Sk m s → m ≤ B → ∃ Γ1 e s2, gg d Γ = some Γ1 ∧ ge Γ1 (srcO s :: R) = .ok e (srcO s2 :: R) ∧ P d e ∧ Sk (m + g) s2) →
    ∃ (es : List D) (s' : Src3), gLcL gg gYes ge Γ ds acc (srcO s :: R) = .ok (acc ++ es) (srcO s' :: R) ∧ es.length = ds.length ∧ (∀ (i : Nat) d e, ds[i]? = some d → es[i]? = some e → P d e) ∧ Sk (m + g * ds.length) s'
  | [], acc, m, s, hs, _, _, _ => ⟨[], s, by simp [gLcL], rfl, by simp, hs⟩
  | d :: ds, acc, m, s, hs, hB, h, hf => by
    simp only [List.length_cons] at h hB
    obtain ⟨Γ1, e, s2, h1, h2, h3, h4⟩ := hf d (by simp) m s hs (by rw [Nat.mul_add] at hB; omega)
    obtain ⟨es, s', e', l', p', k'⟩ := lc_drawsK (gg := gg) (ge := ge) (Γ := Γ) (R := R) (P := P) (B := B) (g := g) ds (acc ++ [e]) (m + g) s2 h4 (by rw [Nat.mul_add] at hB; omega) (by simp; omega) fun x hx => hf x (by simp [hx])
    have q : acc.length < sizeLine := by omega
    refine ⟨e :: es, s', ?_, by simp [l'], fun i x y hx hy => ?_, k'.mono (by rw [List.length_cons, Nat.mul_add]; omega)⟩
    · simp [gLcL, h1, h2, q, e']
    · cases i with
      | zero =>
        have a : d = x := by simpa using hx
        have b : e = y := by simpa using hy
        rw [← a, ← b]
        exact h3
      | succ i => exact p' i x y (by simpa using hx) (by simpa using hy)
theorem ents_of : ∀ (es : List D), (∀ (i : Nat) e, es[i]? = some e → ∃ p : Int × Int, e = entQ p ∧ OkN p) → ∃ c : Que, es = c.map entQ ∧ ∀ p ∈ c, OkN p
  | [], _ => ⟨[], rfl, by simp⟩
  | e :: es, h => by
    obtain ⟨v, hv, h0⟩ := h 0 e rfl
    obtain ⟨vs, hvs, hp⟩ := ents_of es fun i x hx => h (i + 1) x (by simpa using hx)
    refine ⟨v :: vs, by rw [hv, hvs]; rfl, fun x hx => ?_⟩
    rcases List.mem_cons.mp hx with w | w
    · rw [w]; exact h0
    · exact hp x w
theorem in_ints (M : List MO) (i : Int) (is : List Int) : dInA M (.int i) (.lst (is.map D.int)) = some (.bl (decide (i ∈ is))) := by
  have e := e_inL M i is
  unfold dIn at e
  unfold dInA inAP
  cases h : inP M (.int i) (.lst (is.map D.int)) with
  | none => rw [h] at e; cases e
  | some b => rw [h] at e; simpa using e
abbrev EW (n : Nat) (tops : D) (c : Que) (W : Int) (turn v6 v7 v8 v9 v10 v11 : Option D) : Bk.Env := [some (.ref 0), some (.int n), some tops, some (queD false c), some (.int W), turn, v6, v7, v8, v9, v10, v11]
theorem ways_run {c : Que} (hc : OkQ c) {ns : List Int} (h : OkR c ns) (hl : ns.length < c.length) (tops turn x6 x7 : D) (W : Int) (M : List MO) :
    gLcL (gTo 11) gYes le_law_large_right_2 (EW c.length tops c W (some turn) (some x6) (some x7) (some (rowD ns)) (some (.int (gnq c ns))) none none) (rngL 0 (gnq c ns + 1).toNat) [] M
    = .ok (((intR 0 (gnq c ns + 1).toNat).map fun k => wy (c.drop (ns.length + 1)) (wt c (ns ++ [k]))).map D.int) M := by
  have sz : 1000 ≤ sizeLine := by rw [sizeLine_eq]; omega
  have g0 := gnq_pos hc h hl
  have g1 := gnq_le (ns := ns) hc
  have hcl := hc.l
  have ks := lcL_run (gg := gTo 11) (ge := le_law_large_right_2) (Γ := EW c.length tops c W (some turn) (some x6) (some x7) (some (rowD ns)) (some (.int (gnq c ns))) none none) (M := M) D.int (fun k => D.int (wy (c.drop (ns.length + 1)) (wt c (ns ++ [k])))) (intR 0 (gnq c ns + 1).toNat) [] (by simp; omega) fun k hk => by
    have hk' := mem_intR.mp hk
    have ok := h.snoc hc hl hk'.1 (by omega : k ≤ gnq c ns)
    have e := fun M => c_qcount false hc ok M
    rw [List.length_append, List.length_singleton] at e
    have ad : ∀ M, dAdd M (rowD ns) (.tup [.int k]) = some (.tup ((ns ++ [k]).map D.int)) := fun M => by
      unfold rowD
      rw [e_addT, if_pos (by simp; omega)]
      simp
    refine ⟨EW c.length tops c W (some turn) (some x6) (some x7) (some (rowD ns)) (some (.int (gnq c ns))) none (some (.int k)), by simp [EW], ?_⟩
    simp only [List.map_append, List.map_cons, List.map_nil] at e ad
    simp [-e_addT, le_law_large_right_2, EW, ad, e]
  rw [← rngL_int] at ks
  rw [ks, List.nil_append, List.map_map]
  rfl
theorem turn_large {c : Que} (hc : OkQ c) (tops : D) (tn_ : Int) {m : Nat} {s : Src3} (hs : Sk m s) (hm : m ≤ 900000) :
    ∃ s' : Src3, lb_law_large_right_1 (EW c.length tops c (wy c 0) (some (.int tn_)) none none none none none none) [srcO s] = .nx (EW c.length tops c (wy c 0) none none none none none none none) [srcO s'] ∧ Sk (m + 5) s' := by
  have sz : 1000 ≤ sizeLine := by rw [sizeLine_eq]; omega
  have hcl := hc.l
  have wp := wy_pos hc.v (Int.le_refl _) (c_top hc)
  obtain ⟨a, sa, e1, a0, a1, k1⟩ := m_largeB (B := wy c 0) (by omega) hs hm
  have e1' := c_lend1 (k := 0) (M := [srcO s]) e1 rfl rfl rfl rfl (by simp) (by simp)
  simp only [List.set_cons_zero] at e1'
  obtain ⟨row, r1, r2, r3⟩ := c_rowat false hc a0 a1
  have lr := Rw_length r1
  have okr := Rw_ok0 hc r1 row.length
  rw [List.take_of_length_le (Nat.le_refl _)] at okr
  have f1 := fun M => c_qfault false hc lr okr.p M
  rw [okr.f] at f1
  have f2 := fun M => c_qnum false hc lr okr.p M
  have n2 : nOf c row = some a := by unfold nOf; rw [if_pos okr.f, r2]
  rw [n2] at f2
  simp only [optD] at f1 f2
  have zc : (0 : Int) < c.length + 1 := by omega
  have t1 := fun R => t_0 k1 (by omega) ((c.length : Int) + 1) R zc (by omega)
  have k2 := k1.step ((c.length : Int) + 1)
  have y0 := tk_lo sa zc
  have y1 := tk_hi sa zc
  generalize tn sa ((c.length : Int) + 1) = sb at *
  generalize tk sa ((c.length : Int) + 1) = i' at *
  obtain ⟨i, rfl⟩ := Int.eq_ofNat_of_zero_le y0
  have cu := fun M => row_cut M row i
  have okp := Rw_ok0 hc r1 i
  have lp : (row.take i).length = i := by rw [List.length_take]; omega
  have rd : D.tup (row.map D.int) = rowD row := rfl
  rw [rd] at f1 f2 r3
  have lnr : ∀ M, dLen M (rowD row) = some (.int c.length) := fun M => by simp [rowD, lr]
  have lnp : ∀ M, dLen M (rowD (row.take i)) = some (.int i) := fun M => by simp only [rowD, e_lenT, List.length_map, lp]
  have bp : below 0 (rowD (row.take i)) = true := row_below _ _
  have gt : (∀ M, a + 1 < wy c 0 → ∃ row2, callF F_queue_row_at [queD false c, .int (a + 1)] M = .ok (rowD row2) M ∧ ∀ M, dGeA M (rowD row2) (rowD row) = some (.bl false)) := fun M h => by
    obtain ⟨row2, q1, q2, q3⟩ := c_rowat false hc (by omega : 0 ≤ a + 1) h
    refine ⟨row2, q3 M, fun M => ?_⟩
    obtain ⟨j, j1, j2, j3, j4⟩ := num_order hc.v (Int.le_refl _) (c_top hc) r1 q1 (by omega)
    rw [rowD, rowD, e_geT, geI_less j2 j1 j3 j4]
  refine ⟨sb, ?_, k2.mono (by omega)⟩
  have rest : ∀ (b : Bool), (gSeq (gAsg (gSl (gV 7) (gNoO) (gO (gCallF 2 F_law_take (gCons (gV 0) (gCons (gOp2 dAdd (gV 1) (gC (.int 1))) (gNil)))))) (gTo 8)) (gSeq (gIf (gVal (gOp2 dLt (gCall (fn1 dLen) (gCons (gV 8) (gNil))) (gV 1))) (gSeq (gAsg (gCallF 2 F_queue_ready (gCons (gV 3) (gCons (gV 8) (gNil)))) (gTo 9)) (gSeq (gAsg (gLc (gRng1 (gCons (gOp2 dAdd (gV 9) (gC (.int 1))) (gNil))) (gTo 11) (gYes) (le_law_large_right_2) [11]) (gTo 10)) (gIf (gOrT (gVal (gOp2 dNeA (gCall (fn1 dSum) (gCons (gV 10) (gNil))) (gCallF 2 F_queue_count (gCons (gV 3) (gCons (gV 8) (gNil)))))) (gVal (gOp2 dInA (gC (.int 0)) (gV 10)))) (gRet (gC (.bl false))) (gPass)))) (gPass)) (gForget [5, 6, 7, 8, 9, 10])))
      (EW c.length tops c (wy c 0) (some (.int tn_)) (some (.int a)) (some (rowD row)) none none none none) [srcO sa] = .nx (EW c.length tops c (wy c 0) none none none none none none none) [srcO sb] := fun _ => by
    by_cases q : i < c.length
    · have hl : (row.take i).length < c.length := by omega
      have g0 := gnq_pos hc okp hl
      have g1 := gnq_le (ns := row.take i) hc
      have rq := fun M => c_qready false hc okp M
      have rr : rdq c (row.take i) = some (gnq c (row.take i)) := if_pos hl
      rw [rr] at rq
      simp only [optD] at rq
      have wr := fun M => ways_run hc okp hl tops (.int tn_) (.int a) (rowD row) (wy c 0) M
      have ws := wy_step hc okp hl
      rw [sum_down] at ws
      have qc := fun M => c_qcount false hc okp M
      have nz : ¬ (0 : Int) ∈ (intR 0 (gnq c (row.take i) + 1).toNat).map fun k => wy (c.drop ((row.take i).length + 1)) (wt c (row.take i ++ [k])) := fun h => by
        obtain ⟨k, hk, e⟩ := List.mem_map.mp h
        have hk' := mem_intR.mp hk
        have ok := okp.snoc hc hl hk'.1 (by omega : k ≤ gnq c (row.take i))
        have := wy_pos (r := c.drop (row.take i ++ [k]).length) (fun p hp => hc.v p (List.mem_of_mem_drop hp)) (wt_pos c _) (wt_le hc ok)
        rw [List.length_append, List.length_singleton] at this
        omega
      have rdp : D.tup ((row.take i).map D.int) = rowD (row.take i) := rfl
      rw [rdp] at rq qc
      generalize ((intR 0 (gnq c (row.take i) + 1).toNat).map fun k => wy (c.drop ((row.take i).length + 1)) (wt c (row.take i ++ [k]))) = L at *
      have iG : Bk.inR (gnq c (row.take i) + 1) = true := inR_i (by omega) (by omega)
      have qs := fun M => dSum_ints M L
      have qi := fun M => in_ints M 0 L
      simp only [nz, decide_false] at qi
      generalize gnq c (row.take i) = G at *
      generalize wy (c.drop (row.take i).length) (wt c (row.take i)) = X at *
      subst ws
      generalize row.take i = P at *
      simp only [EW] at wr
      simp [EW, t1, cu, toI, lnp, q, rq, iG, wr, qs, qc, qi]
    · simp [EW, t1, cu, toI, lnp, q]
  have rest' := rest true
  simp only [EW] at rest'
  by_cases h : a + 1 < wy c 0
  · obtain ⟨row2, q1, q2⟩ := gt [srcO sa] h
    simp [lb_law_large_right_1, EW, e1', r3, f1, f2, lnr, h, q1, q2]
    simpa using rest'
  · simp [lb_law_large_right_1, EW, e1', r3, f1, f2, lnr, h]
    simpa using rest'
end My

set_option Elab.async false
set_option linter.all false
set_option maxRecDepth 100000
set_option maxHeartbeats 4000000
namespace My
open PySem PySem.Spec PyProof.Rows L2 Bk
theorem pair_ix {a b i : Int} (h0 : 0 ≤ i) (h1 : i < 2) : ∃ v : Int, (∀ M, dIx M (.lst [.int a, .int b]) (.int i) = some (.int v)) ∧ (v = a ∨ v = b) := by
  have : i = 0 ∨ i = 1 := by omega
  rcases this with rfl | rfl
  · exact ⟨a, fun M => by simp, .inl rfl⟩
  · exact ⟨b, fun M => by simp, .inr rfl⟩
theorem m_largeR {m : Nat} {s : Src3} (hs : Sk m s) (hm : m ≤ 100000) : ∃ s' : Src3, F_law_large_right [.ref 0] [srcO s] = .ok (.bl true) [srcO s'] := by
  have sz : 1000 ≤ sizeLine := by rw [sizeLine_eq]; omega
  have t1 := fun R => t_0 hs (by omega) 2 R (by decide) (by decide)
  have k1 := hs.step 2
  obtain ⟨A, ea, hA⟩ := pair_ix (a := 13) (b := 101) (tk_lo s (n := 2) (by decide)) (tk_hi s (n := 2) (by decide))
  generalize tn s 2 = sa at *
  generalize tk s 2 = i1 at *
  have zA : 0 < A := by omega
  have t2 := fun R => t_0 k1 (by omega) A R zA (by omega)
  have k2 := k1.step A
  have a0 := tk_lo sa zA
  have a1 := tk_hi sa zA
  generalize tn sa A = sb at *
  generalize tk sa A = n' at *
  obtain ⟨n, rfl⟩ := Int.eq_ofNat_of_zero_le a0
  have t3 := fun R => t_0 k2 (by omega) 2 R (by decide) (by decide)
  have k3 := k2.step 2
  obtain ⟨T, et, hT⟩ := pair_ix (a := 12) (b := 3) (tk_lo sb (n := 2) (by decide)) (tk_hi sb (n := 2) (by decide))
  generalize tn sb 2 = sc at *
  generalize tk sb 2 = i2 at *
  obtain ⟨es, sd, w1, l1, p1, k4⟩ := lc_drawsK (gg := gTo 6) (ge := le_law_large_right_1) (Γ := [some (.ref 0), some (.int n), some (.int T), none, none, none, none, none, none, none, none, none]) (R := []) (P := fun _ e => ∃ p : Int × Int, e = entQ p ∧ OkN p) (B := 999000) (g := 2) (rngL 0 n) [] _ sc k3 (by rw [rngL_length]; omega) (by rw [rngL_length]; simp; omega) fun d hd m s hs hm => by
    have zT : 0 < T + 1 := by omega
    have t4 := t_0 hs (by omega) (T + 1) [] zT (by omega)
    have s4 := hs.step (T + 1)
    have t5 := t_0 s4 (by omega) 4 [] (by decide) (by decide)
    have b0 := tk_lo s zT
    have b1 := tk_hi s zT
    have c0 := tk_lo (tn s (T + 1)) (n := 4) (by decide)
    have c1 := tk_hi (tn s (T + 1)) (n := 4) (by decide)
    exact ⟨_, .tup [.int (tk s (T + 1)), .int (tk (tn s (T + 1)) 4)], tn (tn s (T + 1)) 4, rfl, by simp [le_law_large_right_1, t4, t5], ⟨(tk s (T + 1), tk (tn s (T + 1)) 4), rfl, by simp only; omega, by simp only; omega, by simp only; omega, by simp only; omega⟩, s4.step 4⟩
  rw [rngL_length] at l1 k4
  obtain ⟨c, rfl, hv⟩ := ents_of es fun j e he => by
    have l : j < (rngL 0 n).length := by rw [rngL_length, ← l1]; exact (List.getElem?_eq_some_iff.mp he).1
    exact p1 j _ e (List.getElem?_eq_getElem l) he
  simp only [List.length_map, List.nil_append] at l1 w1
  subst l1
  have hc : OkQ c := ⟨by omega, hv⟩
  have qc := fun M => c_qcount0 false hc M
  obtain ⟨s5, e5, k5⟩ := turn_large hc (.int T) 0 k4 (by omega)
  obtain ⟨s6, e6, k6⟩ := turn_large hc (.int T) 1 k5 (by omega)
  have lp : gForL (gTo 5) lb_law_large_right_1 (rngL 0 2) (EW c.length (.int T) c (wy c 0) none none none none none none none) [srcO sd] = .nx (EW c.length (.int T) c (wy c 0) none none none none none none none) [srcO s6] := by
    have e : rngL 0 2 = [.int 0, .int 1] := rfl
    rw [e]
    refine (forL_cons (Γ1 := EW c.length (.int T) c (wy c 0) (some (.int 0)) none none none none none none) (by simp [EW]) e5).trans ?_
    refine (forL_cons (Γ1 := EW c.length (.int T) c (wy c 0) (some (.int 1)) none none none none none none) (by simp [EW]) e6).trans ?_
    simp
  have iC : Bk.inR (c.length : Int) = true := inR_i (by omega) (by omega)
  have i2' : Bk.inR 2 = true := rfl
  have qd : D.lst (c.map entQ) = queD false c := rfl
  simp only [EW] at lp
  refine ⟨s6, ?_⟩
  simp [-e_ix, F_law_large_right, b_law_large_right, runF, t1, ea, t2, t3, et, iC, w1, qd, qc, i2', lp]
  done
theorem law_turn (d : D) (i : Int) (hb : below 0 d = true) : lb_law_1 [some d, some (.int i), none] [] = .nx [some d, none, none] [] := by
  have c0 := c_source i []
  have s0 := src0_ok i
  obtain ⟨s1, e1, k1⟩ := m_small s0 (by omega)
  obtain ⟨s2, e2⟩ := m_largeR k1 (by omega)
  have e1' := c_lend1 (k := 0) (M := [srcO (src0 i)]) e1 rfl rfl rfl rfl (by simp) (by simp)
  have e2' := c_lend1 (k := 0) (M := [srcO s1]) e2 rfl rfl rfl rfl (by simp) (by simp)
  simp only [List.set_cons_zero] at e1' e2'
  simp [lb_law_1, c0, e1', e2', clean, hb]
  done
theorem lawLoop (d : D) (hb : below 0 d = true) : ∀ is : List Int, gForL (gTo 1) lb_law_1 (is.map D.int) [some d, none, none] [] = .nx [some d, none, none] []
  | [] => by simp
  | i :: is => by
    rw [List.map_cons]
    exact (forL_cons (Γ1 := [some d, some (.int i), none]) (by simp) (law_turn d i hb)).trans (lawLoop d hb is)
theorem m_cell (ns : List Int) : ∃ j : Int, F_law_cell_at [.lst (ns.map D.int), .int 0] [] = .ok (.int j) [] := by
  cases ns with
  | nil => exact ⟨0, by simp [F_law_cell_at, b_law_cell_at, runF]⟩
  | cons n ns =>
    have : (0 : Int) < (ns.length : Int) + 1 := by omega
    exact ⟨n, by simp [F_law_cell_at, b_law_cell_at, runF, this]⟩
theorem law_true (ns : List Int) (h : ns.length ≤ 63) : F_law [.lst (ns.map D.int)] [] = .ok (.bl true) [] := by
  obtain ⟨j, hj⟩ := m_cell ns
  have cj := c_flat hj [] (by simp) (by simp)
  have sz : 1000 ≤ sizeLine := by rw [sizeLine_eq]; omega
  have e4 : below 0 (D.lst (ns.map D.int)) = true := by simp
  obtain ⟨ms, hms, lm⟩ : ∃ ms : List Int, dCut [] (some 1) (some 4) (.lst (ns.map D.int)) = some (.lst (ms.map D.int)) ∧ ms.length ≤ 63 := by
    refine ⟨(ns.drop (HT.sIx ns.length 0 (some 1))).take (HT.sIx ns.length ns.length (some 4) - HT.sIx ns.length 0 (some 1)), ?_, by simp; omega⟩
    simp [dCut, listD, Bk.cutD, List.map_take, List.map_drop]
  have ad : dAdd [] (.lst [.int j]) (.lst (ms.map D.int)) = some (.lst ((j :: ms).map D.int)) := by
    rw [e_addL, if_pos (by simp; omega)]
    simp
  have k := lawLoop (.lst (ns.map D.int)) e4 (j :: ms)
  simp only [List.map_cons] at ad k
  simp [-e_addL, F_law, b_law, runF, cj, hms, ad, k]
end My

set_option Elab.async false
set_option linter.all false
set_option maxRecDepth 100000
set_option maxHeartbeats 8000000
namespace My
open PySem PySem.Spec PyProof.Rows L2 Bk
theorem all_mk {l : PySem.W.OpenLaw} {w : World} {K : PySem.W.Frag} {h : Heap} {mg : Str → Option Value} {fa : Addr} (X : K.In h) (G : h.Ns mainGlobals mg) (hfa : mg "law" = some (.ref fa))
    {C_Rooms : Addr} (aC_Rooms : PySem.W.nsIn K mainGlobals "Rooms" = some (some (.ref C_Rooms))) (pg_Rooms : PySem.W.plainGet K C_Rooms Str.empty = true) (hd_Rooms : PySem.W.hasDictIn K C_Rooms = true) (po_Rooms : PySem.W.plainOver K C_Rooms = true) (sa_Rooms : PySem.W.findIn K (.ref C_Rooms) "__setattr__" = some (some (.builtin "object.__setattr__"))) (mk_Rooms : PySem.W.makesIn K C_Rooms = true) (kc_Rooms : PySem.W.keepIn K (.ref C_Rooms) = true)
    (na_Rooms_nights : PySem.W.findIn K (.ref C_Rooms) "nights" = some none)
    (na_Rooms_tops_by_day : PySem.W.findIn K (.ref C_Rooms) "tops_by_day" = some none)
    (na_Rooms_ways_by_day : PySem.W.findIn K (.ref C_Rooms) "ways_by_day" = some none)
    {f_is_integer : Addr} {od_is_integer an_is_integer : Option Addr} {sl_is_integer : Array (Option Value)} {oc_is_integer kV_is_integer dc_is_integer pm_is_integer cd_is_integer ct_is_integer : Value}
    (a_is_integer : PySem.W.nsIn K mainGlobals "is_integer" = some (some (.ref f_is_integer))) (l_is_integer : K.lookup f_is_integer = some ⟨oc_is_integer, od_is_integer, .func (PySem.W.fnOf "is_integer" "is_integer" (defArgs s_is_integer) (defBody s_is_integer) (defScope s_is_integer) .none kV_is_integer dc_is_integer pm_is_integer an_is_integer cd_is_integer ct_is_integer), sl_is_integer⟩) (c_is_integer : PySem.W.codeIn K cd_is_integer "is_integer" = true) (k_is_integer : PySem.W.keepIn K (.ref f_is_integer) = true)
    {f_is_at_least : Addr} {od_is_at_least an_is_at_least : Option Addr} {sl_is_at_least : Array (Option Value)} {oc_is_at_least kV_is_at_least dc_is_at_least pm_is_at_least cd_is_at_least ct_is_at_least : Value}
    (a_is_at_least : PySem.W.nsIn K mainGlobals "is_at_least" = some (some (.ref f_is_at_least))) (l_is_at_least : K.lookup f_is_at_least = some ⟨oc_is_at_least, od_is_at_least, .func (PySem.W.fnOf "is_at_least" "is_at_least" (defArgs s_is_at_least) (defBody s_is_at_least) (defScope s_is_at_least) .none kV_is_at_least dc_is_at_least pm_is_at_least an_is_at_least cd_is_at_least ct_is_at_least), sl_is_at_least⟩) (c_is_at_least : PySem.W.codeIn K cd_is_at_least "is_at_least" = true) (k_is_at_least : PySem.W.keepIn K (.ref f_is_at_least) = true)
    {f_is_between : Addr} {od_is_between an_is_between : Option Addr} {sl_is_between : Array (Option Value)} {oc_is_between kV_is_between dc_is_between pm_is_between cd_is_between ct_is_between : Value}
    (a_is_between : PySem.W.nsIn K mainGlobals "is_between" = some (some (.ref f_is_between))) (l_is_between : K.lookup f_is_between = some ⟨oc_is_between, od_is_between, .func (PySem.W.fnOf "is_between" "is_between" (defArgs s_is_between) (defBody s_is_between) (defScope s_is_between) .none kV_is_between dc_is_between pm_is_between an_is_between cd_is_between ct_is_between), sl_is_between⟩) (c_is_between : PySem.W.codeIn K cd_is_between "is_between" = true) (k_is_between : PySem.W.keepIn K (.ref f_is_between) = true)
    {f_are_numbers : Addr} {od_are_numbers an_are_numbers : Option Addr} {sl_are_numbers : Array (Option Value)} {oc_are_numbers kV_are_numbers dc_are_numbers pm_are_numbers cd_are_numbers ct_are_numbers : Value}
    (a_are_numbers : PySem.W.nsIn K mainGlobals "are_numbers" = some (some (.ref f_are_numbers))) (l_are_numbers : K.lookup f_are_numbers = some ⟨oc_are_numbers, od_are_numbers, .func (PySem.W.fnOf "are_numbers" "are_numbers" (defArgs s_are_numbers) (defBody s_are_numbers) (defScope s_are_numbers) .none kV_are_numbers dc_are_numbers pm_are_numbers an_are_numbers cd_are_numbers ct_are_numbers), sl_are_numbers⟩) (c_are_numbers : PySem.W.codeIn K cd_are_numbers "are_numbers" = true) (k_are_numbers : PySem.W.keepIn K (.ref f_are_numbers) = true)
    {f_require_row : Addr} {od_require_row an_require_row : Option Addr} {sl_require_row : Array (Option Value)} {oc_require_row kV_require_row dc_require_row pm_require_row cd_require_row ct_require_row : Value}
    (a_require_row : PySem.W.nsIn K mainGlobals "require_row" = some (some (.ref f_require_row))) (l_require_row : K.lookup f_require_row = some ⟨oc_require_row, od_require_row, .func (PySem.W.fnOf "require_row" "require_row" (defArgs s_require_row) (defBody s_require_row) (defScope s_require_row) .none kV_require_row dc_require_row pm_require_row an_require_row cd_require_row ct_require_row), sl_require_row⟩) (c_require_row : PySem.W.codeIn K cd_require_row "require_row" = true) (k_require_row : PySem.W.keepIn K (.ref f_require_row) = true)
    {f_is_night : Addr} {od_is_night an_is_night : Option Addr} {sl_is_night : Array (Option Value)} {oc_is_night kV_is_night dc_is_night pm_is_night cd_is_night ct_is_night : Value}
    (a_is_night : PySem.W.nsIn K mainGlobals "is_night" = some (some (.ref f_is_night))) (l_is_night : K.lookup f_is_night = some ⟨oc_is_night, od_is_night, .func (PySem.W.fnOf "is_night" "is_night" (defArgs s_is_night) (defBody s_is_night) (defScope s_is_night) .none kV_is_night dc_is_night pm_is_night an_is_night cd_is_night ct_is_night), sl_is_night⟩) (c_is_night : PySem.W.codeIn K cd_is_night "is_night" = true) (k_is_night : PySem.W.keepIn K (.ref f_is_night) = true)
    {f_require_queue : Addr} {od_require_queue an_require_queue : Option Addr} {sl_require_queue : Array (Option Value)} {oc_require_queue kV_require_queue dc_require_queue pm_require_queue cd_require_queue ct_require_queue : Value}
    (a_require_queue : PySem.W.nsIn K mainGlobals "require_queue" = some (some (.ref f_require_queue))) (l_require_queue : K.lookup f_require_queue = some ⟨oc_require_queue, od_require_queue, .func (PySem.W.fnOf "require_queue" "require_queue" (defArgs s_require_queue) (defBody s_require_queue) (defScope s_require_queue) .none kV_require_queue dc_require_queue pm_require_queue an_require_queue cd_require_queue ct_require_queue), sl_require_queue⟩) (c_require_queue : PySem.W.codeIn K cd_require_queue "require_queue" = true) (k_require_queue : PySem.W.keepIn K (.ref f_require_queue) = true)
    {f_waiting_mornings : Addr} {od_waiting_mornings an_waiting_mornings : Option Addr} {sl_waiting_mornings : Array (Option Value)} {oc_waiting_mornings kV_waiting_mornings dc_waiting_mornings pm_waiting_mornings cd_waiting_mornings ct_waiting_mornings : Value}
    (a_waiting_mornings : PySem.W.nsIn K mainGlobals "waiting_mornings" = some (some (.ref f_waiting_mornings))) (l_waiting_mornings : K.lookup f_waiting_mornings = some ⟨oc_waiting_mornings, od_waiting_mornings, .func (PySem.W.fnOf "waiting_mornings" "waiting_mornings" (defArgs s_waiting_mornings) (defBody s_waiting_mornings) (defScope s_waiting_mornings) .none kV_waiting_mornings dc_waiting_mornings pm_waiting_mornings an_waiting_mornings cd_waiting_mornings ct_waiting_mornings), sl_waiting_mornings⟩) (c_waiting_mornings : PySem.W.codeIn K cd_waiting_mornings "waiting_mornings" = true) (k_waiting_mornings : PySem.W.keepIn K (.ref f_waiting_mornings) = true)
    {f_queue_over : Addr} {od_queue_over an_queue_over : Option Addr} {sl_queue_over : Array (Option Value)} {oc_queue_over kV_queue_over dc_queue_over pm_queue_over cd_queue_over ct_queue_over : Value}
    (a_queue_over : PySem.W.nsIn K mainGlobals "queue_over" = some (some (.ref f_queue_over))) (l_queue_over : K.lookup f_queue_over = some ⟨oc_queue_over, od_queue_over, .func (PySem.W.fnOf "queue_over" "queue_over" (defArgs s_queue_over) (defBody s_queue_over) (defScope s_queue_over) .none kV_queue_over dc_queue_over pm_queue_over an_queue_over cd_queue_over ct_queue_over), sl_queue_over⟩) (c_queue_over : PySem.W.codeIn K cd_queue_over "queue_over" = true) (k_queue_over : PySem.W.keepIn K (.ref f_queue_over) = true)
    {f_require_queue_past : Addr} {od_require_queue_past an_require_queue_past : Option Addr} {sl_require_queue_past : Array (Option Value)} {oc_require_queue_past kV_require_queue_past dc_require_queue_past pm_require_queue_past cd_require_queue_past ct_require_queue_past : Value}
    (a_require_queue_past : PySem.W.nsIn K mainGlobals "require_queue_past" = some (some (.ref f_require_queue_past))) (l_require_queue_past : K.lookup f_require_queue_past = some ⟨oc_require_queue_past, od_require_queue_past, .func (PySem.W.fnOf "require_queue_past" "require_queue_past" (defArgs s_require_queue_past) (defBody s_require_queue_past) (defScope s_require_queue_past) .none kV_require_queue_past dc_require_queue_past pm_require_queue_past an_require_queue_past cd_require_queue_past ct_require_queue_past), sl_require_queue_past⟩) (c_require_queue_past : PySem.W.codeIn K cd_require_queue_past "require_queue_past" = true) (k_require_queue_past : PySem.W.keepIn K (.ref f_require_queue_past) = true)
    {f_Rooms_init : Addr} {od_Rooms_init an_Rooms_init : Option Addr} {sl_Rooms_init : Array (Option Value)} {oc_Rooms_init kV_Rooms_init dc_Rooms_init pm_Rooms_init cd_Rooms_init ct_Rooms_init : Value}
    (a_Rooms_init : PySem.W.findIn K (.ref C_Rooms) "__init__" = some (some (.ref f_Rooms_init))) (i_Rooms_init : PySem.W.isFn K (.ref f_Rooms_init) = true) (l_Rooms_init : K.lookup f_Rooms_init = some ⟨oc_Rooms_init, od_Rooms_init, .func (PySem.W.fnOf "__init__" "Rooms.__init__" (defArgs s_Rooms_init) (defBody s_Rooms_init) (defScope s_Rooms_init) .none kV_Rooms_init dc_Rooms_init pm_Rooms_init an_Rooms_init cd_Rooms_init ct_Rooms_init), sl_Rooms_init⟩) (c_Rooms_init : PySem.W.codeIn K cd_Rooms_init "Rooms.__init__" = true) (k_Rooms_init : PySem.W.keepIn K (.ref f_Rooms_init) = true)
    {f_Rooms_ways_behind : Addr} {od_Rooms_ways_behind an_Rooms_ways_behind : Option Addr} {sl_Rooms_ways_behind : Array (Option Value)} {oc_Rooms_ways_behind kV_Rooms_ways_behind dc_Rooms_ways_behind pm_Rooms_ways_behind cd_Rooms_ways_behind ct_Rooms_ways_behind : Value}
    (a_Rooms_ways_behind : PySem.W.findIn K (.ref C_Rooms) "ways_behind" = some (some (.ref f_Rooms_ways_behind))) (i_Rooms_ways_behind : PySem.W.isFn K (.ref f_Rooms_ways_behind) = true) (l_Rooms_ways_behind : K.lookup f_Rooms_ways_behind = some ⟨oc_Rooms_ways_behind, od_Rooms_ways_behind, .func (PySem.W.fnOf "ways_behind" "Rooms.ways_behind" (defArgs s_Rooms_ways_behind) (defBody s_Rooms_ways_behind) (defScope s_Rooms_ways_behind) .none kV_Rooms_ways_behind dc_Rooms_ways_behind pm_Rooms_ways_behind an_Rooms_ways_behind cd_Rooms_ways_behind ct_Rooms_ways_behind), sl_Rooms_ways_behind⟩) (c_Rooms_ways_behind : PySem.W.codeIn K cd_Rooms_ways_behind "Rooms.ways_behind" = true) (k_Rooms_ways_behind : PySem.W.keepIn K (.ref f_Rooms_ways_behind) = true)
    {f_Rooms_room_behind : Addr} {od_Rooms_room_behind an_Rooms_room_behind : Option Addr} {sl_Rooms_room_behind : Array (Option Value)} {oc_Rooms_room_behind kV_Rooms_room_behind dc_Rooms_room_behind pm_Rooms_room_behind cd_Rooms_room_behind ct_Rooms_room_behind : Value}
    (a_Rooms_room_behind : PySem.W.findIn K (.ref C_Rooms) "room_behind" = some (some (.ref f_Rooms_room_behind))) (i_Rooms_room_behind : PySem.W.isFn K (.ref f_Rooms_room_behind) = true) (l_Rooms_room_behind : K.lookup f_Rooms_room_behind = some ⟨oc_Rooms_room_behind, od_Rooms_room_behind, .func (PySem.W.fnOf "room_behind" "Rooms.room_behind" (defArgs s_Rooms_room_behind) (defBody s_Rooms_room_behind) (defScope s_Rooms_room_behind) .none kV_Rooms_room_behind dc_Rooms_room_behind pm_Rooms_room_behind an_Rooms_room_behind cd_Rooms_room_behind ct_Rooms_room_behind), sl_Rooms_room_behind⟩) (c_Rooms_room_behind : PySem.W.codeIn K cd_Rooms_room_behind "Rooms.room_behind" = true) (k_Rooms_room_behind : PySem.W.keepIn K (.ref f_Rooms_room_behind) = true)
    {f_Rooms_ways_on : Addr} {od_Rooms_ways_on an_Rooms_ways_on : Option Addr} {sl_Rooms_ways_on : Array (Option Value)} {oc_Rooms_ways_on kV_Rooms_ways_on dc_Rooms_ways_on pm_Rooms_ways_on cd_Rooms_ways_on ct_Rooms_ways_on : Value}
    (a_Rooms_ways_on : PySem.W.findIn K (.ref C_Rooms) "ways_on" = some (some (.ref f_Rooms_ways_on))) (i_Rooms_ways_on : PySem.W.isFn K (.ref f_Rooms_ways_on) = true) (l_Rooms_ways_on : K.lookup f_Rooms_ways_on = some ⟨oc_Rooms_ways_on, od_Rooms_ways_on, .func (PySem.W.fnOf "ways_on" "Rooms.ways_on" (defArgs s_Rooms_ways_on) (defBody s_Rooms_ways_on) (defScope s_Rooms_ways_on) .none kV_Rooms_ways_on dc_Rooms_ways_on pm_Rooms_ways_on an_Rooms_ways_on cd_Rooms_ways_on ct_Rooms_ways_on), sl_Rooms_ways_on⟩) (c_Rooms_ways_on : PySem.W.codeIn K cd_Rooms_ways_on "Rooms.ways_on" = true) (k_Rooms_ways_on : PySem.W.keepIn K (.ref f_Rooms_ways_on) = true)
    {f_Rooms_numbered_row : Addr} {od_Rooms_numbered_row an_Rooms_numbered_row : Option Addr} {sl_Rooms_numbered_row : Array (Option Value)} {oc_Rooms_numbered_row kV_Rooms_numbered_row dc_Rooms_numbered_row pm_Rooms_numbered_row cd_Rooms_numbered_row ct_Rooms_numbered_row : Value}
    (a_Rooms_numbered_row : PySem.W.findIn K (.ref C_Rooms) "numbered_row" = some (some (.ref f_Rooms_numbered_row))) (i_Rooms_numbered_row : PySem.W.isFn K (.ref f_Rooms_numbered_row) = true) (l_Rooms_numbered_row : K.lookup f_Rooms_numbered_row = some ⟨oc_Rooms_numbered_row, od_Rooms_numbered_row, .func (PySem.W.fnOf "numbered_row" "Rooms.numbered_row" (defArgs s_Rooms_numbered_row) (defBody s_Rooms_numbered_row) (defScope s_Rooms_numbered_row) .none kV_Rooms_numbered_row dc_Rooms_numbered_row pm_Rooms_numbered_row an_Rooms_numbered_row cd_Rooms_numbered_row ct_Rooms_numbered_row), sl_Rooms_numbered_row⟩) (c_Rooms_numbered_row : PySem.W.codeIn K cd_Rooms_numbered_row "Rooms.numbered_row" = true) (k_Rooms_numbered_row : PySem.W.keepIn K (.ref f_Rooms_numbered_row) = true)
    {f_Rooms_number_of_row : Addr} {od_Rooms_number_of_row an_Rooms_number_of_row : Option Addr} {sl_Rooms_number_of_row : Array (Option Value)} {oc_Rooms_number_of_row kV_Rooms_number_of_row dc_Rooms_number_of_row pm_Rooms_number_of_row cd_Rooms_number_of_row ct_Rooms_number_of_row : Value}
    (a_Rooms_number_of_row : PySem.W.findIn K (.ref C_Rooms) "number_of_row" = some (some (.ref f_Rooms_number_of_row))) (i_Rooms_number_of_row : PySem.W.isFn K (.ref f_Rooms_number_of_row) = true) (l_Rooms_number_of_row : K.lookup f_Rooms_number_of_row = some ⟨oc_Rooms_number_of_row, od_Rooms_number_of_row, .func (PySem.W.fnOf "number_of_row" "Rooms.number_of_row" (defArgs s_Rooms_number_of_row) (defBody s_Rooms_number_of_row) (defScope s_Rooms_number_of_row) .none kV_Rooms_number_of_row dc_Rooms_number_of_row pm_Rooms_number_of_row an_Rooms_number_of_row cd_Rooms_number_of_row ct_Rooms_number_of_row), sl_Rooms_number_of_row⟩) (c_Rooms_number_of_row : PySem.W.codeIn K cd_Rooms_number_of_row "Rooms.number_of_row" = true) (k_Rooms_number_of_row : PySem.W.keepIn K (.ref f_Rooms_number_of_row) = true)
    {f_queue_ready : Addr} {od_queue_ready an_queue_ready : Option Addr} {sl_queue_ready : Array (Option Value)} {oc_queue_ready kV_queue_ready dc_queue_ready pm_queue_ready cd_queue_ready ct_queue_ready : Value}
    (a_queue_ready : PySem.W.nsIn K mainGlobals "queue_ready" = some (some (.ref f_queue_ready))) (l_queue_ready : K.lookup f_queue_ready = some ⟨oc_queue_ready, od_queue_ready, .func (PySem.W.fnOf "queue_ready" "queue_ready" (defArgs s_queue_ready) (defBody s_queue_ready) (defScope s_queue_ready) .none kV_queue_ready dc_queue_ready pm_queue_ready an_queue_ready cd_queue_ready ct_queue_ready), sl_queue_ready⟩) (c_queue_ready : PySem.W.codeIn K cd_queue_ready "queue_ready" = true) (k_queue_ready : PySem.W.keepIn K (.ref f_queue_ready) = true)
    {f_queue_fault : Addr} {od_queue_fault an_queue_fault : Option Addr} {sl_queue_fault : Array (Option Value)} {oc_queue_fault kV_queue_fault dc_queue_fault pm_queue_fault cd_queue_fault ct_queue_fault : Value}
    (a_queue_fault : PySem.W.nsIn K mainGlobals "queue_fault" = some (some (.ref f_queue_fault))) (l_queue_fault : K.lookup f_queue_fault = some ⟨oc_queue_fault, od_queue_fault, .func (PySem.W.fnOf "queue_fault" "queue_fault" (defArgs s_queue_fault) (defBody s_queue_fault) (defScope s_queue_fault) .none kV_queue_fault dc_queue_fault pm_queue_fault an_queue_fault cd_queue_fault ct_queue_fault), sl_queue_fault⟩) (c_queue_fault : PySem.W.codeIn K cd_queue_fault "queue_fault" = true) (k_queue_fault : PySem.W.keepIn K (.ref f_queue_fault) = true)
    {f_queue_count : Addr} {od_queue_count an_queue_count : Option Addr} {sl_queue_count : Array (Option Value)} {oc_queue_count kV_queue_count dc_queue_count pm_queue_count cd_queue_count ct_queue_count : Value}
    (a_queue_count : PySem.W.nsIn K mainGlobals "queue_count" = some (some (.ref f_queue_count))) (l_queue_count : K.lookup f_queue_count = some ⟨oc_queue_count, od_queue_count, .func (PySem.W.fnOf "queue_count" "queue_count" (defArgs s_queue_count) (defBody s_queue_count) (defScope s_queue_count) .none kV_queue_count dc_queue_count pm_queue_count an_queue_count cd_queue_count ct_queue_count), sl_queue_count⟩) (c_queue_count : PySem.W.codeIn K cd_queue_count "queue_count" = true) (k_queue_count : PySem.W.keepIn K (.ref f_queue_count) = true)
    {f_queue_row_at : Addr} {od_queue_row_at an_queue_row_at : Option Addr} {sl_queue_row_at : Array (Option Value)} {oc_queue_row_at kV_queue_row_at dc_queue_row_at pm_queue_row_at cd_queue_row_at ct_queue_row_at : Value}
    (a_queue_row_at : PySem.W.nsIn K mainGlobals "queue_row_at" = some (some (.ref f_queue_row_at))) (l_queue_row_at : K.lookup f_queue_row_at = some ⟨oc_queue_row_at, od_queue_row_at, .func (PySem.W.fnOf "queue_row_at" "queue_row_at" (defArgs s_queue_row_at) (defBody s_queue_row_at) (defScope s_queue_row_at) .none kV_queue_row_at dc_queue_row_at pm_queue_row_at an_queue_row_at cd_queue_row_at ct_queue_row_at), sl_queue_row_at⟩) (c_queue_row_at : PySem.W.codeIn K cd_queue_row_at "queue_row_at" = true) (k_queue_row_at : PySem.W.keepIn K (.ref f_queue_row_at) = true)
    {f_queue_number_of : Addr} {od_queue_number_of an_queue_number_of : Option Addr} {sl_queue_number_of : Array (Option Value)} {oc_queue_number_of kV_queue_number_of dc_queue_number_of pm_queue_number_of cd_queue_number_of ct_queue_number_of : Value}
    (a_queue_number_of : PySem.W.nsIn K mainGlobals "queue_number_of" = some (some (.ref f_queue_number_of))) (l_queue_number_of : K.lookup f_queue_number_of = some ⟨oc_queue_number_of, od_queue_number_of, .func (PySem.W.fnOf "queue_number_of" "queue_number_of" (defArgs s_queue_number_of) (defBody s_queue_number_of) (defScope s_queue_number_of) .none kV_queue_number_of dc_queue_number_of pm_queue_number_of an_queue_number_of cd_queue_number_of ct_queue_number_of), sl_queue_number_of⟩) (c_queue_number_of : PySem.W.codeIn K cd_queue_number_of "queue_number_of" = true) (k_queue_number_of : PySem.W.keepIn K (.ref f_queue_number_of) = true)
    {f_law_cell_at : Addr} {od_law_cell_at an_law_cell_at : Option Addr} {sl_law_cell_at : Array (Option Value)} {oc_law_cell_at kV_law_cell_at dc_law_cell_at pm_law_cell_at cd_law_cell_at ct_law_cell_at : Value}
    (a_law_cell_at : PySem.W.nsIn K mainGlobals "_law_cell_at" = some (some (.ref f_law_cell_at))) (l_law_cell_at : K.lookup f_law_cell_at = some ⟨oc_law_cell_at, od_law_cell_at, .func (PySem.W.fnOf "_law_cell_at" "_law_cell_at" (defArgs s_law_cell_at) (defBody s_law_cell_at) (defScope s_law_cell_at) .none kV_law_cell_at dc_law_cell_at pm_law_cell_at an_law_cell_at cd_law_cell_at ct_law_cell_at), sl_law_cell_at⟩) (c_law_cell_at : PySem.W.codeIn K cd_law_cell_at "_law_cell_at" = true) (k_law_cell_at : PySem.W.keepIn K (.ref f_law_cell_at) = true)
    {f_law_source : Addr} {od_law_source an_law_source : Option Addr} {sl_law_source : Array (Option Value)} {oc_law_source kV_law_source dc_law_source pm_law_source cd_law_source ct_law_source : Value}
    (a_law_source : PySem.W.nsIn K mainGlobals "_law_source" = some (some (.ref f_law_source))) (l_law_source : K.lookup f_law_source = some ⟨oc_law_source, od_law_source, .func (PySem.W.fnOf "_law_source" "_law_source" (defArgs s_law_source) (defBody s_law_source) (defScope s_law_source) .none kV_law_source dc_law_source pm_law_source an_law_source cd_law_source ct_law_source), sl_law_source⟩) (c_law_source : PySem.W.codeIn K cd_law_source "_law_source" = true) (k_law_source : PySem.W.keepIn K (.ref f_law_source) = true)
    {f_law_take : Addr} {od_law_take an_law_take : Option Addr} {sl_law_take : Array (Option Value)} {oc_law_take kV_law_take dc_law_take pm_law_take cd_law_take ct_law_take : Value}
    (a_law_take : PySem.W.nsIn K mainGlobals "_law_take" = some (some (.ref f_law_take))) (l_law_take : K.lookup f_law_take = some ⟨oc_law_take, od_law_take, .func (PySem.W.fnOf "_law_take" "_law_take" (defArgs s_law_take) (defBody s_law_take) (defScope s_law_take) .none kV_law_take dc_law_take pm_law_take an_law_take cd_law_take ct_law_take), sl_law_take⟩) (c_law_take : PySem.W.codeIn K cd_law_take "_law_take" = true) (k_law_take : PySem.W.keepIn K (.ref f_law_take) = true)
    {f_law_large : Addr} {od_law_large an_law_large : Option Addr} {sl_law_large : Array (Option Value)} {oc_law_large kV_law_large dc_law_large pm_law_large cd_law_large ct_law_large : Value}
    (a_law_large : PySem.W.nsIn K mainGlobals "_law_large" = some (some (.ref f_law_large))) (l_law_large : K.lookup f_law_large = some ⟨oc_law_large, od_law_large, .func (PySem.W.fnOf "_law_large" "_law_large" (defArgs s_law_large) (defBody s_law_large) (defScope s_law_large) .none kV_law_large dc_law_large pm_law_large an_law_large cd_law_large ct_law_large), sl_law_large⟩) (c_law_large : PySem.W.codeIn K cd_law_large "_law_large" = true) (k_law_large : PySem.W.keepIn K (.ref f_law_large) = true)
    {f_law_queue : Addr} {od_law_queue an_law_queue : Option Addr} {sl_law_queue : Array (Option Value)} {oc_law_queue kV_law_queue dc_law_queue pm_law_queue cd_law_queue ct_law_queue : Value}
    (a_law_queue : PySem.W.nsIn K mainGlobals "_law_queue" = some (some (.ref f_law_queue))) (l_law_queue : K.lookup f_law_queue = some ⟨oc_law_queue, od_law_queue, .func (PySem.W.fnOf "_law_queue" "_law_queue" (defArgs s_law_queue) (defBody s_law_queue) (defScope s_law_queue) .none kV_law_queue dc_law_queue pm_law_queue an_law_queue cd_law_queue ct_law_queue), sl_law_queue⟩) (c_law_queue : PySem.W.codeIn K cd_law_queue "_law_queue" = true) (k_law_queue : PySem.W.keepIn K (.ref f_law_queue) = true)
    {f_law_over : Addr} {od_law_over an_law_over : Option Addr} {sl_law_over : Array (Option Value)} {oc_law_over kV_law_over dc_law_over pm_law_over cd_law_over ct_law_over : Value}
    (a_law_over : PySem.W.nsIn K mainGlobals "_law_over" = some (some (.ref f_law_over))) (l_law_over : K.lookup f_law_over = some ⟨oc_law_over, od_law_over, .func (PySem.W.fnOf "_law_over" "_law_over" (defArgs s_law_over) (defBody s_law_over) (defScope s_law_over) .none kV_law_over dc_law_over pm_law_over an_law_over cd_law_over ct_law_over), sl_law_over⟩) (c_law_over : PySem.W.codeIn K cd_law_over "_law_over" = true) (k_law_over : PySem.W.keepIn K (.ref f_law_over) = true)
    {f_law_begun : Addr} {od_law_begun an_law_begun : Option Addr} {sl_law_begun : Array (Option Value)} {oc_law_begun kV_law_begun dc_law_begun pm_law_begun cd_law_begun ct_law_begun : Value}
    (a_law_begun : PySem.W.nsIn K mainGlobals "_law_begun" = some (some (.ref f_law_begun))) (l_law_begun : K.lookup f_law_begun = some ⟨oc_law_begun, od_law_begun, .func (PySem.W.fnOf "_law_begun" "_law_begun" (defArgs s_law_begun) (defBody s_law_begun) (defScope s_law_begun) .none kV_law_begun dc_law_begun pm_law_begun an_law_begun cd_law_begun ct_law_begun), sl_law_begun⟩) (c_law_begun : PySem.W.codeIn K cd_law_begun "_law_begun" = true) (k_law_begun : PySem.W.keepIn K (.ref f_law_begun) = true)
    {f_law_small_right : Addr} {od_law_small_right an_law_small_right : Option Addr} {sl_law_small_right : Array (Option Value)} {oc_law_small_right kV_law_small_right dc_law_small_right pm_law_small_right cd_law_small_right ct_law_small_right : Value}
    (a_law_small_right : PySem.W.nsIn K mainGlobals "_law_small_right" = some (some (.ref f_law_small_right))) (l_law_small_right : K.lookup f_law_small_right = some ⟨oc_law_small_right, od_law_small_right, .func (PySem.W.fnOf "_law_small_right" "_law_small_right" (defArgs s_law_small_right) (defBody s_law_small_right) (defScope s_law_small_right) .none kV_law_small_right dc_law_small_right pm_law_small_right an_law_small_right cd_law_small_right ct_law_small_right), sl_law_small_right⟩) (c_law_small_right : PySem.W.codeIn K cd_law_small_right "_law_small_right" = true) (k_law_small_right : PySem.W.keepIn K (.ref f_law_small_right) = true)
    {f_law_large_right : Addr} {od_law_large_right an_law_large_right : Option Addr} {sl_law_large_right : Array (Option Value)} {oc_law_large_right kV_law_large_right dc_law_large_right pm_law_large_right cd_law_large_right ct_law_large_right : Value}
    (a_law_large_right : PySem.W.nsIn K mainGlobals "_law_large_right" = some (some (.ref f_law_large_right))) (l_law_large_right : K.lookup f_law_large_right = some ⟨oc_law_large_right, od_law_large_right, .func (PySem.W.fnOf "_law_large_right" "_law_large_right" (defArgs s_law_large_right) (defBody s_law_large_right) (defScope s_law_large_right) .none kV_law_large_right dc_law_large_right pm_law_large_right an_law_large_right cd_law_large_right ct_law_large_right), sl_law_large_right⟩) (c_law_large_right : PySem.W.codeIn K cd_law_large_right "_law_large_right" = true) (k_law_large_right : PySem.W.keepIn K (.ref f_law_large_right) = true)
    {f_law : Addr} {od_law an_law : Option Addr} {sl_law : Array (Option Value)} {oc_law kV_law dc_law pm_law cd_law ct_law : Value}
    (a_law : PySem.W.nsIn K mainGlobals "law" = some (some (.ref f_law))) (l_law : K.lookup f_law = some ⟨oc_law, od_law, .func (PySem.W.fnOf "law" "law" (defArgs s_law) (defBody s_law) (defScope s_law) .none kV_law dc_law pm_law an_law cd_law ct_law), sl_law⟩) (c_law : PySem.W.codeIn K cd_law "law" = true) (k_law : PySem.W.keepIn K (.ref f_law) = true)
    {t_MAX_DAYS : Tok} (v_MAX_DAYS : PySem.W.nsIn K mainGlobals "MAX_DAYS" = some (some (.int 100 t_MAX_DAYS)))
    {t_MAX_OWNED : Tok} (v_MAX_OWNED : PySem.W.nsIn K mainGlobals "MAX_OWNED" = some (some (.int 12 t_MAX_OWNED)))
    (z_all : PySem.W.nsIn K mainGlobals "all" = some none)
    (z_bool : PySem.W.nsIn K mainGlobals "bool" = some none)
    (z_enumerate : PySem.W.nsIn K mainGlobals "enumerate" = some none)
    (z_int : PySem.W.nsIn K mainGlobals "int" = some none)
    (z_isinstance : PySem.W.nsIn K mainGlobals "isinstance" = some none)
    (z_len : PySem.W.nsIn K mainGlobals "len" = some none)
    (z_list : PySem.W.nsIn K mainGlobals "list" = some none)
    (z_max : PySem.W.nsIn K mainGlobals "max" = some none)
    (z_min : PySem.W.nsIn K mainGlobals "min" = some none)
    (z_range : PySem.W.nsIn K mainGlobals "range" = some none)
    (z_reversed : PySem.W.nsIn K mainGlobals "reversed" = some none)
    (z_sum : PySem.W.nsIn K mainGlobals "sum" = some none)
    (z_tuple : PySem.W.nsIn K mainGlobals "tuple" = some none)
    : ∃ (fd : FuncData) (C : CT), (∀ (s : Shared) (v : Value), BindsTo s fd ⟨[v], []⟩ [("_law_script", v)]) ∧ ∀ base : Heap, K.In base → base.Ns mainGlobals mg → FnQ l.prog w K mg base C 8 fa fd ["_law_script"] F_law := by
  have e2 : fa = f_law := by
    have e := hfa.symm.trans (PySem.W.mg_of X G a_law)
    cases e
    rfl
  rw [e2]
  have F_is_integer := fun_mk (st := s_is_integer) l_is_integer c_is_integer k_is_integer
  have F_is_at_least := fun_mk (st := s_is_at_least) l_is_at_least c_is_at_least k_is_at_least
  have F_is_between := fun_mk (st := s_is_between) l_is_between c_is_between k_is_between
  have F_are_numbers := fun_mk (st := s_are_numbers) l_are_numbers c_are_numbers k_are_numbers
  have F_require_row := fun_mk (st := s_require_row) l_require_row c_require_row k_require_row
  have F_is_night := fun_mk (st := s_is_night) l_is_night c_is_night k_is_night
  have F_require_queue := fun_mk (st := s_require_queue) l_require_queue c_require_queue k_require_queue
  have F_waiting_mornings := fun_mk (st := s_waiting_mornings) l_waiting_mornings c_waiting_mornings k_waiting_mornings
  have F_queue_over := fun_mk (st := s_queue_over) l_queue_over c_queue_over k_queue_over
  have F_require_queue_past := fun_mk (st := s_require_queue_past) l_require_queue_past c_require_queue_past k_require_queue_past
  have F_Rooms_init := fun_mk (st := s_Rooms_init) l_Rooms_init c_Rooms_init k_Rooms_init
  have F_Rooms_ways_behind := fun_mk (st := s_Rooms_ways_behind) l_Rooms_ways_behind c_Rooms_ways_behind k_Rooms_ways_behind
  have F_Rooms_room_behind := fun_mk (st := s_Rooms_room_behind) l_Rooms_room_behind c_Rooms_room_behind k_Rooms_room_behind
  have F_Rooms_ways_on := fun_mk (st := s_Rooms_ways_on) l_Rooms_ways_on c_Rooms_ways_on k_Rooms_ways_on
  have F_Rooms_numbered_row := fun_mk (st := s_Rooms_numbered_row) l_Rooms_numbered_row c_Rooms_numbered_row k_Rooms_numbered_row
  have F_Rooms_number_of_row := fun_mk (st := s_Rooms_number_of_row) l_Rooms_number_of_row c_Rooms_number_of_row k_Rooms_number_of_row
  have F_queue_ready := fun_mk (st := s_queue_ready) l_queue_ready c_queue_ready k_queue_ready
  have F_queue_fault := fun_mk (st := s_queue_fault) l_queue_fault c_queue_fault k_queue_fault
  have F_queue_count := fun_mk (st := s_queue_count) l_queue_count c_queue_count k_queue_count
  have F_queue_row_at := fun_mk (st := s_queue_row_at) l_queue_row_at c_queue_row_at k_queue_row_at
  have F_queue_number_of := fun_mk (st := s_queue_number_of) l_queue_number_of c_queue_number_of k_queue_number_of
  have F_law_cell_at := fun_mk (st := s_law_cell_at) l_law_cell_at c_law_cell_at k_law_cell_at
  have F_law_source := fun_mk (st := s_law_source) l_law_source c_law_source k_law_source
  have F_law_take := fun_mk (st := s_law_take) l_law_take c_law_take k_law_take
  have F_law_large := fun_mk (st := s_law_large) l_law_large c_law_large k_law_large
  have F_law_queue := fun_mk (st := s_law_queue) l_law_queue c_law_queue k_law_queue
  have F_law_over := fun_mk (st := s_law_over) l_law_over c_law_over k_law_over
  have F_law_begun := fun_mk (st := s_law_begun) l_law_begun c_law_begun k_law_begun
  have F_law_small_right := fun_mk (st := s_law_small_right) l_law_small_right c_law_small_right k_law_small_right
  have F_law_large_right := fun_mk (st := s_law_large_right) l_law_large_right c_law_large_right k_law_large_right
  have F_law := fun_mk (st := s_law) l_law c_law k_law
  have T : Tx K mg ⟨f_is_integer, _, f_is_at_least, _, f_is_between, _, f_are_numbers, _, f_require_row, _, f_is_night, _, f_require_queue, _, f_waiting_mornings, _, f_queue_over, _, f_require_queue_past, _, f_Rooms_init, _, f_Rooms_ways_behind, _, f_Rooms_room_behind, _, f_Rooms_ways_on, _, f_Rooms_numbered_row, _, f_Rooms_number_of_row, _, f_queue_ready, _, f_queue_fault, _, f_queue_count, _, f_queue_row_at, _, f_queue_number_of, _, f_law_cell_at, _, f_law_source, _, f_law_take, _, f_law_large, _, f_law_queue, _, f_law_over, _, f_law_begun, _, f_law_small_right, _, f_law_large_right, _, f_law, _, C_Rooms, t_MAX_DAYS, t_MAX_OWNED⟩ :=
    { g_is_integer := PySem.W.mg_of X G a_is_integer,
      F_is_integer := F_is_integer, b_is_integer := F_is_integer.binds fun _ _ _ _ _ _ us hl => match us, hl with | [_], _ => rfl,
      g_is_at_least := PySem.W.mg_of X G a_is_at_least,
      F_is_at_least := F_is_at_least, b_is_at_least := F_is_at_least.binds fun _ _ _ _ _ _ us hl => match us, hl with | [_, _], _ => rfl,
      g_is_between := PySem.W.mg_of X G a_is_between,
      F_is_between := F_is_between, b_is_between := F_is_between.binds fun _ _ _ _ _ _ us hl => match us, hl with | [_, _, _], _ => rfl,
      g_are_numbers := PySem.W.mg_of X G a_are_numbers,
      F_are_numbers := F_are_numbers, b_are_numbers := F_are_numbers.binds fun _ _ _ _ _ _ us hl => match us, hl with | [_], _ => rfl,
      g_require_row := PySem.W.mg_of X G a_require_row,
      F_require_row := F_require_row, b_require_row := F_require_row.binds fun _ _ _ _ _ _ us hl => match us, hl with | [_, _], _ => rfl,
      g_is_night := PySem.W.mg_of X G a_is_night,
      F_is_night := F_is_night, b_is_night := F_is_night.binds fun _ _ _ _ _ _ us hl => match us, hl with | [_], _ => rfl,
      g_require_queue := PySem.W.mg_of X G a_require_queue,
      F_require_queue := F_require_queue, b_require_queue := F_require_queue.binds fun _ _ _ _ _ _ us hl => match us, hl with | [_], _ => rfl,
      g_waiting_mornings := PySem.W.mg_of X G a_waiting_mornings,
      F_waiting_mornings := F_waiting_mornings, b_waiting_mornings := F_waiting_mornings.binds fun _ _ _ _ _ _ us hl => match us, hl with | [_, _], _ => rfl,
      g_queue_over := PySem.W.mg_of X G a_queue_over,
      F_queue_over := F_queue_over, b_queue_over := F_queue_over.binds fun _ _ _ _ _ _ us hl => match us, hl with | [_, _], _ => rfl,
      g_require_queue_past := PySem.W.mg_of X G a_require_queue_past,
      F_require_queue_past := F_require_queue_past, b_require_queue_past := F_require_queue_past.binds fun _ _ _ _ _ _ us hl => match us, hl with | [_, _], _ => rfl,
      F_Rooms_init := F_Rooms_init, b_Rooms_init := F_Rooms_init.binds fun _ _ _ _ _ _ us hl => match us, hl with | [_, _], _ => rfl,
      m_Rooms_ways_behind := ⟨a_Rooms_ways_behind, i_Rooms_ways_behind, k_Rooms_ways_behind⟩,
      F_Rooms_ways_behind := F_Rooms_ways_behind, b_Rooms_ways_behind := F_Rooms_ways_behind.binds fun _ _ _ _ _ _ us hl => match us, hl with | [_, _], _ => rfl,
      m_Rooms_room_behind := ⟨a_Rooms_room_behind, i_Rooms_room_behind, k_Rooms_room_behind⟩,
      F_Rooms_room_behind := F_Rooms_room_behind, b_Rooms_room_behind := F_Rooms_room_behind.binds fun _ _ _ _ _ _ us hl => match us, hl with | [_, _], _ => rfl,
      m_Rooms_ways_on := ⟨a_Rooms_ways_on, i_Rooms_ways_on, k_Rooms_ways_on⟩,
      F_Rooms_ways_on := F_Rooms_ways_on, b_Rooms_ways_on := F_Rooms_ways_on.binds fun _ _ _ _ _ _ us hl => match us, hl with | [_, _, _], _ => rfl,
      m_Rooms_numbered_row := ⟨a_Rooms_numbered_row, i_Rooms_numbered_row, k_Rooms_numbered_row⟩,
      F_Rooms_numbered_row := F_Rooms_numbered_row, b_Rooms_numbered_row := F_Rooms_numbered_row.binds fun _ _ _ _ _ _ us hl => match us, hl with | [_, _], _ => rfl,
      m_Rooms_number_of_row := ⟨a_Rooms_number_of_row, i_Rooms_number_of_row, k_Rooms_number_of_row⟩,
      F_Rooms_number_of_row := F_Rooms_number_of_row, b_Rooms_number_of_row := F_Rooms_number_of_row.binds fun _ _ _ _ _ _ us hl => match us, hl with | [_, _], _ => rfl,
      g_queue_ready := PySem.W.mg_of X G a_queue_ready,
      F_queue_ready := F_queue_ready, b_queue_ready := F_queue_ready.binds fun _ _ _ _ _ _ us hl => match us, hl with | [_, _], _ => rfl,
      g_queue_fault := PySem.W.mg_of X G a_queue_fault,
      F_queue_fault := F_queue_fault, b_queue_fault := F_queue_fault.binds fun _ _ _ _ _ _ us hl => match us, hl with | [_, _], _ => rfl,
      g_queue_count := PySem.W.mg_of X G a_queue_count,
      F_queue_count := F_queue_count, b_queue_count := F_queue_count.binds fun _ _ _ _ _ _ us hl => match us, hl with | [_, _], _ => rfl,
      g_queue_row_at := PySem.W.mg_of X G a_queue_row_at,
      F_queue_row_at := F_queue_row_at, b_queue_row_at := F_queue_row_at.binds fun _ _ _ _ _ _ us hl => match us, hl with | [_, _], _ => rfl,
      g_queue_number_of := PySem.W.mg_of X G a_queue_number_of,
      F_queue_number_of := F_queue_number_of, b_queue_number_of := F_queue_number_of.binds fun _ _ _ _ _ _ us hl => match us, hl with | [_, _], _ => rfl,
      g_law_cell_at := PySem.W.mg_of X G a_law_cell_at,
      F_law_cell_at := F_law_cell_at, b_law_cell_at := F_law_cell_at.binds fun _ _ _ _ _ _ us hl => match us, hl with | [_, _], _ => rfl,
      g_law_source := PySem.W.mg_of X G a_law_source,
      F_law_source := F_law_source, b_law_source := F_law_source.binds fun _ _ _ _ _ _ us hl => match us, hl with | [_], _ => rfl,
      g_law_take := PySem.W.mg_of X G a_law_take,
      F_law_take := F_law_take, b_law_take := F_law_take.binds fun _ _ _ _ _ _ us hl => match us, hl with | [_, _], _ => rfl,
      g_law_large := PySem.W.mg_of X G a_law_large,
      F_law_large := F_law_large, b_law_large := F_law_large.binds fun _ _ _ _ _ _ us hl => match us, hl with | [_, _], _ => rfl,
      g_law_queue := PySem.W.mg_of X G a_law_queue,
      F_law_queue := F_law_queue, b_law_queue := F_law_queue.binds fun _ _ _ _ _ _ us hl => match us, hl with | [_, _, _], _ => rfl,
      g_law_over := PySem.W.mg_of X G a_law_over,
      F_law_over := F_law_over, b_law_over := F_law_over.binds fun _ _ _ _ _ _ us hl => match us, hl with | [_, _], _ => rfl,
      g_law_begun := PySem.W.mg_of X G a_law_begun,
      F_law_begun := F_law_begun, b_law_begun := F_law_begun.binds fun _ _ _ _ _ _ us hl => match us, hl with | [_, _], _ => rfl,
      g_law_small_right := PySem.W.mg_of X G a_law_small_right,
      F_law_small_right := F_law_small_right, b_law_small_right := F_law_small_right.binds fun _ _ _ _ _ _ us hl => match us, hl with | [_], _ => rfl,
      g_law_large_right := PySem.W.mg_of X G a_law_large_right,
      F_law_large_right := F_law_large_right, b_law_large_right := F_law_large_right.binds fun _ _ _ _ _ _ us hl => match us, hl with | [_], _ => rfl,
      g_law := PySem.W.mg_of X G a_law,
      F_law := F_law, b_law := F_law.binds fun _ _ _ _ _ _ us hl => match us, hl with | [_], _ => rfl,
      n_Rooms := aC_Rooms, cl_Rooms := ⟨pg_Rooms, hd_Rooms, po_Rooms, sa_Rooms⟩, g_Rooms := PySem.W.mg_of X G aC_Rooms,
      mk_Rooms := ⟨mk_Rooms, a_Rooms_init, i_Rooms_init, kc_Rooms⟩,
      na_Rooms_nights := na_Rooms_nights,
      na_Rooms_tops_by_day := na_Rooms_tops_by_day,
      na_Rooms_ways_by_day := na_Rooms_ways_by_day,
      k_queue_count_past_queue := fun s us ws _ h1 h2 => match us, ws, h1, h2 with | [], [_, _], _, _ => .of_eq rfl,
      k_queue_number_of_row_queue := fun s us ws _ h1 h2 => match us, ws, h1, h2 with | [], [_, _], _, _ => .of_eq rfl,
      k_queue_row_at_number_queue := fun s us ws _ h1 h2 => match us, ws, h1, h2 with | [], [_, _], _, _ => .of_eq rfl,
      m_all := PySem.W.mg_none_of X G z_all,
      m_bool := PySem.W.mg_none_of X G z_bool,
      m_enumerate := PySem.W.mg_none_of X G z_enumerate,
      m_int := PySem.W.mg_none_of X G z_int,
      m_isinstance := PySem.W.mg_none_of X G z_isinstance,
      m_len := PySem.W.mg_none_of X G z_len,
      m_list := PySem.W.mg_none_of X G z_list,
      m_max := PySem.W.mg_none_of X G z_max,
      m_min := PySem.W.mg_none_of X G z_min,
      m_range := PySem.W.mg_none_of X G z_range,
      m_reversed := PySem.W.mg_none_of X G z_reversed,
      m_sum := PySem.W.mg_none_of X G z_sum,
      m_tuple := PySem.W.mg_none_of X G z_tuple,
      c_MAX_DAYS := PySem.W.mg_of X G v_MAX_DAYS,
      c_MAX_OWNED := PySem.W.mg_of X G v_MAX_OWNED }
  exact ⟨_, ⟨fun _ => 0, fun _ => Str.empty⟩, fun s v => .of_eq rfl, fun base _ _ => ok_law T⟩
end My
open PySem PySem.W PyProof.Rows
set_option maxRecDepth 100000 in
set_option maxHeartbeats 0 in
theorem PySem.Challenge.cw_breakrows_k66_rows_of_queues_holds : PySem.Challenge.rw_breakrows_k66_rows_of_queues.Holds := by
  w_on; o_law; k_head; (case hw => w_witness2)
  k_fill
  refine Bk.walk_q (l := PySem.Challenge.rw_breakrows_k66_rows_of_queues) (n := 63) (k := 8) (x := "_law_script") (F := My.F_law) rfl (by decide) rfl ⟨rfl, by decide, by decide⟩ (fun w h Y => PySem.W.kIn_of Y) ?F My.law_true
  case F =>
    intro w mg fa h KX G hmg
    refine' My.all_mk KX G hmg ?aC_Rooms ?pg_Rooms ?hd_Rooms ?po_Rooms ?sa_Rooms ?mk_Rooms ?kc_Rooms ?na_Rooms_nights ?na_Rooms_tops_by_day ?na_Rooms_ways_by_day ?a_is_integer ?l_is_integer ?c_is_integer ?k_is_integer ?a_is_at_least ?l_is_at_least ?c_is_at_least ?k_is_at_least ?a_is_between ?l_is_between ?c_is_between ?k_is_between ?a_are_numbers ?l_are_numbers ?c_are_numbers ?k_are_numbers ?a_require_row ?l_require_row ?c_require_row ?k_require_row ?a_is_night ?l_is_night ?c_is_night ?k_is_night ?a_require_queue ?l_require_queue ?c_require_queue ?k_require_queue ?a_waiting_mornings ?l_waiting_mornings ?c_waiting_mornings ?k_waiting_mornings ?a_queue_over ?l_queue_over ?c_queue_over ?k_queue_over ?a_require_queue_past ?l_require_queue_past ?c_require_queue_past ?k_require_queue_past ?a_Rooms_init ?i_Rooms_init ?l_Rooms_init ?c_Rooms_init ?k_Rooms_init ?a_Rooms_ways_behind ?i_Rooms_ways_behind ?l_Rooms_ways_behind ?c_Rooms_ways_behind ?k_Rooms_ways_behind ?a_Rooms_room_behind ?i_Rooms_room_behind ?l_Rooms_room_behind ?c_Rooms_room_behind ?k_Rooms_room_behind ?a_Rooms_ways_on ?i_Rooms_ways_on ?l_Rooms_ways_on ?c_Rooms_ways_on ?k_Rooms_ways_on ?a_Rooms_numbered_row ?i_Rooms_numbered_row ?l_Rooms_numbered_row ?c_Rooms_numbered_row ?k_Rooms_numbered_row ?a_Rooms_number_of_row ?i_Rooms_number_of_row ?l_Rooms_number_of_row ?c_Rooms_number_of_row ?k_Rooms_number_of_row ?a_queue_ready ?l_queue_ready ?c_queue_ready ?k_queue_ready ?a_queue_fault ?l_queue_fault ?c_queue_fault ?k_queue_fault ?a_queue_count ?l_queue_count ?c_queue_count ?k_queue_count ?a_queue_row_at ?l_queue_row_at ?c_queue_row_at ?k_queue_row_at ?a_queue_number_of ?l_queue_number_of ?c_queue_number_of ?k_queue_number_of ?a_law_cell_at ?l_law_cell_at ?c_law_cell_at ?k_law_cell_at ?a_law_source ?l_law_source ?c_law_source ?k_law_source ?a_law_take ?l_law_take ?c_law_take ?k_law_take ?a_law_large ?l_law_large ?c_law_large ?k_law_large ?a_law_queue ?l_law_queue ?c_law_queue ?k_law_queue ?a_law_over ?l_law_over ?c_law_over ?k_law_over ?a_law_begun ?l_law_begun ?c_law_begun ?k_law_begun ?a_law_small_right ?l_law_small_right ?c_law_small_right ?k_law_small_right ?a_law_large_right ?l_law_large_right ?c_law_large_right ?k_law_large_right ?a_law ?l_law ?c_law ?k_law ?v_MAX_DAYS ?v_MAX_OWNED ?z_all ?z_bool ?z_enumerate ?z_int ?z_isinstance ?z_len ?z_list ?z_max ?z_min ?z_range ?z_reversed ?z_sum ?z_tuple
    (case aC_Rooms => k_is); (case pg_Rooms => k_is); (case hd_Rooms => k_is); (case po_Rooms => k_is); (case sa_Rooms => k_is); (case mk_Rooms => k_is); (case kc_Rooms => k_is); (case na_Rooms_nights => k_is); (case na_Rooms_tops_by_day => k_is); (case na_Rooms_ways_by_day => k_is); (case a_is_integer => k_is); (case l_is_integer => k_is); (case c_is_integer => k_is); (case k_is_integer => k_is); (case a_is_at_least => k_is); (case l_is_at_least => k_is); (case c_is_at_least => k_is); (case k_is_at_least => k_is); (case a_is_between => k_is); (case l_is_between => k_is); (case c_is_between => k_is); (case k_is_between => k_is); (case a_are_numbers => k_is); (case l_are_numbers => k_is); (case c_are_numbers => k_is); (case k_are_numbers => k_is); (case a_require_row => k_is); (case l_require_row => k_is); (case c_require_row => k_is); (case k_require_row => k_is); (case a_is_night => k_is); (case l_is_night => k_is); (case c_is_night => k_is); (case k_is_night => k_is); (case a_require_queue => k_is); (case l_require_queue => k_is); (case c_require_queue => k_is); (case k_require_queue => k_is); (case a_waiting_mornings => k_is); (case l_waiting_mornings => k_is); (case c_waiting_mornings => k_is); (case k_waiting_mornings => k_is); (case a_queue_over => k_is); (case l_queue_over => k_is); (case c_queue_over => k_is); (case k_queue_over => k_is); (case a_require_queue_past => k_is); (case l_require_queue_past => k_is); (case c_require_queue_past => k_is); (case k_require_queue_past => k_is); (case a_Rooms_init => k_is); (case i_Rooms_init => k_is); (case l_Rooms_init => k_is); (case c_Rooms_init => k_is); (case k_Rooms_init => k_is); (case a_Rooms_ways_behind => k_is); (case i_Rooms_ways_behind => k_is); (case l_Rooms_ways_behind => k_is); (case c_Rooms_ways_behind => k_is); (case k_Rooms_ways_behind => k_is); (case a_Rooms_room_behind => k_is); (case i_Rooms_room_behind => k_is); (case l_Rooms_room_behind => k_is); (case c_Rooms_room_behind => k_is); (case k_Rooms_room_behind => k_is); (case a_Rooms_ways_on => k_is); (case i_Rooms_ways_on => k_is); (case l_Rooms_ways_on => k_is); (case c_Rooms_ways_on => k_is); (case k_Rooms_ways_on => k_is); (case a_Rooms_numbered_row => k_is); (case i_Rooms_numbered_row => k_is); (case l_Rooms_numbered_row => k_is); (case c_Rooms_numbered_row => k_is); (case k_Rooms_numbered_row => k_is); (case a_Rooms_number_of_row => k_is); (case i_Rooms_number_of_row => k_is); (case l_Rooms_number_of_row => k_is); (case c_Rooms_number_of_row => k_is); (case k_Rooms_number_of_row => k_is); (case a_queue_ready => k_is); (case l_queue_ready => k_is); (case c_queue_ready => k_is); (case k_queue_ready => k_is); (case a_queue_fault => k_is); (case l_queue_fault => k_is); (case c_queue_fault => k_is); (case k_queue_fault => k_is); (case a_queue_count => k_is); (case l_queue_count => k_is); (case c_queue_count => k_is); (case k_queue_count => k_is); (case a_queue_row_at => k_is); (case l_queue_row_at => k_is); (case c_queue_row_at => k_is); (case k_queue_row_at => k_is); (case a_queue_number_of => k_is); (case l_queue_number_of => k_is); (case c_queue_number_of => k_is); (case k_queue_number_of => k_is); (case a_law_cell_at => k_is); (case l_law_cell_at => k_is); (case c_law_cell_at => k_is); (case k_law_cell_at => k_is); (case a_law_source => k_is); (case l_law_source => k_is); (case c_law_source => k_is); (case k_law_source => k_is); (case a_law_take => k_is); (case l_law_take => k_is); (case c_law_take => k_is); (case k_law_take => k_is); (case a_law_large => k_is); (case l_law_large => k_is); (case c_law_large => k_is); (case k_law_large => k_is); (case a_law_queue => k_is); (case l_law_queue => k_is); (case c_law_queue => k_is); (case k_law_queue => k_is); (case a_law_over => k_is); (case l_law_over => k_is); (case c_law_over => k_is); (case k_law_over => k_is); (case a_law_begun => k_is); (case l_law_begun => k_is); (case c_law_begun => k_is); (case k_law_begun => k_is); (case a_law_small_right => k_is); (case l_law_small_right => k_is); (case c_law_small_right => k_is); (case k_law_small_right => k_is); (case a_law_large_right => k_is); (case l_law_large_right => k_is); (case c_law_large_right => k_is); (case k_law_large_right => k_is); (case a_law => k_is); (case l_law => k_is); (case c_law => k_is); (case k_law => k_is); (case v_MAX_DAYS => k_is); (case v_MAX_OWNED => k_is); (case z_all => k_is); (case z_bool => k_is); (case z_enumerate => k_is); (case z_int => k_is); (case z_isinstance => k_is); (case z_len => k_is); (case z_list => k_is); (case z_max => k_is); (case z_min => k_is); (case z_range => k_is); (case z_reversed => k_is); (case z_sum => k_is); (case z_tuple => k_is)

