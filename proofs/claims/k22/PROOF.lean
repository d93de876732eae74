import PyProof.Rows.All
import Wide.All
import OpenK.AllK
import Wide.FinOn
import HandS.ForMost
import HandS.ForExc
import HandS.CallSlots
import HandS.IsInst
import HandS.TupAny
import HandS.Wide
import HandS.Deep
import HandS.Style
import HandS.TupMul
import HandS.Conv
import HandS.Small
import HandS.Defaults
import HandS.HeadEnd
import HandS.Head2
import HandS.HeadHook4
import HandS.Dict
import KE.SortData
import PySem.Challenge.RW_dartwebs_k22_whole_rounds
set_option Elab.async false
set_option linter.all false
set_option maxRecDepth 100000
namespace DV
open PySem PySem.Spec PyProof.Rows L2

/-- a value: data that never changes, or an owned list's place in the store -/
inductive Val where
  | d (x : PyData)
  | loc (k : Nat)
inductive Ob where
  | lst (xs : List Val)
  | frz (ds : List PyData)
structure Exn where
  cls : Str
  fs : List (Str × PyData)
abbrev Sto := List Ob
abbrev Sl := List (Option Val)
inductive R (α : Type) where
  | ok (a : α) (s : Sto)
  | er (e : Exn) (s : Sto)
  | bad
@[inline] def R.bind {α β : Type} (x : R α) (f : α → Sto → R β) : R β := match x with
  | .ok a s => f a s
  | .er e s => .er e s
  | .bad => .bad
abbrev DE := Sl → Sto → R Val

/-! ### data in a heap -/
def keyD : Key → PyData
  | .inl i => .int i
  | .inr x => .str x
mutual
inductive Dq (K : PySem.W.Frag) (H : Hp) : V → PyData → Prop
  | non : Dq K H .non .none
  | bl (b : Bool) : Dq K H (.bl b) (.bool b)
  | int (i : Int) : Dq K H (.int i) (.int i)
  | str (x : Str) : Dq K H (.str x) (.str x)
  | lst {a : Addr} {xs : List V} {ds : List PyData} : H a = some (.lst xs) → DqAll K H xs ds → Dq K H (.ref a) (.list ds)
  | scr {a : Addr} {xs : List V} {ds : List PyData} : SqL K H a xs → DqAll K H xs ds → Dq K H (.ref a) (.dict [(.none, .list ds)])
  | tup {a : Addr} {xs : List V} {ds : List PyData} : SqT K H a xs → DqAll K H xs ds → Dq K H (.ref a) (.tuple ds)
  | dk {a : Addr} {ks : List Key} {vs : List V} {kvs : List (PyData × PyData)} : H a = some (.dK (ks.zip vs)) → ks.length = vs.length → kvs.map (·.1) = ks.map keyD → DqAll K H vs (kvs.map (·.2)) → Dq K H (.ref a) (.dict kvs)
  | dt {a : Addr} {ks : List (List Key)} {vs : List V} {kvs : List (PyData × PyData)} : H a = some (.dT (ks.zip vs)) → ks.length = vs.length → kvs.map (·.1) = ks.map (fun k => .tuple (k.map keyD)) → DqAll K H vs (kvs.map (·.2)) → Dq K H (.ref a) (.dict kvs)
inductive DqAll (K : PySem.W.Frag) (H : Hp) : List V → List PyData → Prop
  | nil : DqAll K H [] []
  | cons {v : V} {vs : List V} {d : PyData} {ds : List PyData} : Dq K H v d → DqAll K H vs ds → DqAll K H (v :: vs) (d :: ds)
end

/-! ### data in a heap that only grows -/
section
variable {K : PySem.W.Frag} {F F' H H' : Hp}
theorem SqT.mono {a : Addr} {xs : List V} (e : Same F F') (h : SqT K F a xs) : SqT K F' a xs := by
  rcases h with (h | ⟨o, h⟩) | h
  · exact .inl (.inl (e _ _ h))
  · exact .inl (.inr ⟨o, e _ _ h⟩)
  · exact .inr h
mutual
theorem Dq.mono' (e : Same F F') {d : PyData} {v : V} (h : Dq K F v d) : Dq K F' v d := match h with
  | .non => .non
  | .bl _ => .bl _
  | .int _ => .int _
  | .str _ => .str _
  | .lst s q => .lst (e _ _ s) (DqAll.mono' e q)
  | .scr s q => .scr (e.seq s) (DqAll.mono' e q)
  | .tup s q => .tup (SqT.mono e s) (DqAll.mono' e q)
  | .dk s l k q => .dk (e _ _ s) l k (DqAll.mono' e q)
  | .dt s l k q => .dt (e _ _ s) l k (DqAll.mono' e q)
theorem DqAll.mono' (e : Same F F') {ds : List PyData} {vs : List V} (h : DqAll K F vs ds) : DqAll K F' vs ds := match h with
  | .nil => .nil
  | .cons a b => .cons (Dq.mono' e a) (DqAll.mono' e b)
end
theorem Dq.mono (e : Same F F') (d : PyData) (v : V) (h : Dq K F v d) : Dq K F' v d := Dq.mono' e h
theorem DqAll.mono (e : Same F F') (ds : List PyData) (vs : List V) (h : DqAll K F vs ds) : DqAll K F' vs ds := DqAll.mono' e h
mutual
theorem Dq.dp {d : PyData} {v : V} (h : Dq K F v d) (c : d.canLay0 = true) : Dp K F v d := match h with
  | .non => .non
  | .bl _ => .bl _
  | .int _ => .int _
  | .str _ => .str _
  | .lst s q => .lst (SqL.of s) (DqAll.dp q (by simpa [PyData.canLay0] using c))
  | .scr s q => by simp [PyData.canLay0] at c
  | .tup s q => .tup s (DqAll.dp q (by simpa [PyData.canLay0] using c))
  | .dk s l k q => by simp [PyData.canLay0] at c
  | .dt s l k q => by simp [PyData.canLay0] at c
theorem DqAll.dp {ds : List PyData} {vs : List V} (h : DqAll K F vs ds) (c : PyData.canLayAll0 ds = true) : DpAll K F vs ds := match h with
  | .nil => .nil
  | .cons a b => by
    simp only [PyData.canLayAll0, Bool.and_eq_true] at c
    exact .cons (Dq.dp a c.1) (DqAll.dp b c.2)
end
theorem DqAll.length : ∀ {ds : List PyData} {vs : List V}, DqAll K F vs ds → vs.length = ds.length
  | [], _, h => by cases h; rfl
  | _ :: ds, _, h => by
    cases h with
    | cons a b => simp [DqAll.length b]
theorem DqAll.append : ∀ {ds es : List PyData} {vs us : List V}, DqAll K F vs ds → DqAll K F us es → DqAll K F (vs ++ us) (ds ++ es)
  | [], _, _, _, h, h' => by cases h; exact h'
  | _ :: _, _, _, _, h, h' => by
    cases h with
    | cons a b => exact .cons a (DqAll.append b h')
theorem DqAll.get : ∀ {ds : List PyData} {vs : List V} {i : Nat} {d : PyData}, DqAll K F vs ds → ds[i]? = some d → ∃ v, vs[i]? = some v ∧ Dq K F v d
  | [], _, _, _, _, e => by simp at e
  | d :: ds, _, 0, x, h, e => by
    cases h with
    | cons a b =>
      simp at e
      subst e
      exact ⟨_, rfl, a⟩
  | d :: ds, _, i + 1, x, h, e => by
    cases h with
    | cons a b =>
      obtain ⟨v, e1, q⟩ := DqAll.get (i := i) (d := x) b (by simpa using e)
      exact ⟨v, by simpa using e1, q⟩
theorem DqAll.take : ∀ {ds : List PyData} {vs : List V} (n : Nat), DqAll K F vs ds → DqAll K F (vs.take n) (ds.take n)
  | _, _, 0, _ => by simp; exact .nil
  | [], _, n + 1, h => by cases h; simp; exact .nil
  | d :: ds, _, n + 1, h => by
    cases h with
    | cons a b => simpa using DqAll.cons a (DqAll.take n b)
theorem DqAll.drop : ∀ {ds : List PyData} {vs : List V} (n : Nat), DqAll K F vs ds → DqAll K F (vs.drop n) (ds.drop n)
  | _, _, 0, h => by simpa using h
  | [], _, n + 1, h => by cases h; simp; exact .nil
  | d :: ds, _, n + 1, h => by
    cases h with
    | cons a b => simpa using DqAll.drop n b
theorem DqAll.ints : ∀ {is : List Int} {vs : List V}, DqAll K F vs (is.map .int) → vs = is.map .int
  | [], _, h => by cases h; rfl
  | i :: is, _, h => by
    cases h with
    | cons a b =>
      cases a
      rw [DqAll.ints b]
      rfl
theorem DqAll.bls : ∀ {is : List Bool} {vs : List V}, DqAll K F vs (is.map .bool) → vs = is.map .bl
  | [], _, h => by cases h; rfl
  | i :: is, _, h => by
    cases h with
    | cons a b =>
      cases a
      rw [DqAll.bls b]
      rfl
theorem DqAll.of_ints : ∀ (is : List Int), DqAll K F (is.map .int) (is.map .int)
  | [] => .nil
  | i :: is => .cons (.int i) (DqAll.of_ints is)
end

/-! ### the store in the heap -/
section
variable (K : PySem.W.Frag) (ι : Nat → Addr) (F H : Hp)
def RV (n : Nat) (v : V) : Val → Prop
  | .d x => Dq K F v x
  | .loc k => k < n ∧ v = .ref (ι k)
inductive RVs (n : Nat) : List V → List Val → Prop
  | nil : RVs n [] []
  | cons {v : V} {x : Val} {vs : List V} {xs : List Val} : RV K ι F n v x → RVs n vs xs → RVs n (v :: vs) (x :: xs)
def ObR (n : Nat) (a : Addr) : Ob → Prop
  | .lst xs => F a = none ∧ ∃ vs, H a = some (.lst vs) ∧ RVs K ι F n vs xs
  | .frz ds => ∃ vs, F a = some (.lst vs) ∧ DqAll K F vs ds
structure Rel (S : Sto) : Prop where
  sub : Same F H
  inj : ∀ i j, i < S.length → j < S.length → ι i = ι j → i = j
  obj : ∀ (k : Nat) (o : Ob), S[k]? = some o → ObR K ι F H S.length (ι k) o
def SlR (n : Nat) (σ : L2.St) (sl : Sl) : Prop := ∀ (i : Nat) (x : Val), sl[i]? = some (some x) → ∃ v, σ[i]? = some (some v) ∧ RV K ι F n v x
/-- an operand as data, now -/
def RD (v : V) (x : PyData) : Prop := Dq K F v x ∨ ∃ a vs ds, v = .ref a ∧ x = .list ds ∧ H a = some (.lst vs) ∧ DqAll K F vs ds
end
/-- from a state to a later one -/
structure Stp (ι : Nat → Addr) (F H : Hp) (n : Nat) (ι' : Nat → Addr) (F' H' : Hp) (n' : Nat) : Prop where
  le : n ≤ n'
  ag : ∀ k, k < n → ι' k = ι k
  ff : Same F F'
  out : ∀ a o, H a = some o → (∀ k, k < n → ι k ≠ a) → H' a = some o
  dom : ∀ a o, H a = some o → ∃ o', H' a = some o'
  new : ∀ k, n ≤ k → k < n' → H (ι' k) = none
  fnew : ∀ a o, F' a = some o → F a = some o ∨ H a = none ∨ ∃ k, k < n ∧ ι k = a
/-- growth alone -/
structure Grow (F H F' H' : Hp) : Prop where
  ff : Same F F'
  hh : Same H H'
  sub : Same F' H'
  fnew : ∀ a o, F' a = some o → F a = some o ∨ H a = none
section
variable {K : PySem.W.Frag} {ι ι1 ι2 : Nat → Addr} {F F1 F2 H H1 H2 : Hp} {n n1 n2 : Nat} {S S1 S2 : Sto}
theorem Stp.refl : Stp ι F H n ι F H n :=
  ⟨Nat.le_refl _, fun _ _ => rfl, Same.refl _, fun _ _ h _ => h, fun _ o h => ⟨o, h⟩, fun _ h1 h2 => absurd (Nat.lt_of_le_of_lt h1 h2) (Nat.lt_irrefl _), fun _ _ h => .inl h⟩
theorem none_back {H H1 : Hp} (dom : ∀ a o, H a = some o → ∃ o', H1 a = some o') {a : Addr} (h : H1 a = none) : H a = none := by
  cases q : H a with
  | none => rfl
  | some o =>
    obtain ⟨o', e⟩ := dom a o q
    rw [h] at e
    cases e
theorem Stp.trans (a : Stp ι F H n ι1 F1 H1 n1) (b : Stp ι1 F1 H1 n1 ι2 F2 H2 n2) : Stp ι F H n ι2 F2 H2 n2 where
  le := Nat.le_trans a.le b.le
  ag := fun k hk => (b.ag k (Nat.lt_of_lt_of_le hk a.le)).trans (a.ag k hk)
  ff := a.ff.trans b.ff
  out := fun x o h hn => b.out x o (a.out x o h hn) fun k hk e => by
    by_cases q : k < n
    · exact hn k q ((a.ag k q).symm.trans e)
    · have := a.new k (Nat.le_of_not_lt q) hk
      rw [e, h] at this
      cases this
  dom := fun x o h => let ⟨o1, h1⟩ := a.dom x o h; b.dom x o1 h1
  new := fun k h1 h2 => by
    by_cases q : k < n1
    · rw [b.ag k q]
      exact a.new k h1 q
    · exact none_back a.dom (b.new k (Nat.le_of_not_lt q) h2)
  fnew := fun x o h => by
    rcases b.fnew x o h with h | h | ⟨k, hk, e⟩
    · exact a.fnew x o h
    · exact .inr (.inl (none_back a.dom h))
    · by_cases q : k < n
      · exact .inr (.inr ⟨k, q, (a.ag k q).symm.trans e⟩)
      · exact .inr (.inl (e ▸ a.new k (Nat.le_of_not_lt q) hk))
theorem Grow.refl (h : Same F H) : Grow F H F H := ⟨Same.refl _, Same.refl _, h, fun _ _ h => .inl h⟩
theorem Grow.dom (g : Grow F H F1 H1) : ∀ a o, H a = some o → ∃ o', H1 a = some o' := fun a o h => ⟨o, g.hh a o h⟩
theorem Grow.trans (a : Grow F H F1 H1) (b : Grow F1 H1 F2 H2) : Grow F H F2 H2 :=
  ⟨a.ff.trans b.ff, a.hh.trans b.hh, b.sub, fun x o h => (b.fnew x o h).elim (a.fnew x o) fun q => .inr (none_back a.dom q)⟩
theorem Grow.stp (g : Grow F H F1 H1) : Stp ι F H n ι F1 H1 n :=
  ⟨Nat.le_refl _, fun _ _ => rfl, g.ff, fun a o h _ => g.hh a o h, g.dom, fun _ h1 h2 => absurd (Nat.lt_of_le_of_lt h1 h2) (Nat.lt_irrefl _), fun a o h => (g.fnew a o h).elim .inl fun q => .inr (.inl q)⟩
/-- a new frozen object -/
theorem Grow.new {p : Addr} {o : HO} (s : Same F H) (hp : H p = none) : Grow F H (upd F p o) (upd H p o) := by
  have fp : F p = none := s.free hp
  refine ⟨fun a u h => ?_, fun a u h => ?_, fun a u h => ?_, fun a u h => ?_⟩
  · rw [upd_ne (ne_of_none h fp)]; exact h
  · rw [upd_ne (ne_of_none h hp)]; exact h
  · by_cases e : a = p
    · subst e; rw [upd_same] at h ⊢; exact h
    · rw [upd_ne e] at h ⊢; exact s _ _ h
  · by_cases e : a = p
    · subst e; exact .inr hp
    · rw [upd_ne e] at h; exact .inl h
theorem RV.mono {v : V} {x : Val} (h : RV K ι F n v x) (le : n ≤ n1) (ag : ∀ k, k < n → ι1 k = ι k) (ff : Same F F1) : RV K ι1 F1 n1 v x := by
  cases x with
  | d x => exact Dq.mono ff _ _ h
  | loc k => exact ⟨Nat.lt_of_lt_of_le h.1 le, by rw [ag k h.1]; exact h.2⟩
theorem RVs.mono {vs : List V} {xs : List Val} (h : RVs K ι F n vs xs) (le : n ≤ n1) (ag : ∀ k, k < n → ι1 k = ι k) (ff : Same F F1) : RVs K ι1 F1 n1 vs xs := by
  induction h with
  | nil => exact .nil
  | cons a _ ih => exact .cons (a.mono le ag ff) ih
theorem RV.stp {v : V} {x : Val} (h : RV K ι F n v x) (s : Stp ι F H n ι1 F1 H1 n1) : RV K ι1 F1 n1 v x := h.mono s.le s.ag s.ff
theorem RVs.stp {vs : List V} {xs : List Val} (h : RVs K ι F n vs xs) (s : Stp ι F H n ι1 F1 H1 n1) : RVs K ι1 F1 n1 vs xs := h.mono s.le s.ag s.ff
theorem SlR.stp {σ : L2.St} {sl : Sl} (h : SlR K ι F n σ sl) (s : Stp ι F H n ι1 F1 H1 n1) : SlR K ι1 F1 n1 σ sl := fun i x e =>
  let ⟨v, e1, r⟩ := h i x e; ⟨v, e1, r.stp s⟩
theorem RVs.length {vs : List V} {xs : List Val} (h : RVs K ι F n vs xs) : vs.length = xs.length := by
  induction h with
  | nil => rfl
  | cons _ _ ih => simp [ih]
theorem RVs.append {vs us : List V} {xs ys : List Val} (h : RVs K ι F n vs xs) (h' : RVs K ι F n us ys) : RVs K ι F n (vs ++ us) (xs ++ ys) := by
  induction h with
  | nil => exact h'
  | cons a _ ih => exact .cons a ih
theorem RVs.get {vs : List V} {xs : List Val} (h : RVs K ι F n vs xs) : ∀ {i : Nat} {x : Val}, xs[i]? = some x → ∃ v, vs[i]? = some v ∧ RV K ι F n v x := by
  induction h with
  | nil => intro i x e; simp at e
  | cons a _ ih =>
    intro i x e
    cases i with
    | zero => simp at e; subst e; exact ⟨_, rfl, a⟩
    | succ i =>
      obtain ⟨v, e1, r⟩ := ih (i := i) (by simpa using e)
      exact ⟨v, by simpa using e1, r⟩
theorem RVs.set {vs : List V} {xs : List Val} (h : RVs K ι F n vs xs) {v : V} {x : Val} (r : RV K ι F n v x) : ∀ i : Nat, RVs K ι F n (vs.set i v) (xs.set i x) := by
  induction h with
  | nil => intro i; simp; exact .nil
  | cons a t ih =>
    intro i
    cases i with
    | zero => simpa using RVs.cons r t
    | succ i => simpa using RVs.cons a (ih i)
theorem RVs.of_all {vs : List V} {ds : List PyData} (h : DqAll K F vs ds) : RVs K ι F n vs (ds.map .d) := by
  induction ds generalizing vs with
  | nil => cases h; exact .nil
  | cons d ds ih =>
    cases h with
    | cons a b => exact .cons a (ih b)
/-- the items, all of them data -/
def allD : List Val → Option (List PyData)
  | [] => some []
  | .d x :: r => (allD r).map (x :: ·)
  | .loc _ :: _ => none
theorem RVs.all {vs : List V} {xs : List Val} (h : RVs K ι F n vs xs) : ∀ {ds : List PyData}, allD xs = some ds → DqAll K F vs ds := by
  induction h with
  | nil => intro ds e; simp [allD] at e; subst e; exact .nil
  | @cons v x vs xs a t ih =>
    intro ds e
    cases x with
    | loc k => simp [allD] at e
    | d x =>
      simp only [allD, Option.map_eq_some_iff] at e
      obtain ⟨es, e1, rfl⟩ := e
      exact .cons a (ih e1)
theorem allD_map (ds : List PyData) : allD (ds.map .d) = some ds := by
  induction ds with
  | nil => rfl
  | cons d ds ih => simp [allD, ih]
theorem allD_eq : ∀ {xs : List Val} {ds : List PyData}, allD xs = some ds → xs = ds.map .d
  | [], ds, e => by simp [allD] at e; subst e; rfl
  | .d x :: r, ds, e => by
    simp only [allD, Option.map_eq_some_iff] at e
    obtain ⟨es, e1, rfl⟩ := e
    rw [allD_eq e1]
    rfl
  | .loc _ :: _, _, e => by simp [allD] at e
/-- an operand's data, now -/
def dat (S : Sto) : Val → Option PyData
  | .d x => some x
  | .loc k => match S[k]? with
    | some (.lst xs) => (allD xs).map .list
    | some (.frz ds) => some (.list ds)
    | none => none
theorem RV.dat {v : V} {x : Val} {y : PyData} (r : RV K ι F S.length v x) (rel : Rel K ι F H S) (e : dat S x = some y) : RD K F H v y := by
  cases x with
  | d x => simp [DV.dat] at e; subst e; exact .inl r
  | loc k =>
    obtain ⟨hk, rfl⟩ := r
    unfold DV.dat at e
    dsimp only at e
    split at e
    · rename_i xs q
      simp only [Option.map_eq_some_iff] at e
      obtain ⟨ds, e1, rfl⟩ := e
      obtain ⟨_, vs, h1, h2⟩ := rel.obj k _ q
      exact .inr ⟨_, vs, ds, rfl, rfl, h1, h2.all e1⟩
    · rename_i x q
      cases e
      obtain ⟨vs, h1, h2⟩ := rel.obj k _ q
      exact .inl (.lst h1 h2)
    · cases e
theorem RD.dp {v : V} {x : PyData} (s : Same F H) (h : RD K F H v x) : Dq K H v x := by
  rcases h with h | ⟨a, vs, ds, rfl, rfl, h1, h2⟩
  · exact Dq.mono s _ _ h
  · exact .lst h1 (DqAll.mono s _ _ h2)
theorem RD.int {v : V} {i : Int} (h : RD K F H v (.int i)) : v = .int i := by
  rcases h with h | ⟨a, vs, ds, rfl, e, h1, h2⟩
  · cases h; rfl
  · cases e
theorem RD.bl {v : V} {i : Bool} (h : RD K F H v (.bool i)) : v = .bl i := by
  rcases h with h | ⟨a, vs, ds, rfl, e, h1, h2⟩
  · cases h; rfl
  · cases e
theorem RD.str {v : V} {i : Str} (h : RD K F H v (.str i)) : v = .str i := by
  rcases h with h | ⟨a, vs, ds, rfl, e, h1, h2⟩
  · cases h; rfl
  · cases e
theorem RD.non {v : V} (h : RD K F H v .none) : v = .non := by
  rcases h with h | ⟨a, vs, ds, rfl, e, h1, h2⟩
  · cases h; rfl
  · cases e
theorem RD.list {v : V} {ds : List PyData} (s : Same F H) (h : RD K F H v (.list ds)) : ∃ a vs, v = .ref a ∧ H a = some (.lst vs) ∧ DqAll K F vs ds := by
  rcases h with h | ⟨a, vs, ds, rfl, e, h1, h2⟩
  · cases h with
    | lst q r => exact ⟨_, _, rfl, s _ _ q, r⟩
  · cases e; exact ⟨_, _, rfl, h1, h2⟩
theorem RD.tuple {v : V} {ds : List PyData} (s : Same F H) (h : RD K F H v (.tuple ds)) : ∃ a vs, v = .ref a ∧ SqT K H a vs ∧ DqAll K F vs ds := by
  rcases h with h | ⟨a, vs, ds, rfl, e, h1, h2⟩
  · cases h with
    | tup q r => exact ⟨_, _, rfl, SqT.mono s q, r⟩
  · cases e
/-- growth keeps the store -/
theorem Rel.grow (r : Rel K ι F H S) (g : Grow F H F1 H1) : Rel K ι F1 H1 S where
  sub := g.sub
  inj := r.inj
  obj := fun k o e => by
    have h := r.obj k o e
    cases o with
    | frz x =>
      obtain ⟨vs, h1, h2⟩ := h
      exact ⟨vs, g.ff _ _ h1, DqAll.mono g.ff _ _ h2⟩
    | lst xs =>
      obtain ⟨h0, vs, h1, h2⟩ := h
      refine ⟨?_, vs, g.hh _ _ h1, h2.mono (Nat.le_refl _) (fun _ _ => rfl) g.ff⟩
      cases q : F1 (ι k) with
      | none => rfl
      | some u =>
        rcases g.fnew _ _ q with z | z
        · rw [h0] at z; cases z
        · rw [h1] at z; cases z
end
section
variable {K : PySem.W.Frag} {F H : Hp}
theorem RD.scr {v : V} {ds : List PyData} (s : Same F H) (h : RD K F H v (.dict [(.none, .list ds)])) : ∃ a vs, v = .ref a ∧ SqL K H a vs ∧ DqAll K F vs ds := by
  rcases h with h | ⟨a, vs, ds, rfl, e, h1, h2⟩
  · cases h with
    | scr q r => exact ⟨_, _, rfl, s.seq q, r⟩
    | dk _ _ e _ =>
      rename_i ks _ _ _ _
      cases ks with
      | nil => simp at e
      | cons k ks => cases k <;> simp [keyD] at e
    | dt _ _ e _ =>
      rename_i ks _ _ _ _
      cases ks with
      | nil => simp at e
      | cons k ks => simp at e
  · cases e
end
end DV
set_option Elab.async false
set_option linter.all false
set_option maxRecDepth 100000
namespace DV
open PySem PySem.Spec PyProof.Rows L2

abbrev CxSt := L2.St
/-- an exception as data -/
def ErrR (K : PySem.W.Frag) (mg : Str → Option Value) (F : Hp) (e : Exn) (cls : Value) (d : Option Addr) (H : Hp) : Prop :=
  (∃ C, cls = .ref C ∧ mg e.cls = some (.ref C)) ∧ match e.fs with
    | [] => True
    | fs => ∃ dx vs, d = some dx ∧ H dx = some (.xd vs) ∧ vs.map (·.1) = fs.map (·.1) ∧ DqAll K F (vs.map (·.2)) (fs.map (·.2))
section
variable (K : PySem.W.Frag) (mg : Str → Option Value) (W : WX) (σ : CxSt)
/-- behind a reckoning -/
def Aft {α : Type} (ι : Nat → Addr) (F H : Hp) (n : Nat) (r : R α) (P : α → Sto → (Nat → Addr) → Hp → Hp → Prop) : Prop := match r with
  | .ok a S' => ∀ ι' F' H', Stp ι F H n ι' F' H' S'.length → Rel K ι' F' H' S' → P a S' ι' F' H'
  | .er e S' => ∀ ι' F' H' cls d, Stp ι F H n ι' F' H' S'.length → Rel K ι' F' H' S' → ErrR K mg F' e cls d H' → W cls d σ H'
  | .bad => False
end
section
variable {K : PySem.W.Frag} {mg : Str → Option Value} {W : WX} {σ : CxSt} {ι ι1 : Nat → Addr} {F F1 H H1 : Hp} {n n1 : Nat} {α β : Type}
theorem Aft.stp {r : R α} {P : α → Sto → (Nat → Addr) → Hp → Hp → Prop} (h : Aft K mg W σ ι F H n r P) (s : Stp ι F H n ι1 F1 H1 n1) : Aft K mg W σ ι1 F1 H1 n1 r P := by
  cases r with
  | ok a S' => exact fun ι' F' H' s' rel => h ι' F' H' (s.trans s') rel
  | er e S' => exact fun ι' F' H' cls d s' rel er => h ι' F' H' cls d (s.trans s') rel er
  | bad => exact h
theorem Aft.bind {r : R α} {k : α → Sto → R β} {P : β → Sto → (Nat → Addr) → Hp → Hp → Prop} (h : Aft K mg W σ ι F H n (r.bind k) P) :
    Aft K mg W σ ι F H n r fun a S1 ι1 F1 H1 => Stp ι F H n ι1 F1 H1 S1.length ∧ Rel K ι1 F1 H1 S1 ∧ Aft K mg W σ ι1 F1 H1 S1.length (k a S1) P := by
  cases r with
  | ok a S1 => exact fun ι1 F1 H1 s rel => ⟨s, rel, Aft.stp (r := k a S1) h s⟩
  | er e S' => exact h
  | bad => exact h
theorem Aft.imp {r : R α} {P P' : α → Sto → (Nat → Addr) → Hp → Hp → Prop} (h : Aft K mg W σ ι F H n r P) (k : ∀ a S' ι' F' H', P a S' ι' F' H' → P' a S' ι' F' H') : Aft K mg W σ ι F H n r P' := by
  cases r with
  | ok a S' => exact fun ι' F' H' s' rel => k _ _ _ _ _ (h ι' F' H' s' rel)
  | er e S' => exact h
  | bad => exact h
end
/-- readings: an expression, a test, an argument list -/
def tE (K : PySem.W.Frag) (mg : Str → Option Value) (W : WX) (f : DE) : TE := fun σ H Q => ∃ ι F S sl, sl.length ≤ σ.length ∧ SlR K ι F S.length σ sl ∧ Rel K ι F H S ∧
  Aft K mg W σ ι F H S.length (f sl S) fun x S' ι' F' H' => ∀ u, RV K ι' F' S'.length u x → Q u H'
abbrev DB := Sl → Sto → R Bool
def tB (K : PySem.W.Frag) (mg : Str → Option Value) (W : WX) (f : DB) : TT := fun σ H Q => ∃ ι F S sl, sl.length ≤ σ.length ∧ SlR K ι F S.length σ sl ∧ Rel K ι F H S ∧
  Aft K mg W σ ι F H S.length (f sl S) fun b S' ι' F' H' => Q b H'
abbrev DL := Sl → Sto → R (List Val)
def tL (K : PySem.W.Frag) (mg : Str → Option Value) (W : WX) (f : DL) : TA := fun σ H Q => ∃ ι F S sl, sl.length ≤ σ.length ∧ SlR K ι F S.length σ sl ∧ Rel K ι F H S ∧
  Aft K mg W σ ι F H S.length (f sl S) fun xs S' ι' F' H' => ∀ us, RVs K ι' F' S'.length us xs → Q us H'
theorem PE.imp {X : Cx} {e : Expr} {t t' : TE} (h : PE X e t) (k : ∀ σ H Q, t' σ H Q → t σ H Q) : PE X e t' := ⟨fun pins s σ H Q I q => h.run pins s σ H Q I (k _ _ _ q)⟩
theorem PT.imp {X : Cx} {e : Expr} {t t' : TT} (h : PT X e t) (k : ∀ σ H Q, t' σ H Q → t σ H Q) : PT X e t' := ⟨fun pins s σ H Q I q => h.run pins s σ H Q I (k _ _ _ q)⟩
theorem PA.imp {X : Cx} {e : List Expr} {t t' : TA} (h : PA X e t) (k : ∀ σ H Q, t' σ H Q → t σ H Q) : PA X e t' := ⟨fun pos pins s σ H Q I q => h.run pos pins s σ H Q I (k _ _ _ q)⟩
theorem PW.imp {X : Cx} {e : Expr} {t t' : TT} (h : PW X e t) (k : ∀ σ H Q, t' σ H Q → t σ H Q) : PW X e t' := ⟨fun wh pins s σ H Q I q => h.run wh pins s σ H Q I (k _ _ _ q)⟩
/-- THE JUDGEMENTS -/
def QE (X : Cx) (W : WX) (e : Expr) (f : DE) : Prop := PE X e (tE X.K X.mg W f)
def QT (X : Cx) (W : WX) (e : Expr) (f : DB) : Prop := PT X e (tB X.K X.mg W f)
def QW (X : Cx) (W : WX) (e : Expr) (f : DB) : Prop := PW X e (tB X.K X.mg W f)
def QA (X : Cx) (W : WX) (es : List Expr) (f : DL) : Prop := PA X es (tL X.K X.mg W f)
section
variable {X : Cx} {W : WX} {a b c e : Expr} {es : List Expr} {fa fb fc f : DE} {pos p p2 : Pos}

/-- enter a reading: the state as it is; close one: what was reached -/
theorem tE.of {K : PySem.W.Frag} {mg : Str → Option Value} {σ : CxSt} {H : Hp} {Q : VK} {ι : Nat → Addr} {F : Hp} {S : Sto} {sl : Sl} (hz : sl.length ≤ σ.length) (hs : SlR K ι F S.length σ sl) (r : Rel K ι F H S)
    (h : Aft K mg W σ ι F H S.length (f sl S) fun x S' ι' F' H' => ∀ u, RV K ι' F' S'.length u x → Q u H') : tE K mg W f σ H Q := ⟨ι, F, S, sl, hz, hs, r, h⟩
/-- two expressions in a row -/
theorem tE.two {K : PySem.W.Frag} {mg : Str → Option Value} {σ : CxSt} {H : Hp} {ι : Nat → Addr} {F : Hp} {S : Sto} {sl : Sl} {k : Val → Val → Sto → R Val} {P : Val → Sto → (Nat → Addr) → Hp → Hp → Prop} {Q : V → V → Hp → Prop}
    (hz : sl.length ≤ σ.length) (hs : SlR K ι F S.length σ sl) (r : Rel K ι F H S)
    (h : Aft K mg W σ ι F H S.length ((fa sl S).bind fun x S1 => (fb sl S1).bind fun y S2 => k x y S2) P)
    (hQ : ∀ x y S2 ι2 F2 H2 u v, Stp ι F H S.length ι2 F2 H2 S2.length → Rel K ι2 F2 H2 S2 → RV K ι2 F2 S2.length u x → RV K ι2 F2 S2.length v y → Aft K mg W σ ι2 F2 H2 S2.length (k x y S2) P → Q u v H2) :
    tE K mg W fa σ H fun u H1 => tE K mg W fb σ H1 fun v H2 => Q u v H2 := by
  refine ⟨ι, F, S, sl, hz, hs, r, Aft.imp h.bind fun x S1 ι1 F1 H1 ⟨s1, r1, h1⟩ u ru => ?_⟩
  refine ⟨ι1, F1, S1, sl, hz, hs.stp s1, r1, Aft.imp h1.bind fun y S2 ι2 F2 H2 ⟨s2, r2, h2⟩ v rv => ?_⟩
  exact hQ x y S2 ι2 F2 H2 u v (s1.trans s2) r2 (ru.stp s2) rv h2

/-! ### names and constants -/
def var (i : Nat) : DE := fun sl S => match sl[i]? with
  | some (some x) => .ok x S
  | _ => .bad
def cst (x : PyData) : DE := fun _ S => .ok (.d x) S
theorem q_var {i : Nat} (h : PE X e (tVar i)) : QE X W e (var i) := by
  refine PE.imp h fun σ H Q ⟨ι, F, S, sl, hz, hs, r, q⟩ => ?_
  unfold var at q
  split at q
  · rename_i x ex
    obtain ⟨v, e1, rv⟩ := hs i x ex
    exact ⟨v, e1, q ι F H .refl r v rv⟩
  · exact q.elim
theorem q_cst {v : V} {x : PyData} (h : PE X e (tC v)) (d : ∀ F, Dq X.K F v x) : QE X W e (cst x) :=
  PE.imp h fun σ H Q ⟨ι, F, S, sl, hz, hs, r, q⟩ => q ι F H .refl r v (d F)
theorem q_int {i j} : QE X W (.Constant (.int i) j pos) (cst (.int i)) := q_cst pe_int fun _ => .int _
theorem q_bl {i j} : QE X W (.Constant (.bool i) j pos) (cst (.bool i)) := q_cst pe_bl fun _ => .bl _
theorem q_non {j} : QE X W (.Constant .none j pos) (cst .none) := q_cst pe_non fun _ => .non
theorem q_str {i j} : QE X W (.Constant (.str i) j pos) (cst (.str i)) := q_cst pe_str fun _ => .str _

/-! ### operators on data -/
/-- a rule that serves a function of two operands -/
def OpD (K : PySem.W.Frag) (r : R2) (g : PyData → PyData → Option PyData) : Prop :=
  ∀ (F H : Hp) (u v : V) (x y z : PyData) (Q : VK), Same F H → RD K F H u x → RD K F H v y → g x y = some z → (∀ t F' H', Grow F H F' H' → Dq K F' t z → Q t H') → r u v H Q
def okD (o : Option PyData) (S : Sto) : R Val := match o with
  | some z => .ok (.d z) S
  | none => .bad
def two (g : PyData → PyData → Option PyData) (S : Sto) (x y : Val) : R Val := match dat S x, dat S y with
  | some x, some y => okD (g x y) S
  | _, _ => .bad
def bin (g : PyData → PyData → Option PyData) (fa fb : DE) : DE := fun sl S => (fa sl S).bind fun x S1 => (fb sl S1).bind fun y S2 => two g S2 x y
theorem two_ok {K : PySem.W.Frag} {mg : Str → Option Value} {σ : CxSt} {r : R2} {g : PyData → PyData → Option PyData} (hr : OpD K r g) {ι : Nat → Addr} {F H : Hp} {S : Sto} {x y : Val} {u v : V} {Q : VK} (rel : Rel K ι F H S)
    (ru : RV K ι F S.length u x) (rv : RV K ι F S.length v y) (h : Aft K mg W σ ι F H S.length (two g S x y) fun x S' ι' F' H' => ∀ u, RV K ι' F' S'.length u x → Q u H') : r u v H Q := by
  unfold two at h
  split at h
  · rename_i x' y' e1 e2
    unfold okD at h
    split at h
    · rename_i z ez
      exact hr F H u v x' y' z Q rel.sub (ru.dat rel e1) (rv.dat rel e2) ez fun t F' H' g d => h ι F' H' g.stp (rel.grow g) t d
    · exact h.elim
  · exact h.elim
theorem q_two {r : R2} {g : PyData → PyData → Option PyData} (hr : OpD X.K r g) (h : PE X e (tOp r (tE X.K X.mg W fa) (tE X.K X.mg W fb))) : QE X W e (bin g fa fb) := by
  refine PE.imp h fun σ H Q ⟨ι, F, S, sl, hz, hs, rel, q⟩ => ?_
  exact tE.two hz hs rel q fun x y S2 ι2 F2 H2 u v s2 r2 ru rv h2 => two_ok hr r2 ru rv h2
theorem q_bin {op : Operator} {r : R2} {g : PyData → PyData → Option PyData} (ho : OpR X (binaryOp op) r) (hr : OpD X.K r g) (ha : QE X W a fa) (hb : QE X W b fb) : QE X W (.BinOp a op b pos) (bin g fa fb) :=
  q_two hr (pe_op ho ha hb)
theorem q_cmp {op : CmpOp} {r : R2} {g : PyData → PyData → Option PyData} (ho : OpR X (compareOp op) r) (hr : OpD X.K r g) (ha : QE X W a fa) (hb : QE X W b fb) (hm : behindInMarks op b = false) : QE X W (.Compare a [op] [b] pos) (bin g fa fb) :=
  q_two hr (pe_cmpR ho ha hb hm)
/-- a test of a truth value -/
def asB (f : DE) : DB := fun sl S => (f sl S).bind fun x S1 => match x with
  | .d (.bool b) => .ok b S1
  | _ => .bad
theorem asB_ok {K : PySem.W.Frag} {mg : Str → Option Value} {σ : CxSt} {H : Hp} {Q : Bool → Hp → Prop} (h : tB K mg W (asB f) σ H Q) : tE K mg W f σ H fun v H' => ∃ k, v = .bl k ∧ Q k H' := by
  obtain ⟨ι, F, S, sl, hz, hs, rel, q⟩ := h
  refine ⟨ι, F, S, sl, hz, hs, rel, Aft.imp (Aft.bind q) fun x S1 ι1 F1 H1 ⟨s1, r1, h1⟩ u ru => ?_⟩
  split at h1
  · cases ru
    exact ⟨_, rfl, h1 ι1 F1 H1 .refl r1⟩
  · exact h1.elim
theorem t_val (h : QE X W e f) (he : ∀ whole, isTrue e X.env whole = (do let v ← whole; standAt e.pos; holding [v] (truthy v)) := by intro _; rfl) : QT X W e (asB f) :=
  PT.imp (pt_val h he) fun σ H Q q => asB_ok q
theorem t_cmp {op : CmpOp} {r : R2} {g : PyData → PyData → Option PyData} (ho : OpR X (compareOp op) r) (hr : OpD X.K r g) (ha : QE X W a fa) (hb : QE X W b fb) (hm : behindInMarks op b = false) : QT X W (.Compare a [op] [b] pos) (asB (bin g fa fb)) := by
  refine PT.imp (pt_cmpR ho ha hb hm) fun σ H Q q => ?_
  obtain ⟨ι, F, S, sl, hz, hs, rel, q⟩ := asB_ok q
  exact tE.two hz hs rel q fun x y S2 ι2 F2 H2 u v s2 r2 ru rv h2 => two_ok hr r2 ru rv h2
def un (g : PyData → Option PyData) (fa : DE) : DE := fun sl S => (fa sl S).bind fun x S1 => match dat S1 x with
  | some x => okD (g x) S1
  | none => .bad
def UnD (K : PySem.W.Frag) (r : V → Hp → VK → Prop) (g : PyData → Option PyData) : Prop :=
  ∀ (F H : Hp) (u : V) (x z : PyData) (Q : VK), Same F H → RD K F H u x → g x = some z → (∀ t F' H', Grow F H F' H' → Dq K F' t z → Q t H') → r u H Q
theorem un_ok {K : PySem.W.Frag} {mg : Str → Option Value} {σ : CxSt} {r : V → Hp → VK → Prop} {g : PyData → Option PyData} (hr : UnD K r g) {H : Hp} {Q : VK} (h : tE K mg W (un g fa) σ H Q) : tE K mg W fa σ H fun u H1 => r u H1 Q := by
  obtain ⟨ι, F, S, sl, hz, hs, rel, q⟩ := h
  refine ⟨ι, F, S, sl, hz, hs, rel, Aft.imp (Aft.bind q) fun x S1 ι1 F1 H1 ⟨s1, r1, h1⟩ u ru => ?_⟩
  split at h1
  · rename_i x' e1
    unfold okD at h1
    split at h1
    · rename_i z ez
      exact hr F1 H1 u x' z Q r1.sub (ru.dat r1 e1) ez fun t F' H' g d => h1 ι1 F' H' g.stp (r1.grow g) t d
    · exact h1.elim
  · exact h1.elim
theorem q_un {op : UnaryOp} {r : V → Hp → VK → Prop} {g : PyData → Option PyData} (ho : UnR X (unaryOp op) r) (hr : UnD X.K r g) (ha : QE X W a fa) : QE X W (.UnaryOp op a pos) (un g fa) :=
  PE.imp (pe_un ho ha) fun σ H Q q => un_ok hr q

/-! ### and, or, not, if -/
def andB (f g : DB) : DB := fun sl S => (f sl S).bind fun b S1 => if b = true then g sl S1 else .ok false S1
def orB (f g : DB) : DB := fun sl S => (f sl S).bind fun b S1 => if b = true then .ok true S1 else g sl S1
def notB (f : DB) : DB := fun sl S => (f sl S).bind fun b S1 => .ok (!b) S1
variable {ba bb bc : DB} {rest : List Expr}
theorem w_and1 (ha : QT X W a ba) : QW X W (.BoolOp .And [a] pos) ba := pw_and1 ha
theorem w_or1 (ha : QT X W a ba) : QW X W (.BoolOp .Or [a] pos) ba := pw_or1 ha
theorem w_and (ha : QT X W a ba) (hb : QW X W (.BoolOp .And (b :: rest) pos) bb) : QW X W (.BoolOp .And (a :: b :: rest) pos) (andB ba bb) := by
  refine PW.imp (pw_and ha hb) fun σ H Q ⟨ι, F, S, sl, hz, hs, rel, q⟩ => ?_
  refine ⟨ι, F, S, sl, hz, hs, rel, Aft.imp (Aft.bind q) fun k S1 ι1 F1 H1 ⟨s1, r1, h1⟩ => ?_⟩
  cases k with
  | true => exact iteT ⟨ι1, F1, S1, sl, hz, hs.stp s1, r1, by simpa using h1⟩
  | false => exact iteF ((by simpa using h1 : Aft X.K X.mg W σ ι1 F1 H1 S1.length (.ok false S1) _) ι1 F1 H1 .refl r1)
theorem w_or (ha : QT X W a ba) (hb : QW X W (.BoolOp .Or (b :: rest) pos) bb) : QW X W (.BoolOp .Or (a :: b :: rest) pos) (orB ba bb) := by
  refine PW.imp (pw_or ha hb) fun σ H Q ⟨ι, F, S, sl, hz, hs, rel, q⟩ => ?_
  refine ⟨ι, F, S, sl, hz, hs, rel, Aft.imp (Aft.bind q) fun k S1 ι1 F1 H1 ⟨s1, r1, h1⟩ => ?_⟩
  cases k with
  | false => exact iteF ⟨ι1, F1, S1, sl, hz, hs.stp s1, r1, by simpa using h1⟩
  | true => exact iteT ((by simpa using h1 : Aft X.K X.mg W σ ι1 F1 H1 S1.length (.ok true S1) _) ι1 F1 H1 .refl r1)
theorem t_bool {op : BoolOp} (h : QW X W (.BoolOp op es pos) ba) : QT X W (.BoolOp op es pos) ba := PW.pt h
theorem t_not (ha : QT X W a ba) : QT X W (.UnaryOp .Not a pos) (notB ba) := by
  refine PT.imp (pt_not ha) fun σ H Q ⟨ι, F, S, sl, hz, hs, rel, q⟩ => ?_
  exact ⟨ι, F, S, sl, hz, hs, rel, Aft.imp (Aft.bind q) fun k S1 ι1 F1 H1 ⟨s1, r1, h1⟩ => h1 ι1 F1 H1 .refl r1⟩
/-- as values -/
def isB (x : Val) : R Val → R Val := fun r => r
def andV (f g : DE) : DE := fun sl S => (f sl S).bind fun x S1 => match x with
  | .d (.bool true) => g sl S1
  | .d (.bool false) => .ok (.d (.bool false)) S1
  | _ => .bad
def orV (f g : DE) : DE := fun sl S => (f sl S).bind fun x S1 => match x with
  | .d (.bool true) => .ok (.d (.bool true)) S1
  | .d (.bool false) => g sl S1
  | _ => .bad
def notV (f : DE) : DE := fun sl S => (f sl S).bind fun x S1 => match x with
  | .d (.bool b) => .ok (.d (.bool !b)) S1
  | _ => .bad
theorem q_one {op : BoolOp} (ha : QE X W a fa) : QE X W (.BoolOp op [a] pos) fa := pe_one ha
theorem q_and (ha : QE X W a fa) (hb : QE X W (.BoolOp .And (b :: rest) pos) fb) : QE X W (.BoolOp .And (a :: b :: rest) pos) (andV fa fb) := by
  refine PE.imp (pe_and ha hb) fun σ H Q ⟨ι, F, S, sl, hz, hs, rel, q⟩ => ?_
  refine ⟨ι, F, S, sl, hz, hs, rel, Aft.imp (Aft.bind q) fun x S1 ι1 F1 H1 ⟨s1, r1, h1⟩ u ru => ?_⟩
  split at h1
  · cases ru
    exact ⟨true, rfl, iteT ⟨ι1, F1, S1, sl, hz, hs.stp s1, r1, h1⟩⟩
  · cases ru
    exact ⟨false, rfl, iteF (h1 ι1 F1 H1 .refl r1 _ (Dq.bl false))⟩
  · exact h1.elim
theorem q_or (ha : QE X W a fa) (hb : QE X W (.BoolOp .Or (b :: rest) pos) fb) : QE X W (.BoolOp .Or (a :: b :: rest) pos) (orV fa fb) := by
  refine PE.imp (pe_or ha hb) fun σ H Q ⟨ι, F, S, sl, hz, hs, rel, q⟩ => ?_
  refine ⟨ι, F, S, sl, hz, hs, rel, Aft.imp (Aft.bind q) fun x S1 ι1 F1 H1 ⟨s1, r1, h1⟩ u ru => ?_⟩
  split at h1
  · cases ru
    exact ⟨true, rfl, iteT (h1 ι1 F1 H1 .refl r1 _ (Dq.bl true))⟩
  · cases ru
    exact ⟨false, rfl, iteF ⟨ι1, F1, S1, sl, hz, hs.stp s1, r1, h1⟩⟩
  · exact h1.elim
theorem q_not (ha : QE X W a fa) : QE X W (.UnaryOp .Not a pos) (notV fa) := by
  refine PE.imp (pe_not ha) fun σ H Q ⟨ι, F, S, sl, hz, hs, rel, q⟩ => ?_
  refine ⟨ι, F, S, sl, hz, hs, rel, Aft.imp (Aft.bind q) fun x S1 ι1 F1 H1 ⟨s1, r1, h1⟩ u ru => ?_⟩
  split at h1
  · cases ru
    exact ⟨_, rfl, h1 ι1 F1 H1 .refl r1 _ (Dq.bl _)⟩
  · exact h1.elim
def ifE (f : DB) (g h : DE) : DE := fun sl S => (f sl S).bind fun b S1 => if b = true then g sl S1 else h sl S1
theorem q_if (hc : QT X W c ba) (ha : QE X W a fa) (hb : QE X W b fb) : QE X W (.IfExp c a b pos) (ifE ba fa fb) := by
  refine PE.imp (pe_ifExp hc ha hb) fun σ H Q ⟨ι, F, S, sl, hz, hs, rel, q⟩ => ?_
  refine ⟨ι, F, S, sl, hz, hs, rel, Aft.imp (Aft.bind q) fun k S1 ι1 F1 H1 ⟨s1, r1, h1⟩ => ?_⟩
  cases k with
  | true => exact iteT ⟨ι1, F1, S1, sl, hz, hs.stp s1, r1, by simpa using h1⟩
  | false => exact iteF ⟨ι1, F1, S1, sl, hz, hs.stp s1, r1, by simpa using h1⟩
/-- a chain of two comparisons -/
def chain (g g' : PyData → PyData → Option PyData) (fa fb fc : DE) : DE := fun sl S => (fa sl S).bind fun x S1 => (fb sl S1).bind fun y S2 => (two g S2 x y).bind fun z S3 => match z with
  | .d (.bool true) => (fc sl S3).bind fun w S4 => two g' S4 y w
  | .d (.bool false) => .ok (.d (.bool false)) S3
  | _ => .bad

/-! ### argument lists -/
def nilL : DL := fun _ S => .ok [] S
def consL (f : DE) (g : DL) : DL := fun sl S => (f sl S).bind fun x S1 => (g sl S1).bind fun xs S2 => .ok (x :: xs) S2
variable {la : DL}
theorem a_nil : QA X W [] nilL := PA.imp pa_nil fun σ H Q ⟨ι, F, S, sl, hz, hs, rel, q⟩ => q ι F H .refl rel [] .nil
theorem a_cons (ha : QE X W e f) (hr : QA X W es la) (hs : starEach (e :: es) X.env = (false, eval e X.env) :: starEach es X.env := by rfl) : QA X W (e :: es) (consL f la) := by
  refine PA.imp (pa_cons ha hr hs) fun σ H Q ⟨ι, F, S, sl, hz, hs, rel, q⟩ => ?_
  refine ⟨ι, F, S, sl, hz, hs, rel, Aft.imp (Aft.bind q) fun x S1 ι1 F1 H1 ⟨s1, r1, h1⟩ u ru => ?_⟩
  refine ⟨ι1, F1, S1, sl, hz, hs.stp s1, r1, Aft.imp h1.bind fun xs S2 ι2 F2 H2 ⟨s2, r2, h2⟩ us rus => ?_⟩
  exact h2 ι2 F2 H2 .refl r2 _ (.cons (ru.stp s2) rus)
end
end DV
set_option Elab.async false
set_option linter.all false
set_option maxRecDepth 100000
namespace DV
open PySem PySem.Spec PyProof.Rows L2

/-! ### giving away: an owned list becomes data -/
def fzd (S : Sto) : Val → Option PyData
  | .d x => some x
  | .loc j => match S[j]? with
    | some (.frz ds) => some (.list ds)
    | _ => none
def fzds (S : Sto) : List Val → Option (List PyData)
  | [] => some []
  | y :: ys => match fzd S y, fzds S ys with
    | some d, some ds => some (d :: ds)
    | _, _ => none
def eachS (f : Sto → Val → Option Sto) : Sto → List Val → Option Sto
  | S, [] => some S
  | S, y :: ys => match f S y with
    | some S1 => eachS f S1 ys
    | none => none
def frzS : Nat → Sto → Val → Option Sto
  | _, S, .d _ => some S
  | 0, _, .loc _ => none
  | n + 1, S, .loc k => match S[k]? with
    | some (.frz _) => some S
    | some (.lst xs) => match eachS (frzS n) S xs with
      | some S1 => match S1[k]? with
        | some (.lst ys) => match fzds S1 ys with
          | some ds => some (S1.set k (.frz ds))
          | none => none
        | _ => none
      | none => none
    | none => none
def frz (S : Sto) (x : Val) : Option (PyData × Sto) := match x with
  | .d x => some (x, S)
  | .loc k => match frzS 4 S (.loc k) with
    | some S1 => match fzd S1 (.loc k) with
      | some d => some (d, S1)
      | none => none
    | none => none
def frzL : Sto → List Val → Option (List PyData × Sto)
  | S, [] => some ([], S)
  | S, x :: xs => match frz S x with
    | some (d, S1) => match frzL S1 xs with
      | some (ds, S2) => some (d :: ds, S2)
      | none => none
    | none => none
section
variable {K : PySem.W.Frag} {ι : Nat → Addr} {F H : Hp}
/-- a ghost step: nothing but F changes -/
def Gh (K : PySem.W.Frag) (ι : Nat → Addr) (H : Hp) (S : Sto) (F : Hp) (S' : Sto) (F' : Hp) : Prop := S'.length = S.length ∧ Stp ι F H S.length ι F' H S'.length ∧ Rel K ι F' H S'
theorem Gh.trans {S S1 S2 : Sto} {F1 F2 : Hp} (a : Gh K ι H S F S1 F1) (b : Gh K ι H S1 F1 S2 F2) : Gh K ι H S F S2 F2 := ⟨b.1.trans a.1, a.2.1.trans b.2.1, b.2.2⟩
theorem fzds_ok {S : Sto} (rel : Rel K ι F H S) : ∀ {ys : List Val} {ds : List PyData} {vs : List V}, fzds S ys = some ds → RVs K ι F S.length vs ys → DqAll K F vs ds
  | [], ds, vs, e, r => by cases r; simp [fzds] at e; subst e; exact .nil
  | y :: ys, ds, _, e, r => by
    cases r with
    | cons a b =>
      unfold fzds at e
      split at e
      · rename_i d es e1 e2
        cases e
        refine .cons ?_ (fzds_ok rel e2 b)
        cases y with
        | d x => simp [fzd] at e1; subst e1; exact a
        | loc j =>
          unfold fzd at e1
          dsimp only at e1
          split at e1
          · rename_i x q
            cases e1
            obtain ⟨vs, h1, h2⟩ := rel.obj j _ q
            rw [a.2]
            exact .lst h1 h2
          · cases e1
      · cases e
theorem frz_set {S : Sto} {k : Nat} {ys : List Val} {ds : List PyData} (rel : Rel K ι F H S) (e : S[k]? = some (.lst ys)) (ed : fzds S ys = some ds) : ∃ F', Gh K ι H S F (S.set k (.frz ds)) F' := by
  obtain ⟨f0, vs, h1, h2⟩ := rel.obj k _ e
  have hk : k < S.length := (List.getElem?_eq_some_iff.mp e).1
  have dq := fzds_ok rel ed h2
  have ff : Same F (upd F (ι k) (.lst vs)) := fun a o h => by rw [upd_ne (ne_of_none h f0)]; exact h
  have sub : Same (upd F (ι k) (.lst vs)) H := fun a o h => by
    by_cases q : a = ι k
    · subst q; rw [upd_same] at h; cases h; exact h1
    · rw [upd_ne q] at h; exact rel.sub _ _ h
  have fnew : ∀ a o, upd F (ι k) (.lst vs) a = some o → F a = some o ∨ a = ι k := fun a o h => by
    by_cases q : a = ι k
    · exact .inr q
    · rw [upd_ne q] at h; exact .inl h
  refine ⟨upd F (ι k) (.lst vs), List.length_set, ?_, ?_⟩
  · rw [List.length_set]
    exact ⟨Nat.le_refl _, fun _ _ => rfl, ff, fun _ _ h _ => h, fun _ o h => ⟨o, h⟩, fun _ h1 h2 => absurd (Nat.lt_of_le_of_lt h1 h2) (Nat.lt_irrefl _), fun a o h => (fnew a o h).elim .inl fun q => .inr (.inr ⟨k, hk, q.symm⟩)⟩
  · refine ⟨sub, fun i j hi hj => rel.inj i j (by simpa using hi) (by simpa using hj), fun j o ej => ?_⟩
    rw [List.length_set]
    by_cases q : j = k
    · subst q
      rw [List.getElem?_set_self hk] at ej
      cases ej
      exact ⟨vs, upd_same, DqAll.mono ff _ _ dq⟩
    · rw [List.getElem?_set_ne (Ne.symm q)] at ej
      have hj : j < S.length := (List.getElem?_eq_some_iff.mp ej).1
      have := rel.obj j o ej
      cases o with
      | frz x =>
        obtain ⟨ws, g1, g2⟩ := this
        exact ⟨ws, ff _ _ g1, DqAll.mono ff _ _ g2⟩
      | lst xs =>
        obtain ⟨g0, ws, g1, g2⟩ := this
        exact ⟨by rw [upd_ne fun e => q (rel.inj j k hj hk e)]; exact g0, ws, g1, g2.mono (Nat.le_refl _) (fun _ _ => rfl) ff⟩
theorem Gh.refl {S : Sto} (rel : Rel K ι F H S) : Gh K ι H S F S F := ⟨rfl, .refl, rel⟩
theorem frzS_ok : ∀ (n : Nat) {S S' : Sto} {x : Val} {F : Hp}, frzS n S x = some S' → Rel K ι F H S → ∃ F', Gh K ι H S F S' F'
  | n, S, S', .d x, F, e, rel => by
    cases n <;> simp [frzS] at e <;> subst e <;> exact ⟨F, .refl rel⟩
  | 0, S, S', .loc k, F, e, rel => by simp [frzS] at e
  | n + 1, S, S', .loc k, F, e, rel => by
    unfold frzS at e
    split at e
    · cases e; exact ⟨F, .refl rel⟩
    · rename_i xs q
      have each : ∀ (ys : List Val) {T T' : Sto} {G : Hp}, eachS (frzS n) T ys = some T' → Rel K ι G H T → ∃ G', Gh K ι H T G T' G' := by
        intro ys
        induction ys with
        | nil => intro T T' G e r; simp [eachS] at e; subst e; exact ⟨G, .refl r⟩
        | cons y ys ih =>
          intro T T' G e r
          unfold eachS at e
          split at e
          · rename_i T1 e1
            obtain ⟨G1, g1⟩ := frzS_ok n e1 r
            obtain ⟨G2, g2⟩ := ih e g1.2.2
            exact ⟨G2, g1.trans g2⟩
          · cases e
      split at e
      · rename_i S1 e1
        obtain ⟨F1, g1⟩ := each xs e1 rel
        split at e
        · rename_i ys q1
          split at e
          · rename_i ds ed
            cases e
            obtain ⟨F2, g2⟩ := frz_set g1.2.2 q1 ed
            exact ⟨F2, g1.trans g2⟩
          · cases e
        · cases e
      · cases e
    · cases e
theorem frz_ok {S S' : Sto} {x : Val} {d : PyData} {u : V} (e : frz S x = some (d, S')) (rel : Rel K ι F H S) (ru : RV K ι F S.length u x) : ∃ F', Gh K ι H S F S' F' ∧ Dq K F' u d := by
  cases x with
  | d x => simp [frz] at e; obtain ⟨rfl, rfl⟩ := e; exact ⟨F, .refl rel, ru⟩
  | loc k =>
    unfold frz at e
    dsimp only at e
    split at e
    · rename_i S1 e1
      obtain ⟨F1, g1⟩ := frzS_ok 4 e1 rel
      split at e
      · rename_i d' e2
        cases e
        refine ⟨F1, g1, ?_⟩
        unfold fzd at e2
        dsimp only at e2
        split at e2
        · rename_i x q
          cases e2
          rw [ru.2]
          obtain ⟨vs, h1, h2⟩ := g1.2.2.obj k _ q
          exact .lst h1 h2
        · cases e2
      · cases e
    · cases e
theorem frzL_ok : ∀ {xs : List Val} {S S' : Sto} {ds : List PyData} {us : List V} {F : Hp}, frzL S xs = some (ds, S') → Rel K ι F H S → RVs K ι F S.length us xs → ∃ F', Gh K ι H S F S' F' ∧ DqAll K F' us ds
  | [], S, S', ds, us, F, e, rel, r => by
    simp [frzL] at e
    obtain ⟨rfl, rfl⟩ := e
    cases r
    exact ⟨F, .refl rel, .nil⟩
  | x :: xs, S, S', ds, us, F, e, rel, r => by
    cases r with
    | cons a b =>
      unfold frzL at e
      split at e
      · rename_i d S1 e1
        obtain ⟨F1, g1, d1⟩ := frz_ok e1 rel a
        split at e
        · rename_i es S2 e2
          cases e
          obtain ⟨F2, g2, d2⟩ := frzL_ok e2 g1.2.2 (b.stp g1.2.1)
          exact ⟨F2, g1.trans g2, .cons (Dq.mono g2.2.1.ff _ _ d1) d2⟩
        · cases e
      · cases e
theorem frzL_data (S : Sto) : ∀ ds : List PyData, frzL S (ds.map .d) = some (ds, S)
  | [] => rfl
  | d :: ds => by
    show frzL S (.d d :: ds.map .d) = _
    unfold frzL
    simp only [frz, frzL_data S ds]
end
section
variable {K : PySem.W.Frag} {ι : Nat → Addr} {F H : Hp}
/-- a new owned list -/
theorem own_new {S : Sto} {xs : List Val} {us : List V} {p : Addr} (rel : Rel K ι F H S) (hp : H p = none) (rus : RVs K ι F S.length us xs) :
    ∃ ι', Stp ι F H S.length ι' F (upd H p (.lst us)) (S ++ [Ob.lst xs]).length ∧ Rel K ι' F (upd H p (.lst us)) (S ++ [.lst xs]) ∧ ι' S.length = p := by
  have fp : F p = none := rel.sub.free hp
  have hlen : (S ++ [Ob.lst xs]).length = S.length + 1 := by simp
  have hne : ∀ a o, H a = some o → a ≠ p := fun a o h => ne_of_none h hp
  have old : ∀ k, k < S.length → ι k ≠ p := fun k hk e => by
    obtain ⟨o, eo⟩ : ∃ o, S[k]? = some o := ⟨_, List.getElem?_eq_getElem hk⟩
    have := rel.obj k o eo
    cases o with
    | lst ys => obtain ⟨_, vs, g1, _⟩ := this; rw [e, hp] at g1; cases g1
    | frz x => obtain ⟨vs, g1, _⟩ := this; rw [e, fp] at g1; cases g1
  let ι' : Nat → Addr := fun k => if k = S.length then p else ι k
  have ag : ∀ k, k < S.length → ι' k = ι k := fun k hk => if_neg (Nat.ne_of_lt hk)
  have at_ : ι' S.length = p := if_pos rfl
  refine ⟨ι', ?_, ?_, at_⟩
  · refine ⟨by omega, ag, Same.refl _, fun a o h _ => by rw [upd_ne (hne a o h)]; exact h, fun a o h => ⟨o, by rw [upd_ne (hne a o h)]; exact h⟩, fun k h1 h2 => ?_, fun a o h => .inl h⟩
    have : k = S.length := by omega
    rw [this, at_]
    exact hp
  · refine ⟨fun a o h => by rw [upd_ne (hne a o (rel.sub _ _ h))]; exact rel.sub _ _ h, fun i j hi hj e => ?_, fun k o e => ?_⟩
    · rw [hlen] at hi hj
      by_cases qi : i = S.length
      · by_cases qj : j = S.length
        · omega
        · rw [qi, at_, ag j (by omega)] at e
          exact absurd e.symm (old j (by omega))
      · by_cases qj : j = S.length
        · rw [qj, at_, ag i (by omega)] at e
          exact absurd e (old i (by omega))
        · rw [ag i (by omega), ag j (by omega)] at e
          exact rel.inj i j (by omega) (by omega) e
    · rw [hlen]
      by_cases q : k = S.length
      · subst q
        rw [List.getElem?_append_right (Nat.le_refl _)] at e
        simp at e
        subst e
        rw [at_]
        exact ⟨fp, us, upd_same, rus.mono (Nat.le_succ _) ag (Same.refl _)⟩
      · have hk : k < S.length := by
          have := (List.getElem?_eq_some_iff.mp e).1
          rw [hlen] at this
          omega
        rw [List.getElem?_append_left hk] at e
        rw [ag k hk]
        have := rel.obj k o e
        cases o with
        | frz x => exact this
        | lst ys =>
          obtain ⟨g0, ws, g1, g2⟩ := this
          exact ⟨g0, ws, by rw [upd_ne (hne _ _ g1)]; exact g1, g2.mono (Nat.le_succ _) ag (Same.refl _)⟩
end
/-- operands as data, now -/
inductive RDs (K : PySem.W.Frag) (F H : Hp) : List V → List PyData → Prop
  | nil : RDs K F H [] []
  | cons {v : V} {x : PyData} {vs : List V} {xs : List PyData} : RD K F H v x → RDs K F H vs xs → RDs K F H (v :: vs) (x :: xs)
section
variable {X : Cx} {W : WX} {a b c e : Expr} {es : List Expr} {fa fb fc f : DE} {la : DL} {pos p p2 : Pos}

/-! ### displays -/
def tupE (la : DL) : DE := fun sl S => (la sl S).bind fun xs S1 => match frzL S1 xs with
  | some (ds, S2) => if ds.length ≤ sizeLine then .ok (.d (.tuple ds)) S2 else .bad
  | none => .bad
theorem q_tup {x1} (h : QA X W es la) : QE X W (.Tuple es x1 pos) (tupE la) := by
  refine PE.imp (pe_tup h) fun σ H Q ⟨ι, F, S, sl, hz, hs, rel, q⟩ => ?_
  refine ⟨ι, F, S, sl, hz, hs, rel, Aft.imp (Aft.bind q) fun xs S1 ι1 F1 H1 ⟨s1, r1, h1⟩ us rus => ?_⟩
  split at h1
  · rename_i ds S2 e2
    split at h1
    · rename_i hl
      obtain ⟨F2, g2, d2⟩ := frzL_ok e2 r1 rus
      refine ⟨by rw [d2.length]; exact hl, fun q hq => ?_⟩
      have g := Grow.new (o := .tup us) g2.2.2.sub hq
      exact h1 ι1 _ _ (g2.2.1.trans g.stp) (g2.2.2.grow g) _ (.tup (SqT.of upd_same) (DqAll.mono g.ff _ _ d2))
    · exact h1.elim
  · exact h1.elim
/-- a new list: its items -/
abbrev DF := Sl → Sto → R (List Val)
/-- .. kept as an owned list; given away at once -/
def ownE (g : DF) : DE := fun sl S => (g sl S).bind fun xs S1 => .ok (.loc S1.length) (S1 ++ [.lst xs])
def frzE (g : DF) : DE := fun sl S => (g sl S).bind fun xs S1 => match frzL S1 xs with
  | some (ds, S2) => .ok (.d (.list ds)) S2
  | none => .bad
def tF (K : PySem.W.Frag) (mg : Str → Option Value) (W : WX) (g : DF) : TE := fun σ H Q => ∃ ι F S sl, sl.length ≤ σ.length ∧ SlR K ι F S.length σ sl ∧ Rel K ι F H S ∧
  Aft K mg W σ ι F H S.length (g sl S) fun xs S' ι' F' H' => ∀ p us, H' p = none → RVs K ι' F' S'.length us xs → Q (.ref p) (upd H' p (.lst us))
def QF (X : Cx) (W : WX) (e : Expr) (g : DF) : Prop := PE X e (tF X.K X.mg W g)
theorem q_own {g : DF} (h : QF X W e g) : QE X W e (ownE g) := by
  refine PE.imp h fun σ H Q ⟨ι, F, S, sl, hz, hs, rel, q⟩ => ?_
  refine ⟨ι, F, S, sl, hz, hs, rel, Aft.imp (Aft.bind q) fun xs S1 ι1 F1 H1 ⟨s1, r1, h1⟩ p us hp rus => ?_⟩
  obtain ⟨ι', s', r', at_⟩ := own_new r1 hp rus
  exact h1 ι' _ _ s' r' _ ⟨by simp, by rw [at_]⟩
theorem q_frz {g : DF} (h : QF X W e g) : QE X W e (frzE g) := by
  refine PE.imp h fun σ H Q ⟨ι, F, S, sl, hz, hs, rel, q⟩ => ?_
  refine ⟨ι, F, S, sl, hz, hs, rel, Aft.imp (Aft.bind q) fun xs S1 ι1 F1 H1 ⟨s1, r1, h1⟩ p us hp rus => ?_⟩
  split at h1
  · rename_i ds S2 e2
    obtain ⟨F2, g2, d2⟩ := frzL_ok e2 r1 rus
    have g := Grow.new (o := .lst us) g2.2.2.sub hp
    exact h1 ι1 _ _ (g2.2.1.trans g.stp) (g2.2.2.grow g) _ (.lst upd_same (DqAll.mono g.ff _ _ d2))
  · exact h1.elim
/-- [a, b, ..] -/
def szF (g : DF) : DF := fun sl S => (g sl S).bind fun xs S1 => if xs.length ≤ sizeLine then .ok xs S1 else .bad
theorem f_lst (h : QA X W es la) : QF X W (.List es pos) (szF la) := by
  refine PE.imp (pe_lst h) fun σ H Q ⟨ι, F, S, sl, hz, hs, rel, q⟩ => ?_
  refine ⟨ι, F, S, sl, hz, hs, rel, Aft.imp (Aft.bind q) fun xs S1 ι1 F1 H1 ⟨s1, r1, h1⟩ us rus => ?_⟩
  split at h1
  · rename_i hl
    exact ⟨by rw [rus.length]; exact hl, fun p hp => h1 ι1 F1 H1 .refl r1 p us hp rus⟩
  · exact h1.elim

/-! ### built-ins by their names -/
/-- a rule of a call that serves a function of data -/
def CaD (K : PySem.W.Frag) (r : List V → Hp → VK → Prop) (g : List PyData → Option PyData) : Prop :=
  ∀ (F H : Hp) (us : List V) (xs : List PyData) (z : PyData) (Q : VK), Same F H → RDs K F H us xs → g xs = some z → (∀ t F' H', Grow F H F' H' → Dq K F' t z → Q t H') → r us H Q
def dats (S : Sto) : List Val → Option (List PyData)
  | [] => some []
  | x :: xs => match dat S x, dats S xs with
    | some d, some ds => some (d :: ds)
    | _, _ => none
theorem dats_ok {K : PySem.W.Frag} {ι : Nat → Addr} {F H : Hp} {S : Sto} (rel : Rel K ι F H S) : ∀ {xs : List Val} {ds : List PyData} {us : List V}, dats S xs = some ds → RVs K ι F S.length us xs → RDs K F H us ds
  | [], ds, us, e, r => by cases r; simp [dats] at e; subst e; exact .nil
  | x :: xs, ds, us, e, r => by
    cases r with
    | cons a b =>
      unfold dats at e
      split at e
      · rename_i d es e1 e2
        cases e
        exact .cons (a.dat rel e1) (dats_ok rel e2 b)
      · cases e
def blt (g : List PyData → Option PyData) (la : DL) : DE := fun sl S => (la sl S).bind fun xs S1 => match dats S1 xs with
  | some ds => okD (g ds) S1
  | none => .bad
theorem blt_ok {K : PySem.W.Frag} {mg : Str → Option Value} {σ : CxSt} {r : List V → Hp → VK → Prop} {g : List PyData → Option PyData} (hr : CaD K r g) {H : Hp} {Q : VK} (h : tE K mg W (blt g la) σ H Q) : tL K mg W la σ H fun us H1 => r us H1 Q := by
  obtain ⟨ι, F, S, sl, hz, hs, rel, q⟩ := h
  refine ⟨ι, F, S, sl, hz, hs, rel, Aft.imp (Aft.bind q) fun xs S1 ι1 F1 H1 ⟨s1, r1, h1⟩ us rus => ?_⟩
  split at h1
  · rename_i ds e1
    unfold okD at h1
    split at h1
    · rename_i z ez
      exact hr F1 H1 us ds z Q r1.sub (dats_ok r1 e1 rus) ez fun t F' H' g d => h1 ι1 F' H' g.stp (r1.grow g) t d
    · exact h1.elim
  · exact h1.elim
/-- .. with any rule for the call -/
theorem q_blt {r : List V → Hp → VK → Prop} {g : List PyData → Option PyData} {la : DL} (hr : CaD X.K r g) (h : PE X e (tCB r (tL X.K X.mg W la))) : QE X W e (blt g la) := PE.imp h fun σ H Q q => blt_ok hr q
end
end DV
set_option Elab.async false
set_option linter.all false
set_option maxRecDepth 100000
namespace DV
open PySem PySem.Spec PyProof.Rows L2

/-! ### + - * // % -/
def addD : PyData → PyData → Option PyData
  | .int i, .int j => some (.int (i + j))
  | .str a, .str b => if a.length + b.length ≤ sizeLine then some (.str (a ++ b)) else none
  | .tuple xs, .tuple ys => if xs.length + ys.length ≤ sizeLine then some (.tuple (xs ++ ys)) else none
  | .list xs, .list ys => if xs.length + ys.length ≤ sizeLine then some (.list (xs ++ ys)) else none
  | _, _ => none
def subD : PyData → PyData → Option PyData
  | .int i, .int j => some (.int (i - j))
  | _, _ => none
def mulD : PyData → PyData → Option PyData
  | .int i, .int j => if i.natAbs.log2 + j.natAbs.log2 < 1000000 then some (.int (i * j)) else none
  | .list xs, .int k => if decide (-(2 ^ 63) ≤ k) && decide (k < 2 ^ 63) && decide (xs.length * k.toNat ≤ sizeLine) then some (.list (List.replicate k.toNat xs).flatten) else none
  | .tuple xs, .int k => if decide (xs ≠ []) && decide (2 ≤ k) && decide (k ≤ 1000) && decide (xs.length ≤ 1000) then some (.tuple (List.replicate k.toNat xs).flatten) else none
  | _, _ => none
def divD : PyData → PyData → Option PyData
  | .int i, .int j => if decide (0 < j) && decide (j.natAbs.log2 < 9000) then some (.int (i / j)) else none
  | _, _ => none
def modD : PyData → PyData → Option PyData
  | .int i, .int j => if 0 < j then some (.int (i % j)) else none
  | _, _ => none
def powD : PyData → PyData → Option PyData
  | .int i, .int j => if decide (0 ≤ j) && decide (j ≤ 1000000) && decide (i.natAbs < 2 ^ 64) then some (.int (i ^ j.toNat)) else none
  | _, _ => none
def negD : PyData → Option PyData
  | .int i => some (.int (-i))
  | _ => none
section
variable {K : PySem.W.Frag} {X : Cx}
theorem DqAll.rep {F : Hp} {vs : List V} {ds : List PyData} (h : DqAll K F vs ds) : ∀ k : Nat, DqAll K F (List.replicate k vs).flatten (List.replicate k ds).flatten
  | 0 => by simp; exact .nil
  | k + 1 => by
    rw [List.replicate_succ, List.replicate_succ, List.flatten_cons, List.flatten_cons]
    exact h.append (h.rep k)
theorem DqAll.nil_iff {F : Hp} {vs : List V} {ds : List PyData} (h : DqAll K F vs ds) : vs = [] ↔ ds = [] := by
  have := h.length
  constructor
  · intro e; rw [e] at this; exact List.eq_nil_of_length_eq_zero this.symm
  · intro e; rw [e] at this; exact List.eq_nil_of_length_eq_zero this
/-- + : ints, texts, tuples, lists -/
def rAddA (K : PySem.W.Frag) : R2 := fun x y H Q => (rI0 fun i j => .int (i + j)) x y H Q ∨ (∃ i j, x = .str i ∧ y = .str j ∧ i.length + j.length ≤ sizeLine ∧ Q (.str (i ++ j)) H) ∨ rCatA K x y H Q ∨ rCat x y H Q
theorem op_addA : OpR X (binaryOp .Add) (rAddA X.K) := op_add.or (op_add_str.or (op_catA.or op_cat))
theorem d_add : OpD K (rAddA K) addD := fun F H u v x y z Q s ru rv e h => by
  unfold addD at e
  split at e
  · cases e
    exact .inl ⟨_, _, ru.int, rv.int, h _ F H (.refl s) (.int _)⟩
  · split at e
    · rename_i hl
      cases e
      exact .inr (.inl ⟨_, _, ru.str, rv.str, hl, h _ F H (.refl s) (.str _)⟩)
    · cases e
  · split at e
    · rename_i hl
      cases e
      obtain ⟨a, vs, rfl, h1, d1⟩ := ru.tuple s
      obtain ⟨b, us, rfl, h2, d2⟩ := rv.tuple s
      refine .inr (.inr (.inl ⟨a, b, vs, us, rfl, rfl, h1, h2, by rw [d1.length, d2.length]; exact hl, fun e => ?_, fun e1 e2 => ?_, fun _ _ p hp => ?_⟩))
      · rw [d1.nil_iff.mp e, List.nil_append] at h
        rcases rv with q | ⟨_, _, _, _, e, _⟩
        · exact h _ F H (.refl s) q
        · cases e
      · rw [d2.nil_iff.mp e2, List.append_nil] at h
        rcases ru with q | ⟨_, _, _, _, e, _⟩
        · exact h _ F H (.refl s) q
        · cases e
      · have g := Grow.new (o := .tup (vs ++ us)) s hp
        exact h _ _ _ g (.tup (SqT.of upd_same) (DqAll.mono g.ff _ _ (d1.append d2)))
    · cases e
  · split at e
    · rename_i hl
      cases e
      obtain ⟨a, vs, rfl, h1, d1⟩ := ru.list s
      obtain ⟨b, us, rfl, h2, d2⟩ := rv.list s
      refine .inr (.inr (.inr ⟨a, b, vs, us, rfl, rfl, h1, h2, by rw [d1.length, d2.length]; exact hl, fun p hp => ?_⟩))
      have g := Grow.new (o := .lst (vs ++ us)) s hp
      exact h _ _ _ g (.lst upd_same (DqAll.mono g.ff _ _ (d1.append d2)))
    · cases e
  · cases e
/-- a rule of ints -/
theorem d_int2 {C : Int → Int → Prop} {gi : Int → Int → Int} {g : PyData → PyData → Option PyData} (hg : ∀ x y z, g x y = some z → ∃ i j, x = .int i ∧ y = .int j ∧ C i j ∧ z = .int (gi i j)) : OpD K (rI C fun i j => .int (gi i j)) g := fun F H u v x y z Q s ru rv e h => by
  obtain ⟨i, j, rfl, rfl, c, rfl⟩ := hg x y z e
  exact ⟨i, j, ru.int, rv.int, c, h _ F H (.refl s) (.int _)⟩
theorem d_sub : OpD K (rI0 fun i j => .int (i - j)) subD := fun F H u v x y z Q s ru rv e h => by
  unfold subD at e
  split at e
  · cases e; exact ⟨_, _, ru.int, rv.int, h _ F H (.refl s) (.int _)⟩
  · cases e
def rMulA (K : PySem.W.Frag) : R2 := fun x y H Q => (rI CMulW fun i j => .int (i * j)) x y H Q ∨ rRep x y H Q ∨ rRepT K x y H Q
theorem op_mulA : OpR X (binaryOp .Mult) (rMulA X.K) := op_mulW.or (op_rep.or op_repT)
theorem d_mul : OpD K (rMulA K) mulD := fun F H u v x y z Q s ru rv e h => by
  unfold mulD at e
  split at e
  · split at e
    · rename_i c
      cases e
      exact .inl ⟨_, _, ru.int, rv.int, c, h _ F H (.refl s) (.int _)⟩
    · cases e
  · rename_i k0
    split at e
    · rename_i c
      cases e
      simp only [Bool.and_eq_true, decide_eq_true_eq] at c
      obtain ⟨a, vs, rfl, h1, d1⟩ := ru.list s
      refine .inr (.inl ⟨a, _, vs, rfl, rv.int, h1, c.1.1, c.1.2, by rw [d1.length]; exact c.2, fun p hp => ?_⟩)
      have g := Grow.new (o := .lst (List.replicate (Int.toNat k0) vs).flatten) s hp
      exact h _ _ _ g (.lst upd_same (DqAll.mono g.ff _ _ (d1.rep _)))
    · cases e
  · rename_i k0
    split at e
    · rename_i c
      cases e
      simp only [Bool.and_eq_true, decide_eq_true_eq] at c
      obtain ⟨a, vs, rfl, h1, d1⟩ := ru.tuple s
      refine .inr (.inr ⟨a, _, vs, rfl, rv.int, h1, fun e => c.1.1.1 (d1.nil_iff.mp e), c.1.1.2, c.1.2, by rw [d1.length]; exact c.2, fun p hp => ?_⟩)
      have g := Grow.new (o := .tup (List.replicate (Int.toNat k0) vs).flatten) s hp
      exact h _ _ _ g (.tup (SqT.of upd_same) (DqAll.mono g.ff _ _ (d1.rep _)))
    · cases e
  · cases e
theorem d_div : OpD K (rI CDivW fun i j => .int (i / j)) divD := d_int2 (gi := fun i j => i / j) fun x y z e => by
  unfold divD at e
  split at e
  · split at e
    · rename_i c
      cases e
      simp only [Bool.and_eq_true, decide_eq_true_eq] at c
      exact ⟨_, _, rfl, rfl, c, rfl⟩
    · cases e
  · cases e
theorem d_mod : OpD K (rI (fun _ j => 0 < j) fun i j => .int (i % j)) modD := d_int2 (gi := fun i j => i % j) fun x y z e => by
  unfold modD at e
  split at e
  · split at e
    · rename_i c
      cases e
      exact ⟨_, _, rfl, rfl, c, rfl⟩
    · cases e
  · cases e
theorem d_pow : OpD K (rI CPow fun i j => .int (i ^ j.toNat)) powD := d_int2 (gi := fun i j => i ^ j.toNat) fun x y z e => by
  unfold powD at e
  split at e
  · split at e
    · rename_i c
      cases e
      simp only [Bool.and_eq_true, decide_eq_true_eq] at c
      exact ⟨_, _, rfl, rfl, ⟨c.1.1, c.1.2, c.2⟩, rfl⟩
    · cases e
  · cases e
theorem d_neg : UnD K (rU fun i => .int (-i)) negD := fun F H u x z Q s ru e h => by
  unfold negD at e
  split at e
  · cases e; exact ⟨_, ru.int, h _ F H (.refl s) (.int _)⟩
  · cases e

/-! ### comparisons -/
def eqD (x y : PyData) : Option PyData := if SeqAt.shaped x && SeqAt.shaped y then some (.bool (PyData.eqv x y)) else none
def neD (x y : PyData) : Option PyData := if SeqAt.shaped x && SeqAt.shaped y then some (.bool (!PyData.eqv x y)) else none
def cmpI (p : Int → Int → Bool) : PyData → PyData → Option PyData
  | .int i, .int j => some (.bool (p i j))
  | _, _ => none
def isNo : PyData → Bool
  | .none => true
  | _ => false
def isN : PyData → PyData → Option PyData
  | .none, .none => some (.bool true)
  | .bool _, .none | .int _, .none | .str _, .none | .list _, .none | .tuple _, .none | .dict _, .none => some (.bool false)
  | .bool a, .bool b => some (.bool (decide (a = b)))
  | _, _ => none
def notN (x y : PyData) : Option PyData := match isN x y with
  | some (.bool b) => some (.bool !b)
  | _ => none
def inD (x : PyData) : PyData → Option PyData
  | .list ds => if SeqAt.shaped x && SeqAt.shaped (.list ds) then some (.bool (ds.any fun z => PyData.eqv z x)) else none
  | .tuple ds => if SeqAt.shaped x && SeqAt.shaped (.tuple ds) then some (.bool (ds.any fun z => PyData.eqv z x)) else none
  | _ => none
def notInD (x y : PyData) : Option PyData := match inD x y with
  | some (.bool b) => some (.bool !b)
  | _ => none
theorem lay_of {d : PyData} (h : SeqAt.shaped d = true) : d.canLay0 = true := SeqAt.canLay_of_shaped h
theorem d_eq : OpD K (rEqD K) eqD := fun F H u v x y z Q s ru rv e h => by
  unfold eqD at e
  split at e
  · rename_i c
    cases e
    obtain ⟨c1, c2⟩ := Bool.and_eq_true_iff.mp c
    exact ⟨x, y, (ru.dp s).dp (lay_of c1), (rv.dp s).dp (lay_of c2), c1, c2, h _ F H (.refl s) (.bl _)⟩
  · cases e
theorem d_ne : OpD K (rNeD K) neD := fun F H u v x y z Q s ru rv e h => by
  unfold neD at e
  split at e
  · rename_i c
    cases e
    obtain ⟨c1, c2⟩ := Bool.and_eq_true_iff.mp c
    exact ⟨x, y, (ru.dp s).dp (lay_of c1), (rv.dp s).dp (lay_of c2), c1, c2, h _ F H (.refl s) (.bl _)⟩
  · cases e
theorem d_cmp {p : Int → Int → Bool} : OpD K (rI0 fun i j => .bl (p i j)) (cmpI p) := fun F H u v x y z Q s ru rv e h => by
  unfold cmpI at e
  split at e
  · cases e; exact ⟨_, _, ru.int, rv.int, h _ F H (.refl s) (.bl _)⟩
  · cases e
def rIsA : R2 := fun x y H Q => (y = .non ∧ Q (.bl (decide (x = .non))) H) ∨ rIsB x y H Q
def rNotA : R2 := fun x y H Q => (y = .non ∧ Q (.bl (!decide (x = .non))) H) ∨ rNotB x y H Q
theorem op_isA : OpR X (compareOp .Is) rIsA := op_isN.or op_isBl
theorem op_notA : OpR X (compareOp .IsNot) rNotA := op_notN.or op_notBl
theorem RD.ne_non {F H : Hp} {v : V} {x : PyData} (r : RD K F H v x) (e : x ≠ .none) : v ≠ .non := by
  rintro rfl
  rcases r with r | ⟨_, _, _, q, _⟩
  · cases r; exact e rfl
  · cases q
theorem isN_cases {x y z : PyData} (e : isN x y = some z) : (y = .none ∧ z = .bool (isNo x)) ∨ ∃ a b, x = .bool a ∧ y = .bool b ∧ z = .bool (decide (a = b)) := by
  cases y with
  | none => cases x <;> simp [isN] at e <;> subst e <;> exact .inl ⟨rfl, rfl⟩
  | bool b => cases x <;> simp [isN] at e <;> subst e <;> exact .inr ⟨_, _, rfl, rfl, rfl⟩
  | _ => cases x <;> simp [isN] at e
theorem d_is : OpD K rIsA isN := fun F H u v x y z Q s ru rv e h => by
  rcases isN_cases e with ⟨rfl, rfl⟩ | ⟨a, b, rfl, rfl, rfl⟩
  · refine .inl ⟨rv.non, ?_⟩
    cases x with
    | none => rw [ru.non]; exact h _ F H (.refl s) (.bl _)
    | _ => rw [decide_eq_false (ru.ne_non (by intro q; cases q))]; exact h _ F H (.refl s) (.bl _)
  · exact .inr ⟨a, b, ru.bl, rv.bl, h _ F H (.refl s) (.bl _)⟩
theorem d_isnot : OpD K rNotA notN := fun F H u v x y z Q s ru rv e h => by
  unfold notN at e
  split at e
  · rename_i b eb
    cases e
    rcases isN_cases eb with ⟨rfl, q⟩ | ⟨a, c, rfl, rfl, q⟩
    · refine .inl ⟨rv.non, ?_⟩
      cases q
      cases x with
      | none => rw [ru.non]; exact h _ F H (.refl s) (.bl _)
      | _ => rw [decide_eq_false (ru.ne_non (by intro q; cases q))]; exact h _ F H (.refl s) (.bl _)
    · cases q
      exact .inr ⟨a, c, ru.bl, rv.bl, h _ F H (.refl s) (.bl _)⟩
  · cases e
def rInA (K : PySem.W.Frag) : R2 := fun x y H Q => ∃ d ds, (Dp K H y (.list ds) ∧ SeqAt.shaped (.list ds) = true ∨ Dp K H y (.tuple ds) ∧ SeqAt.shaped (.tuple ds) = true) ∧ Dp K H x d ∧ SeqAt.shaped d = true ∧ Q (.bl (ds.any fun z => PyData.eqv z d)) H
def rNotInA (K : PySem.W.Frag) : R2 := fun x y H Q => ∃ d ds, (Dp K H y (.list ds) ∧ SeqAt.shaped (.list ds) = true ∨ Dp K H y (.tuple ds) ∧ SeqAt.shaped (.tuple ds) = true) ∧ Dp K H x d ∧ SeqAt.shaped d = true ∧ Q (.bl (!ds.any fun z => PyData.eqv z d)) H
theorem op_inA (hu : X.A.units + 65 < cLine) : OpR X (compareOp .In) (rInA X.K) := by
  intro pins s σ H x y v u Q I rx ry h
  obtain ⟨d, ds, hy, hd, sd, q⟩ := h
  obtain ⟨as, r1⟩ := Dp.reads I d x v hd rx
  rcases hy with ⟨he, se⟩ | ⟨he, se⟩
  · obtain ⟨bs, r2⟩ := Dp.reads I (.list ds) y u he ry
    exact SeqAt.in_list_reads r2 r1 (SeqAt.canLay_of_shaped se) (SeqAt.canLay_of_shaped sd) (room_in_shaped sd hu) ⟨.bl _, H, I, rfl, q⟩
  · obtain ⟨bs, r2⟩ := Dp.reads I (.tuple ds) y u he ry
    exact SeqAt.in_tuple_reads r2 r1 (SeqAt.canLay_of_shaped se) (SeqAt.canLay_of_shaped sd) (room_in_shaped sd hu) ⟨.bl _, H, I, rfl, q⟩
theorem op_notInA (hu : X.A.units + 65 < cLine) : OpR X (compareOp .NotIn) (rNotInA X.K) := by
  intro pins s σ H x y v u Q I rx ry h
  obtain ⟨d, ds, hy, hd, sd, q⟩ := h
  obtain ⟨as, r1⟩ := Dp.reads I d x v hd rx
  rcases hy with ⟨he, se⟩ | ⟨he, se⟩
  · obtain ⟨bs, r2⟩ := Dp.reads I (.list ds) y u he ry
    exact SeqAt.notIn_list_reads r2 r1 (SeqAt.canLay_of_shaped se) (SeqAt.canLay_of_shaped sd) (room_in_shaped sd hu) ⟨.bl _, H, I, rfl, q⟩
  · obtain ⟨bs, r2⟩ := Dp.reads I (.tuple ds) y u he ry
    exact SeqAt.notIn_tuple_reads r2 r1 (SeqAt.canLay_of_shaped se) (SeqAt.canLay_of_shaped sd) (room_in_shaped sd hu) ⟨.bl _, H, I, rfl, q⟩
theorem inD_cases {x y z : PyData} (e : inD x y = some z) : ∃ ds, (y = .list ds ∧ SeqAt.shaped (.list ds) = true ∨ y = .tuple ds ∧ SeqAt.shaped (.tuple ds) = true) ∧ SeqAt.shaped x = true ∧ z = .bool (ds.any fun z => PyData.eqv z x) := by
  unfold inD at e
  split at e
  · split at e
    · rename_i c
      cases e
      obtain ⟨c1, c2⟩ := Bool.and_eq_true_iff.mp c
      exact ⟨_, .inl ⟨rfl, c2⟩, c1, rfl⟩
    · cases e
  · split at e
    · rename_i c
      cases e
      obtain ⟨c1, c2⟩ := Bool.and_eq_true_iff.mp c
      exact ⟨_, .inr ⟨rfl, c2⟩, c1, rfl⟩
    · cases e
  · cases e
theorem d_in : OpD K (rInA K) inD := fun F H u v x y z Q s ru rv e h => by
  obtain ⟨ds, hy, c, rfl⟩ := inD_cases e
  refine ⟨x, ds, ?_, (ru.dp s).dp (lay_of c), c, h _ F H (.refl s) (.bl _)⟩
  rcases hy with ⟨rfl, c2⟩ | ⟨rfl, c2⟩
  · exact .inl ⟨(rv.dp s).dp (lay_of c2), c2⟩
  · exact .inr ⟨(rv.dp s).dp (lay_of c2), c2⟩
theorem d_notin : OpD K (rNotInA K) notInD := fun F H u v x y z Q s ru rv e h => by
  unfold notInD at e
  split at e
  · rename_i b eb
    cases e
    obtain ⟨ds, hy, c, q⟩ := inD_cases eb
    cases q
    refine ⟨x, ds, ?_, (ru.dp s).dp (lay_of c), c, h _ F H (.refl s) (.bl _)⟩
    rcases hy with ⟨rfl, c2⟩ | ⟨rfl, c2⟩
    · exact .inl ⟨(rv.dp s).dp (lay_of c2), c2⟩
    · exact .inr ⟨(rv.dp s).dp (lay_of c2), c2⟩
  · cases e

/-! ### built-ins -/
theorem RDs.one {F H : Hp} {us : List V} {x : PyData} (h : RDs K F H us [x]) : ∃ u, us = [u] ∧ RD K F H u x := by
  cases h with
  | cons a b => cases b; exact ⟨_, rfl, a⟩
theorem RDs.two {F H : Hp} {us : List V} {x y : PyData} (h : RDs K F H us [x, y]) : ∃ u v, us = [u, v] ∧ RD K F H u x ∧ RD K F H v y := by
  cases h with
  | cons a b =>
    cases b with
    | cons c d => cases d; exact ⟨_, _, rfl, a, c⟩
def lenD : List PyData → Option PyData
  | [.list ds] => some (.int ds.length)
  | [.tuple ds] => some (.int ds.length)
  | [.dict [(.none, .list ds)]] => some (.int ds.length)
  | [.str x] => if x.length ≤ sizeLine then some (.int x.length) else none
  | _ => none
def rLenA (K : PySem.W.Frag) : List V → Hp → VK → Prop := fun xs H Q => (∃ p ys, xs = [.ref p] ∧ (SqL K H p ys ∨ SqT K H p ys) ∧ Q (.int ys.length) H) ∨ ∃ z, xs = [.str z] ∧ z.length ≤ sizeLine ∧ Q (.int z.length) H
theorem call_lenA : CallR X (.builtin "len") (rLenA X.K) := call_len_seq.or call_len_str
theorem d_len : CaD K (rLenA K) lenD := fun F H us xs z Q s r e h => by
  unfold lenD at e
  split at e
  · cases e
    obtain ⟨u, rfl, ru⟩ := r.one
    obtain ⟨a, vs, rfl, h1, d1⟩ := ru.list s
    exact .inl ⟨a, vs, rfl, .inl (SqL.of h1), by rw [d1.length]; exact h _ F H (.refl s) (.int _)⟩
  · cases e
    obtain ⟨u, rfl, ru⟩ := r.one
    obtain ⟨a, vs, rfl, h1, d1⟩ := ru.tuple s
    exact .inl ⟨a, vs, rfl, .inr h1, by rw [d1.length]; exact h _ F H (.refl s) (.int _)⟩
  · cases e
    obtain ⟨u, rfl, ru⟩ := r.one
    obtain ⟨a, vs, rfl, h1, d1⟩ := ru.scr s
    exact .inl ⟨a, vs, rfl, .inl h1, by rw [d1.length]; exact h _ F H (.refl s) (.int _)⟩
  · split at e
    · rename_i hl
      cases e
      obtain ⟨u, rfl, ru⟩ := r.one
      obtain rfl := ru.str
      exact .inr ⟨_, rfl, hl, h _ F H (.refl s) (.int _)⟩
    · cases e
  · cases e
def absD : List PyData → Option PyData
  | [.int i] => some (.int (if i < 0 then -i else i))
  | _ => none
theorem d_abs : CaD K (fun xs H Q => ∃ i, xs = [.int i] ∧ Q (.int (if i < 0 then -i else i)) H) absD := fun F H us xs z Q s r e h => by
  unfold absD at e
  split at e
  · cases e
    obtain ⟨u, rfl, ru⟩ := r.one
    exact ⟨_, by rw [ru.int], h _ F H (.refl s) (.int _)⟩
  · cases e
def maxD2 : List PyData → Option PyData
  | [.int i, .int j] => some (.int (if j > i then j else i))
  | _ => none
def minD2 : List PyData → Option PyData
  | [.int i, .int j] => some (.int (if j < i then j else i))
  | _ => none
theorem d_max2 : CaD K (fun xs H Q => ∃ i j, xs = [.int i, .int j] ∧ Q (.int (if j > i then j else i)) H) maxD2 := fun F H us xs z Q s r e h => by
  unfold maxD2 at e
  split at e
  · cases e
    obtain ⟨u, v, rfl, ru, rv⟩ := r.two
    exact ⟨_, _, by rw [ru.int, rv.int], h _ F H (.refl s) (.int _)⟩
  · cases e
theorem d_min2 : CaD K (fun xs H Q => ∃ i j, xs = [.int i, .int j] ∧ Q (.int (if j < i then j else i)) H) minD2 := fun F H us xs z Q s r e h => by
  unfold minD2 at e
  split at e
  · cases e
    obtain ⟨u, v, rfl, ru, rv⟩ := r.two
    exact ⟨_, _, by rw [ru.int, rv.int], h _ F H (.refl s) (.int _)⟩
  · cases e
def intD : List PyData → Option PyData
  | [.int i] => some (.int i)
  | [.bool b] => some (.int (if b then 1 else 0))
  | _ => none
theorem d_int1 : CaD K (fun xs H Q => (∃ i, xs = [.int i] ∧ Q (.int i) H) ∨ ∃ k, xs = [.bl k] ∧ Q (.int (if k then 1 else 0)) H) intD := fun F H us xs z Q s r e h => by
  unfold intD at e
  split at e
  · cases e
    obtain ⟨u, rfl, ru⟩ := r.one
    exact .inl ⟨_, by rw [ru.int], h _ F H (.refl s) (.int _)⟩
  · cases e
    obtain ⟨u, rfl, ru⟩ := r.one
    exact .inr ⟨_, by rw [ru.bl], h _ F H (.refl s) (.int _)⟩
  · cases e
def tupD : List PyData → Option PyData
  | [.list ds] => some (.tuple ds)
  | [.tuple ds] => some (.tuple ds)
  | _ => none
theorem d_tuple : CaD K (fun xs H Q => ∃ p ys, xs = [.ref p] ∧ ((SqL K H p ys ∧ ∀ l, H l = none → Q (.ref l) (upd H l (.tup ys))) ∨ (SqT K H p ys ∧ Q (.ref p) H))) tupD := fun F H us xs z Q s r e h => by
  unfold tupD at e
  split at e
  · cases e
    obtain ⟨u, rfl, ru⟩ := r.one
    obtain ⟨a, vs, rfl, h1, d1⟩ := ru.list s
    refine ⟨a, vs, rfl, .inl ⟨SqL.of h1, fun l hl => ?_⟩⟩
    have g := Grow.new (o := .tup vs) s hl
    exact h _ _ _ g (.tup (SqT.of upd_same) (DqAll.mono g.ff _ _ d1))
  · cases e
    obtain ⟨u, rfl, ru⟩ := r.one
    obtain ⟨a, vs, rfl, h1, d1⟩ := ru.tuple s
    refine ⟨a, vs, rfl, .inr ⟨h1, ?_⟩⟩
    rcases ru with q | ⟨_, _, _, _, e, _⟩
    · exact h _ F H (.refl s) q
    · cases e
  · cases e
def bools : List PyData → Option (List Bool)
  | [] => some []
  | .bool b :: r => (bools r).map (b :: ·)
  | _ => none
theorem bools_eq : ∀ {xs : List PyData} {bs : List Bool}, bools xs = some bs → xs = bs.map .bool
  | [], bs, e => by simp [bools] at e; subst e; rfl
  | .bool b :: r, bs, e => by
    simp only [bools, Option.map_eq_some_iff] at e
    obtain ⟨cs, e1, rfl⟩ := e
    rw [bools_eq e1] <;> rfl
  | .none :: _, _, e | .int _ :: _, _, e | .str _ :: _, _, e | .list _ :: _, _, e | .tuple _ :: _, _, e | .dict _ :: _, _, e => by simp [bools] at e
def intsOf : List PyData → Option (List Int)
  | [] => some []
  | .int b :: r => (intsOf r).map (b :: ·)
  | _ => none
theorem intsOf_eq : ∀ {xs : List PyData} {bs : List Int}, intsOf xs = some bs → xs = bs.map .int
  | [], bs, e => by simp [intsOf] at e; subst e; rfl
  | .int b :: r, bs, e => by
    simp only [intsOf, Option.map_eq_some_iff] at e
    obtain ⟨cs, e1, rfl⟩ := e
    rw [intsOf_eq e1] <;> rfl
  | .none :: _, _, e | .bool _ :: _, _, e | .str _ :: _, _, e | .list _ :: _, _, e | .tuple _ :: _, _, e | .dict _ :: _, _, e => by simp [intsOf] at e
def allBD : List PyData → Option PyData
  | [.list ds] => (bools ds).map fun bs => .bool (bs.all id)
  | _ => none
def anyBD : List PyData → Option PyData
  | [.list ds] => (bools ds).map fun bs => .bool (bs.any id)
  | _ => none
def sumD : List PyData → Option PyData
  | [.list ds] => (intsOf ds).map fun bs => .int bs.sum
  | _ => none
theorem d_all : CaD K (rAll K) allBD := fun F H us xs z Q s r e h => by
  unfold allBD at e
  split at e
  · simp only [Option.map_eq_some_iff] at e
    obtain ⟨bs, e1, rfl⟩ := e
    obtain ⟨u, rfl, ru⟩ := r.one
    rw [bools_eq e1] at ru
    obtain ⟨a, vs, rfl, h1, d1⟩ := ru.list s
    rw [d1.bls] at h1
    exact ⟨a, bs, rfl, SqL.of h1, h _ F H (.refl s) (.bl _)⟩
  · cases e
theorem d_any : CaD K (rAny K) anyBD := fun F H us xs z Q s r e h => by
  unfold anyBD at e
  split at e
  · simp only [Option.map_eq_some_iff] at e
    obtain ⟨bs, e1, rfl⟩ := e
    obtain ⟨u, rfl, ru⟩ := r.one
    rw [bools_eq e1] at ru
    obtain ⟨a, vs, rfl, h1, d1⟩ := ru.list s
    rw [d1.bls] at h1
    exact ⟨a, bs, rfl, SqL.of h1, h _ F H (.refl s) (.bl _)⟩
  · cases e
theorem d_sum : CaD K (rSum K) sumD := fun F H us xs z Q s r e h => by
  unfold sumD at e
  split at e
  · simp only [Option.map_eq_some_iff] at e
    obtain ⟨bs, e1, rfl⟩ := e
    obtain ⟨u, rfl, ru⟩ := r.one
    rw [intsOf_eq e1] at ru
    obtain ⟨a, vs, rfl, h1, d1⟩ := ru.list s
    rw [d1.ints] at h1
    exact ⟨a, bs, rfl, SqL.of h1, h _ F H (.refl s) (.int _)⟩
  · cases e
def strD : List PyData → Option PyData
  | [.int i] => if i.natAbs.log2 < 1920 then some (.str (toString i)) else none
  | _ => none
theorem d_str : CaD K (fun xs H Q => ∃ i, xs = [.int i] ∧ i.natAbs.log2 < 1920 ∧ Q (.str (toString i)) H) strD := fun F H us xs z Q s r e h => by
  unfold strD at e
  split at e
  · split at e
    · rename_i c
      cases e
      obtain ⟨u, rfl, ru⟩ := r.one
      exact ⟨_, by rw [ru.int], c, h _ F H (.refl s) (.str _)⟩
    · cases e
  · cases e
end
end DV
set_option Elab.async false
set_option linter.all false
set_option maxRecDepth 100000
namespace DV
open PySem PySem.Spec PyProof.Rows L2

/-! ### places -/
def optD (o : Option PyData) (S : Sto) : R Val := okD o S
def ixV (S : Sto) (x y : Val) : R Val := match y with
  | .d (.int i) => match x with
    | .d (.list ds) => okD (atI ds i) S
    | .d (.tuple ds) => okD (atI ds i) S
    | .d (.dict [(.none, .list ds)]) => okD (atI ds i) S
    | .d (.str z) => if z.length ≤ sizeLine then okD ((atI z.cps.toList i).map fun c => .str ⟨#[c]⟩) S else .bad
    | .loc k => match S[k]? with
      | some (.lst xs) => match atI xs i with
        | some v => .ok v S
        | none => .bad
      | some (.frz ds) => okD (atI ds i) S
      | none => .bad
    | _ => .bad
  | _ => .bad
def ixE (fa fb : DE) : DE := fun sl S => (fa sl S).bind fun x S1 => (fb sl S1).bind fun y S2 => ixV S2 x y
section
variable {K : PySem.W.Frag} {ι : Nat → Addr} {F H : Hp} {n : Nat}
theorem atI_len {α β : Type} {xs : List α} {ys : List β} (h : xs.length = ys.length) {i : Int} {y : β} (e : atI ys i = some y) : ∃ j, ixN xs.length i = some j ∧ ys[j]? = some y := by
  unfold atI at e
  cases q : ixN ys.length i with
  | none => rw [q] at e; cases e
  | some j => rw [q] at e; exact ⟨j, by rw [h]; exact q, e⟩
theorem DqAll.at {vs : List V} {ds : List PyData} (h : DqAll K F vs ds) {i : Int} {d : PyData} (e : atI ds i = some d) : ∃ v, atI vs i = some v ∧ Dq K F v d := by
  obtain ⟨j, e1, e2⟩ := atI_len h.length e
  obtain ⟨v, e3, q⟩ := h.get e2
  exact ⟨v, by unfold atI; rw [e1]; exact e3, q⟩
theorem RVs.at {vs : List V} {xs : List Val} (h : RVs K ι F n vs xs) {i : Int} {d : Val} (e : atI xs i = some d) : ∃ v, atI vs i = some v ∧ RV K ι F n v d := by
  obtain ⟨j, e1, e2⟩ := atI_len h.length e
  obtain ⟨v, e3, q⟩ := h.get e2
  exact ⟨v, by unfold atI; rw [e1]; exact e3, q⟩
theorem okD_ok {mg : Str → Option Value} {W : WX} {σ : CxSt} {o : Option PyData} {S : Sto} {P : Val → Sto → (Nat → Addr) → Hp → Hp → Prop} (h : Aft K mg W σ ι F H S.length (okD o S) P) (rel : Rel K ι F H S) : ∃ z, o = some z ∧ P (.d z) S ι F H := by
  cases o with
  | none => exact h.elim
  | some z => exact ⟨z, rfl, h ι F H .refl rel⟩
theorem ixV_ok {mg : Str → Option Value} {W : WX} {σ : CxSt} {S : Sto} {x y : Val} {u v : V} {Q : VK} (rel : Rel K ι F H S)
    (ru : RV K ι F S.length u x) (rv : RV K ι F S.length v y) (h : Aft K mg W σ ι F H S.length (ixV S x y) fun x S' ι' F' H' => ∀ u, RV K ι' F' S'.length u x → Q u H') : rIx K u v H Q := by
  unfold ixV at h
  split at h
  · rename_i i
    cases rv
    split at h
    · rename_i ds
      obtain ⟨z, e, k⟩ := okD_ok h rel
      cases ru with
      | lst q r =>
        obtain ⟨w, e1, d1⟩ := r.at e
        exact .inl ⟨_, _, i, w, rfl, rfl, SqL.of (rel.sub _ _ q), e1, k w d1⟩
    · rename_i ds
      obtain ⟨z, e, k⟩ := okD_ok h rel
      cases ru with
      | tup q r =>
        obtain ⟨w, e1, d1⟩ := r.at e
        exact .inr (.inl ⟨_, _, i, w, rfl, rfl, SqT.mono rel.sub q, e1, k w d1⟩)
    · rename_i ds
      obtain ⟨z, e, k⟩ := okD_ok h rel
      obtain ⟨a, vs, rfl, q, r⟩ := RD.scr rel.sub (.inl ru)
      obtain ⟨w, e1, d1⟩ := r.at e
      exact .inl ⟨_, _, i, w, rfl, rfl, q, e1, k w d1⟩
    · split at h
      · rename_i z hl
        obtain ⟨z', e, k⟩ := okD_ok h rel
        simp only [Option.map_eq_some_iff] at e
        obtain ⟨c, e, rfl⟩ := e
        cases ru
        exact .inr (.inr ⟨_, i, c, rfl, rfl, hl, e, k _ (.str _)⟩)
      · exact h.elim
    · rename_i k0
      obtain ⟨hk, rfl⟩ := ru
      split at h
      · rename_i xs q
        split at h
        · rename_i v' e
          obtain ⟨_, vs, h1, h2⟩ := rel.obj _ _ q
          obtain ⟨w, e1, d1⟩ := h2.at e
          exact .inl ⟨_, vs, i, w, rfl, rfl, SqL.of h1, e1, h ι F H .refl rel w d1⟩
        · exact h.elim
      · rename_i ds q
        obtain ⟨z, e, k⟩ := okD_ok h rel
        obtain ⟨vs, h1, h2⟩ := rel.obj _ _ q
        obtain ⟨w, e1, d1⟩ := h2.at e
        exact .inl ⟨_, vs, i, w, rfl, rfl, SqL.of (rel.sub _ _ h1), e1, k w d1⟩
      · exact h.elim
    · exact h.elim
  · exact h.elim
end
section
variable {X : Cx} {W : WX} {a b c e : Expr} {es : List Expr} {fa fb fc f : DE} {la : DL} {pos p p2 : Pos}
theorem q_ix (ha : QE X W a fa) (hb : QE X W b fb) (hs : PlainIx b) : QE X W (.Subscript a b pos) (ixE fa fb) := by
  refine PE.imp (pe_ix ix_seq ha hb hs) fun σ H Q ⟨ι, F, S, sl, hz, hs, rel, q⟩ => ?_
  exact tE.two hz hs rel q fun x y S2 ι2 F2 H2 u v s2 r2 ru rv h2 => ixV_ok r2 ru rv h2

/-! ### slices -/
abbrev DO := Sl → Sto → R (Option Int)
def tOo (K : PySem.W.Frag) (mg : Str → Option Value) (W : WX) (f : DO) : TO := fun σ H Q => ∃ ι F S sl, sl.length ≤ σ.length ∧ SlR K ι F S.length σ sl ∧ Rel K ι F H S ∧
  Aft K mg W σ ι F H S.length (f sl S) fun b S' ι' F' H' => Q b H'
def QO (X : Cx) (W : WX) (e : Option Expr) (f : DO) : Prop := PO X e (tOo X.K X.mg W f)
def noO : DO := fun _ S => .ok none S
def someO (f : DE) : DO := fun sl S => (f sl S).bind fun x S1 => match x with
  | .d (.int i) => .ok (some i) S1
  | _ => .bad
theorem o_none : QO X W none noO := ⟨fun pins s σ H Q vI h => po_none.run pins s σ H Q vI (by
  obtain ⟨ι, F, S, sl, hz, hs, rel, q⟩ := h
  exact q ι F H .refl rel)⟩
theorem o_some (h : QE X W e f) : QO X W (some e) (someO f) := ⟨fun pins s σ H Q vI hh => (po_some h).run pins s σ H Q vI (by
  obtain ⟨ι, F, S, sl, hz, hs, rel, q⟩ := hh
  refine ⟨ι, F, S, sl, hz, hs, rel, Aft.imp (Aft.bind q) fun x S1 ι1 F1 H1 ⟨s1, r1, h1⟩ u ru => ?_⟩
  split at h1
  · cases ru
    exact ⟨_, rfl, h1 ι1 F1 H1 .refl r1⟩
  · exact h1.elim)⟩
def cutD (xs : List PyData) (lo hi : Option Int) : List PyData := (xs.drop (HT.sIx xs.length 0 lo)).take (HT.sIx xs.length xs.length hi - HT.sIx xs.length 0 lo)
def cutX {α : Type} (xs : List α) (lo hi : Option Int) : List α := (xs.drop (HT.sIx xs.length 0 lo)).take (HT.sIx xs.length xs.length hi - HT.sIx xs.length 0 lo)
def slV (S : Sto) (x : Val) (lo hi : Option Int) : R Val := match dat S x with
  | some (.list ds) => .ok (.d (.list (cutX ds lo hi))) S
  | some (.tuple ds) => .ok (.d (.tuple (cutX ds lo hi))) S
  | _ => .bad
def slE (fa : DE) (fl fh : DO) : DE := fun sl S => (fa sl S).bind fun x S1 => (fl sl S1).bind fun lo S2 => (fh sl S2).bind fun hi S3 => slV S3 x lo hi
def rSlB (K : PySem.W.Frag) : V → Option Int → Option Int → Hp → VK → Prop := fun x lo hi H Q => rSlL K x lo hi H Q ∨ rSlA K x lo hi H Q
theorem sl_both : L2.SlR X (rSlB X.K) := sl_list.or sl_tupA
theorem DqAll.cut {K : PySem.W.Frag} {F : Hp} {vs : List V} {ds : List PyData} (h : DqAll K F vs ds) (lo hi : Option Int) : DqAll K F (cutV vs lo hi) (cutX ds lo hi) := by
  unfold cutV cutX
  rw [h.length]
  exact DqAll.take _ (DqAll.drop _ h)
theorem q_sl {lo hi : Option Expr} {fl fh : DO} (ha : QE X W a fa) (hl : QO X W lo fl) (hh : QO X W hi fh) : QE X W (.Subscript a (.Slice lo hi none p2) pos) (slE fa fl fh) := by
  refine PE.imp (pe_slice sl_both ha hl hh) fun σ H Q ⟨ι, F, S, sl, hz, hs, rel, q⟩ => ?_
  refine ⟨ι, F, S, sl, hz, hs, rel, Aft.imp (Aft.bind q) fun x S1 ι1 F1 H1 ⟨s1, r1, h1⟩ u ru => ?_⟩
  refine ⟨ι1, F1, S1, sl, hz, hs.stp s1, r1, Aft.imp h1.bind fun l S2 ι2 F2 H2 ⟨s2, r2, h2⟩ => ?_⟩
  refine ⟨ι2, F2, S2, sl, hz, (hs.stp s1).stp s2, r2, Aft.imp h2.bind fun hh S3 ι3 F3 H3 ⟨s3, r3, h3⟩ => ?_⟩
  have ru3 := (ru.stp s2).stp s3
  unfold slV at h3
  split at h3
  · rename_i ds ed
    obtain ⟨a, vs, rfl, q1, d1⟩ := (ru3.dat r3 ed).list r3.sub
    refine .inl ⟨a, vs, rfl, SqL.of q1, fun p hp => ?_⟩
    have g := Grow.new (o := .lst (cutV vs l hh)) r3.sub hp
    exact h3 ι3 _ _ g.stp (r3.grow g) _ (.lst upd_same (DqAll.mono g.ff _ _ (d1.cut l hh)))
  · rename_i ds ed
    have rt := ru3.dat r3 ed
    obtain ⟨a, vs, rfl, q1, d1⟩ := rt.tuple r3.sub
    refine .inr ⟨a, vs, rfl, q1, fun ⟨w1, w2⟩ => ?_, fun _ p hp => ?_⟩
    · have e : cutX ds l hh = ds := by
        unfold cutX
        rw [← d1.length, w1, w2, d1.length]
        simp
      rw [e] at h3
      rcases rt with q | ⟨_, _, _, _, e, _⟩
      · exact h3 ι3 F3 H3 .refl r3 _ q
      · cases e
    · have g := Grow.new (o := .tup (cutV vs l hh)) r3.sub hp
      exact h3 ι3 _ _ g.stp (r3.grow g) _ (.tup (SqT.of upd_same) (DqAll.mono g.ff _ _ (d1.cut l hh)))
  · exact h3.elim

/-! ### isinstance -/
def tyNm : PyData → String
  | .none => "NoneType"
  | .bool _ => "bool"
  | .int _ => "int"
  | .str _ => "str"
  | .list _ => "list"
  | .tuple _ => "tuple"
  | .dict [(.none, .list _)] => "list"
  | .dict _ => "dict"
theorem SqT.ty {K : PySem.W.Frag} {H : Hp} {a : Addr} {xs : List V} (h : SqT K H a xs) : TyX K H (.ref a) (.type "tuple") := by
  rcases h with (h | ⟨o, h⟩) | ⟨o, its, n, h, c, _⟩
  · exact .base (.tup h)
  · exact .fTuple h
  · exact .kTuple h c
theorem SqL.ty {K : PySem.W.Frag} {H : Hp} {a : Addr} {xs : List V} (h : SqL K H a xs) : TyX K H (.ref a) (.type "list") := by
  rcases h with (h | ⟨o, h⟩) | ⟨o, its, n, h, c, _⟩
  · exact .base (.lst h)
  · exact .base (.frz h)
  · exact .kList h c
theorem RD.ty {K : PySem.W.Frag} {F H : Hp} {u : V} {x : PyData} (s : Same F H) (r : RD K F H u x) : TyX K H u (.type (tyNm x)) := by
  rcases r with r | ⟨a, vs, ds, rfl, rfl, h1, h2⟩
  · cases r with
    | non => exact .base .non
    | bl b => exact .base (.bl b)
    | int i => exact .base (.int i)
    | str z => exact .base (.str z)
    | lst q _ => exact .base (.lst (s _ _ q))
    | tup q _ => exact SqT.ty (SqT.mono s q)
    | scr q _ => exact SqL.ty (s.seq q)
    | @dk a ks vs kvs q l e d =>
      have : tyNm (.dict kvs) = "dict" := by
        unfold tyNm
        split <;> first | rfl | skip
        all_goals (rename_i he; cases he)
        cases ks with
        | nil => simp at e
        | cons k ks => cases k <;> simp [keyD] at e
      rw [this]
      exact .base (.dK (s _ _ q))
    | @dt a ks vs kvs q l e d =>
      have : tyNm (.dict kvs) = "dict" := by
        unfold tyNm
        split <;> first | rfl | skip
        all_goals (rename_i he; cases he)
        cases ks with
        | nil => simp at e
        | cons k ks => simp at e
      rw [this]
      exact .base (.dT (s _ _ q))
  · exact .base (.lst h1)
def isiD (c : String) (x : PyData) : Option PyData := (kitB (tyNm x) c).map .bool
def isiE (c : String) (fa : DE) : DE := un (isiD c) fa
theorem q_isi {c : String} {r : TE} (h : PE X e (tCB (rIsi X.K) (tCons (tE X.K X.mg W fa) (tCons (tC (.ty c)) tNil)))) : QE X W e (isiE c fa) := by
  refine PE.imp h fun σ H Q q => ?_
  have hr : UnD X.K (fun u H Q => rIsi X.K [u, .ty c] H Q) (isiD c) := fun F H u x z Q s ru e k => by
    unfold isiD at e
    simp only [Option.map_eq_some_iff] at e
    obtain ⟨b, e1, rfl⟩ := e
    exact ⟨u, .ty c, _, _, b, rfl, .ty c, ru.ty s, kit_ty e1, k _ F H (.refl s) (.bl _)⟩
  exact un_ok hr q
/-- isinstance(x, (A, B)) of built-in classes -/
def isiD2 (c c2 : String) (x : PyData) : Option PyData := match kitB (tyNm x) c with
  | some true => some (.bool true)
  | some false => (kitB (tyNm x) c2).map .bool
  | none => none
theorem q_isi2 {c c2 : String} (h : PE X e (tCB (rIsiT X.K) (tCons (tE X.K X.mg W fa) (tCons (tTup (tCons (tC (.ty c)) (tCons (tC (.ty c2)) tNil))) tNil)))) : QE X W e (un (isiD2 c c2) fa) := by
  refine PE.imp h fun σ H Q q => ?_
  have hr : UnD X.K (fun u H Q => ∀ p, H p = none → rIsiT X.K [u, .ref p] (upd H p (.tup [.ty c, .ty c2])) Q) (isiD2 c c2) := fun F H u x z Q s ru e k p hp => by
    have g := Grow.new (o := .tup [.ty c, .ty c2]) s hp
    have ru' : RD X.K (upd F p (.tup [.ty c, .ty c2])) (upd H p (.tup [.ty c, .ty c2])) u x := by
      rcases ru with q | ⟨a, vs, ds, e1, e2, h1, h2⟩
      · exact .inl (Dq.mono g.ff _ _ q)
      · exact .inr ⟨a, vs, ds, e1, e2, g.hh _ _ h1, DqAll.mono g.ff _ _ h2⟩
    unfold isiD2 at e
    refine ⟨u, p, [.ty c, .ty c2], .type (tyNm x), [.type c, .type c2], ?_⟩
    split at e
    · rename_i e1
      cases e
      exact ⟨true, rfl, upd_same, .cons (.ty c) (.cons (.ty c2) .nil), ru'.ty g.sub, kitAny_cons (kit_ty e1) (fun q => nomatch q) (fun _ => rfl), k _ _ _ g (.bl _)⟩
    · rename_i e1
      simp only [Option.map_eq_some_iff] at e
      obtain ⟨b, e2, rfl⟩ := e
      exact ⟨b, rfl, upd_same, .cons (.ty c) (.cons (.ty c2) .nil), ru'.ty g.sub, kitAny_cons (kit_ty e1) (fun _ => kitAny_cons (kit_ty e2) (fun q => by rw [q]; exact kitAny_nil) (fun q => q)) (fun q => nomatch q), k _ _ _ g (.bl _)⟩
    · cases e
  obtain ⟨ι, F, S, sl, hz, hs, rel, q'⟩ := un_ok hr q
  exact ⟨ι, F, S, sl, hz, hs, rel, Aft.imp q' fun x S' ι' F' H' k u ru => ⟨by show 2 ≤ sizeLine; decide, fun p hp => k u ru p hp⟩⟩
end
end DV
set_option Elab.async false
set_option linter.all false
set_option maxRecDepth 100000
namespace DV
open PySem PySem.Spec PyProof.Rows L2

/-! ### what is walked: items that are data -/
abbrev IT := Sl → Sto → R (List PyData)
/-- an iterator that yields the items, over all that grows from F -/
structure ItOk (K : PySem.W.Frag) (F : Hp) (J : It) (xs : List PyData) : Prop where
  go : ∀ i F1 H1, i < xs.length → Same F F1 → Same F1 H1 → J.go i H1
  yld : ∀ i F1 H1 x H2, i < xs.length → Same F F1 → Same F1 H1 → J.yld i H1 x H2 → ∃ d F2, xs[i]? = some d ∧ Grow F1 H1 F2 H2 ∧ Dq K F2 x d
  stop : ∀ i F1 H1, xs.length ≤ i → Same F F1 → Same F1 H1 → J.stop i H1
def tI (K : PySem.W.Frag) (mg : Str → Option Value) (W : WX) (f : IT) : TI := fun σ H R => ∃ ι F S sl, sl.length ≤ σ.length ∧ SlR K ι F S.length σ sl ∧ Rel K ι F H S ∧
  Aft K mg W σ ι F H S.length (f sl S) fun xs S' ι' F' H' => ∀ J, ItOk K F' J xs → R J H'
def QI (X : Cx) (W : WX) (tg iter : Expr) (f : IT) : Prop := PI X tg iter (tI X.K X.mg W f)
theorem PI.imp {X : Cx} {tg e : Expr} {t t' : TI} (h : PI X tg e t) (k : ∀ σ H Q, t' σ H Q → t σ H Q) : PI X tg e t' := ⟨fun pins s σ H Q I q => h.run pins s σ H Q I (k _ _ _ q)⟩
theorem PI.or {X : Cx} {tg e : Expr} {t t' : TI} (h : PI X tg e t) (h' : PI X tg e t') : PI X tg e (fun σ H Q => t σ H Q ∨ t' σ H Q) := ⟨fun pins s σ H Q I q => q.elim (h.run pins s σ H Q I) (h'.run pins s σ H Q I)⟩
/-- a list or a tuple, given away -/
def seqI (f : DE) : IT := fun sl S => (f sl S).bind fun x S1 => match frz S1 x with
  | some (.list ds, S2) => .ok ds S2
  | some (.tuple ds, S2) => .ok ds S2
  | _ => .bad
section
variable {K : PySem.W.Frag} {F H : Hp}
theorem it_list {a : Addr} {vs : List V} {ds : List PyData} (h : F a = some (.lst vs)) (d : DqAll K F vs ds) : ItOk K F (Itl K a) ds where
  go := fun i F1 H1 hi f1 f2 => ⟨vs, vs[i]'(by rw [d.length]; exact hi), SqL.of (f2 _ _ (f1 _ _ h)), List.getElem?_eq_getElem _⟩
  yld := fun i F1 H1 x H2 hi f1 f2 ⟨e, q⟩ => by
    subst e
    have e := q vs (SqL.of (f2 _ _ (f1 _ _ h)))
    obtain ⟨v, e2, dv⟩ := d.get (List.getElem?_eq_getElem hi)
    rw [e] at e2
    cases e2
    exact ⟨_, F1, List.getElem?_eq_getElem hi, .refl f2, Dq.mono f1 _ _ dv⟩
  stop := fun i F1 H1 hi f1 f2 => ⟨vs, SqL.of (f2 _ _ (f1 _ _ h)), by rw [d.length]; exact hi⟩
theorem it_tup {a : Addr} {vs : List V} {ds : List PyData} (h : SqT K F a vs) (d : DqAll K F vs ds) : ItOk K F (Itt K a) ds where
  go := fun i F1 H1 hi f1 f2 => ⟨vs, vs[i]'(by rw [d.length]; exact hi), SqT.mono f2 (SqT.mono f1 h), List.getElem?_eq_getElem _⟩
  yld := fun i F1 H1 x H2 hi f1 f2 ⟨e, q⟩ => by
    subst e
    have e := q vs (SqT.mono f2 (SqT.mono f1 h))
    obtain ⟨v, e2, dv⟩ := d.get (List.getElem?_eq_getElem hi)
    rw [e] at e2
    cases e2
    exact ⟨_, F1, List.getElem?_eq_getElem hi, .refl f2, Dq.mono f1 _ _ dv⟩
  stop := fun i F1 H1 hi f1 f2 => ⟨vs, SqT.mono f2 (SqT.mono f1 h), by rw [d.length]; exact hi⟩
def rangeL (lo : Int) (n : Nat) : List PyData := (List.range n).map fun i => .int (lo + (i : Nat))
theorem rangeL_length (lo : Int) (n : Nat) : (rangeL lo n).length = n := by simp [rangeL]
theorem rangeL_get {lo : Int} {n i : Nat} (h : i < n) : (rangeL lo n)[i]? = some (.int (lo + (i : Nat))) := by simp [rangeL, h]
theorem it_range {lo : Int} {n : Nat} : ItOk K F (Itr lo n) (rangeL lo n) where
  go := fun i F1 H1 hi f1 f2 => by rw [rangeL_length] at hi; exact hi
  yld := fun i F1 H1 x H2 hi f1 f2 ⟨e, q⟩ => by
    subst e q
    rw [rangeL_length] at hi
    exact ⟨_, F1, rangeL_get hi, .refl f2, .int _⟩
  stop := fun i F1 H1 hi f1 f2 => by rw [rangeL_length] at hi; exact hi
end
section
variable {X : Cx} {W : WX} {a b e tg : Expr} {fa fb f : DE} {la : DL} {pos p : Pos}
theorem i_seq (h : QE X W e f) : QI X W tg e (seqI f) := by
  refine PI.imp (PI.or (pi_list h) (pi_tup h)) fun σ H Q q => ?_
  obtain ⟨ι, F, S, sl, hz, hs, rel, q⟩ := q
  unfold seqI at q
  cases ef : f sl S with
  | er x S1 =>
    rw [ef] at q
    exact .inl ⟨ι, F, S, sl, hz, hs, rel, by rw [ef]; exact q⟩
  | bad => rw [ef] at q; exact q.elim
  | ok x S1 =>
    rw [ef] at q
    simp only [R.bind] at q
    split at q
    · rename_i ds S2 e2
      refine .inl ⟨ι, F, S, sl, hz, hs, rel, ?_⟩
      rw [ef]
      intro ι1 F1 H1 s1 r1 u ru
      obtain ⟨F2, g2, d2⟩ := frz_ok e2 r1 ru
      cases d2 with
      | lst q2 dd => exact ⟨_, rfl, ⟨_, SqL.of (g2.2.2.sub _ _ q2)⟩, q ι1 F2 H1 (s1.trans g2.2.1) g2.2.2 _ (it_list q2 dd)⟩
    · rename_i ds S2 e2
      refine .inr ⟨ι, F, S, sl, hz, hs, rel, ?_⟩
      rw [ef]
      intro ι1 F1 H1 s1 r1 u ru
      obtain ⟨F2, g2, d2⟩ := frz_ok e2 r1 ru
      cases d2 with
      | tup q2 dd => exact ⟨_, rfl, ⟨_, SqT.mono g2.2.2.sub q2⟩, q ι1 F2 H1 (s1.trans g2.2.1) g2.2.2 _ (it_tup q2 dd)⟩
    · exact q.elim
def rng1 (la : DL) : IT := fun sl S => (la sl S).bind fun xs S1 => match xs with
  | [.d (.int j)] => if decide (-(2 ^ 62) ≤ j) && decide (j < 2 ^ 62) then .ok (rangeL 0 j.toNat) S1 else .bad
  | _ => .bad
def rng2 (la : DL) : IT := fun sl S => (la sl S).bind fun xs S1 => match xs with
  | [.d (.int i), .d (.int j)] => if decide (-(2 ^ 62) ≤ i) && decide (i < 2 ^ 62) && decide (-(2 ^ 62) ≤ j) && decide (j < 2 ^ 62) then .ok (rangeL i (j - i).toNat) S1 else .bad
  | _ => .bad
theorem RVs.nil_inv {K : PySem.W.Frag} {ι : Nat → Addr} {F : Hp} {n : Nat} {us : List V} (h : RVs K ι F n us []) : us = [] := by cases h; rfl
theorem i_rng1 (hg : Gl X "range") (hm : X.mg "range" = none) (ha : QA X W [a] la) (hs : starEach [a] X.env = [(false, eval a X.env)] := by rfl) : QI X W tg (.Call (.Name "range" p) [a] [] pos) (rng1 la) := by
  refine PI.imp (pi_range1 hg hm ha hs) fun σ H Q q => ?_
  obtain ⟨ι, F, S, sl, hz, hs, rel, q⟩ := q
  refine ⟨ι, F, S, sl, hz, hs, rel, Aft.imp (Aft.bind q) fun xs S1 ι1 F1 H1 ⟨s1, r1, h1⟩ us rus => ?_⟩
  split at h1
  · cases rus with
    | cons r rr =>
      cases RVs.nil_inv rr
      cases r
      split at h1
      · rename_i c
        simp only [Bool.and_eq_true, decide_eq_true_eq] at c
        exact ⟨_, rfl, c.1, c.2, h1 ι1 F1 H1 .refl r1 _ it_range⟩
      · exact h1.elim
  · exact h1.elim
theorem i_rng2 (hg : Gl X "range") (hm : X.mg "range" = none) (ha : QA X W [a, b] la) (hs : starEach [a, b] X.env = [(false, eval a X.env), (false, eval b X.env)] := by rfl) (hs2 : starEach [b] X.env = [(false, eval b X.env)] := by rfl) : QI X W tg (.Call (.Name "range" p) [a, b] [] pos) (rng2 la) := by
  refine PI.imp (pi_range2 hg hm ha hs hs2) fun σ H Q q => ?_
  obtain ⟨ι, F, S, sl, hz, hs, rel, q⟩ := q
  refine ⟨ι, F, S, sl, hz, hs, rel, Aft.imp (Aft.bind q) fun xs S1 ι1 F1 H1 ⟨s1, r1, h1⟩ us rus => ?_⟩
  split at h1
  · cases rus with
    | cons r rr =>
      cases rr with
      | cons r' rr =>
        cases RVs.nil_inv rr
        cases r
        cases r'
        split at h1
        · rename_i c
          simp only [Bool.and_eq_true, decide_eq_true_eq] at c
          exact ⟨_, _, rfl, ⟨c.1.1.1, c.1.1.2, c.1.2, c.2⟩, h1 ι1 F1 H1 .refl r1 _ it_range⟩
        · exact h1.elim
  · exact h1.elim
end

/-! ### targets -/
inductive Tg where
  | nm (i : Nat)
  | tp (is : List Nat)
def gNames : List Nat → TGs
  | [] => gNil
  | i :: is => gCons (gName i) (gNames is)
def Tg.g (K : PySem.W.Frag) : Tg → TG
  | .nm i => gName i
  | .tp is => gTup K is.length (gNames is)
def Tg.ix : Tg → List Nat
  | .nm i => [i]
  | .tp is => is
def setMany : List Nat → List PyData → Sl → Option Sl
  | [], [], sl => some sl
  | i :: is, d :: ds, sl => setMany is ds (sl.set i (some (.d d)))
  | _, _, _ => none
def setT (t : Tg) (d : PyData) (sl : Sl) : Option Sl := match t with
  | .nm i => some (sl.set i (some (.d d)))
  | .tp is => match d with
    | .tuple ds => setMany is ds sl
    | _ => none
section
variable {K : PySem.W.Frag} {ι : Nat → Addr} {F H : Hp} {n : Nat} {σ : CxSt} {sl sl' : Sl} {vs : List Nat}
theorem SlR.set {i : Nat} {v : V} {x : Val} (h : SlR K ι F n σ sl) (hz : sl.length ≤ σ.length) (r : RV K ι F n v x) : SlR K ι F n (σ.set i (some v)) (sl.set i (some x)) := fun j y e => by
  by_cases hj : j = i
  · subst hj
    by_cases hl : j < sl.length
    · rw [List.getElem?_set_self hl] at e
      cases e
      exact ⟨v, List.getElem?_set_self (Nat.lt_of_lt_of_le hl hz), r⟩
    · rw [List.getElem?_eq_none (by simpa using Nat.le_of_not_lt hl)] at e
      cases e
  · rw [List.getElem?_set_ne (Ne.symm hj)] at e
    obtain ⟨w, e1, r1⟩ := h j y e
    exact ⟨w, by rw [List.getElem?_set_ne (Ne.symm hj)]; exact e1, r1⟩
theorem wipe_set {i : Nat} {x : Option V} : ∀ {vs : List Nat} {σ : CxSt}, i ∈ vs → wipe (σ.set i x) vs = wipe σ vs
  | v :: vs, σ, hi => by
    unfold wipe
    by_cases e : i = v
    · subst e
      by_cases hv : i ∈ vs
      · rw [wipe_set hv]
      · have : ∀ (us : List Nat) (τ : CxSt), i ∉ us → (wipe (τ.set i x) us).set i none = (wipe τ us).set i none := by
          intro us
          induction us with
          | nil => intro τ _; simp [wipe]
          | cons u us ih =>
            intro τ hu
            simp only [List.mem_cons, not_or] at hu
            unfold wipe
            rw [List.set_comm _ _ (Ne.symm hu.1), ih τ hu.2, List.set_comm _ _ hu.1]
        exact this vs σ hv
    · rcases List.mem_cons.mp hi with h | h
      · exact absurd h e
      · rw [wipe_set h]
theorem wipe_comm (v : Nat) : ∀ (vs : List Nat) (σ : CxSt), wipe (σ.set v none) vs = (wipe σ vs).set v none
  | [], σ => rfl
  | u :: vs, σ => by
    unfold wipe
    rw [wipe_comm v vs σ]
    by_cases e : u = v
    · subst e; rfl
    · rw [List.set_comm _ _ e]
theorem wipe_wipe : ∀ (vs : List Nat) (σ : CxSt), wipe (wipe σ vs) vs = wipe σ vs
  | [], σ => rfl
  | v :: vs, σ => by
    show (wipe ((wipe σ vs).set v none) vs).set v none = (wipe σ vs).set v none
    rw [wipe_comm, wipe_wipe vs σ, List.set_set]
def wipeS (sl : Sl) : List Nat → Sl
  | [] => sl
  | v :: vs => (wipeS sl vs).set v none
theorem wipeS_length (sl : Sl) : ∀ vs, (wipeS sl vs).length = sl.length
  | [] => rfl
  | v :: vs => by unfold wipeS; rw [List.length_set, wipeS_length sl vs]
theorem SlR.wipe (h : SlR K ι F n σ sl) : ∀ vs : List Nat, SlR K ι F n (L2.wipe σ vs) (wipeS sl vs)
  | [] => h
  | v :: vs => fun j y e => by
    unfold wipeS at e
    by_cases hj : j = v
    · subst hj
      by_cases hl : j < (wipeS sl vs).length
      · rw [List.getElem?_set_self hl] at e; cases e
      · rw [List.getElem?_eq_none (by simpa using Nat.le_of_not_lt hl)] at e; cases e
    · rw [List.getElem?_set_ne (Ne.symm hj)] at e
      obtain ⟨w, e1, r1⟩ := SlR.wipe h vs j y e
      refine ⟨w, ?_, r1⟩
      unfold L2.wipe
      rw [List.getElem?_set_ne (Ne.symm hj)]
      exact e1
theorem gNames_ok : ∀ {is : List Nat} {ds : List PyData} {xs : List V} {σ : CxSt} {sl sl' : Sl} {Q : CxSt → Hp → Prop}, setMany is ds sl = some sl' → DqAll K F xs ds → SlR K ι F n σ sl → sl.length ≤ σ.length →
    (∀ σ2, SlR K ι F n σ2 sl' → σ2.length = σ.length → sl'.length = sl.length → (∀ vs, (∀ i ∈ is, i ∈ vs) → L2.wipe σ2 vs = L2.wipe σ vs) → Q σ2 H) → gNames is xs σ H Q
  | [], [], xs, σ, sl, sl', Q, e, d, hs, hz, k => by
    cases d
    simp [setMany] at e
    subst e
    exact ⟨rfl, k σ hs rfl rfl fun _ _ => rfl⟩
  | i :: is, dd :: ds, xs, σ, sl, sl', Q, e, d, hs, hz, k => by
    cases d with
    | cons a b =>
      unfold setMany at e
      refine ⟨_, _, rfl, gNames_ok (sl := sl.set i (some (.d dd))) e b (hs.set hz a) (by simpa using hz) fun σ2 h2 l2 l3 w2 => k σ2 h2 (by simpa using l2) (by simpa using l3) fun vs hv => ?_⟩
      rw [w2 vs fun j hj => hv j (List.mem_cons_of_mem _ hj), wipe_set (hv i List.mem_cons_self)]
  | [], _ :: _, _, _, _, _, _, e, _, _, _, _ => by simp [setMany] at e
  | _ :: _, [], _, _, _, _, _, e, _, _, _, _ => by simp [setMany] at e
theorem setMany_len : ∀ {is : List Nat} {ds : List PyData} {sl sl' : Sl}, setMany is ds sl = some sl' → ds.length = is.length
  | [], [], _, _, _ => rfl
  | i :: is, d :: ds, sl, sl', e => by
    unfold setMany at e
    simp [setMany_len e]
  | [], _ :: _, _, _, e => by simp [setMany] at e
  | _ :: _, [], _, _, e => by simp [setMany] at e
theorem Tg.ok {t : Tg} {d : PyData} {x : V} {Q : CxSt → Hp → Prop} (e : setT t d sl = some sl') (hd : Dq K F x d) (s : Same F H) (hs : SlR K ι F n σ sl) (hz : sl.length ≤ σ.length)
    (k : ∀ σ2, SlR K ι F n σ2 sl' → σ2.length = σ.length → sl'.length = sl.length → (∀ vs, (∀ i ∈ t.ix, i ∈ vs) → L2.wipe σ2 vs = L2.wipe σ vs) → Q σ2 H) : t.g K x σ H Q := by
  cases t with
  | nm i =>
    simp [setT] at e
    subst e
    exact k _ (hs.set hz hd) (by simp) (by simp) fun vs hv => wipe_set (hv i (by simp [Tg.ix]))
  | tp is =>
    unfold setT at e
    dsimp only at e
    split at e
    · rename_i ds
      cases hd with
      | tup q dd => exact ⟨_, _, rfl, SqT.mono s q, by rw [dd.length]; exact setMany_len e, gNames_ok e dd hs hz k⟩
    · cases e
end

/-! ### a list comprehension -/
def nb {α β : Type} (r : R α) (k : α → Sto → R β) : R β := match r with
  | .ok a S => k a S
  | _ => .bad
def lcGo (tg : Tg) (tt : DB) (el : DE) (sl : Sl) : Nat → List PyData → Sto → R (List Val)
  | _, [], S => .ok [] S
  | n, d :: ds, S => match setT tg d sl with
    | none => .bad
    | some sl' => nb (tt sl' S) fun b S1 => if b = true then nb (el sl' S1) fun x S2 => if n < sizeLine then (lcGo tg tt el sl (n + 1) ds S2).bind fun xs S3 => .ok (x :: xs) S3 else .bad else lcGo tg tt el sl n ds S1
def lcF (own : List Nat) (it : IT) (tg : Tg) (tt : DB) (el : DE) : DF := fun sl S => (it sl S).bind fun ds S1 => lcGo tg tt el (wipeS sl own) 0 ds S1
def yes : DB := fun _ S => .ok true S
/-- the heap without the object at D -/
def hid (H : Hp) (D : Addr) : Hp := fun a => if a = D then none else H a
section
variable {K : PySem.W.Frag} {mg : Str → Option Value} {ι ι' : Nat → Addr} {F F' G H' : Hp} {S S' : Sto} {D : Addr} {o o' : HO} {n : Nat}
theorem hid_ne {H : Hp} {a : Addr} (h : a ≠ D) : hid H D a = H a := if_neg h
theorem hid_self {H : Hp} : hid H D D = none := if_pos rfl
theorem upd_hid {H : Hp} : upd (hid H D) D o = upd H D o := by
  funext a
  unfold upd hid
  split <;> rfl
theorem upd_hid_self {H : Hp} (h : H D = some o) : upd (hid H D) D o = H := by
  funext a
  unfold upd hid
  split
  · rename_i e; rw [e, h]
  · rfl
theorem Rel.ne (rel : Rel K ι F G S) (hD : G D = none) : ∀ k, k < S.length → ι k ≠ D := fun k hk e => by
  obtain ⟨o, eo⟩ : ∃ o, S[k]? = some o := ⟨_, List.getElem?_eq_getElem hk⟩
  have := rel.obj k o eo
  cases o with
  | lst ys => obtain ⟨_, vs, g1, _⟩ := this; rw [e, hD] at g1; cases g1
  | frz x =>
    obtain ⟨vs, g1, _⟩ := this
    have := rel.sub _ _ g1
    rw [e, hD] at this
    cases this
/-- an object beside the store -/
theorem Rel.beside (rel : Rel K ι F G S) (hD : G D = none) : Rel K ι F (upd G D o) S where
  sub := fun a u h => by
    have := rel.sub _ _ h
    rw [upd_ne (ne_of_none this hD)]
    exact this
  inj := rel.inj
  obj := fun k u e => by
    have h := rel.obj k u e
    cases u with
    | frz x => exact h
    | lst xs =>
      obtain ⟨h0, vs, h1, h2⟩ := h
      exact ⟨h0, vs, by rw [upd_ne (ne_of_none h1 hD)]; exact h1, h2⟩
theorem Rel.hide (rel : Rel K ι F H' S) (f0 : F D = none) (hn : ∀ k, k < S.length → ι k ≠ D) : Rel K ι F (hid H' D) S where
  sub := fun a u h => by
    rw [hid_ne (ne_of_none h f0)]
    exact rel.sub _ _ h
  inj := rel.inj
  obj := fun k u e => by
    have h := rel.obj k u e
    have hk := (List.getElem?_eq_some_iff.mp e).1
    cases u with
    | frz x => exact h
    | lst xs =>
      obtain ⟨h0, vs, h1, h2⟩ := h
      exact ⟨h0, vs, by rw [hid_ne (hn k hk)]; exact h1, h2⟩
theorem Stp.hide (rel : Rel K ι F G S) (hD : G D = none) (st : Stp ι F (upd G D o) S.length ι' F' H' n) : Stp ι F G S.length ι' F' (hid H' D) n ∧ H' D = some o ∧ F' D = none ∧ ∀ k, k < n → ι' k ≠ D := by
  have ne := rel.ne hD
  have f0 : F D = none := rel.sub.free hD
  have keep : ∀ a u, G a = some u → upd G D o a = some u := fun a u h => by rw [upd_ne (ne_of_none h hD)]; exact h
  refine ⟨⟨st.le, st.ag, st.ff, fun a u h hn => ?_, fun a u h => ?_, fun k h1 h2 => ?_, fun a u h => ?_⟩, st.out D o upd_same ne, ?_, fun k hk => ?_⟩
  · rw [hid_ne (ne_of_none h hD)]
    exact st.out a u (keep a u h) hn
  · obtain ⟨u', e⟩ := st.dom a u (keep a u h)
    exact ⟨u', by rw [hid_ne (ne_of_none h hD)]; exact e⟩
  · have := st.new k h1 h2
    cases q : G (ι' k) with
    | none => rfl
    | some u => rw [keep _ _ q] at this; cases this
  · rcases st.fnew a u h with h | h | h
    · exact .inl h
    · refine .inr (.inl ?_)
      cases q : G a with
      | none => rfl
      | some u => rw [keep _ _ q] at h; cases h
    · exact .inr (.inr h)
  · cases q : F' D with
    | none => rfl
    | some u =>
      rcases st.fnew D u q with h | h | ⟨k, hk, e⟩
      · rw [f0] at h; cases h
      · rw [upd_same] at h; cases h
      · exact absurd e (ne k hk)
  · by_cases q : k < S.length
    · rw [st.ag k q]; exact ne k q
    · intro e
      have := st.new k (Nat.le_of_not_lt q) hk
      rw [e, upd_same] at this
      cases this
end
section
variable {X : Cx} {W : WX} {pos : Pos}
theorem Aft.nb {K : PySem.W.Frag} {mg : Str → Option Value} {σ : CxSt} {ι : Nat → Addr} {F H : Hp} {n : Nat} {α β : Type} {r : R α} {k : α → Sto → R β} {P : β → Sto → (Nat → Addr) → Hp → Hp → Prop} (h : Aft K mg W σ ι F H n (nb r k) P) :
    ∃ a S1, r = .ok a S1 ∧ Aft K mg W σ ι F H n (k a S1) P := by
  cases r with
  | ok a S1 => exact ⟨a, S1, rfl, h⟩
  | er e S' => exact h.elim
  | bad => exact h.elim
/-- the wish within a block -/
abbrev W0 : WX := fun _ _ _ _ => False
theorem lc_ok {K : PySem.W.Frag} {mg : Str → Option Value} {W : WX} {own : List Nat} {tg : Tg} {tt : DB} {el : DE} {it : IT} (hx : ∀ i ∈ tg.ix, i ∈ own) {σ : CxSt} {H : Hp} {Q : VK} (h : tF K mg W (lcF own it tg tt el) σ H Q) :
    tLc (tI K mg W it) (tg.g K) (tB K mg W0 tt) (tE K mg W0 el) own σ H Q := by
  obtain ⟨ι, F, S, sl, hz, hs, rel, q⟩ := h
  refine ⟨ι, F, S, sl, hz, hs, rel, Aft.imp (Aft.bind q) fun items S1 ι1 F1 H1 ⟨s1, r1, h1⟩ J hJ D hD => ?_⟩
  have hs1 := hs.stp s1
  have hzw : (wipeS sl own).length ≤ (L2.wipe σ own).length := by rw [wipeS_length, wipe_length]; exact hz
  let P : List Val → Sto → (Nat → Addr) → Hp → Hp → Prop := fun xs S' ι' F' H' => ∀ p us, H' p = none → RVs K ι' F' S'.length us xs → Q (.ref p) (upd H' p (.lst us))
  refine ⟨fun i m H => ∃ (ι : Nat → Addr) (F G : Hp) (S : Sto) (acc : List V) (ax : List Val), m = items.length - i ∧ i ≤ items.length ∧ H = upd G D (.lst acc) ∧ G D = none ∧ Rel K ι F G S ∧ Stp ι1 F1 H1 S1.length ι F G S.length ∧ RVs K ι F S.length acc ax ∧
    Aft K mg W σ ι F G S.length ((lcGo tg tt el (wipeS sl own) ax.length (items.drop i) S).bind fun xs S' => .ok (ax ++ xs) S') P, ⟨items.length, ι1, F1, H1, S1, [], [], rfl, Nat.zero_le _, rfl, hD, r1, .refl, .nil, ?_⟩, ?_⟩
  · cases e : lcGo tg tt el (wipeS sl own) 0 items S1 with
    | ok xs S' => rw [e] at h1; simpa [R.bind, e] using h1
    | er x S' => rw [e] at h1; simpa [R.bind, e] using h1
    | bad => rw [e] at h1; exact h1.elim
  · rintro i m _ ⟨ι, F, G, S, acc, ax, rfl, hi, rfl, hG, rel, st, ra, af⟩
    have relA : Rel K ι F (upd G D (.lst acc)) S := rel.beside hG
    by_cases hlt : i < items.length
    · refine .inr ⟨hJ.go i F _ hlt st.ff relA.sub, fun H => ∃ m', m' < items.length - i ∧ ∃ (ι : Nat → Addr) (F G : Hp) (S : Sto) (acc : List V) (ax : List Val), m' = items.length - (i + 1) ∧ i + 1 ≤ items.length ∧ H = upd G D (.lst acc) ∧ G D = none ∧ Rel K ι F G S ∧ Stp ι1 F1 H1 S1.length ι F G S.length ∧ RVs K ι F S.length acc ax ∧
        Aft K mg W σ ι F G S.length ((lcGo tg tt el (wipeS sl own) ax.length (items.drop (i + 1)) S).bind fun xs S' => .ok (ax ++ xs) S') P, fun H' h => h, fun x H2 hy => ?_⟩
      obtain ⟨d, F2, ed, g2, dx⟩ := hJ.yld i F _ x H2 hlt st.ff relA.sub hy
      have edr : items.drop i = d :: items.drop (i + 1) := by
        rw [List.drop_eq_getElem_cons hlt]
        rw [List.getElem?_eq_getElem hlt] at ed
        rw [Option.some.inj ed]
      rw [edr] at af
      unfold lcGo at af
      cases es : setT tg d (wipeS sl own) with
      | none => rw [es] at af; exact af.elim
      | some sl' =>
        rw [es] at af
        dsimp only at af
        have rel2 : Rel K ι F2 H2 S := relA.grow g2
        have stA : Stp ι F (upd G D (.lst acc)) S.length ι F2 H2 S.length := g2.stp
        have hs2 : SlR K ι F2 S.length (L2.wipe σ own) (wipeS sl own) := ((hs1.stp st).wipe own).stp stA
        refine Tg.ok es dx g2.sub hs2 hzw fun σ2 h2 l2 l3 w2 => ⟨by rw [w2 own hx, wipe_wipe], ?_⟩
        have hz2 : sl'.length ≤ σ2.length := by rw [l2, l3]; exact hzw
        -- the test
        have ntt : ∃ b S2, tt sl' S = .ok b S2 ∧ Aft K mg W σ ι F G S.length ((if b = true then nb (el sl' S2) fun x S3 => if ax.length < sizeLine then (lcGo tg tt el (wipeS sl own) (ax.length + 1) (items.drop (i + 1)) S3).bind fun xs S4 => .ok (x :: xs) S4 else .bad
            else lcGo tg tt el (wipeS sl own) ax.length (items.drop (i + 1)) S2).bind fun xs S' => .ok (ax ++ xs) S') P := by
          cases e : tt sl' S with
          | ok b S2 => rw [e] at af; exact ⟨b, S2, rfl, af⟩
          | er x S2 => rw [e] at af; exact af.elim
          | bad => rw [e] at af; exact af.elim
        obtain ⟨b, S2, eb, af⟩ := ntt
        refine ⟨ι, F2, S, sl', hz2, h2, rel2, ?_⟩
        rw [eb]
        intro ι3 F3 H3 st3 rel3
        have stB := stA.trans st3
        cases b with
        | false =>
          obtain ⟨stH, hDd, f0, nD⟩ := Stp.hide rel hG stB
          refine iteF ⟨items.length - (i + 1), by omega, ι3, F3, hid H3 D, S2, acc, ax, rfl, by omega, (upd_hid_self hDd).symm, hid_self, rel3.hide f0 nD, st.trans stH, ra.stp stH, ?_⟩
          exact Aft.stp (by simpa using af) stH
        | true =>
          refine iteT ?_
          rw [if_pos rfl] at af
          have nel : ∃ y S3, el sl' S2 = .ok y S3 ∧ ax.length < sizeLine ∧ Aft K mg W σ ι F G S.length ((lcGo tg tt el (wipeS sl own) (ax.length + 1) (items.drop (i + 1)) S3).bind fun xs S' => .ok (ax ++ y :: xs) S') P := by
            cases e : el sl' S2 with
            | ok y S3 =>
              rw [e] at af
              simp only [DV.nb] at af
              by_cases hsz : ax.length < sizeLine
              · rw [if_pos hsz] at af
                refine ⟨y, S3, rfl, hsz, ?_⟩
                cases e4 : lcGo tg tt el (wipeS sl own) (ax.length + 1) (items.drop (i + 1)) S3 with
                | ok xs S4 => rw [e4] at af; exact af
                | er x S4 => rw [e4] at af; exact af
                | bad => rw [e4] at af; exact af.elim
              · rw [if_neg hsz] at af; exact af.elim
            | er x S3 => rw [e] at af; exact af.elim
            | bad => rw [e] at af; exact af.elim
          obtain ⟨y, S3, ey, hsz, af⟩ := nel
          refine ⟨ι3, F3, S2, sl', hz2, h2.stp st3, rel3, ?_⟩
          rw [ey]
          intro ι4 F4 H4 st4 rel4 v rv
          have stC := stB.trans st4
          obtain ⟨stH, hDd, f0, nD⟩ := Stp.hide rel hG stC
          refine ⟨acc, hDd, by rw [ra.length]; exact hsz, items.length - (i + 1), by omega, ι4, F4, hid H4 D, S3, acc ++ [v], ax ++ [y], rfl, by omega, upd_hid.symm, hid_self, rel4.hide f0 nD, st.trans stH, (ra.stp stH).append (.cons rv .nil), ?_⟩
          have e5 : (ax ++ [y]).length = ax.length + 1 := by simp
          rw [e5]
          refine Aft.stp ?_ stH
          have e6 : ∀ xs, ax ++ [y] ++ xs = ax ++ y :: xs := fun xs => by simp
          simp only [e6]
          exact af
    · have hie : i = items.length := by omega
      subst hie
      refine .inl ⟨hJ.stop _ F _ (Nat.le_refl _) st.ff relA.sub, ?_⟩
      rw [List.drop_length] at af
      simp only [lcGo, R.bind, List.append_nil] at af
      exact af ι F G .refl rel D acc hG ra
/-- the context of a block -/
abbrev InBlk (X : Cx) (scope : Scope) (k : Cx → Prop) : Prop := ∀ (s : Shared) (H : Hp) (C : Addr) (cl : List (Str × Addr)) (fp : List Addr), k (X.blk s H scope (compEnvC scope cl C X.env) fp)
def QTs (X : Cx) (W : WX) (ifs : List Expr) (f : DB) : Prop := PTs X ifs (tB X.K X.mg W f)
theorem ts_nil : QTs X W [] yes := ⟨fun pins s σ H Q I hw => pts_nil.run pins s σ H Q I (by
  obtain ⟨ι, F, S, sl, hz, hs, rel, q⟩ := hw
  exact q ι F H .refl rel)⟩
theorem ts_one {c : Expr} {f : DB} (h : QT X W c f) : QTs X W [c] f := pts_one h
theorem f_lc {elt tg iter : Expr} {ifs : List Expr} {scope : Scope} {own : List (Str × Nat)} {it : IT} {t : Tg} {tt : DB} {el : DE} (hc : X.calm = true) (hN : X.N.Nodup) (hi : QI X W tg iter it) (ok : BlkOk X.N X.env.scope scope own)
    (hx : ∀ i ∈ t.ix, i ∈ own.map (·.2))
    (hg : InBlk X scope fun Y => PG Y tg (t.g X.K)) (ht : InBlk X scope fun Y => QTs Y W0 ifs tt) (he : InBlk X scope fun Y => QE Y W0 elt el) (hs : ∀ x, foldedSetIterable iter X.env x = pure x := by intro _; rfl) :
    QF X W (.ListComp elt [⟨tg, iter, ifs, 0⟩] scope pos) (lcF (own.map (·.2)) it t tt el) :=
  PE.imp (pe_lc (tt := tB X.K X.mg W0 tt) (te := tE X.K X.mg W0 el) hc hN hi ok hg ht he hs) fun σ H Q q => lc_ok hx q
end
end DV
set_option Elab.async false
set_option linter.all false
set_option maxRecDepth 100000
namespace DV
open PySem PySem.Spec PyProof.Rows L2

inductive RS where
  | nx (sl : Sl) (S : Sto)
  | rt (d : PyData) (S : Sto)
  | bk (sl : Sl) (S : Sto)
  | ct (sl : Sl) (S : Sto)
  | er (e : Exn) (sl : Sl) (S : Sto)
  | bad
abbrev DS := Sl → Sto → RS
section
variable (K : PySem.W.Frag) (mg : Str → Option Value) (W : WX)
def AtS (ι : Nat → Addr) (F H : Hp) (n : Nat) (sl' : Sl) (S' : Sto) (P : CxSt → Hp → Prop) : Prop := ∀ ι' F' H' σ', Stp ι F H n ι' F' H' S'.length → Rel K ι' F' H' S' → sl'.length ≤ σ'.length → SlR K ι' F' S'.length σ' sl' → P σ' H'
def AftS (D : Ends) (ι : Nat → Addr) (F H : Hp) (n : Nat) : RS → Prop
  | .nx sl' S' => AtS K ι F H n sl' S' D.nx
  | .bk sl' S' => AtS K ι F H n sl' S' D.bk
  | .ct sl' S' => AtS K ι F H n sl' S' D.ct
  | .rt d S' => ∀ ι' F' H' v, Stp ι F H n ι' F' H' S'.length → Rel K ι' F' H' S' → Dq K F' v d → D.rt v H'
  | .er e sl' S' => ∀ ι' F' H' σ' cls dd, Stp ι F H n ι' F' H' S'.length → Rel K ι' F' H' S' → sl'.length ≤ σ'.length → SlR K ι' F' S'.length σ' sl' → ErrR K mg F' e cls dd H' → W cls dd σ' H'
  | .bad => False
def tS (g : DS) : TS := fun D σ H => ∃ ι F S sl, sl.length ≤ σ.length ∧ SlR K ι F S.length σ sl ∧ Rel K ι F H S ∧ AftS K mg W D ι F H S.length (g sl S)
end
def QS (X : Cx) (W : WX) (st : Stmt) (g : DS) : Prop := PS X st (tS X.K X.mg W g)
def QB (X : Cx) (W : WX) (sts : List Stmt) (g : DS) : Prop := PSs X sts (tS X.K X.mg W g)
theorem PS.imp {X : Cx} {e : Stmt} {t t' : TS} (h : PS X e t) (k : ∀ D σ H, t' D σ H → t D σ H) : PS X e t' := ⟨fun pins s σ H D I q => h.run pins s σ H D I (k _ _ _ q)⟩
theorem PSs.imp {X : Cx} {e : List Stmt} {t t' : TS} (h : PSs X e t) (k : ∀ D σ H, t' D σ H → t D σ H) : PSs X e t' := ⟨fun pins s σ H D I q => h.run pins s σ H D I (k _ _ _ q)⟩
section
variable {K : PySem.W.Frag} {mg : Str → Option Value} {W : WX} {D : Ends} {ι ι1 : Nat → Addr} {F F1 H H1 : Hp} {n n1 : Nat} {σ : CxSt} {sl : Sl} {S : Sto}
theorem AftS.stp {r : RS} (h : AftS K mg W D ι F H n r) (s : Stp ι F H n ι1 F1 H1 n1) : AftS K mg W D ι1 F1 H1 n1 r := by
  cases r with
  | nx sl' S' => exact fun ι' F' H' σ' s' => h ι' F' H' σ' (s.trans s')
  | bk sl' S' => exact fun ι' F' H' σ' s' => h ι' F' H' σ' (s.trans s')
  | ct sl' S' => exact fun ι' F' H' σ' s' => h ι' F' H' σ' (s.trans s')
  | rt d S' => exact fun ι' F' H' v s' => h ι' F' H' v (s.trans s')
  | er e sl' S' => exact fun ι' F' H' σ' cls dd s' => h ι' F' H' σ' cls dd (s.trans s')
  | bad => exact h
/-- from a reckoning to a statement -/
def thenS {α : Type} (r : R α) (sl : Sl) (k : α → Sto → RS) : RS := match r with
  | .ok a S => k a S
  | .er e S => .er e sl S
  | .bad => .bad
theorem AftS.bind {α : Type} {r : R α} {k : α → Sto → RS} (hz : sl.length ≤ σ.length) (hs : SlR K ι F n σ sl) (h : AftS K mg W D ι F H n (thenS r sl k)) :
    Aft K mg W σ ι F H n r fun a S1 ι1 F1 H1 => Stp ι F H n ι1 F1 H1 S1.length ∧ Rel K ι1 F1 H1 S1 ∧ AftS K mg W D ι1 F1 H1 S1.length (k a S1) := by
  cases r with
  | ok a S1 => exact fun ι1 F1 H1 s rel => ⟨s, rel, AftS.stp (r := k a S1) h s⟩
  | er e S1 => exact fun ι1 F1 H1 cls d s rel er => h ι1 F1 H1 σ cls d s rel hz (hs.stp s) er
  | bad => exact h
end

section
variable {X : Cx} {W : WX} {a b c e : Expr} {es : List Expr} {fa fb fc f : DE} {la : DL} {ba : DB} {pos p p2 : Pos} {st : Stmt} {sts sts2 : List Stmt} {g g2 : DS}
/-! ### blocks -/
def nilS : DS := fun sl S => .nx sl S
def seqS (g g2 : DS) : DS := fun sl S => match g sl S with
  | .nx sl' S' => g2 sl' S'
  | r => r
theorem b_nil : QB X W [] nilS := PSs.imp pss_nil fun D σ H ⟨ι, F, S, sl, hz, hs, rel, q⟩ => q ι F H σ .refl rel hz hs
theorem seq_ok {K : PySem.W.Frag} {mg : Str → Option Value} {W : WX} {D : Ends} {σ : CxSt} {H : Hp} (h : tS K mg W (seqS g g2) D σ H) : tS K mg W g { D with nx := tS K mg W g2 D } σ H := by
  obtain ⟨ι, F, S, sl, hz, hs, rel, q⟩ := h
  refine ⟨ι, F, S, sl, hz, hs, rel, ?_⟩
  unfold seqS at q
  cases eg : g sl S with
  | nx sl' S' =>
    rw [eg] at q
    exact fun ι' F' H' σ' s' r' z' h' => ⟨ι', F', S', sl', z', h', r', AftS.stp (r := g2 sl' S') q s'⟩
  | bk sl' S' => rw [eg] at q; exact q
  | ct sl' S' => rw [eg] at q; exact q
  | rt d S' => rw [eg] at q; exact q
  | er x sl' S' => rw [eg] at q; exact q
  | bad => rw [eg] at q; exact q
theorem b_cons (h : QS X W st g) (hr : QB X W sts g2) : QB X W (st :: sts) (seqS g g2) := PSs.imp (pss_cons h hr) fun D σ H q => seq_ok q
theorem b_one (h : QS X W st g) : QB X W [st] g := pss_one h
/-- code that is never reached -/
def badS : DS := fun _ _ => .bad
theorem s_bad : QS X W st badS := PS.imp ps_never fun D σ H ⟨ι, F, S, sl, hz, hs, rel, q⟩ => q.elim
theorem b_bad : QB X W sts badS := PSs.imp pss_never fun D σ H ⟨ι, F, S, sl, hz, hs, rel, q⟩ => q.elim
def badE : DE := fun _ _ => .bad
theorem q_bad : QE X W e badE := ⟨fun pins s σ H Q I ⟨ι, F, S, sl, hz, hs, rel, q⟩ => q.elim⟩

/-! ### simple statements -/
theorem s_pass : QS X W (.Pass pos) nilS := PS.imp ps_pass fun D σ H ⟨ι, F, S, sl, hz, hs, rel, q⟩ => q ι F H σ .refl rel hz hs
def brkS : DS := fun sl S => .bk sl S
def cntS : DS := fun sl S => .ct sl S
theorem s_break : QS X W (.Break pos) brkS := PS.imp ps_break fun D σ H ⟨ι, F, S, sl, hz, hs, rel, q⟩ => q ι F H σ .refl rel hz hs
theorem s_cont : QS X W (.Continue pos) cntS := PS.imp ps_continue fun D σ H ⟨ι, F, S, sl, hz, hs, rel, q⟩ => q ι F H σ .refl rel hz hs
def exS (f : DE) : DS := fun sl S => thenS (f sl S) sl fun _ S1 => .nx sl S1
theorem s_expr (h : QE X W e f) (hs : swapsWith e none pos.line X.env = pure false := by rfl) : QS X W (.Expr e pos) (exS f) := by
  refine PS.imp (ps_expr h hs) fun D σ H ⟨ι, F, S, sl, hz, hs, rel, q⟩ => ?_
  exact ⟨ι, F, S, sl, hz, hs, rel, Aft.imp (AftS.bind hz hs q) fun x S1 ι1 F1 H1 ⟨s1, r1, h1⟩ u ru => h1 ι1 F1 H1 σ .refl r1 hz (hs.stp s1)⟩
def rtS (f : DE) : DS := fun sl S => thenS (f sl S) sl fun x S1 => match frz S1 x with
  | some (d, S2) => .rt d S2
  | none => .bad
theorem s_ret (h : QE X W e f) : QS X W (.Return (some e) pos) (rtS f) := by
  refine PS.imp (ps_ret h) fun D σ H ⟨ι, F, S, sl, hz, hs, rel, q⟩ => ?_
  refine ⟨ι, F, S, sl, hz, hs, rel, Aft.imp (AftS.bind hz hs q) fun x S1 ι1 F1 H1 ⟨s1, r1, h1⟩ u ru => ?_⟩
  split at h1
  · rename_i d S2 e2
    obtain ⟨F2, g2, d2⟩ := frz_ok e2 r1 ru
    exact h1 ι1 F2 H1 u g2.2.1 g2.2.2 d2
  · exact h1.elim
def rnS : DS := fun _ S => .rt .none S
theorem s_retN : QS X W (.Return none pos) rnS := PS.imp ps_retN fun D σ H ⟨ι, F, S, sl, hz, hs, rel, q⟩ => q ι F H .non .refl rel .non
def ifS (c : DB) (g g2 : DS) : DS := fun sl S => thenS (c sl S) sl fun b S1 => if b = true then g sl S1 else g2 sl S1
theorem s_if (hc : QT X W c ba) (h : QB X W sts g) (h2 : QB X W sts2 g2) : QS X W (.If c sts sts2 pos) (ifS ba g g2) := by
  refine PS.imp (ps_if hc h h2) fun D σ H ⟨ι, F, S, sl, hz, hs, rel, q⟩ => ?_
  refine ⟨ι, F, S, sl, hz, hs, rel, Aft.imp (AftS.bind hz hs q) fun k S1 ι1 F1 H1 ⟨s1, r1, h1⟩ => ?_⟩
  cases k with
  | true => exact iteT ⟨ι1, F1, S1, sl, hz, hs.stp s1, r1, by simpa using h1⟩
  | false => exact iteF ⟨ι1, F1, S1, sl, hz, hs.stp s1, r1, by simpa using h1⟩

/-! ### assignments -/
def asgS (i : Nat) (f : DE) : DS := fun sl S => thenS (f sl S) sl fun x S1 => .nx (sl.set i (some x)) S1
theorem asg_ok {K : PySem.W.Frag} {mg : Str → Option Value} {i : Nat} {D : Ends} {σ : CxSt} {H : Hp} (q : tS K mg W (asgS i f) D σ H) : tAsg (tE K mg W f) (gName i) D σ H := by
  obtain ⟨ι, F, S, sl, hz, hs, rel, q⟩ := q
  exact ⟨ι, F, S, sl, hz, hs, rel, Aft.imp (AftS.bind hz hs q) fun x S1 ι1 F1 H1 ⟨s1, r1, h1⟩ u ru => h1 ι1 F1 H1 _ .refl r1 (by simpa using hz) ((hs.stp s1).set hz ru)⟩
theorem s_set {i : Nat} (h : PS X st (tAsg (tE X.K X.mg W f) (gName i))) : QS X W st (asgS i f) := PS.imp h fun D σ H q => asg_ok q
/-- a tuple of data taken apart -/
def unpS (t : Tg) (f : DE) : DS := fun sl S => thenS (f sl S) sl fun x S1 => match x with
  | .d d => match setT t d sl with
    | some sl' => .nx sl' S1
    | none => .bad
  | _ => .bad
theorem s_unp {t : Tg} (h : PS X st (tAsg (tE X.K X.mg W f) (t.g X.K))) : QS X W st (unpS t f) := by
  refine PS.imp h fun D σ H ⟨ι, F, S, sl, hz, hs, rel, q⟩ => ?_
  refine ⟨ι, F, S, sl, hz, hs, rel, Aft.imp (AftS.bind hz hs q) fun x S1 ι1 F1 H1 ⟨s1, r1, h1⟩ u ru => ?_⟩
  split at h1
  · rename_i d
    split at h1
    · rename_i sl' e1
      exact Tg.ok e1 ru r1.sub (hs.stp s1) hz fun σ2 h2 l2 l3 _ => h1 ι1 F1 H1 σ2 .refl r1 (by rw [l2, l3]; exact hz) h2
    · exact h1.elim
  · exact h1.elim
/-- several names at once, whatever they get -/
def setV : List Nat → List Val → Sl → Option Sl
  | [], [], sl => some sl
  | i :: is, x :: xs, sl => setV is xs (sl.set i (some x))
  | _, _, _ => none
def parS (is : List Nat) (la : DL) : DS := fun sl S => thenS (la sl S) sl fun xs S1 => match setV is xs sl with
  | some sl' => if is.length ≤ 1000 then .nx sl' S1 else .bad
  | none => .bad
theorem setV_len : ∀ {is : List Nat} {xs : List Val} {sl sl' : Sl}, setV is xs sl = some sl' → xs.length = is.length
  | [], [], _, _, _ => rfl
  | i :: is, d :: ds, sl, sl', e => by
    unfold setV at e
    simp [setV_len e]
  | [], _ :: _, _, _, e => by simp [setV] at e
  | _ :: _, [], _, _, e => by simp [setV] at e
theorem gNames_okV {K : PySem.W.Frag} {ι : Nat → Addr} {F H : Hp} {n : Nat} : ∀ {is : List Nat} {xs : List Val} {us : List V} {σ : CxSt} {sl sl' : Sl} {Q : CxSt → Hp → Prop}, setV is xs sl = some sl' → RVs K ι F n us xs → SlR K ι F n σ sl → sl.length ≤ σ.length →
    (∀ σ2, SlR K ι F n σ2 sl' → sl'.length ≤ σ2.length → Q σ2 H) → gNames is us σ H Q
  | [], [], us, σ, sl, sl', Q, e, d, hs, hz, k => by
    cases d
    simp [setV] at e
    subst e
    exact ⟨rfl, k σ hs hz⟩
  | i :: is, dd :: ds, us, σ, sl, sl', Q, e, d, hs, hz, k => by
    cases d with
    | cons a b =>
      unfold setV at e
      exact ⟨_, _, rfl, gNames_okV (sl := sl.set i (some dd)) e b (hs.set hz a) (by simpa using hz) k⟩
  | [], _ :: _, _, _, _, _, _, e, _, _, _, _ => by simp [setV] at e
  | _ :: _, [], _, _, _, _, _, e, _, _, _, _ => by simp [setV] at e
theorem par_ok {K : PySem.W.Frag} {mg : Str → Option Value} {is : List Nat} {D : Ends} {σ : CxSt} {H : Hp} (q : tS K mg W (parS is la) D σ H) {R : TS} (hR : ∀ us H1, gNames is us σ H1 D.nx → us.length = is.length → is.length ≤ 1000 → (∀ p, H1 p = none → gNames is us σ (upd H1 p (.tup us)) D.nx) → R D σ H1) :
    tL K mg W la σ H fun us H1 => us.length = is.length ∧ is.length ≤ 1000 ∧ gNames is us σ H1 D.nx ∧ ∀ p, H1 p = none → gNames is us σ (upd H1 p (.tup us)) D.nx := by
  obtain ⟨ι, F, S, sl, hz, hs, rel, q⟩ := q
  refine ⟨ι, F, S, sl, hz, hs, rel, Aft.imp (AftS.bind hz hs q) fun xs S1 ι1 F1 H1 ⟨s1, r1, h1⟩ us rus => ?_⟩
  split at h1
  · rename_i sl' e1
    split at h1
    · rename_i h1000
      refine ⟨by rw [rus.length]; exact setV_len e1, h1000, gNames_okV e1 rus (hs.stp s1) hz fun σ2 h2 z2 => h1 ι1 F1 H1 σ2 .refl r1 z2 h2, fun p hp => ?_⟩
      have g : Grow F1 H1 F1 (upd H1 p (.tup us)) := ⟨Same.refl _, fun a o h => by rw [upd_ne (ne_of_none h hp)]; exact h, fun a o h => by rw [upd_ne (ne_of_none (r1.sub _ _ h) hp)]; exact r1.sub _ _ h, fun a o h => .inl h⟩
      exact gNames_okV e1 rus (hs.stp s1) hz fun σ2 h2 z2 => h1 ι1 F1 _ σ2 g.stp (r1.grow g) z2 h2
    · exact h1.elim
  · exact h1.elim
/-- .. the pair made and taken apart -/
theorem s_parT {is : List Nat} (h : PS X st (tAsg (tTup (tL X.K X.mg W la)) (gTup X.K is.length (gNames is)))) : QS X W st (parS is la) := by
  refine PS.imp h fun D σ H q => ?_
  obtain ⟨ι, F, S, sl, hz, hs, rel, q⟩ := par_ok q (R := fun _ _ _ => True) fun _ _ _ _ _ _ => trivial
  refine ⟨ι, F, S, sl, hz, hs, rel, Aft.imp q fun xs S1 ι1 F1 H1 k us rus => ?_⟩
  obtain ⟨e1, h1000, _, k⟩ := k us rus
  exact ⟨by rw [e1]; exact Nat.le_trans h1000 (by decide), fun p hp => ⟨p, us, rfl, SqT.of upd_same, e1, k p hp⟩⟩
/-- .. or stored at once -/
theorem s_par {i j : Nat} (h : PS X st (tPar i j (tL X.K X.mg W la))) : QS X W st (parS [i, j] la) := by
  refine PS.imp h fun D σ H q => ?_
  obtain ⟨ι, F, S, sl, hz, hs, rel, q⟩ := par_ok q (R := fun _ _ _ => True) fun _ _ _ _ _ _ => trivial
  refine ⟨ι, F, S, sl, hz, hs, rel, Aft.imp q fun xs S1 ι1 F1 H1 k us rus => ?_⟩
  obtain ⟨e1, _, k, _⟩ := k us rus
  obtain ⟨v, r, rfl, w, r2, rfl, rfl, k⟩ := k
  exact ⟨v, w, rfl, k⟩
theorem s_par3 {i j l : Nat} (h : PS X st (tPar3 i j l (tL X.K X.mg W la))) : QS X W st (parS [i, j, l] la) := by
  refine PS.imp h fun D σ H q => ?_
  obtain ⟨ι, F, S, sl, hz, hs, rel, q⟩ := par_ok q (R := fun _ _ _ => True) fun _ _ _ _ _ _ => trivial
  refine ⟨ι, F, S, sl, hz, hs, rel, Aft.imp q fun xs S1 ι1 F1 H1 k us rus => ?_⟩
  obtain ⟨e1, _, k, _⟩ := k us rus
  obtain ⟨u, r, rfl, v, r2, rfl, w, r3, rfl, rfl, k⟩ := k
  exact ⟨u, v, w, rfl, k⟩
end

/-! ### an owned list is changed -/
section
variable {K : PySem.W.Frag} {ι : Nat → Addr} {F H : Hp} {S : Sto}
theorem own_set {k : Nat} {xs ys : List Val} {us : List V} (rel : Rel K ι F H S) (e : S[k]? = some (.lst xs)) (ru : RVs K ι F S.length us ys) :
    Stp ι F H S.length ι F (upd H (ι k) (.lst us)) (S.set k (.lst ys)).length ∧ Rel K ι F (upd H (ι k) (.lst us)) (S.set k (.lst ys)) := by
  have hk : k < S.length := (List.getElem?_eq_some_iff.mp e).1
  obtain ⟨f0, vs, h1, _⟩ := rel.obj k _ e
  rw [List.length_set]
  refine ⟨⟨Nat.le_refl _, fun _ _ => rfl, Same.refl _, fun a o h hn => ?_, fun a o h => ?_, fun _ h1 h2 => absurd (Nat.lt_of_le_of_lt h1 h2) (Nat.lt_irrefl _), fun a o h => .inl h⟩, fun a o h => ?_, fun i j hi hj => rel.inj i j (by simpa using hi) (by simpa using hj), fun j o ej => ?_⟩
  · rw [upd_ne (Ne.symm (hn k hk))]; exact h
  · by_cases q : a = ι k
    · exact ⟨_, by rw [q]; exact upd_same⟩
    · exact ⟨o, by rw [upd_ne q]; exact h⟩
  · by_cases q : a = ι k
    · subst q; rw [f0] at h; cases h
    · rw [upd_ne q]; exact rel.sub _ _ h
  · rw [List.length_set]
    by_cases q : j = k
    · subst q
      rw [List.getElem?_set_self hk] at ej
      cases ej
      exact ⟨f0, us, upd_same, ru⟩
    · rw [List.getElem?_set_ne (Ne.symm q)] at ej
      have hj : j < S.length := (List.getElem?_eq_some_iff.mp ej).1
      have := rel.obj j o ej
      cases o with
      | frz x => exact this
      | lst zs =>
        obtain ⟨g0, ws, g1, g2⟩ := this
        exact ⟨g0, ws, by rw [upd_ne fun e => q (rel.inj j k hj hk e)]; exact g1, g2⟩
end
/-- the owned list that an operand is -/
def lstAt (S : Sto) : Val → Option (Nat × List Val)
  | .loc k => match S[k]? with
    | some (.lst xs) => some (k, xs)
    | _ => none
  | _ => none
theorem lstAt_eq {S : Sto} {x : Val} {k : Nat} {xs : List Val} (h : lstAt S x = some (k, xs)) : x = .loc k ∧ S[k]? = some (.lst xs) := by
  unfold lstAt at h
  split at h
  · split at h
    · cases h; exact ⟨rfl, by assumption⟩
    · cases h
  · cases h
section
variable {X : Cx} {W : WX} {a b c e o : Expr} {es : List Expr} {fa fb fc f : DE} {la : DL} {ba : DB} {pos p p2 : Pos} {st : Stmt} {sts sts2 : List Stmt} {g g2 : DS}
/-- a change of an owned list that hands something back -/
def metE (m : List Val → List Val → Option (Val × List Val)) (fo : DE) (la : DL) : DE := fun sl S => (fo sl S).bind fun x S1 => match lstAt S1 x with
  | none => .bad
  | some _ => (la sl S1).bind fun ys S2 => match lstAt S2 x with
    | some (k, xs) => match m xs ys with
      | some (z, xs') => .ok z (S2.set k (.lst xs'))
      | none => .bad
    | none => .bad
/-- a rule that serves such a change -/
def MeD (r : V → List V → Hp → VK → Prop) (m : List Val → List Val → Option (Val × List Val)) : Prop :=
  ∀ (K : PySem.W.Frag) (ι : Nat → Addr) (F H : Hp) (n : Nat) (l : Addr) (vs us : List V) (xs ys : List Val) (z : Val) (xs' : List Val) (Q : VK), m xs ys = some (z, xs') → H l = some (.lst vs) → RVs K ι F n vs xs → RVs K ι F n us ys →
    (∀ v vs', RV K ι F n v z → RVs K ι F n vs' xs' → Q v (upd H l (.lst vs'))) → r (.ref l) us H Q
theorem met_ok {K : PySem.W.Frag} {mg : Str → Option Value} {r : V → List V → Hp → VK → Prop} {m : List Val → List Val → Option (Val × List Val)} (hm : MeD r m) {σ : CxSt} {H : Hp} {Q : VK} (h : tE K mg W (metE m f la) σ H Q) :
    tE K mg W f σ H fun x H1 => tyV K "list" x H1 ∧ tL K mg W la σ H1 fun us H2 => r x us H2 Q := by
  obtain ⟨ι, F, S, sl, hz, hs, rel, q⟩ := h
  refine ⟨ι, F, S, sl, hz, hs, rel, Aft.imp (Aft.bind q) fun x S1 ι1 F1 H1 ⟨s1, r1, h1⟩ u ru => ?_⟩
  split at h1
  · exact h1.elim
  · rename_i q0 e0
    obtain ⟨k0, xs0⟩ := q0
    obtain ⟨ex0, e00⟩ := lstAt_eq e0
    subst ex0
    obtain ⟨_, vs0, h0, _⟩ := r1.obj _ _ e00
    obtain ⟨hk0, rfl⟩ := ru
    refine ⟨.inl ⟨rfl, vs0, SqL.of h0⟩, ι1, F1, S1, sl, hz, hs.stp s1, r1, Aft.imp h1.bind fun ys S2 ι2 F2 H2 ⟨s2, r2, h2⟩ us rus => ?_⟩
    split at h2
    · rename_i k xs e2
      obtain ⟨e3, e2⟩ := lstAt_eq e2
      cases e3
      split at h2
      · rename_i z xs' em
        obtain ⟨_, vs, h3, h4⟩ := r2.obj _ _ e2
        rw [← s2.ag k0 hk0]
        refine hm K ι2 F2 H2 S2.length (ι2 k0) vs us xs ys z xs' Q em h3 h4 rus fun v vs' rz rv => ?_
        obtain ⟨st, r'⟩ := own_set r2 e2 rv
        exact h2 ι2 F2 _ st r' v (rz.stp st)
      · exact h2.elim
    · exact h2.elim
theorem q_met {r : V → List V → Hp → VK → Prop} {m : List Val → List Val → Option (Val × List Val)} (hm : MeD r m) (h : PE X e (tBM X.K "list" r (tE X.K X.mg W f) (tL X.K X.mg W la))) : QE X W e (metE m f la) := PE.imp h fun σ H Q q => met_ok hm q
theorem q_met0 {r : V → List V → Hp → VK → Prop} {m : List Val → List Val → Option (Val × List Val)} (hm : MeD r m) (h : PE X e (tBM0 X.K "list" r (tE X.K X.mg W f))) : QE X W e (metE m f nilL) := by
  refine PE.imp h fun σ H Q q => ?_
  obtain ⟨ι, F, S, sl, hz, hs, rel, q⟩ := met_ok hm q
  refine ⟨ι, F, S, sl, hz, hs, rel, Aft.imp q fun x S1 ι1 F1 H1 k u ru => ?_⟩
  obtain ⟨k1, ι2, F2, S2, sl2, hz2, hs2, rel2, q2⟩ := k u ru
  exact ⟨k1, q2 ι2 F2 H1 .refl rel2 [] .nil⟩
def appM : List Val → List Val → Option (Val × List Val) := fun xs ys => match ys with
  | [y] => if xs.length < sizeLine then some (.d .none, xs ++ [y]) else none
  | _ => none
theorem RVs.one {K : PySem.W.Frag} {ι : Nat → Addr} {F : Hp} {n : Nat} {us : List V} {y : Val} (h : RVs K ι F n us [y]) : ∃ u, us = [u] ∧ RV K ι F n u y := by
  cases h with
  | cons a b => cases b; exact ⟨_, rfl, a⟩
theorem m_app : MeD rAppend appM := fun K ι F H n l vs us xs ys z xs' Q e h1 rx ry k => by
  unfold appM at e
  split at e
  · split at e
    · rename_i hl
      cases e
      obtain ⟨u, rfl, ru⟩ := ry.one
      exact ⟨l, vs, u, rfl, rfl, h1, by rw [rx.length]; exact hl, k _ _ Dq.non (rx.append (.cons ru .nil))⟩
    · cases e
  · cases e
def popM : List Val → List Val → Option (Val × List Val) := fun xs ys => match ys with
  | [] => match xs[xs.length - 1]? with
    | some z => some (z, xs.dropLast)
    | none => none
  | _ => none
theorem RVs.dropLast {K : PySem.W.Frag} {ι : Nat → Addr} {F : Hp} {n : Nat} {vs : List V} {xs : List Val} (h : RVs K ι F n vs xs) : RVs K ι F n vs.dropLast xs.dropLast := by
  induction h with
  | nil => exact .nil
  | cons a t ih =>
    cases t with
    | nil => exact .nil
    | cons b t => exact .cons a ih
theorem RVs.eraseIdx {K : PySem.W.Frag} {ι : Nat → Addr} {F : Hp} {n : Nat} {vs : List V} {xs : List Val} (h : RVs K ι F n vs xs) : ∀ k, RVs K ι F n (vs.eraseIdx k) (xs.eraseIdx k) := by
  induction h with
  | nil => intro k; exact .nil
  | cons a t ih =>
    intro k
    cases k with
    | zero => exact t
    | succ k => exact .cons a (ih k)
theorem m_pop : MeD rPop popM := fun K ι F H n l vs us xs ys z xs' Q e h1 rx ry k => by
  unfold popM at e
  split at e
  · split at e
    · rename_i y ey
      cases e
      cases ry
      obtain ⟨v, ev, rv⟩ := rx.get ey
      exact ⟨l, vs, v, rfl, rfl, h1, by rw [rx.length]; exact ev, k v _ rv rx.dropLast⟩
    · cases e
  · cases e
def popAtM : List Val → List Val → Option (Val × List Val) := fun xs ys => match ys with
  | [.d (.int i)] => if decide (-(2 ^ 63) ≤ i) && decide (i < 2 ^ 63) then match seqIndex? i xs.length with
      | some k => match xs[k]? with
        | some z => some (z, xs.eraseIdx k)
        | none => none
      | none => none else none
  | _ => none
theorem m_popAt : MeD rPopAt popAtM := fun K ι F H n l vs us xs ys z xs' Q e h1 rx ry k => by
  unfold popAtM at e
  split at e
  · split at e
    · rename_i c
      simp only [Bool.and_eq_true, decide_eq_true_eq] at c
      split at e
      · rename_i j ej
        split at e
        · rename_i y ey
          cases e
          obtain ⟨u, rfl, ru⟩ := ry.one
          cases ru
          obtain ⟨v, ev, rv⟩ := rx.get ey
          exact ⟨l, vs, _, j, v, rfl, rfl, h1, c.1, c.2, by rw [rx.length]; exact ej, ev, k v _ rv (rx.eraseIdx j)⟩
        · cases e
      · cases e
    · cases e
  · cases e
def extM (S : Sto) : List Val → List Val → Option (Val × List Val) := fun xs ys => match ys with
  | [.d (.list ds)] => if xs.length + ds.length ≤ sizeLine then some (.d .none, xs ++ ds.map .d) else none
  | _ => none
/-- o[i] = v -/
def putV (S : Sto) (x y z : Val) : Option Sto := match lstAt S x with
  | some (k, xs) => match y with
    | .d (.int i) => match ixN xs.length i with
      | some j => some (S.set k (.lst (xs.set j z)))
      | none => none
    | _ => none
  | none => none
theorem putV_ok {K : PySem.W.Frag} {ι : Nat → Addr} {F H : Hp} {S S' : Sto} {x y z : Val} {u v w : V} {Q : Hp → Prop} (rel : Rel K ι F H S) (e : putV S x y z = some S') (ru : RV K ι F S.length u x) (rv : RV K ι F S.length v y) (rw' : RV K ι F S.length w z)
    (k : ∀ H', Stp ι F H S.length ι F H' S'.length → Rel K ι F H' S' → Q H') : rSetL u v w H Q := by
  unfold putV at e
  split at e
  · rename_i k0 xs e0
    obtain ⟨ex0, e00⟩ := lstAt_eq e0
    subst ex0
    split at e
    · rename_i i
      split at e
      · rename_i j ej
        cases e
        cases rv
        obtain ⟨hk, rfl⟩ := ru
        obtain ⟨_, vs, h1, h2⟩ := rel.obj _ _ e00
        refine ⟨_, vs, i, j, rfl, rfl, h1, by rw [h2.length]; exact ej, ?_⟩
        obtain ⟨st, r'⟩ := own_set rel e00 (h2.set rw' j)
        exact k _ st r'
      · cases e
    · cases e
  · cases e
def putS (fv fo fi : DE) : DS := fun sl S => thenS (fv sl S) sl fun z S1 => thenS (fo sl S1) sl fun x S2 => thenS (fi sl S2) sl fun y S3 => match putV S3 x y z with
  | some S4 => .nx sl S4
  | none => .bad
theorem s_put (h : PS X st (tAsg (tE X.K X.mg W fc) (gSub (tE X.K X.mg W fa) (tE X.K X.mg W fb) rSetL))) : QS X W st (putS fc fa fb) := by
  refine PS.imp h fun D σ H ⟨ι, F, S, sl, hz, hs, rel, q⟩ => ?_
  refine ⟨ι, F, S, sl, hz, hs, rel, Aft.imp (AftS.bind hz hs q) fun z S1 ι1 F1 H1 ⟨s1, r1, h1⟩ w rw' => ?_⟩
  refine ⟨ι1, F1, S1, sl, hz, hs.stp s1, r1, Aft.imp (AftS.bind hz (hs.stp s1) h1) fun x S2 ι2 F2 H2 ⟨s2, r2, h2⟩ u ru => ?_⟩
  refine ⟨ι2, F2, S2, sl, hz, (hs.stp s1).stp s2, r2, Aft.imp (AftS.bind hz ((hs.stp s1).stp s2) h2) fun y S3 ι3 F3 H3 ⟨s3, r3, h3⟩ v rv => ?_⟩
  split at h3
  · rename_i S4 e4
    exact putV_ok r3 e4 (ru.stp s3) rv ((rw'.stp s2).stp s3) fun H' st r' => h3 ι3 F3 H' σ st r' hz ((((hs.stp s1).stp s2).stp s3).stp st)
  · exact h3.elim
/-- o[i], o2[i2] = v, w -/
def put2S (fv fo fi fo2 fi2 : DE) : DS := fun sl S => thenS (fv sl S) sl fun d S1 => match d with
  | .d (.tuple [z, z2]) => thenS (fo sl S1) sl fun x S2 => thenS (fi sl S2) sl fun y S3 => match putV S3 x y (.d z) with
    | some S4 => thenS (fo2 sl S4) sl fun x2 S5 => thenS (fi2 sl S5) sl fun y2 S6 => match putV S6 x2 y2 (.d z2) with
      | some S7 => .nx sl S7
      | none => .bad
    | none => .bad
  | _ => .bad
theorem s_put2 {fd fe : DE} (h : PS X st (tAsg (tE X.K X.mg W fc) (gTup X.K 2 (gCons (gSub (tE X.K X.mg W fa) (tE X.K X.mg W fb) rSetL) (gCons (gSub (tE X.K X.mg W fd) (tE X.K X.mg W fe) rSetL) gNil))))) : QS X W st (put2S fc fa fb fd fe) := by
  refine PS.imp h fun D σ H ⟨ι, F, S, sl, hz, hs, rel, q⟩ => ?_
  refine ⟨ι, F, S, sl, hz, hs, rel, Aft.imp (AftS.bind hz hs q) fun z S1 ι1 F1 H1 ⟨s1, r1, h1⟩ w rw' => ?_⟩
  split at h1
  · rename_i z1 z2
    have hs1 := hs.stp s1
    cases rw' with
    | tup q1 dd =>
      cases dd with
      | cons d1 dd =>
        cases dd with
        | cons d2 dd =>
          cases dd
          refine ⟨_, _, rfl, SqT.mono r1.sub q1, rfl, _, _, rfl, ?_⟩
          refine ⟨ι1, F1, S1, sl, hz, hs1, r1, Aft.imp (AftS.bind hz hs1 h1) fun x S2 ι2 F2 H2 ⟨s2, r2, h2⟩ u ru => ?_⟩
          have hs2 := hs1.stp s2
          refine ⟨ι2, F2, S2, sl, hz, hs2, r2, Aft.imp (AftS.bind hz hs2 h2) fun y S3 ι3 F3 H3 ⟨s3, r3, h3⟩ v rv => ?_⟩
          have hs3 := hs2.stp s3
          split at h3
          · rename_i S4 e4
            refine putV_ok r3 e4 (ru.stp s3) rv (Dq.mono (s2.trans s3).ff _ _ d1) fun H4 st r4 => ⟨_, _, rfl, ?_⟩
            have hs4 := hs3.stp st
            have h4 := AftS.stp h3 st
            refine ⟨ι3, F3, S4, sl, hz, hs4, r4, Aft.imp (AftS.bind hz hs4 h4) fun x2 S5 ι5 F5 H5 ⟨s5, r5, h5⟩ u2 ru2 => ?_⟩
            have hs5 := hs4.stp s5
            refine ⟨ι5, F5, S5, sl, hz, hs5, r5, Aft.imp (AftS.bind hz hs5 h5) fun y2 S6 ι6 F6 H6 ⟨s6, r6, h6⟩ v2 rv2 => ?_⟩
            have hs6 := hs5.stp s6
            split at h6
            · rename_i S7 e7
              refine putV_ok r6 e7 (ru2.stp s6) rv2 (Dq.mono ((((s2.trans s3).trans st).trans s5).trans s6).ff _ _ d2) fun H7 st7 r7 => ⟨rfl, h6 ι6 F6 H7 σ st7 r7 hz (hs6.stp st7)⟩
            · exact h6.elim
          · exact h3.elim
  · exact h1.elim
end
end DV
set_option Elab.async false
set_option linter.all false
set_option maxRecDepth 100000
namespace DV
open PySem PySem.Spec PyProof.Rows L2

/-! ### for, while -/
def fgo (tg : Tg) (g : DS) : List PyData → Sl → Sto → RS
  | [], sl, S => .nx sl S
  | d :: ds, sl, S => match setT tg d sl with
    | none => .bad
    | some sl1 => match g sl1 S with
      | .nx sl2 S2 => fgo tg g ds sl2 S2
      | .ct sl2 S2 => fgo tg g ds sl2 S2
      | .bk sl2 S2 => .nx sl2 S2
      | .rt d S2 => .rt d S2
      | .er e sl2 S2 => .er e sl2 S2
      | .bad => .bad
def forS (it : IT) (tg : Tg) (g : DS) : DS := fun sl S => thenS (it sl S) sl fun ds S1 => fgo tg g ds sl S1
def wgo (c : DB) (g : DS) : Nat → Sl → Sto → RS
  | 0, _, _ => .bad
  | n + 1, sl, S => thenS (c sl S) sl fun b S1 => if b = true then match g sl S1 with
      | .nx sl2 S2 => wgo c g n sl2 S2
      | .ct sl2 S2 => wgo c g n sl2 S2
      | .bk sl2 S2 => .nx sl2 S2
      | .rt d S2 => .rt d S2
      | .er e sl2 S2 => .er e sl2 S2
      | .bad => .bad
    else .nx sl S1
def whS (n : Nat) (c : DB) (g : DS) : DS := wgo c g n
section
variable {K : PySem.W.Frag} {mg : Str → Option Value} {W : WX} {D : Ends} {σ : CxSt} {H : Hp}
theorem for_ok {it : IT} {tg : Tg} {g : DS} (q : tS K mg W (forS it tg g) D σ H) : tFor (tI K mg W it) (tg.g K) (tS K mg W g) D σ H := by
  obtain ⟨ι, F, S, sl, hz, hs, rel, q⟩ := q
  refine ⟨ι, F, S, sl, hz, hs, rel, Aft.imp (AftS.bind hz hs q) fun items S1 ι1 F1 H1 ⟨s1, r1, h1⟩ J hJ => ?_⟩
  refine ⟨fun i m σ H => m = items.length - i ∧ i ≤ items.length ∧ ∃ ι F S sl, Same F1 F ∧ sl.length ≤ σ.length ∧ SlR K ι F S.length σ sl ∧ Rel K ι F H S ∧ AftS K mg W D ι F H S.length (fgo tg g (items.drop i) sl S),
    ⟨items.length, rfl, Nat.zero_le _, ι1, F1, S1, sl, Same.refl _, hz, hs.stp s1, r1, h1⟩, ?_⟩
  rintro i m σ H ⟨rfl, hi, ι, F, S, sl, ff, hz, hs, rel, af⟩
  by_cases hlt : i < items.length
  · refine .inr ⟨hJ.go i F H hlt ff rel.sub, fun σ' H' => ∃ m', m' < items.length - i ∧ m' = items.length - (i + 1) ∧ i + 1 ≤ items.length ∧ ∃ ι F S sl, Same F1 F ∧ sl.length ≤ σ'.length ∧ SlR K ι F S.length σ' sl ∧ Rel K ι F H' S ∧ AftS K mg W D ι F H' S.length (fgo tg g (items.drop (i + 1)) sl S), fun _ _ h => h, fun x H2 hy => ?_⟩
    obtain ⟨d, F2, ed, g2, dx⟩ := hJ.yld i F H x H2 hlt ff rel.sub hy
    have edr : items.drop i = d :: items.drop (i + 1) := by
      rw [List.drop_eq_getElem_cons hlt]
      rw [List.getElem?_eq_getElem hlt] at ed
      rw [Option.some.inj ed]
    rw [edr] at af
    unfold fgo at af
    cases es : setT tg d sl with
    | none => rw [es] at af; exact af.elim
    | some sl1 =>
      rw [es] at af
      dsimp only at af
      have st2 : Stp ι F H S.length ι F2 H2 S.length := g2.stp
      refine Tg.ok es dx g2.sub (hs.stp st2) hz fun σ2 h2 l2 l3 _ => ⟨ι, F2, S, sl1, by rw [l2, l3]; exact hz, h2, rel.grow g2, ?_⟩
      have nxt : ∀ {sl2 S2}, AftS K mg W D ι F H S.length (fgo tg g (items.drop (i + 1)) sl2 S2) → AtS K ι F2 H2 S.length sl2 S2 (fun σ' H' => ∃ m', m' < items.length - i ∧ m' = items.length - (i + 1) ∧ i + 1 ≤ items.length ∧ ∃ ι F S sl, Same F1 F ∧ sl.length ≤ σ'.length ∧ SlR K ι F S.length σ' sl ∧ Rel K ι F H' S ∧ AftS K mg W D ι F H' S.length (fgo tg g (items.drop (i + 1)) sl S)) := by
        intro sl2 S2 h ι' F' H' σ' st' r' z' h'
        exact ⟨items.length - (i + 1), by omega, rfl, hlt, ι', F', S2, sl2, (ff.trans st2.ff).trans st'.ff, z', h', r', AftS.stp h (st2.trans st')⟩
      cases eg : g sl1 S with
      | nx sl2 S2 => rw [eg] at af; exact nxt af
      | ct sl2 S2 => rw [eg] at af; exact nxt af
      | bk sl2 S2 =>
        rw [eg] at af
        exact AftS.stp (r := .nx sl2 S2) af st2
      | rt d S2 =>
        rw [eg] at af
        exact AftS.stp (r := .rt d S2) af st2
      | er e sl2 S2 =>
        rw [eg] at af
        exact AftS.stp (r := .er e sl2 S2) af st2
      | bad => rw [eg] at af; exact af.elim
  · have hie : i = items.length := by omega
    subst hie
    refine .inl ⟨hJ.stop _ F H (Nat.le_refl _) ff rel.sub, ?_⟩
    rw [List.drop_length] at af
    exact af ι F H σ .refl rel hz hs
theorem wh_ok {c : DB} {g : DS} {n : Nat} (q : tS K mg W (whS n c g) D σ H) : tWhile (tB K mg W c) (tS K mg W g) D σ H := by
  refine ⟨fun m σ H => tS K mg W (wgo c g m) D σ H, ⟨n, q⟩, fun m σ H q => ?_⟩
  obtain ⟨ι, F, S, sl, hz, hs, rel, q⟩ := q
  cases m with
  | zero => exact q.elim
  | succ m =>
    refine ⟨ι, F, S, sl, hz, hs, rel, Aft.imp (AftS.bind hz hs q) fun b S1 ι1 F1 H1 ⟨s1, r1, h1⟩ => ?_⟩
    cases b with
    | false => exact iteF ((by simpa using h1 : AftS K mg W D ι1 F1 H1 S1.length (.nx sl S1)) ι1 F1 H1 σ .refl r1 hz (hs.stp s1))
    | true =>
      rw [if_pos rfl] at h1
      refine iteT ⟨fun σ' H' => tS K mg W (wgo c g m) D σ' H', fun σ' H' h => ⟨m, Nat.lt_succ_self m, h⟩, ι1, F1, S1, sl, hz, hs.stp s1, r1, ?_⟩
      have nxt : ∀ {sl2 S2}, AftS K mg W D ι1 F1 H1 S1.length (wgo c g m sl2 S2) → AtS K ι1 F1 H1 S1.length sl2 S2 (fun σ' H' => tS K mg W (wgo c g m) D σ' H') := fun {sl2 S2} h ι' F' H' σ' st' r' z' h' => ⟨ι', F', S2, sl2, z', h', r', AftS.stp h st'⟩
      cases eg : g sl S1 with
      | nx sl2 S2 => rw [eg] at h1; exact nxt h1
      | ct sl2 S2 => rw [eg] at h1; exact nxt h1
      | bk sl2 S2 => rw [eg] at h1; exact h1
      | rt d S2 => rw [eg] at h1; exact h1
      | er e sl2 S2 => rw [eg] at h1; exact h1
      | bad => rw [eg] at h1; exact h1.elim
end
section
variable {X : Cx} {W : WX} {c e iter tg : Expr} {f : DE} {la : DL} {ba : DB} {pos p : Pos} {sts : List Stmt} {g : DS}
theorem s_for {it : IT} {t : Tg} (hp : PassesOwn (model X.prog X.w) X.A X.env X.xe) (hc : X.calm = true) (hi : QI X W tg iter it) (hg : PG X tg (t.g X.K)) (hb : QB X W sts g) (hs : ∀ x, foldedSetIterable iter X.env x = pure x := by intro _; rfl) : QS X W (.For tg iter sts [] pos) (forS it t g) :=
  PS.imp (ps_for hp hc hi hg hb (hs := hs)) fun D σ H q => for_ok q
theorem s_while {n : Nat} (hp : PassesOwn (model X.prog X.w) X.A X.env X.xe) (hc : QT X W c ba) (hb : QB X W sts g) : QS X W (.While c sts [] pos) (whS n ba g) :=
  PS.imp (ps_while hp hc hb) fun D σ H q => wh_ok q
end

/-! ### defs -/
inductive FR where
  | ok (x : PyData)
  | er (e : Exn)
  | bad
abbrev FnP := List PyData → FR
def slots (n : Nat) (xs : List Val) : Sl := xs.map some ++ List.replicate (n - xs.length) none
def endP : RS → FR
  | .nx _ _ => .ok .none
  | .rt d _ => .ok d
  | .er e _ _ => .er e
  | _ => .bad
def runP (n m : Nat) (g : DS) : FnP := fun args => if args.length = m then endP (g (slots n (args.map .d)) []) else .bad
/-- the promise of a def that is a function of data -/
def spP (K : PySem.W.Frag) (mg : Str → Option Value) (n : Nat) (Fn : FnP) : Sp := fun vs H Q E => ∃ (F : Hp) (args : List PyData), vs.length = n ∧ Same F H ∧ DqAll K F vs args ∧ match Fn args with
  | .ok x => ∀ v H' F', Grow F H F' H' → Dq K F' v x → Q v H'
  | .er e => ∀ H' F' cls d, Grow F H F' H' → ErrR K mg F' e cls d H' → E cls d H'
  | .bad => False
/-- a def that has an owned list handed in first -/
inductive FRr where
  | ok (x : PyData) (row : List PyData)
  | bad
abbrev FnR := List PyData → List PyData → FRr
def outR (x : PyData) (S : Sto) : FRr := match S[(0 : Nat)]? with
  | some (.lst xs) => match allD xs with
    | some r => .ok x r
    | none => .bad
  | _ => .bad
def endR : RS → FRr
  | .nx _ S => outR .none S
  | .rt d S => outR d S
  | _ => .bad
def runR (n m : Nat) (g : DS) : FnR := fun args row => if args.length + 1 = m then endR (g (slots n (.loc 0 :: args.map .d)) [.lst (row.map .d)]) else .bad
theorem runP_len {n m : Nat} {g : DS} (args : List PyData) (x : PyData) (h : runP n m g args = .ok x ∨ ∃ e, runP n m g args = .er e) : args.length = m := by
  unfold runP at h
  by_cases c : args.length = m
  · exact c
  · rw [if_neg c] at h
    rcases h with h | ⟨e, h⟩ <;> cases h
theorem runR_len {n m : Nat} {g : DS} (args row : List PyData) (x : PyData) (row' : List PyData) (h : runR n m g args row = .ok x row') : args.length + 1 = m := by
  unfold runR at h
  by_cases c : args.length + 1 = m
  · exact c
  · rw [if_neg c] at h
    cases h
structure GrowB (a : Addr) (F H F' H' : Hp) : Prop where
  ff : Same F F'
  out : ∀ b o, b ≠ a → H b = some o → H' b = some o
  sub : Same F' H'
  fnew : ∀ b o, F' b = some o → F b = some o ∨ H b = none
def spR (K : PySem.W.Frag) (n : Nat) (Fn : FnR) : Sp := fun vs H Q _ => ∃ (F : Hp) (a : Addr) (rs us : List V) (row args : List PyData), vs = .ref a :: us ∧ vs.length = n ∧ Same F H ∧ F a = none ∧ H a = some (.lst rs) ∧ DqAll K F rs row ∧ DqAll K F us args ∧ match Fn args row with
  | .ok x row' => ∀ v H' F' rs', GrowB a F H F' H' → H' a = some (.lst rs') → DqAll K F' rs' row' → Dq K F' v x → Q v H'
  | .bad => False
section
variable {K : PySem.W.Frag} {mg : Str → Option Value} {ι ι' : Nat → Addr} {F F' H H' : Hp} {n : Nat}
theorem slots_ok {vs : List V} {xs : List Val} {N : List Str} (r : RVs K ι F n vs xs) : SlR K ι F n (L2.start N vs) (slots N.length xs) := fun i x e => by
  unfold slots at e
  by_cases hi : i < xs.length
  · rw [List.getElem?_append_left (by simpa using hi)] at e
    simp only [List.getElem?_map, Option.map_eq_some_iff] at e
    obtain ⟨y, e1, e2⟩ := e
    obtain ⟨v, e3, rv⟩ := r.get e1
    cases e2
    refine ⟨v, ?_, rv⟩
    unfold L2.start
    rw [List.getElem?_append_left (by rw [List.length_map, r.length]; exact hi), List.getElem?_map, e3]
    rfl
  · rw [List.getElem?_append_right (by simpa using hi)] at e
    rw [List.getElem?_replicate] at e
    split at e <;> cases e
theorem slots_len {vs : List V} {xs : List Val} {N : List Str} (h : vs.length = xs.length) : (slots N.length xs).length ≤ (L2.start N vs).length := by
  unfold slots L2.start
  simp [h]
theorem Stp.grow0 (st : Stp ι F H 0 ι' F' H' n) (s : Same F' H') : Grow F H F' H' :=
  ⟨st.ff, fun a o h => st.out a o h fun k hk => absurd hk (Nat.not_lt_zero k), s, fun a o h => (st.fnew a o h).elim .inl fun q => q.elim .inr fun ⟨k, hk, _⟩ => absurd hk (Nat.not_lt_zero k)⟩
end
section
variable {P : Program} {w : World} {K : PySem.W.Frag} {mg : Str → Option Value} {base : Heap}
/-- the wish of a def's body -/
abbrev WE0 (E : XK) : WX := fun cls d _ H => E cls d H
theorem fn_okP {x qual : Str} {st : Stmt} {f : Addr} {fd : FuncData} {N ps : List Str} {k : Nat} {g : DS} (F : FunD K x qual (defArgs st) (defBody st) (defScope st) [] [] f fd) (S : FnScope N ps (defScope st))
    (hb : ∀ (cdv : Value) (A : Around) (outer : List Env) (s : Shared) (H : Hp) (E : XK), Room k (A.deeper (envOfC qual (defScope st) s.heap.objs.size f cdv)) →
      QB (cxOf (L2.CX P w) P w K mg base N qual (defScope st) f cdv A outer s H E) (WE0 E) (defBody st) g) :
    FnOk P w K mg base (L2.CX P w) (k + 1) f fd ps (spP K mg ps.length (runP N.length ps.length g)) := by
  refine F.ok S (fun vs H Q E h => ?_) (fun cdv A outer s H vs Q E hr h => ⟨_, hb cdv A outer s H E hr, ?_⟩)
  · obtain ⟨_, _, h, _⟩ := h; exact h
  · obtain ⟨F, args, hl, sub, da, h⟩ := h
    have rv : RVs K (fun _ => 0) F 0 vs (args.map .d) := RVs.of_all da
    refine ⟨fun _ => 0, F, [], _, slots_len (by rw [rv.length]), slots_ok rv, ⟨sub, fun i j hi => absurd hi (Nat.not_lt_zero i), fun k o e => by simp at e⟩, ?_⟩
    unfold runP at h
    rw [if_pos (by rw [← da.length]; exact hl)] at h
    unfold endP at h
    cases eg : g (slots N.length (args.map .d)) [] with
    | nx sl' S' =>
      rw [eg] at h
      exact fun ι' F' H' σ' st r _ _ => h _ H' F' (st.grow0 r.sub) .non
    | rt d S' =>
      rw [eg] at h
      exact fun ι' F' H' v st r dv => h v H' F' (st.grow0 r.sub) dv
    | er e sl' S' =>
      rw [eg] at h
      exact fun ι' F' H' σ' cls d st r _ _ er => h H' F' cls d (st.grow0 r.sub) er
    | bk sl' S' => rw [eg] at h; exact h.elim
    | ct sl' S' => rw [eg] at h; exact h.elim
    | bad => rw [eg] at h; exact h.elim
theorem fn_okR {x qual : Str} {st : Stmt} {f : Addr} {fd : FuncData} {N ps : List Str} {k : Nat} {g : DS} (F : FunD K x qual (defArgs st) (defBody st) (defScope st) [] [] f fd) (S : FnScope N ps (defScope st))
    (hb : ∀ (cdv : Value) (A : Around) (outer : List Env) (s : Shared) (H : Hp) (E : XK), Room k (A.deeper (envOfC qual (defScope st) s.heap.objs.size f cdv)) →
      QB (cxOf (L2.CX P w) P w K mg base N qual (defScope st) f cdv A outer s H E) (WE0 E) (defBody st) g) :
    FnOk P w K mg base (L2.CX P w) (k + 1) f fd ps (spR K ps.length (runR N.length ps.length g)) := by
  refine F.ok S (fun vs H Q E h => ?_) (fun cdv A outer s H vs Q E hr h => ⟨_, hb cdv A outer s H E hr, ?_⟩)
  · obtain ⟨_, _, _, _, _, _, _, h, _⟩ := h; exact h
  · obtain ⟨F, a, rs, us, row, args, rfl, hl, sub, fa, ha, dr, da, h⟩ := h
    have rv : RVs K (fun _ => a) F 1 (.ref a :: us) (.loc 0 :: args.map .d) := .cons ⟨Nat.zero_lt_one, rfl⟩ (RVs.of_all da)
    refine ⟨fun _ => a, F, [.lst (row.map .d)], _, slots_len (by rw [rv.length]), slots_ok rv, ⟨sub, fun i j hi hj _ => by simp at hi hj; omega, fun k o e => ?_⟩, ?_⟩
    · cases k with
      | zero => simp at e; subst e; exact ⟨fa, rs, ha, RVs.of_all dr⟩
      | succ k => simp at e
    · have fin : ∀ (x : PyData) (S' : Sto), (match outR x S' with
          | .ok x row' => ∀ v H' F' rs', GrowB a F H F' H' → H' a = some (.lst rs') → DqAll K F' rs' row' → Dq K F' v x → Q v H'
          | .bad => False) → ∀ ι' F' H' v, Stp (fun _ => a) F H 1 ι' F' H' S'.length → Rel K ι' F' H' S' → Dq K F' v x → Q v H' := by
        intro x S' h ι' F' H' v st r dv
        split at h
        · rename_i x' row' e1
          unfold outR at e1
          split at e1
          · rename_i xs e2
            split at e1
            · rename_i r' e3
              cases e1
              obtain ⟨_, vs', h1, h2⟩ := r.obj 0 _ e2
              rw [st.ag 0 Nat.zero_lt_one] at h1
              refine h v H' F' vs' ⟨st.ff, fun b o hb hh => st.out b o hh fun k hk => Ne.symm hb, r.sub, fun b o hb => ?_⟩ h1 (h2.all e3) dv
              rcases st.fnew b o hb with q | q | ⟨k, hk, q⟩
              · exact .inl q
              · exact .inr q
              · obtain ⟨f0, _⟩ := r.obj 0 _ e2
                rw [st.ag 0 Nat.zero_lt_one] at f0
                have q' : a = b := q
                rw [← q', f0] at hb
                cases hb
            · cases e1
          · cases e1
        · exact h.elim
      unfold runR at h
      rw [if_pos (by rw [← da.length]; exact hl)] at h
      unfold endR at h
      cases eg : g (slots N.length (.loc 0 :: args.map .d)) [.lst (row.map .d)] with
      | nx sl' S' =>
        rw [eg] at h
        exact fun ι' F' H' σ' st r _ _ => fin _ S' h ι' F' H' _ st r .non
      | rt d S' =>
        rw [eg] at h
        exact fun ι' F' H' v st r dv => fin _ S' h ι' F' H' v st r dv
      | bk sl' S' => rw [eg] at h; exact h.elim
      | ct sl' S' => rw [eg] at h; exact h.elim
      | er e sl' S' => rw [eg] at h; exact h.elim
      | bad => rw [eg] at h; exact h.elim
end

/-! ### calls -/
def callP (Fn : FnP) (la : DL) : DE := fun sl S => (la sl S).bind fun xs S1 => match frzL S1 xs with
  | some (ds, S2) => match Fn ds with
    | .ok x => .ok (.d x) S2
    | .er e => .er e S2
    | .bad => .bad
  | none => .bad
def callR (Fn : FnR) (fr : DE) (la : DL) : DE := fun sl S => (fr sl S).bind fun x S1 => (la sl S1).bind fun xs S2 => match frzL S2 xs with
  | some (ds, S3) => match lstAt S3 x with
    | some (k, rs) => match allD rs with
      | some row => match Fn ds row with
        | .ok z row' => .ok (.d z) (S3.set k (.lst (row'.map .d)))
        | .bad => .bad
      | none => .bad
    | none => .bad
  | none => .bad
section
variable {K : PySem.W.Frag} {ι : Nat → Addr} {F F' H H' : Hp} {S : Sto}
theorem own_chg {k : Nat} {xs ys : List Val} {rs' : List V} (rel : Rel K ι F H S) (e : S[k]? = some (.lst xs)) (g : GrowB (ι k) F H F' H') (h' : H' (ι k) = some (.lst rs')) (ru : RVs K ι F' S.length rs' ys) :
    Stp ι F H S.length ι F' H' (S.set k (.lst ys)).length ∧ Rel K ι F' H' (S.set k (.lst ys)) := by
  have hk : k < S.length := (List.getElem?_eq_some_iff.mp e).1
  obtain ⟨f0, vs, h1, _⟩ := rel.obj k _ e
  rw [List.length_set]
  have f0' : F' (ι k) = none := by
    cases q : F' (ι k) with
    | none => rfl
    | some o =>
      rcases g.fnew _ _ q with z | z
      · rw [f0] at z; cases z
      · rw [h1] at z; cases z
  refine ⟨⟨Nat.le_refl _, fun _ _ => rfl, g.ff, fun a o h hn => g.out a o (Ne.symm (hn k hk)) h, fun a o h => ?_, fun _ h1 h2 => absurd (Nat.lt_of_le_of_lt h1 h2) (Nat.lt_irrefl _), fun a o h => (g.fnew a o h).elim .inl fun q => .inr (.inl q)⟩, g.sub, fun i j hi hj => rel.inj i j (by simpa using hi) (by simpa using hj), fun j o ej => ?_⟩
  · by_cases q : a = ι k
    · exact ⟨_, by rw [q]; exact h'⟩
    · exact ⟨o, g.out a o q h⟩
  · rw [List.length_set]
    by_cases q : j = k
    · subst q
      rw [List.getElem?_set_self hk] at ej
      cases ej
      exact ⟨f0', rs', h', ru⟩
    · rw [List.getElem?_set_ne (Ne.symm q)] at ej
      have hj : j < S.length := (List.getElem?_eq_some_iff.mp ej).1
      have := rel.obj j o ej
      have nj : ι j ≠ ι k := fun e => q (rel.inj j k hj hk e)
      cases o with
      | frz x =>
        obtain ⟨ws, g1, g2⟩ := this
        exact ⟨ws, g.ff _ _ g1, DqAll.mono g.ff _ _ g2⟩
      | lst zs =>
        obtain ⟨g0, ws, g1, g2⟩ := this
        refine ⟨?_, ws, g.out _ _ nj g1, g2.mono (Nat.le_refl _) (fun _ _ => rfl) g.ff⟩
        cases q2 : F' (ι j) with
        | none => rfl
        | some u =>
          rcases g.fnew _ _ q2 with z | z
          · rw [g0] at z; cases z
          · rw [g1] at z; cases z
end
section
variable {X : Cx} {W : WX} {e : Expr} {es : List Expr} {fr : DE} {la : DL} {pos p : Pos} {k : Nat} {f : Addr} {fd : FuncData} {ps : List Str} {x : Str}
theorem callP_ok {K : PySem.W.Frag} {mg : Str → Option Value} {W : WX} {Fn : FnP} {n : Nat} {σ : CxSt} {H : Hp} {Q : VK} (hn : ∀ args x, (Fn args = .ok x ∨ ∃ e, Fn args = .er e) → args.length = n) (h : tE K mg W (callP Fn la) σ H Q) :
    tL K mg W la σ H fun us H1 => spP K mg n Fn (us ++ []) H1 Q (WE W σ) := by
  obtain ⟨ι, F, S, sl, hz, hs, rel, q⟩ := h
  refine ⟨ι, F, S, sl, hz, hs, rel, Aft.imp (Aft.bind q) fun xs S1 ι1 F1 H1 ⟨s1, r1, h1⟩ us rus => ?_⟩
  show spP K mg n Fn (us ++ []) H1 Q (WE W σ)
  rw [List.append_nil]
  split at h1
  · rename_i ds S2 e2
    obtain ⟨F2, g2, d2⟩ := frzL_ok e2 r1 rus
    split at h1
    · rename_i x ex
      refine ⟨F2, ds, by rw [d2.length]; exact hn _ x (.inl ex), g2.2.2.sub, d2, ?_⟩
      rw [ex]
      exact fun v H' F' g dv => h1 ι1 F' H' (g2.2.1.trans g.stp) (g2.2.2.grow g) v dv
    · rename_i x ex
      refine ⟨F2, ds, by rw [d2.length]; exact hn _ .none (.inr ⟨_, ex⟩), g2.2.2.sub, d2, ?_⟩
      rw [ex]
      exact fun H' F' cls d g er => h1 ι1 F' H' cls d (g2.2.1.trans g.stp) (g2.2.2.grow g) er
    · exact h1.elim
  · exact h1.elim
theorem q_callP {Fn : FnP} (G : FnOk X.prog X.w X.K X.mg X.base (L2.CX X.prog X.w) k f fd ps (spP X.K X.mg ps.length Fn)) (hr : Room k X.A) (hg : Gl X x) (hm : X.mg x = some (.ref f)) (hk : PySem.W.keepIn X.K (.ref f) = true) (hb : Binds X.K fd ps [])
    (tk : Takes X W) (hn : ∀ args x, (Fn args = .ok x ∨ ∃ e, Fn args = .er e) → args.length = ps.length) (ha : QA X W (e :: es) la) (hdb : (x == ("__debug__" : Str)) = false := by decide) (he : starEach (e :: es) X.env = (false, eval e X.env) :: starEach es X.env := by rfl) (hpl : (backTo pos (starEach es X.env)).any (·.1) = false := by rfl) :
    QE X W (.Call (.Name x p) (e :: es) [] pos) (callP Fn la) :=
  PE.imp (pe_callSD G hr hg hm hk hb .nil (fun σ => passAt tk σ) ha hdb he hpl) fun σ H Q q => callP_ok hn q
theorem callR_ok {K : PySem.W.Frag} {mg : Str → Option Value} {W : WX} {Fn : FnR} {n : Nat} {σ : CxSt} {H : Hp} {Q : VK} (hn : ∀ args row x row', Fn args row = .ok x row' → args.length + 1 = n) (h : tE K mg W (callR Fn fr la) σ H Q) :
    tL K mg W (consL fr la) σ H fun us H1 => spR K n Fn (us ++ []) H1 Q (WE W σ) := by
  obtain ⟨ι, F, S, sl, hz, hs, rel, q⟩ := h
  have q2 : Aft K mg W σ ι F H S.length (((fr sl S).bind fun x S1 => (la sl S1).bind fun xs S2 => .ok (x :: xs) S2).bind fun ys S2 => match ys with
    | x :: xs => (match frzL S2 xs with
      | some (ds, S3) => match lstAt S3 x with
        | some (k, rs) => match allD rs with
          | some row => match Fn ds row with
            | .ok z row' => R.ok (.d z) (S3.set k (.lst (row'.map .d)))
            | .bad => .bad
          | none => .bad
        | none => .bad
      | none => .bad)
    | [] => .bad) (fun x S' ι' F' H' => ∀ u, RV K ι' F' S'.length u x → Q u H') := by
    unfold callR at q
    cases e1 : fr sl S with
    | ok x S1 =>
      rw [e1] at q
      simp only [R.bind] at q ⊢
      cases e2 : la sl S1 with
      | ok xs S2 => rw [e2] at q; exact q
      | er x S2 => rw [e2] at q; exact q
      | bad => rw [e2] at q; exact q
    | er x S1 => rw [e1] at q; exact q
    | bad => rw [e1] at q; exact q
  refine ⟨ι, F, S, sl, hz, hs, rel, Aft.imp (Aft.bind q2) fun ys S1 ι1 F1 H1 ⟨s1, r1, h1⟩ us rus => ?_⟩
  show spR K n Fn (us ++ []) H1 Q (WE W σ)
  rw [List.append_nil]
  cases rus with
  | nil => exact h1.elim
  | @cons v x vs xs rv rvs =>
    dsimp only at h1
    split at h1
    · rename_i ds S3 e2
      obtain ⟨F2, g2, d2⟩ := frzL_ok e2 r1 rvs
      split at h1
      · rename_i k0 rs e3
        obtain ⟨rfl, e3'⟩ := lstAt_eq e3
        split at h1
        · rename_i row e4
          split at h1
          · rename_i z row' e5
            obtain ⟨f0, rs0, h0, hrs⟩ := g2.2.2.obj _ _ e3'
            refine ⟨F2, ι1 k0, rs0, vs, row, ds, by rw [rv.2], ?_, g2.2.2.sub, f0, h0, hrs.all e4, d2, ?_⟩
            · show vs.length + 1 = n
              rw [d2.length]
              exact hn _ _ _ _ e5
            · rw [e5]
              intro v2 H' F' rs' g h' dr dv
              obtain ⟨st, r'⟩ := own_chg (ys := row'.map .d) g2.2.2 e3' g h' (RVs.of_all dr)
              exact h1 ι1 F' H' (g2.2.1.trans st) r' v2 dv
          · exact h1.elim
        · exact h1.elim
      · exact h1.elim
    · exact h1.elim
theorem q_callR {Fn : FnR} (G : FnOk X.prog X.w X.K X.mg X.base (L2.CX X.prog X.w) k f fd ps (spR X.K ps.length Fn)) (hr : Room k X.A) (hg : Gl X x) (hm : X.mg x = some (.ref f)) (hk : PySem.W.keepIn X.K (.ref f) = true) (hb : Binds X.K fd ps [])
    (tk : Takes X W) (hn : ∀ args row x row', Fn args row = .ok x row' → args.length + 1 = ps.length) (h0 : QE X W e fr) (ha : QA X W es la) (hdb : (x == ("__debug__" : Str)) = false := by decide) (he : starEach (e :: es) X.env = (false, eval e X.env) :: starEach es X.env := by rfl) (hpl : (backTo pos (starEach es X.env)).any (·.1) = false := by rfl) :
    QE X W (.Call (.Name x p) (e :: es) [] pos) (callR Fn fr la) :=
  PE.imp (pe_callSD G hr hg hm hk hb .nil (fun σ => passAt tk σ) (a_cons h0 ha he) hdb he hpl) fun σ H Q q => callR_ok hn q

/-! ### raise X() -/
theorem pmk_own0 {C : Addr} {bmB : List Value} {B newId initId : String} (F : ExcBaseFacts B newId initId bmB) (q : PySem.W.excIn X.K C bmB newId = true) (gC : X.mg x = some (.ref C))
    (kC : PySem.W.keepIn X.K (.ref C) = true) (r : Raises X (.ref C)) (hg : Gl X x) (hdb : (x == ("__debug__" : Str)) = false := by decide) :
    PMk X (.Call (.Name x p) [] [] pos) (fun σ H Q => Q (.ref C) none H) := by
  intro pins s σ H Q I h
  refine wpAny_Call_Name_kw (ld_glob I hg gC ?_ hdb)
  refine PySem.W.callWith_K0 I.kIn kC ?_
  show wpAny _ _ (call (.ref C) []) _ _ _
  obtain ⟨bm, N, nm, qn, bs, hdct, sn, sub, ab, col, dd, k0, k1, k2, k3, k5, mN, hC, hN, hni, T⟩ := exc_obj I.kIn q
  refine wpAny_call_exc_subT F T hC hN hni (fun h' e hm => ?_) (Nat.zero_le _)
  exact mk_of I hm r h (I.hok.gone hm.new)
def raS (cls : Str) : DS := fun sl S => .er ⟨cls, []⟩ sl S
theorem s_raise0 {C : Addr} {bmB : List Value} {B newId initId : String} (hc : X.calm = true) (tk : Takes X W) (F : ExcBaseFacts B newId initId bmB) (q : PySem.W.excIn X.K C bmB newId = true) (gC : X.mg x = some (.ref C))
    (kC : PySem.W.keepIn X.K (.ref C) = true) (r : Raises X (.ref C)) (hg : Gl X x) (hdb : (x == ("__debug__" : Str)) = false := by decide) : QS X W (.Raise (some (.Call (.Name x p) [] [] pos)) none pos) (raS x) :=
  PS.imp (ps_raise hc tk (pmk_own0 F q gC kC r hg hdb)) fun D σ H ⟨ι, S, S', sl, hz, hs, rel, q⟩ => q ι S H σ _ _ .refl rel hz hs ⟨⟨C, rfl, gC⟩, trivial⟩
end
end DV
set_option Elab.async false
set_option linter.all false
set_option maxRecDepth 100000
namespace DV
open PySem PySem.Spec PyProof.Rows L2

/-! ### a < b < c -/
section
variable {X : Cx} {W : WX} {a b c e : Expr} {fa fb fc : DE} {pos : Pos}
theorem chain_ok {K : PySem.W.Frag} {mg : Str → Option Value} {W : WX} {r r' : R2} {g g' : PyData → PyData → Option PyData} (hr : OpD K r g) (hr' : OpD K r' g') {σ : CxSt} {H : Hp} {Q : VK} (h : tE K mg W (chain g g' fa fb fc) σ H Q) :
    tChain r r' (tE K mg W fa) (tE K mg W fb) (tE K mg W fc) σ H Q := by
  obtain ⟨ι, F, S, sl, hz, hs, rel, q⟩ := h
  refine ⟨ι, F, S, sl, hz, hs, rel, Aft.imp (Aft.bind q) fun x S1 ι1 F1 H1 ⟨s1, r1, h1⟩ u ru => ?_⟩
  refine ⟨ι1, F1, S1, sl, hz, hs.stp s1, r1, Aft.imp h1.bind fun y S2 ι2 F2 H2 ⟨s2, r2, h2⟩ v rv => ?_⟩
  have hs2 := (hs.stp s1).stp s2
  refine two_ok hr r2 (ru.stp s2) rv (Aft.imp h2.bind fun z S3 ι3 F3 H3 ⟨s3, r3, h3⟩ w rw' => ?_)
  split at h3
  · cases rw'
    refine ⟨true, rfl, iteT ⟨ι3, F3, S3, sl, hz, hs2.stp s3, r3, Aft.imp h3.bind fun t S4 ι4 F4 H4 ⟨s4, r4, h4⟩ w4 rw4 => ?_⟩⟩
    exact two_ok hr' r4 ((rv.stp s3).stp s4) rw4 h4
  · cases rw'
    exact ⟨false, rfl, iteF (h3 ι3 F3 H3 .refl r3 _ (.bl _))⟩
  · exact h3.elim
theorem q_chain {op op' : CmpOp} {r r' : R2} {g g' : PyData → PyData → Option PyData} (ho : OpR X (compareOp op) r) (ho' : OpR X (compareOp op') r') (hr : OpD X.K r g) (hr' : OpD X.K r' g') (ha : QE X W a fa) (hb : QE X W b fb) (hc : QE X W c fc)
    (hm : lastMarks [op, op'] [b, c] = false := by with_unfolding_all rfl) : QE X W (.Compare a [op, op'] [b, c] pos) (chain g g' fa fb fc) := PE.imp (pe_chain ho ho' ha hb hc hm) fun σ H Q q => chain_ok hr hr' q
theorem t_chain {op op' : CmpOp} {r r' : R2} {g g' : PyData → PyData → Option PyData} (ho : OpR X (compareOp op) r) (ho' : OpR X (compareOp op') r') (hr : OpD X.K r g) (hr' : OpD X.K r' g') (ha : QE X W a fa) (hb : QE X W b fb) (hc : QE X W c fc)
    (hm : lastMarks [op, op'] [b, c] = false := by with_unfolding_all rfl) : QT X W (.Compare a [op, op'] [b, c] pos) (asB (chain g g' fa fb fc)) := PT.imp (pt_chain ho ho' ha hb hc hm) fun σ H Q q => chain_ok hr hr' (asB_ok q)
end

/-! ### further new lists: list(x), xs * n -/
def lstF (f : DE) : DF := fun sl S => (f sl S).bind fun x S1 => match dat S1 x with
  | some (.list ds) => .ok (ds.map .d) S1
  | some (.tuple ds) => .ok (ds.map .d) S1
  | _ => .bad
def repF (fa fb : DE) : DF := fun sl S => (fa sl S).bind fun x S1 => (fb sl S1).bind fun y S2 => match dat S2 x, y with
  | some (.list ds), .d (.int k) => if decide (-(2 ^ 63) ≤ k) && decide (k < 2 ^ 63) && decide (ds.length * k.toNat ≤ sizeLine) then .ok ((List.replicate k.toNat ds).flatten.map .d) S2 else .bad
  | _, _ => .bad
def rgF (it : IT) : DF := fun sl S => (it sl S).bind fun ds S1 => if ds.length ≤ 10000000 then .ok (ds.map .d) S1 else .bad
section
variable {X : Cx} {W : WX} {a b c e : Expr} {es : List Expr} {fa fb fc f : DE} {la : DL} {pos p : Pos}
theorem f_list (h : PE X e (tCB (fun xs H Q => ∃ p ys, xs = [.ref p] ∧ (SqL X.K H p ys ∨ SqT X.K H p ys) ∧ ∀ l, H l = none → Q (.ref l) (upd H l (.lst ys))) (tCons (tE X.K X.mg W f) tNil))) : QF X W e (lstF f) := by
  refine PE.imp h fun σ H Q ⟨ι, F, S, sl, hz, hs, rel, q⟩ => ?_
  refine ⟨ι, F, S, sl, hz, hs, rel, Aft.imp (Aft.bind q) fun x S1 ι1 F1 H1 ⟨s1, r1, h1⟩ u ru => ?_⟩
  split at h1
  · rename_i ds ed
    obtain ⟨a, vs, rfl, q1, d1⟩ := (ru.dat r1 ed).list r1.sub
    exact ⟨a, vs, rfl, .inl (SqL.of q1), fun l hl => h1 ι1 F1 H1 .refl r1 l vs hl (RVs.of_all d1)⟩
  · rename_i ds ed
    obtain ⟨a, vs, rfl, q1, d1⟩ := (ru.dat r1 ed).tuple r1.sub
    exact ⟨a, vs, rfl, .inr q1, fun l hl => h1 ι1 F1 H1 .refl r1 l vs hl (RVs.of_all d1)⟩
  · exact h1.elim
theorem f_rep (ha : QE X W a fa) (hb : QE X W b fb) : QF X W (.BinOp a .Mult b pos) (repF fa fb) := by
  refine PE.imp (pe_op op_rep ha hb) fun σ H Q ⟨ι, F, S, sl, hz, hs, rel, q⟩ => ?_
  refine ⟨ι, F, S, sl, hz, hs, rel, Aft.imp (Aft.bind q) fun x S1 ι1 F1 H1 ⟨s1, r1, h1⟩ u ru => ?_⟩
  refine ⟨ι1, F1, S1, sl, hz, hs.stp s1, r1, Aft.imp h1.bind fun y S2 ι2 F2 H2 ⟨s2, r2, h2⟩ v rv => ?_⟩
  split at h2
  · rename_i ds k ed _
    split at h2
    · rename_i c
      simp only [Bool.and_eq_true, decide_eq_true_eq] at c
      obtain ⟨a, vs, rfl, q1, d1⟩ := ((ru.stp s2).dat r2 ed).list r2.sub
      cases rv
      exact ⟨a, _, vs, rfl, rfl, q1, c.1.1, c.1.2, by rw [d1.length]; exact c.2, fun l hl => h2 ι2 F2 H2 .refl r2 l _ hl (RVs.of_all (d1.rep _))⟩
    · exact h2.elim
  · exact h2.elim
theorem rgV_list {K : PySem.W.Frag} {F : Hp} (a b : Int) : DqAll K F (rgV a b) (rangeL a (b - a).toNat) := by
  unfold rgV rangeL
  generalize (b - a).toNat = n
  have : ∀ (l : List Nat), DqAll K F (l.map fun i => V.int (a + (i : Nat))) (l.map fun i => PyData.int (a + (i : Nat))) := by
    intro l
    induction l with
    | nil => exact .nil
    | cons x l ih => exact .cons (.int _) ih
  exact this _
/-- list(range(n)), list(range(a, b)) -/
def rg1 (f : DE) : IT := rng1 (consL f nilL)
theorem f_rg1 (h : PE X e (tLstRg (tRg1 (tE X.K X.mg W f)))) : QF X W e (rgF (rg1 f)) := by
  refine PE.imp h fun σ H Q ⟨ι, F, S, sl, hz, hs, rel, q⟩ => ?_
  have q2 : Aft X.K X.mg W σ ι F H S.length ((f sl S).bind fun x S1 => match x with
    | .d (.int j) => if decide (-(2 ^ 62) ≤ j) && decide (j < 2 ^ 62) then (if (rangeL 0 j.toNat).length ≤ 10000000 then R.ok ((rangeL 0 j.toNat).map .d) S1 else .bad) else .bad
    | _ => .bad) (fun xs S' ι' F' H' => ∀ p us, H' p = none → RVs X.K ι' F' S'.length us xs → Q (.ref p) (upd H' p (.lst us))) := by
    unfold rgF rg1 rng1 consL nilL at q
    cases ef : f sl S with
    | er x S1 => rw [ef] at q; exact q
    | bad => rw [ef] at q; exact q
    | ok x S1 =>
      rw [ef] at q
      simp only [R.bind] at q ⊢
      cases x with
      | loc k => exact q
      | d x =>
        cases x with
        | int j =>
          dsimp only at q ⊢
          by_cases c : (decide (-(2 ^ 62) ≤ j) && decide (j < 2 ^ 62)) = true
          · rw [if_pos c] at q ⊢; exact q
          · rw [if_neg c] at q; exact q.elim
        | _ => exact q
  refine ⟨ι, F, S, sl, hz, hs, rel, Aft.imp (Aft.bind q2) fun x S1 ι1 F1 H1 ⟨s1, r1, h1⟩ u ru => ?_⟩
  split at h1
  · rename_i j0 _
    cases ru
    split at h1
    · rename_i c
      simp only [Bool.and_eq_true, decide_eq_true_eq] at c
      split at h1
      · rename_i c2
        rw [rangeL_length] at c2
        refine ⟨_, rfl, ⟨by decide, by decide, c.1, c.2, ?_⟩, fun p hp => h1 ι1 F1 H1 .refl r1 p _ hp ?_⟩
        · rw [Int.sub_zero]
          exact Nat.le_trans c2 (by decide)
        · have := rgV_list (K := X.K) (F := F1) 0 j0
          rw [Int.sub_zero] at this
          exact RVs.of_all this
      · exact h1.elim
    · exact h1.elim
  · exact h1.elim
end

/-! ### two clauses -/
/-- later: the store's places kept, more known -/
structure Lat (ι0 : Nat → Addr) (F0 : Hp) (n0 : Nat) (ι : Nat → Addr) (F : Hp) (n : Nat) : Prop where
  le : n0 ≤ n
  ag : ∀ k, k < n0 → ι k = ι0 k
  ff : Same F0 F
def lc2Go (tg : Tg) (tt : DB) (it1 : IT) (tg1 : Tg) (tt1 : DB) (el : DE) (vs1 : List Nat) (sl : Sl) : Nat → List PyData → Sto → R (List Val)
  | _, [], S => .ok [] S
  | n, d :: ds, S => match setT tg d sl with
    | none => .bad
    | some sl2 => nb (tt sl2 S) fun b S1 => if b = true then nb (it1 sl2 S1) fun es S2 => (lcGo tg1 tt1 el (wipeS sl2 vs1) n es S2).bind fun xs S3 => (lc2Go tg tt it1 tg1 tt1 el vs1 sl (n + xs.length) ds S3).bind fun ys S4 => .ok (xs ++ ys) S4
      else lc2Go tg tt it1 tg1 tt1 el vs1 sl n ds S1
def lc2F (own vs1 : List Nat) (it : IT) (tg : Tg) (tt : DB) (it1 : IT) (tg1 : Tg) (tt1 : DB) (el : DE) : DF := fun sl S => (it sl S).bind fun ds S1 => lc2Go tg tt it1 tg1 tt1 el vs1 (wipeS sl own) 0 ds S1
section
variable {K : PySem.W.Frag} {mg : Str → Option Value} {W : WX} {σ : CxSt} {D : Addr} {P : List Val → Sto → (Nat → Addr) → Hp → Hp → Prop}
theorem Lat.refl {ι : Nat → Addr} {F : Hp} {n : Nat} : Lat ι F n ι F n := ⟨Nat.le_refl _, fun _ _ => rfl, Same.refl _⟩
theorem Stp.lat {ι ι' : Nat → Addr} {F H F' H' : Hp} {n n' : Nat} (s : Stp ι F H n ι' F' H' n') : Lat ι F n ι' F' n' := ⟨s.le, s.ag, s.ff⟩
theorem Lat.trans {ι0 ι1 ι2 : Nat → Addr} {F0 F1 F2 : Hp} {n0 n1 n2 : Nat} (a : Lat ι0 F0 n0 ι1 F1 n1) (b : Lat ι1 F1 n1 ι2 F2 n2) : Lat ι0 F0 n0 ι2 F2 n2 :=
  ⟨Nat.le_trans a.le b.le, fun k hk => (b.ag k (Nat.lt_of_lt_of_le hk a.le)).trans (a.ag k hk), a.ff.trans b.ff⟩
theorem SlR.lat {ι0 ι : Nat → Addr} {F0 F : Hp} {n0 n : Nat} {sl : Sl} (h : SlR K ι0 F0 n0 σ sl) (l : Lat ι0 F0 n0 ι F n) : SlR K ι F n σ sl := fun i x e =>
  let ⟨v, e1, r⟩ := h i x e; ⟨v, e1, r.mono l.le l.ag l.ff⟩
/-- the list at D under way: m is what is still to be reckoned, from the items so far and the store -/
def Cur (K : PySem.W.Frag) (mg : Str → Option Value) (W : WX) (σ : CxSt) (D : Addr) (P : List Val → Sto → (Nat → Addr) → Hp → Hp → Prop) (ι0 : Nat → Addr) (F0 : Hp) (n0 : Nat) (m : List Val → Sto → R (List Val)) (H : Hp) : Prop :=
  ∃ (ι : Nat → Addr) (F G : Hp) (S : Sto) (acc : List V) (ax : List Val), H = upd G D (.lst acc) ∧ G D = none ∧ Rel K ι F G S ∧ Lat ι0 F0 n0 ι F S.length ∧ RVs K ι F S.length acc ax ∧ Aft K mg W σ ι F G S.length (m ax S) P
theorem Cur.lat {ι0 ι1 : Nat → Addr} {F0 F1 : Hp} {n0 n1 : Nat} {m : List Val → Sto → R (List Val)} {H : Hp} (c : Cur K mg W σ D P ι1 F1 n1 m H) (l : Lat ι0 F0 n0 ι1 F1 n1) : Cur K mg W σ D P ι0 F0 n0 m H :=
  let ⟨ι, F, G, S, acc, ax, e, hG, rel, l1, ra, af⟩ := c
  ⟨ι, F, G, S, acc, ax, e, hG, rel, l.trans l1, ra, af⟩
/-- the turns of one clause, whatever comes behind -/
theorem lc_turn {tg : Tg} {tt : DB} {el : DE} {J : It} {items : List PyData} {M : List Val → Sto → R (List Val)} {ι0 : Nat → Addr} {F0 : Hp} {n0 : Nat} {τ : CxSt} {slw : Sl} {vs : List Nat} (hJ : ItOk K F0 J items) (hx : ∀ i ∈ tg.ix, i ∈ vs)
    (hs : SlR K ι0 F0 n0 (L2.wipe τ vs) slw) (hz : slw.length ≤ (L2.wipe τ vs).length) {i : Nat} {H : Hp} (hi : i ≤ items.length)
    (c : Cur K mg W σ D P ι0 F0 n0 (fun ax S => (lcGo tg tt el slw ax.length (items.drop i) S).bind fun xs S' => M (ax ++ xs) S') H) :
    (J.stop i H ∧ Cur K mg W σ D P ι0 F0 n0 M H) ∨ (J.go i H ∧ i < items.length ∧ ∀ x H', J.yld i H x H' → tg.g K x (L2.wipe τ vs) H' fun σ2 H2 => L2.wipe σ2 vs = L2.wipe τ vs ∧ tB K mg W0 tt σ2 H2 fun b H3 =>
      if b = true then tE K mg W0 el σ2 H3 fun y H4 => ∃ acc, H4 D = some (.lst acc) ∧ acc.length < sizeLine ∧ Cur K mg W σ D P ι0 F0 n0 (fun ax S => (lcGo tg tt el slw ax.length (items.drop (i + 1)) S).bind fun xs S' => M (ax ++ xs) S') (upd H4 D (.lst (acc ++ [y])))
      else Cur K mg W σ D P ι0 F0 n0 (fun ax S => (lcGo tg tt el slw ax.length (items.drop (i + 1)) S).bind fun xs S' => M (ax ++ xs) S') H3) := by
  obtain ⟨ι, F, G, S, acc, ax, rfl, hG, rel, la, ra, af⟩ := c
  have relA : Rel K ι F (upd G D (.lst acc)) S := rel.beside hG
  by_cases hlt : i < items.length
  · refine .inr ⟨hJ.go i F _ hlt la.ff relA.sub, hlt, fun x H2 hy => ?_⟩
    obtain ⟨d, F2, ed, g2, dx⟩ := hJ.yld i F _ x H2 hlt la.ff relA.sub hy
    have edr : items.drop i = d :: items.drop (i + 1) := by
      rw [List.drop_eq_getElem_cons hlt]
      rw [List.getElem?_eq_getElem hlt] at ed
      rw [Option.some.inj ed]
    rw [edr] at af
    unfold lcGo at af
    cases es : setT tg d slw with
    | none => rw [es] at af; exact af.elim
    | some sl' =>
      rw [es] at af
      dsimp only at af
      have rel2 : Rel K ι F2 H2 S := relA.grow g2
      have stA : Stp ι F (upd G D (.lst acc)) S.length ι F2 H2 S.length := g2.stp
      have hs2 : SlR K ι F2 S.length (L2.wipe τ vs) slw := (hs.lat la).stp stA
      refine Tg.ok es dx g2.sub hs2 hz fun σ2 h2 l2 l3 w2 => ⟨by rw [w2 vs hx, wipe_wipe], ?_⟩
      have hz2 : sl'.length ≤ σ2.length := by rw [l2, l3]; exact hz
      have ntt : ∃ b S2, tt sl' S = .ok b S2 ∧ Aft K mg W σ ι F G S.length ((if b = true then nb (el sl' S2) fun x S3 => if ax.length < sizeLine then (lcGo tg tt el slw (ax.length + 1) (items.drop (i + 1)) S3).bind fun xs S4 => .ok (x :: xs) S4 else .bad
          else lcGo tg tt el slw ax.length (items.drop (i + 1)) S2).bind fun xs S' => M (ax ++ xs) S') P := by
        cases e : tt sl' S with
        | ok b S2 => rw [e] at af; exact ⟨b, S2, rfl, af⟩
        | er x S2 => rw [e] at af; exact af.elim
        | bad => rw [e] at af; exact af.elim
      obtain ⟨b, S2, eb, af⟩ := ntt
      refine ⟨ι, F2, S, sl', hz2, h2, rel2, ?_⟩
      rw [eb]
      intro ι3 F3 H3 st3 rel3
      have stB := stA.trans st3
      cases b with
      | false =>
        obtain ⟨stH, hDd, f0, nD⟩ := Stp.hide rel hG stB
        refine iteF ⟨ι3, F3, hid H3 D, S2, acc, ax, (upd_hid_self hDd).symm, hid_self, rel3.hide f0 nD, la.trans stH.lat, ra.stp stH, ?_⟩
        exact Aft.stp (by simpa using af) stH
      | true =>
        refine iteT ?_
        rw [if_pos rfl] at af
        have nel : ∃ y S3, el sl' S2 = .ok y S3 ∧ ax.length < sizeLine ∧ Aft K mg W σ ι F G S.length ((lcGo tg tt el slw (ax.length + 1) (items.drop (i + 1)) S3).bind fun xs S' => M (ax ++ y :: xs) S') P := by
          cases e : el sl' S2 with
          | ok y S3 =>
            rw [e] at af
            simp only [DV.nb] at af
            by_cases hsz : ax.length < sizeLine
            · rw [if_pos hsz] at af
              refine ⟨y, S3, rfl, hsz, ?_⟩
              cases e4 : lcGo tg tt el slw (ax.length + 1) (items.drop (i + 1)) S3 with
              | ok xs S4 => rw [e4] at af; exact af
              | er x S4 => rw [e4] at af; exact af
              | bad => rw [e4] at af; exact af.elim
            · rw [if_neg hsz] at af; exact af.elim
          | er x S3 => rw [e] at af; exact af.elim
          | bad => rw [e] at af; exact af.elim
        obtain ⟨y, S3, ey, hsz, af⟩ := nel
        refine ⟨ι3, F3, S2, sl', hz2, h2.stp st3, rel3, ?_⟩
        rw [ey]
        intro ι4 F4 H4 st4 rel4 v rv
        have stC := stB.trans st4
        obtain ⟨stH, hDd, f0, nD⟩ := Stp.hide rel hG stC
        refine ⟨acc, hDd, by rw [ra.length]; exact hsz, ι4, F4, hid H4 D, S3, acc ++ [v], ax ++ [y], upd_hid.symm, hid_self, rel4.hide f0 nD, la.trans stH.lat, (ra.stp stH).append (.cons rv .nil), ?_⟩
        have e5 : (ax ++ [y]).length = ax.length + 1 := by simp
        refine Aft.stp ?_ stH
        have e6 : ∀ xs, ax ++ [y] ++ xs = ax ++ y :: xs := fun xs => by simp
        simp only [e5, e6]
        exact af
  · have hie : i = items.length := by omega
    subst hie
    refine .inl ⟨hJ.stop _ F _ (Nat.le_refl _) la.ff relA.sub, ι, F, G, S, acc, ax, rfl, hG, rel, la, ra, ?_⟩
    rw [List.drop_length] at af
    simp only [lcGo, R.bind, List.append_nil] at af
    exact af
theorem lc2_ok {own vs1 : List Nat} {tg tg1 : Tg} {tt tt1 : DB} {el : DE} {it it1 : IT} (hx : ∀ i ∈ tg.ix, i ∈ own) (hx1 : ∀ i ∈ tg1.ix, i ∈ vs1) {H : Hp} {Q : VK} (h : tF K mg W (lc2F own vs1 it tg tt it1 tg1 tt1 el) σ H Q) :
    tLc2 (tI K mg W it) (tg.g K) (tB K mg W0 tt) (tI K mg W0 it1) (tg1.g K) (tB K mg W0 tt1) (tE K mg W0 el) own vs1 σ H Q := by
  obtain ⟨ι, F, S, sl, hz, hs, rel, q⟩ := h
  refine ⟨ι, F, S, sl, hz, hs, rel, Aft.imp (Aft.bind q) fun items S1 ι1 F1 H1 ⟨s1, r1, h1⟩ J hJ D hD => ?_⟩
  have hzw : (wipeS sl own).length ≤ (L2.wipe σ own).length := by rw [wipeS_length, wipe_length]; exact hz
  have hsw : SlR K ι1 F1 S1.length (L2.wipe σ own) (wipeS sl own) := (hs.stp s1).wipe own
  let P : List Val → Sto → (Nat → Addr) → Hp → Hp → Prop := fun xs S' ι' F' H' => ∀ p us, H' p = none → RVs K ι' F' S'.length us xs → Q (.ref p) (upd H' p (.lst us))
  let go : Nat → List Val → Sto → R (List Val) := fun i ax S => (lc2Go tg tt it1 tg1 tt1 el vs1 (wipeS sl own) ax.length (items.drop i) S).bind fun xs S' => .ok (ax ++ xs) S'
  refine ⟨fun i m H => m = items.length - i ∧ i ≤ items.length ∧ Cur K mg W σ D P ι1 F1 S1.length (go i) H, ⟨items.length, rfl, Nat.zero_le _, ι1, F1, H1, S1, [], [], rfl, hD, r1, .refl, .nil, ?_⟩, ?_⟩
  · show Aft K mg W σ ι1 F1 H1 S1.length ((lc2Go tg tt it1 tg1 tt1 el vs1 (wipeS sl own) 0 items S1).bind fun xs S' => .ok ([] ++ xs) S') P
    cases e : lc2Go tg tt it1 tg1 tt1 el vs1 (wipeS sl own) 0 items S1 with
    | ok xs S' => rw [e] at h1; exact h1
    | er x S' => rw [e] at h1; exact h1
    | bad => rw [e] at h1; exact h1.elim
  · rintro i m _ ⟨rfl, hi, ι, F, G, S, acc, ax, rfl, hG, rel, la, ra, af⟩
    have relA : Rel K ι F (upd G D (.lst acc)) S := rel.beside hG
    by_cases hlt : i < items.length
    · refine .inr ⟨hJ.go i F _ hlt la.ff relA.sub, fun H => Cur K mg W σ D P ι1 F1 S1.length (go (i + 1)) H, fun H' c => ⟨items.length - (i + 1), by omega, rfl, hlt, c⟩, fun x H2 hy => ?_⟩
      obtain ⟨d, F2, ed, g2, dx⟩ := hJ.yld i F _ x H2 hlt la.ff relA.sub hy
      have edr : items.drop i = d :: items.drop (i + 1) := by
        rw [List.drop_eq_getElem_cons hlt]
        rw [List.getElem?_eq_getElem hlt] at ed
        rw [Option.some.inj ed]
      have af : Aft K mg W σ ι F G S.length ((lc2Go tg tt it1 tg1 tt1 el vs1 (wipeS sl own) ax.length (items.drop i) S).bind fun xs S' => .ok (ax ++ xs) S') P := af
      rw [edr] at af
      unfold lc2Go at af
      cases es : setT tg d (wipeS sl own) with
      | none => rw [es] at af; exact af.elim
      | some sl' =>
        rw [es] at af
        dsimp only at af
        have rel2 : Rel K ι F2 H2 S := relA.grow g2
        have stA : Stp ι F (upd G D (.lst acc)) S.length ι F2 H2 S.length := g2.stp
        have hs2 : SlR K ι F2 S.length (L2.wipe σ own) (wipeS sl own) := (hsw.lat la).stp stA
        refine Tg.ok es dx g2.sub hs2 hzw fun σ2 h2 l2 l3 w2 => ⟨by rw [w2 own hx, wipe_wipe], ?_⟩
        have hz2 : sl'.length ≤ σ2.length := by rw [l2, l3]; exact hzw
        have ntt : ∃ b S2, tt sl' S = .ok b S2 ∧ Aft K mg W σ ι F G S.length ((if b = true then nb (it1 sl' S2) fun es S2 => (lcGo tg1 tt1 el (wipeS sl' vs1) ax.length es S2).bind fun xs S3 => (lc2Go tg tt it1 tg1 tt1 el vs1 (wipeS sl own) (ax.length + xs.length) (items.drop (i + 1)) S3).bind fun ys S4 => .ok (xs ++ ys) S4
            else lc2Go tg tt it1 tg1 tt1 el vs1 (wipeS sl own) ax.length (items.drop (i + 1)) S2).bind fun xs S' => .ok (ax ++ xs) S') P := by
          cases e : tt sl' S with
          | ok b S2 => rw [e] at af; exact ⟨b, S2, rfl, af⟩
          | er x S2 => rw [e] at af; exact af.elim
          | bad => rw [e] at af; exact af.elim
        obtain ⟨b, S2, eb, af⟩ := ntt
        refine ⟨ι, F2, S, sl', hz2, h2, rel2, ?_⟩
        rw [eb]
        intro ι3 F3 H3 st3 rel3
        have stB := stA.trans st3
        cases b with
        | false =>
          obtain ⟨stH, hDd, f0, nD⟩ := Stp.hide rel hG stB
          refine iteF ⟨ι3, F3, hid H3 D, S2, acc, ax, (upd_hid_self hDd).symm, hid_self, rel3.hide f0 nD, la.trans stH.lat, ra.stp stH, ?_⟩
          exact Aft.stp (by simpa using af) stH
        | true =>
          refine iteT ?_
          rw [if_pos rfl] at af
          have nit : ∃ es S3, it1 sl' S2 = .ok es S3 ∧ Aft K mg W σ ι F G S.length ((lcGo tg1 tt1 el (wipeS sl' vs1) ax.length es S3).bind fun xs S' => go (i + 1) (ax ++ xs) S') P := by
            cases e : it1 sl' S2 with
            | ok es S3 =>
              rw [e] at af
              simp only [DV.nb] at af
              refine ⟨es, S3, rfl, ?_⟩
              cases e4 : lcGo tg1 tt1 el (wipeS sl' vs1) ax.length es S3 with
              | ok xs S4 =>
                rw [e4] at af
                show Aft K mg W σ ι F G S.length ((lc2Go tg tt it1 tg1 tt1 el vs1 (wipeS sl own) (ax ++ xs).length (items.drop (i + 1)) S4).bind fun ys S' => .ok ((ax ++ xs) ++ ys) S') P
                rw [List.length_append]
                simp only [R.bind] at af
                cases e5 : lc2Go tg tt it1 tg1 tt1 el vs1 (wipeS sl own) (ax.length + xs.length) (items.drop (i + 1)) S4 with
                | ok ys S5 =>
                  rw [e5] at af
                  simp only [R.bind, List.append_assoc]
                  exact af
                | er x S5 => rw [e5] at af; exact af
                | bad => rw [e5] at af; exact af.elim
              | er x S4 => rw [e4] at af; exact af
              | bad => rw [e4] at af; exact af.elim
            | er x S3 => rw [e] at af; exact af.elim
            | bad => rw [e] at af; exact af.elim
          obtain ⟨es1, S3, ei, af⟩ := nit
          refine ⟨ι3, F3, S2, sl', hz2, h2.stp st3, rel3, ?_⟩
          rw [ei]
          intro ι4 F4 H4 st4 rel4 J1 hJ1
          have stC := stB.trans st4
          obtain ⟨stH, hDd, f0, nD⟩ := Stp.hide rel hG stC
          have lt4 : Lat ι1 F1 S1.length ι4 F4 S3.length := la.trans stH.lat
          have hs4 : SlR K ι4 F4 S3.length (L2.wipe σ2 vs1) (wipeS sl' vs1) := ((h2.stp st3).stp st4).wipe vs1
          have hz4 : (wipeS sl' vs1).length ≤ (L2.wipe σ2 vs1).length := by rw [wipeS_length, wipe_length]; exact hz2
          refine ⟨fun j k H => k = es1.length - j ∧ j ≤ es1.length ∧ Cur K mg W σ D P ι4 F4 S3.length (fun ax S => (lcGo tg1 tt1 el (wipeS sl' vs1) ax.length (es1.drop j) S).bind fun xs S' => go (i + 1) (ax ++ xs) S') H,
            ⟨es1.length, rfl, Nat.zero_le _, ι4, F4, hid H4 D, S3, acc, ax, (upd_hid_self hDd).symm, hid_self, rel4.hide f0 nD, .refl, ra.stp stH, Aft.stp af stH⟩, ?_⟩
          rintro j k H ⟨rfl, hj, c⟩
          rcases lc_turn hJ1 hx1 hs4 hz4 hj c with ⟨hst, c⟩ | ⟨hgo, hjl, turn⟩
          · exact .inl ⟨hst, c.lat lt4⟩
          · exact .inr ⟨hgo, fun H => Cur K mg W σ D P ι4 F4 S3.length (fun ax S => (lcGo tg1 tt1 el (wipeS sl' vs1) ax.length (es1.drop (j + 1)) S).bind fun xs S' => go (i + 1) (ax ++ xs) S') H, fun H' c => ⟨es1.length - (j + 1), by omega, rfl, hjl, c⟩, turn⟩
    · have hie : i = items.length := by omega
      subst hie
      refine .inl ⟨hJ.stop _ F _ (Nat.le_refl _) la.ff relA.sub, ?_⟩
      have af : Aft K mg W σ ι F G S.length ((lc2Go tg tt it1 tg1 tt1 el vs1 (wipeS sl own) ax.length (items.drop items.length) S).bind fun xs S' => .ok (ax ++ xs) S') P := af
      rw [List.drop_length] at af
      simp only [lc2Go, R.bind, List.append_nil] at af
      exact af ι F G .refl rel D acc hG ra
end
section
variable {X : Cx} {W : WX} {pos : Pos}
theorem f_lc2 {elt tg iter tg1 iter1 : Expr} {ifs ifs1 : List Expr} {scope : Scope} {own : List (Str × Nat)} {vs1 : List Nat} {it it1 : IT} {t t1 : Tg} {tt tt1 : DB} {el : DE} (hc : X.calm = true) (hN : X.N.Nodup) (hi : QI X W tg iter it) (ok : BlkOk X.N X.env.scope scope own)
    (hv : ∀ i ∈ vs1, i ∈ own.map (·.2)) (hx : ∀ i ∈ t.ix, i ∈ own.map (·.2)) (hx1 : ∀ i ∈ t1.ix, i ∈ vs1)
    (hg : InBlk X scope fun Y => PG Y tg (t.g X.K)) (ht : InBlk X scope fun Y => QTs Y W0 ifs tt) (hi1 : InBlk X scope fun Y => QI Y W0 tg1 iter1 it1) (hg1 : InBlk X scope fun Y => PG Y tg1 (t1.g X.K)) (ht1 : InBlk X scope fun Y => QTs Y W0 ifs1 tt1)
    (he : InBlk X scope fun Y => QE Y W0 elt el) (hs : ∀ x, foldedSetIterable iter X.env x = pure x := by intro _; rfl) (hs1 : ∀ env x, foldedSetIterable iter1 env x = pure x := by intro _ _; rfl) :
    QF X W (.ListComp elt [⟨tg, iter, ifs, 0⟩, ⟨tg1, iter1, ifs1, 0⟩] scope pos) (lc2F (own.map (·.2)) vs1 it t tt it1 t1 tt1 el) :=
  PE.imp (pe_lc2 (tt := tB X.K X.mg W0 tt) (te := tE X.K X.mg W0 el) (wi1 := tI X.K X.mg W0 it1) (tt1 := tB X.K X.mg W0 tt1) hc hN hi ok hv hg ht hi1 hg1 ht1 he hs hs1) fun σ H Q q => lc2_ok hx hx1 q

/-! ### given to a name on the same line -/
theorem own_imp {K : PySem.W.Frag} {mg : Str → Option Value} {W : WX} {g : DF} {σ : CxSt} {H : Hp} {Q : VK} (q : tE K mg W (ownE g) σ H Q) : tF K mg W g σ H Q := by
  obtain ⟨ι, F, S, sl, hz, hs, rel, q⟩ := q
  refine ⟨ι, F, S, sl, hz, hs, rel, Aft.imp (Aft.bind q) fun xs S1 ι1 F1 H1 ⟨s1, r1, h1⟩ p us hp rus => ?_⟩
  obtain ⟨ι', s', r', at_⟩ := own_new r1 hp rus
  exact h1 ι' _ _ s' r' _ ⟨by simp, by rw [at_]⟩
theorem frz_imp {K : PySem.W.Frag} {mg : Str → Option Value} {W : WX} {g : DF} {σ : CxSt} {H : Hp} {Q : VK} (q : tE K mg W (frzE g) σ H Q) : tF K mg W g σ H Q := by
  obtain ⟨ι, F, S, sl, hz, hs, rel, q⟩ := q
  refine ⟨ι, F, S, sl, hz, hs, rel, Aft.imp (Aft.bind q) fun xs S1 ι1 F1 H1 ⟨s1, r1, h1⟩ p us hp rus => ?_⟩
  split at h1
  · rename_i ds S2 e2
    obtain ⟨F2, g2, d2⟩ := frzL_ok e2 r1 rus
    have g := Grow.new (o := .lst us) g2.2.2.sub hp
    exact h1 ι1 _ _ (g2.2.1.trans g.stp) (g2.2.2.grow g) _ (.lst upd_same (DqAll.mono g.ff _ _ d2))
  · exact h1.elim
/-- either way of keeping a new list -/
inductive Keeps : (DF → DE) → Prop
  | own : Keeps ownE
  | frz : Keeps frzE
theorem Keeps.imp {kp : DF → DE} (k : Keeps kp) {K : PySem.W.Frag} {mg : Str → Option Value} {W : WX} {g : DF} {σ : CxSt} {H : Hp} {Q : VK} (q : tE K mg W (kp g) σ H Q) : tF K mg W g σ H Q := by
  cases k with
  | own => exact own_imp q
  | frz => exact frz_imp q
theorem s_setLc {kp : DF → DE} {i : Nat} {y : Str} {py spos : Pos} {elt tg iter : Expr} {ifs : List Expr} {scope : Scope} {own : List (Str × Nat)} {it : IT} {t : Tg} {tt : DB} {el : DE} (k : Keeps kp) (hc : X.calm = true) (hN : X.N.Nodup) (hy : X.N[i]? = some y) (hyl : X.env.scope.names.lookup y = some .local)
    (hsw : swapsWith (.ListComp elt [⟨tg, iter, ifs, 0⟩] scope pos) (some (.Name y py)) spos.line X.env = pure true) (hi : QI X W tg iter it) (ok : BlkOk X.N X.env.scope scope own) (hx : ∀ i ∈ t.ix, i ∈ own.map (·.2))
    (hg : InBlk X scope fun Y => PG Y tg (t.g X.K)) (ht : InBlk X scope fun Y => QTs Y W0 ifs tt) (he : InBlk X scope fun Y => QE Y W0 elt el) (hs : ∀ x, foldedSetIterable iter X.env x = pure x := by intro _; rfl) :
    QS X W (.Assign [.Name y py] (.ListComp elt [⟨tg, iter, ifs, 0⟩] scope pos) spos) (asgS i (kp (lcF (own.map (·.2)) it t tt el))) :=
  PS.imp (ps_setLc (tt := tB X.K X.mg W0 tt) (te := tE X.K X.mg W0 el) hc hN hy hyl hsw hi ok hg ht he hs) fun D σ H q => lc_ok hx (k.imp (asg_ok q))
theorem s_setLc2 {kp : DF → DE} {i : Nat} {y : Str} {py spos : Pos} {elt tg iter tg1 iter1 : Expr} {ifs ifs1 : List Expr} {scope : Scope} {own : List (Str × Nat)} {vs1 : List Nat} {it it1 : IT} {t t1 : Tg} {tt tt1 : DB} {el : DE} (k : Keeps kp) (hc : X.calm = true) (hN : X.N.Nodup) (hy : X.N[i]? = some y) (hyl : X.env.scope.names.lookup y = some .local)
    (hsw : swapsWith (.ListComp elt [⟨tg, iter, ifs, 0⟩, ⟨tg1, iter1, ifs1, 0⟩] scope pos) (some (.Name y py)) spos.line X.env = pure true) (hi : QI X W tg iter it) (ok : BlkOk X.N X.env.scope scope own)
    (hv : ∀ i ∈ vs1, i ∈ own.map (·.2)) (hx : ∀ i ∈ t.ix, i ∈ own.map (·.2)) (hx1 : ∀ i ∈ t1.ix, i ∈ vs1)
    (hg : InBlk X scope fun Y => PG Y tg (t.g X.K)) (ht : InBlk X scope fun Y => QTs Y W0 ifs tt) (hi1 : InBlk X scope fun Y => QI Y W0 tg1 iter1 it1) (hg1 : InBlk X scope fun Y => PG Y tg1 (t1.g X.K)) (ht1 : InBlk X scope fun Y => QTs Y W0 ifs1 tt1)
    (he : InBlk X scope fun Y => QE Y W0 elt el) (hs : ∀ x, foldedSetIterable iter X.env x = pure x := by intro _; rfl) (hs1 : ∀ env x, foldedSetIterable iter1 env x = pure x := by intro _ _; rfl) :
    QS X W (.Assign [.Name y py] (.ListComp elt [⟨tg, iter, ifs, 0⟩, ⟨tg1, iter1, ifs1, 0⟩] scope pos) spos) (asgS i (kp (lc2F (own.map (·.2)) vs1 it t tt it1 t1 tt1 el))) :=
  PS.imp (ps_setLc2 (tt := tB X.K X.mg W0 tt) (te := tE X.K X.mg W0 el) (wi1 := tI X.K X.mg W0 it1) (tt1 := tB X.K X.mg W0 tt1) hc hN hy hyl hsw hi ok hv hg ht hi1 hg1 ht1 he hs hs1) fun D σ H q => lc2_ok hx hx1 (k.imp (asg_ok q))
end
end DV
set_option Elab.async false
set_option linter.all false
set_option maxRecDepth 100000
namespace DV
open PySem PySem.Spec PyProof.Rows L2
/-- a def of the top that stands under its own name -/
abbrev FnD (K : PySem.W.Frag) (x : Str) (st : Stmt) (f : Addr) (fd : FuncData) : Prop := FunD K x x (defArgs st) (defBody st) (defScope st) [] [] f fd
/-- the script as data -/
def scrD (ns : List Int) : PyData := .dict [(.none, .list (ns.map .int))]
theorem law_sp {K : PySem.W.Frag} {mg : Str → Option Value} {Fn : FnP} {H : Hp} {a : Addr} {ns : List Int} (hS : SqL K H a (ns.map V.int)) (e : Fn [scrD ns] = .ok (.bool true)) :
    spP K mg 1 Fn [.ref a] H (fun v _ => v = .bl true) fun _ _ _ => False := by
  refine ⟨H, [scrD ns], rfl, Same.refl _, .cons (.scr hS (DqAll.of_ints ns)) .nil, ?_⟩
  rw [e]
  intro v H' F' _ dv
  cases dv
  rfl
theorem cx_law {P : Program} {w : World} {H : Hp} {s : Shared} {e : Value} {s' : Shared} (h : L2.CX P w [] H s (fun _ _ _ => False) e s') : False := by
  obtain ⟨_, _, _, _, _, _, _, _, _, _, _, _, z⟩ := h
  exact z
theorem walk_law {l : PySem.W.OpenLaw} {n k : Nat} {q : Program} {loose : List Str} {XP : (Str → Option Value) → Heap → Prop} {YP : World → Heap → Prop} {d : DefRec} {x : Str}
    (hn : l.most = some n) (hn2 : n ≤ sizeLine) (hdf : d.params.defaults = []) (hr : Room k callerA)
    (F : ∀ (w : World) (mg : Str → Option Value) (fa : Addr) (h : Heap), YP w h → h.Ns mainGlobals mg → mg d.name = some (.ref fa) → ∃ (K : PySem.W.Frag) (fd : FuncData) (sp : Sp), K.In h ∧ (∀ (s : Shared) (u : Value), BindsTo s fd ⟨[u], []⟩ [(x, u)]) ∧
        (∀ (H : Hp) (a : Addr) (ns : List Int), ns.length ≤ n → SqL K H a (ns.map V.int) → sp [.ref a] H (fun v _ => v = .bl true) fun _ _ _ => False) ∧
        ∀ base : Heap, K.In base → base.Ns mainGlobals mg → FnOk l.prog w K mg base (L2.CX l.prog w) k fa fd [x] sp) :
    PySem.W.WalkO q loose XP YP l.row.toRowW d [] (fun f vs => PySem.call f vs) := by
  refine Att.attach_call hn hdf fun w s₀ s₁ mg mb fa o pm cd doc a vs ns G Y ho hd hcd hmg hobj hints hlen hg => ?_
  obtain ⟨K, fd, sp, KX, hb, hsp, hF⟩ := F w mg fa _ Y G.T.g hmg
  exact law_call KX G.T.g G.T.b G.T.builtins G.T.nolimit hg hobj hints (Nat.le_trans hlen hn2) hr hF hb (fun H _ hS => hsp H a ns hlen hS) fun H e s' => cx_law
end DV
set_option Elab.async false
set_option linter.all false
set_option maxRecDepth 100000
namespace DV
open PySem PySem.Spec PyProof.Rows L2
/-- a def that may be called by its name -/
inductive CalP (P : Program) (w : World) (K : PySem.W.Frag) (mg : Str → Option Value) (base : Heap) (x : Str) (k : Nat) (ps : List Str) (Fn : FnP) : Prop
  | mk {f : Addr} {fd : FuncData} (ok : FnOk P w K mg base (L2.CX P w) k f fd ps (spP K mg ps.length Fn)) (hm : mg x = some (.ref f)) (kp : PySem.W.keepIn K (.ref f) = true) (bd : Binds K fd ps []) (ln : ∀ args x, (Fn args = .ok x ∨ ∃ e, Fn args = .er e) → args.length = ps.length)
inductive CalR (P : Program) (w : World) (K : PySem.W.Frag) (mg : Str → Option Value) (base : Heap) (x : Str) (k : Nat) (ps : List Str) (Fn : FnR) : Prop
  | mk {f : Addr} {fd : FuncData} (ok : FnOk P w K mg base (L2.CX P w) k f fd ps (spR K ps.length Fn)) (hm : mg x = some (.ref f)) (kp : PySem.W.keepIn K (.ref f) = true) (bd : Binds K fd ps []) (ln : ∀ args row x row', Fn args row = .ok x row' → args.length + 1 = ps.length)
structure ExcC (K : PySem.W.Frag) (mg : Str → Option Value) (x : Str) : Prop where
  ex : ∃ C, mg x = some (.ref C) ∧ PySem.W.excIn K C He.veBase "ValueError.__new__" = true ∧ PySem.W.keepIn K (.ref C) = true ∧ PySem.W.subIn K (.ref C) (.type "BaseException") = some true ∧ PySem.W.typeIn K (.ref C) = some (.type "type")
def IsI (mg : Str → Option Value) (x : Str) (i : Int) : Prop := ∃ t, mg x = some (.int i t)
section
variable {X : Cx} {W : WX} {a b c e : Expr} {es : List Expr} {fa fb fc f fr : DE} {la : DL} {ba : DB} {pos p p2 : Pos} {k : Nat} {x : Str} {ps : List Str}
theorem Room.u65 (hr : Room k X.A) : X.A.units + 65 < cLine := by have := hr.un; omega
theorem v_ (i : Nat) {x : Str} {pos : Pos} (hN : X.N[i]? = some x := by rfl) (hv : Vis X.env.scope x := by first | exact Or.inl rfl | exact Or.inr (Or.inl rfl) | exact Or.inr (Or.inr rfl)) (hd : (x == ("__debug__" : Str)) = false := by decide)
    (hcd : (x == ("__classdict__" : Str)) = false := by decide) : QE X W (.Name x pos) (var i) := q_var (pe_var hN hv hd hcd)
theorem c_int {i : Int} (h : IsI X.mg x i) (hg : Gl X x := by rfl) (hd : (x == ("__debug__" : Str)) = false := by decide) : QE X W (.Name x pos) (cst (.int i)) := by
  obtain ⟨t, h⟩ := h
  exact q_cst (pe_glob hg h (show RelV (.int i) (.int i t) from ⟨t, rfl⟩) hd) fun _ => .int _
theorem q_add (ha : QE X W a fa) (hb : QE X W b fb) : QE X W (.BinOp a .Add b pos) (bin addD fa fb) := q_bin op_addA d_add ha hb
theorem q_sub (ha : QE X W a fa) (hb : QE X W b fb) : QE X W (.BinOp a .Sub b pos) (bin subD fa fb) := q_bin op_sub d_sub ha hb
theorem q_mul (ha : QE X W a fa) (hb : QE X W b fb) : QE X W (.BinOp a .Mult b pos) (bin mulD fa fb) := q_bin op_mulA d_mul ha hb
theorem q_div (ha : QE X W a fa) (hb : QE X W b fb) : QE X W (.BinOp a .FloorDiv b pos) (bin divD fa fb) := q_bin op_fdivW d_div ha hb
theorem q_mod (ha : QE X W a fa) (hb : QE X W b fb) : QE X W (.BinOp a .Mod b pos) (bin modD fa fb) := q_bin op_mod d_mod ha hb
theorem q_pow (ha : QE X W a fa) (hb : QE X W b fb) : QE X W (.BinOp a .Pow b pos) (bin powD fa fb) := q_bin op_pow d_pow ha hb
theorem q_neg (ha : QE X W a fa) : QE X W (.UnaryOp .USub a pos) (un negD fa) := q_un un_neg d_neg ha
def ltI : PyData → PyData → Option PyData := cmpI fun i j => decide (i < j)
def leI : PyData → PyData → Option PyData := cmpI fun i j => decide (i ≤ j)
def gtI : PyData → PyData → Option PyData := cmpI fun i j => decide (j < i)
def geI : PyData → PyData → Option PyData := cmpI fun i j => decide (j ≤ i)
/-- an operator of comparison with its function of data -/
structure CmpR (X : Cx) (op : CmpOp) (g : PyData → PyData → Option PyData) : Prop where
  ex : ∃ r, OpR X (compareOp op) r ∧ OpD X.K r g
theorem cEq (hr : Room k X.A) : CmpR X .Eq eqD := ⟨_, op_eqD hr.units, d_eq⟩
theorem cNe (hr : Room k X.A) : CmpR X .NotEq neD := ⟨_, op_neD hr.units, d_ne⟩
theorem cLt : CmpR X .Lt ltI := ⟨_, op_lt, d_cmp⟩
theorem cLe : CmpR X .LtE leI := ⟨_, op_le, d_cmp⟩
theorem cGt : CmpR X .Gt gtI := ⟨_, op_gt, d_cmp⟩
theorem cGe : CmpR X .GtE geI := ⟨_, op_ge, d_cmp⟩
theorem cIs : CmpR X .Is isN := ⟨_, op_isA, d_is⟩
theorem cIsNot : CmpR X .IsNot notN := ⟨_, op_notA, d_isnot⟩
theorem cIn (hr : Room k X.A) : CmpR X .In inD := ⟨_, op_inA (Room.u65 hr), d_in⟩
theorem cNotIn (hr : Room k X.A) : CmpR X .NotIn notInD := ⟨_, op_notInA (Room.u65 hr), d_notin⟩
theorem q_c {op : CmpOp} {g : PyData → PyData → Option PyData} (r : CmpR X op g) (ha : QE X W a fa) (hb : QE X W b fb) (hm : behindInMarks op b = false := by first | exact nomark _ | rfl) : QE X W (.Compare a [op] [b] pos) (bin g fa fb) :=
  let ⟨_, ho, hr⟩ := r.ex; q_cmp ho hr ha hb hm
theorem t_c {op : CmpOp} {g : PyData → PyData → Option PyData} (r : CmpR X op g) (ha : QE X W a fa) (hb : QE X W b fb) (hm : behindInMarks op b = false := by first | exact nomark _ | rfl) : QT X W (.Compare a [op] [b] pos) (asB (bin g fa fb)) :=
  let ⟨_, ho, hr⟩ := r.ex; t_cmp ho hr ha hb hm
theorem q_cc {op op' : CmpOp} {g g' : PyData → PyData → Option PyData} (r : CmpR X op g) (r' : CmpR X op' g') (ha : QE X W a fa) (hb : QE X W b fb) (hc : QE X W c fc) (hm : lastMarks [op, op'] [b, c] = false := by with_unfolding_all rfl) : QE X W (.Compare a [op, op'] [b, c] pos) (chain g g' fa fb fc) :=
  let ⟨_, ho, hr⟩ := r.ex; let ⟨_, ho', hr'⟩ := r'.ex; q_chain ho ho' hr hr' ha hb hc hm
theorem t_cc {op op' : CmpOp} {g g' : PyData → PyData → Option PyData} (r : CmpR X op g) (r' : CmpR X op' g') (ha : QE X W a fa) (hb : QE X W b fb) (hc : QE X W c fc) (hm : lastMarks [op, op'] [b, c] = false := by with_unfolding_all rfl) : QT X W (.Compare a [op, op'] [b, c] pos) (asB (chain g g' fa fb fc)) :=
  let ⟨_, ho, hr⟩ := r.ex; let ⟨_, ho', hr'⟩ := r'.ex; t_chain ho ho' hr hr' ha hb hc hm
/-- built-ins -/
structure BltR (X : Cx) (f : Value) (g : List PyData → Option PyData) : Prop where
  ex : ∃ r, CallR X f r ∧ CaD X.K r g
theorem bLen : BltR X (.builtin "len") lenD := ⟨_, call_lenA, d_len⟩
theorem bAbs : BltR X (.builtin "abs") absD := ⟨_, call_abs, d_abs⟩
theorem bMax2 (hc : X.calm = true) : BltR X (.builtin "max") maxD2 := ⟨_, call_max2 hc, d_max2⟩
theorem bMin2 (hc : X.calm = true) : BltR X (.builtin "min") minD2 := ⟨_, call_min2 hc, d_min2⟩
theorem bAll (hc : X.calm = true) : BltR X (.builtin "all") allBD := ⟨_, cr_all hc, d_all⟩
theorem bAny (hc : X.calm = true) : BltR X (.builtin "any") anyBD := ⟨_, cr_any hc, d_any⟩
theorem bSum (hc : X.calm = true) : BltR X (.builtin "sum") sumD := ⟨_, cr_sum hc, d_sum⟩
theorem bInt : BltR X (.type "int") intD := ⟨_, call_int1, d_int1⟩
theorem bTuple : BltR X (.type "tuple") tupD := ⟨_, call_tuple_of, d_tuple⟩
theorem bStr : BltR X (.type "str") strD := ⟨_, call_str_int, d_str⟩
theorem q_b {id : String} {g : List PyData → Option PyData} (r : BltR X (.builtin id) g) (hm : X.mg x = none) (hv : bootBuiltins x = some (.builtin id)) (ha : QA X W (e :: es) la) (hg : Gl X x := by rfl) (hn : x ≠ "__name__" := by decide) (hdb : (x == ("__debug__" : Str)) = false := by decide)
    (hs : starEach (e :: es) X.env = (false, eval e X.env) :: starEach es X.env := by rfl) (hpl : (backTo pos (starEach es X.env)).any (·.1) = false := by rfl) : QE X W (.Call (.Name x p) (e :: es) [] pos) (blt g la) :=
  let ⟨_, ho, hr⟩ := r.ex; q_blt hr (pe_callB ho hg hm hv ha hn hdb hs hpl)
theorem q_bt {T : String} {g : List PyData → Option PyData} (r : BltR X (.type T) g) (hm : X.mg x = none) (hv : bootBuiltins x = some (.type T)) (ha : QA X W (e :: es) la) (hg : Gl X x := by rfl) (hn : x ≠ "__name__" := by decide) (hdb : (x == ("__debug__" : Str)) = false := by decide)
    (hs : starEach (e :: es) X.env = (false, eval e X.env) :: starEach es X.env := by rfl) (hpl : (backTo pos (starEach es X.env)).any (·.1) = false := by rfl) : QE X W (.Call (.Name x p) (e :: es) [] pos) (blt g la) :=
  let ⟨_, ho, hr⟩ := r.ex; q_blt hr (pe_callTy ho hg hm hv ha hn hdb hs hpl)
/-- defs -/
theorem q_p {Fn : FnP} {j : Nat} (G : CalP X.prog X.w X.K X.mg X.base x k ps Fn) (hr : Room j X.A) (hj : k ≤ j) (tk : Takes X W) (ha : QA X W (e :: es) la) (hg : Gl X x := by rfl) (hdb : (x == ("__debug__" : Str)) = false := by decide)
    (he : starEach (e :: es) X.env = (false, eval e X.env) :: starEach es X.env := by rfl) (hpl : (backTo pos (starEach es X.env)).any (·.1) = false := by rfl) : QE X W (.Call (.Name x p) (e :: es) [] pos) (callP Fn la) := by
  obtain ⟨ok, hm, kp, bd, ln⟩ := G
  exact q_callP ok (hr.mono hj) hg hm kp bd tk ln ha hdb he hpl
theorem q_r {Fn : FnR} {j : Nat} (G : CalR X.prog X.w X.K X.mg X.base x k ps Fn) (hr : Room j X.A) (hj : k ≤ j) (tk : Takes X W) (h0 : QE X W e fr) (ha : QA X W es la) (hg : Gl X x := by rfl) (hdb : (x == ("__debug__" : Str)) = false := by decide)
    (he : starEach (e :: es) X.env = (false, eval e X.env) :: starEach es X.env := by rfl) (hpl : (backTo pos (starEach es X.env)).any (·.1) = false := by rfl) : QE X W (.Call (.Name x p) (e :: es) [] pos) (callR Fn fr la) := by
  obtain ⟨ok, hm, kp, bd, ln⟩ := G
  exact q_callR ok (hr.mono hj) hg hm kp bd tk ln h0 ha hdb he hpl
/-- raise X() -/
theorem s_ra (hc : X.calm = true) (tk : Takes X W) (E : ExcC X.K X.mg x) (hg : Gl X x := by rfl) (hdb : (x == ("__debug__" : Str)) = false := by decide) : QS X W (.Raise (some (.Call (.Name x p) [] [] p2)) none pos) (raS x) := by
  obtain ⟨C, g, q, kC, h1, h2⟩ := E.ex
  exact PS.imp (ps_raise hc tk (pmk_own0 PySem.F.excBase_ValueError q g kC (raises_own h1 h2) hg hdb)) fun D σ H ⟨ι, S, S', sl, hz, hs, rel, q⟩ => q ι S H σ _ _ .refl rel hz hs ⟨⟨C, rfl, g⟩, trivial⟩
/-- isinstance -/
theorem q_is {c : String} {y : Str} {py : Pos} (hi : X.mg "isinstance" = none) (hm : X.mg y = none) (hv : bootBuiltins y = some (.type c)) (ha : QE X W a fa) (hg : Gl X "isinstance" := by rfl) (hgy : Gl X y := by rfl) (hn : y ≠ "__name__" := by decide) (hdb : (y == ("__debug__" : Str)) = false := by decide)
    (hs : starEach [a, .Name y py] X.env = (false, eval a X.env) :: starEach [.Name y py] X.env := by rfl) (hpl : (backTo pos (starEach [.Name y py] X.env)).any (·.1) = false := by rfl) (hs2 : starEach [Expr.Name y py] X.env = (false, eval (.Name y py) X.env) :: starEach [] X.env := by rfl) :
    QE X W (.Call (.Name "isinstance" p) [a, .Name y py] [] pos) (isiE c fa) :=
  q_isi (r := tE X.K X.mg W fa) (pe_callB call_isi hg hi PyProof.Rows.boot_isinstance (pa_cons ha (pa_cons (pe_bltn hgy hm hv (show RelV (.ty c) (.type c) from rfl) hn hdb) pa_nil hs2) hs) (by decide) (by decide) hs hpl)
theorem q_is2 {c c2 : String} {y y2 : Str} {py py2 pt : Pos} {kt : Nat} (hi : X.mg "isinstance" = none) (hm : X.mg y = none) (hv : bootBuiltins y = some (.type c)) (hm2 : X.mg y2 = none) (hv2 : bootBuiltins y2 = some (.type c2)) (ha : QE X W a fa) (hg : Gl X "isinstance" := by rfl) (hgy : Gl X y := by rfl) (hgy2 : Gl X y2 := by rfl)
    (hn : y ≠ "__name__" := by decide) (hdb : (y == ("__debug__" : Str)) = false := by decide) (hn2 : y2 ≠ "__name__" := by decide) (hdb2 : (y2 == ("__debug__" : Str)) = false := by decide)
    (hs : starEach [a, .Tuple [.Name y py, .Name y2 py2] kt pt] X.env = (false, eval a X.env) :: starEach [.Tuple [.Name y py, .Name y2 py2] kt pt] X.env := by rfl) (hpl : (backTo pos (starEach [.Tuple [.Name y py, .Name y2 py2] kt pt] X.env)).any (·.1) = false := by rfl) (hs2 : starEach [Expr.Tuple [.Name y py, .Name y2 py2] kt pt] X.env = (false, eval (.Tuple [.Name y py, .Name y2 py2] kt pt) X.env) :: starEach [] X.env := by rfl)
    (hs3 : starEach [Expr.Name y py, .Name y2 py2] X.env = (false, eval (.Name y py) X.env) :: starEach [.Name y2 py2] X.env := by rfl) (hs4 : starEach [Expr.Name y2 py2] X.env = (false, eval (.Name y2 py2) X.env) :: starEach [] X.env := by rfl) :
    QE X W (.Call (.Name "isinstance" p) [a, .Tuple [.Name y py, .Name y2 py2] kt pt] [] pos) (un (isiD2 c c2) fa) :=
  q_isi2 (pe_callB call_isiT hg hi PyProof.Rows.boot_isinstance (pa_cons ha (pa_cons (pe_tup (pa_cons (pe_bltn hgy hm hv (show RelV (.ty c) (.type c) from rfl) hn hdb) (pa_cons (pe_bltn hgy2 hm2 hv2 (show RelV (.ty c2) (.type c2) from rfl) hn2 hdb2) pa_nil hs4) hs3)) pa_nil hs2) hs) (by decide) (by decide) hs hpl)
end
end DV
set_option Elab.async false
set_option linter.all false
set_option maxRecDepth 100000
namespace DV
open PySem PySem.Spec PyProof.Rows L2
/-- a def that calls itself more than so often: nothing is promised -/
theorem cal0 {P : Program} {w : World} {K : PySem.W.Frag} {mg : Str → Option Value} {base : Heap} {x : Str} {k : Nat} {ps : List Str} {f : Addr} {fd : FuncData} (kp : PySem.W.keepIn K (.ref f) = true) (hm : mg x = some (.ref f)) (bd : Binds K fd ps []) :
    CalP P w K mg base x k ps (fun _ => .bad) :=
  ⟨(⟨fun vs H Q E h => by
    obtain ⟨F, args, _, _, _, q⟩ := h
    exact q.elim, fun A outer s H args us vs Q E _ _ _ _ h => by
    obtain ⟨F, args, _, _, _, q⟩ := h
    exact q.elim⟩ : FnOk P w K mg base (L2.CX P w) k f fd ps _), hm, kp, bd, fun _ _ h => h.elim (fun e => nomatch e) fun ⟨_, e⟩ => nomatch e⟩

/-! ### sorted -/
open PySem.W in
def rSorted (K : PySem.W.Frag) : List V → Hp → VK → Prop := fun xs H Q => ∃ (p : Addr) (ys : List V) (ds : List PyData) (G : V → PyData → Prop), xs = [.ref p] ∧ (SqL K H p ys ∨ SqT K H p ys) ∧ DpAll K H ys ds ∧ Paired G ys ds ∧ AllAlike ds ∧ Sortable ds ∧
  (∀ d ∈ ds, d.depth ≤ 60) ∧ ∀ l zs, H l = none → Paired G zs (ds.mergeSort (dataLe false id)) → Q (.ref l) (upd H l (.lst zs))
section
variable {X : Cx}
theorem each_val {G : V → PyData → Prop} : ∀ {ys : List V} {ds : List PyData} {us : List Value}, Paired G ys ds → Vals ys us → PySem.W.EachIs (fun u d => ∃ y, RelV y u ∧ G y d) us ds
  | _, _, _, .nil, .nil => .nil
  | _, _, _, .cons a b, .cons c d => .cons ⟨_, c, a⟩ (each_val b d)
theorem val_each {G : V → PyData → Prop} : ∀ {us : List Value} {ds : List PyData}, PySem.W.EachIs (fun u d => ∃ y, RelV y u ∧ G y d) us ds → ∃ ys, Paired G ys ds ∧ Vals ys us
  | _, _, .nil => ⟨[], .nil, .nil⟩
  | _, _, .cons ⟨y, c, a⟩ t => let ⟨ys, b, d⟩ := val_each t; ⟨y :: ys, .cons a b, .cons c d⟩
theorem each_reads {pins : List (Addr × Obj)} {σ : L2.St} {H : Hp} {s : Shared} (I : Inv X pins σ H s) : ∀ {ys : List V} {ds : List PyData} {us : List Value}, DpAll X.K H ys ds → Vals ys us → PySem.W.EachIs (fun u d => ∃ as, Reads s.heap u d as) us ds
  | _, _, _, .nil, .nil => .nil
  | _, _, _, .cons a b, .cons c d => .cons (Dp.reads I _ _ _ a c) (each_reads I b d)
end
section
variable {X : Cx} {pins : List (Addr × Obj)} {σ : L2.St} {H : Hp} {s : Shared} {E : Value → Shared → Prop} {Q : VK}
open PySem.W in
theorem sorted_coll {r : Addr} (hu : X.A.units + 65 < cLine)
    (hc : wpAny (model X.prog X.w) X.A.in1 (collect (.ref r)) (fun its s1 => ∃ H1 ys ds, ∃ G : V → PyData → Prop, Inv X pins σ H1 s1 ∧ Vals ys its ∧ ys.length ≤ sizeLine ∧ DpAll X.K H1 ys ds ∧ Paired G ys ds ∧ AllAlike ds ∧ Sortable ds ∧ (∀ d ∈ ds, d.depth ≤ 60) ∧
      ∀ l zs, H1 l = none → Paired G zs (ds.mergeSort (dataLe false id)) → Q (.ref l) (upd H1 l (.lst zs))) E s) :
    wpAny (model X.prog X.w) X.A (call (.builtin "sorted") [.ref r]) (EP X pins σ Q) E s := by
  refine PySem.Calls.call_function_entry kind_sorted plain_sorted entry_sorted (args_sorted1 _) ?_
  unfold Builtin.«sorted»
  refine wpAny_bind (m := checkCount "sorted" 1 1 _) (wpAny_pure ?_)
  refine wpAny_bind (wpAny_mono hc (fun its s1 h1 => ?_) fun _ _ e => e)
  obtain ⟨H1, ys, ds, G, I, rv, hz, hdp, hG, hal, hso, hdp60, q⟩ := h1
  have hl := rv.length
  refine wpAny_bind (wpAny_newList ?_ (by omega))
  let D := s1.heap.objs.size
  let hp := s1.heap.push (seqObj "list" its.toArray 0)
  have hD : hp.get? D = some (seqObj "list" its.toArray 0) := Heap.get?_push_size _ rfl
  have old : ∀ b o, s1.heap.get? b = some o → b ≠ D ∧ hp.get? b = some o := fun b o e => ⟨Nat.ne_of_lt (Heap.lt_size e), Heap.get?_push_of_some _ e⟩
  have er := each_reads I hdp rv
  have e := each_val hG rv
  have el := e.length
  have er' : EachIs (fun v b => ∃ as, Reads (sortingHeap hp D its) v b as) its ds := er.mono fun _ _ ⟨as, r⟩ => ⟨as, PyProof.Rows.Reads.keeps (fun b o e => sortingHeap_old (old b o e).1 (old b o e).2) r⟩
  have hg : wpAny (model X.prog X.w) X.A.in1 (call (.builtin "list.sort") [.ref D]) (fun _ s' => EP X pins σ Q (.ref D) s') E { s1 with heap := hp } := by
    refine wpAny_call_entry slot_list_sort ⟨_, hD, rfl⟩ entry_list_sort ?_ (args_list_sort _)
    refine list_sort_vals (κ := dataKind (sortingHeap hp D its) ds) (s := { s1 with heap := hp }) hD ?_ (by omega) ⟨.none, rfl, ?_⟩
    · exact SortsAt.data (s := { s1 with heap := sortingHeap hp D its }) er' hal hso fun d hd => by
        have := hdp60 d hd
        show X.A.units + 1 + 1 + d.depth < cLine
        omega
    · have es := sortVals_data (enc := (id : PyData → PyData)) (h' := sortingHeap hp D its) (bs := ds) false e (by simpa using er') (by simpa using hal)
      rw [List.map_id] at es
      generalize hout : sortVals (dataKind (sortingHeap hp D its) ds) false its its = out at es ⊢
      obtain ⟨zs, pz, vz⟩ := val_each es
      obtain ⟨ep, he'⟩ := PyProof.Rows.sortedHeap_at (vs := its) (out := out.toArray) hD
      have kp : ∀ b o, s1.heap.get? b = some o → (sortedHeap hp D its out.toArray).get? b = some o := fun b o h => by
        rw [PyProof.Rows.sortedHeap_old (old b o h).1 (Heap.lt_size (old b o h).2)]; exact (old b o h).2
      have hzl : zs.length ≤ sizeLine := by
        have h1 := vz.length
        have h2 := es.length
        have h3 := List.length_mergeSort (le := dataLe false (id : PyData → PyData)) ds
        omega
      exact ⟨.ref D, _, I.laid (t' := s1.toks) kp (Nat.le_refl _) (show ObjOk X.prog X.w _ _ _ (.lst zs) from ⟨hzl, out, ep, vz, he'⟩), rfl, q _ _ (I.hok.fresh (Nat.le_refl _)) pz⟩
  refine wpAny_bind (wpAny_holding (wpAny_mono hg (fun _ s' x => ?_) fun _ _ e => e))
  exact wpAny_pure ⟨_, rfl, x⟩
end
section
variable {X : Cx}
theorem call_sorted (hu : X.A.units + 65 < cLine) : CallR X (.builtin "sorted") (rSorted X.K) := by
  rintro pins s σ H _ us Q I r ⟨p, ys, ds, G, rfl, seq, data, hG, al, so, deep, q⟩
  obtain ⟨u, rfl, ru⟩ := vals1 r
  obtain rfl : u = Value.ref p := ru
  have from_ : ∀ (T : String), T = "list" ∨ T = "tuple" → ∀ (its : List Value) (o : Obj) (n : Nat), Vals ys its → ys.length ≤ sizeLine → s.heap.get? p = some o → o.cls = .type T → o.data = .seq its.toArray n → wpAny (model X.prog X.w) X.A (call (.builtin "sorted") [.ref p]) (EP X pins σ Q) X.xe s :=
    fun T hT its o n vals small there cls items => sorted_coll hu (wpAny_collect_seq p hT there cls items (fun h' keeps => ⟨H, ys, ds, G, I.kept keeps, vals, small, data, hG, al, so, deep, q⟩) (by rw [List.size_toArray, ← vals.length]; exact small))
  cases seq with
  | inl l =>
    obtain ⟨its, vals, plain, small⟩ := I.list l
    obtain ⟨o, there, cls, n, items⟩ := plain.isList
    exact from_ "list" (.inl rfl) its o n vals small there cls items
  | inr t =>
    obtain ⟨its, vals, ⟨o, there, cls, n, items⟩, small⟩ := I.tuple t
    exact from_ "tuple" (.inr rfl) its o n vals small there cls items
end
end DV
set_option Elab.async false
set_option linter.all false
set_option maxRecDepth 100000
namespace DV
open PySem PySem.Spec PyProof.Rows L2 PySem.W
/-! ### sorting by insertion -/
def insBy {α : Type} (le : α → α → Bool) (x : α) : List α → List α
  | [] => [x]
  | y :: ys => if le x y then x :: y :: ys else y :: insBy le x ys
def isort {α : Type} (le : α → α → Bool) : List α → List α
  | [] => []
  | x :: xs => insBy le x (isort le xs)
section
variable {α : Type} {le : α → α → Bool}
theorem insBy_perm (x : α) : ∀ ys : List α, (insBy le x ys).Perm (x :: ys)
  | [] => .refl _
  | y :: ys => by
    unfold insBy
    split
    · exact .refl _
    · exact ((insBy_perm x ys).cons y).trans (List.Perm.swap x y ys)
theorem isort_perm : ∀ xs : List α, (isort le xs).Perm xs
  | [] => .refl _
  | x :: xs => (insBy_perm x _).trans ((isort_perm xs).cons x)
theorem insBy_sorted (tr : ∀ a b c, le a b = true → le b c = true → le a c = true) (to : ∀ a b, (le a b || le b a) = true) (x : α) : ∀ ys : List α, ys.Pairwise (fun a b => le a b = true) → (insBy le x ys).Pairwise (fun a b => le a b = true)
  | [], _ => List.pairwise_singleton _ _
  | y :: ys, h => by
    have hy := List.pairwise_cons.mp h
    unfold insBy
    split
    · rename_i c
      refine List.pairwise_cons.mpr ⟨fun z hz => ?_, h⟩
      rcases List.mem_cons.mp hz with rfl | hz
      · exact c
      · exact tr _ _ _ c (hy.1 z hz)
    · rename_i c
      refine List.pairwise_cons.mpr ⟨fun z hz => ?_, insBy_sorted tr to x ys hy.2⟩
      rcases List.mem_cons.mp ((insBy_perm x ys).mem_iff.mp hz) with rfl | hz
      · have := to z y
        simpa [c] using this
      · exact hy.1 z hz
theorem isort_sorted (tr : ∀ a b c, le a b = true → le b c = true → le a c = true) (to : ∀ a b, (le a b || le b a) = true) : ∀ xs : List α, (isort le xs).Pairwise (fun a b => le a b = true)
  | [] => .nil
  | x :: xs => insBy_sorted tr to x _ (isort_sorted tr to xs)
theorem isort_merge (tr : ∀ a b c, le a b = true → le b c = true → le a c = true) (to : ∀ a b, (le a b || le b a) = true) {xs : List α} (an : ∀ a ∈ xs, ∀ b ∈ xs, le a b = true → le b a = true → a = b) : xs.mergeSort le = isort le xs := by
  have p1 := List.mergeSort_perm xs le
  have p2 := isort_perm (le := le) xs
  refine List.Perm.eq_of_pairwise (fun a b ha hb h1 h2 => an a (p1.mem_iff.mp ha) b (p2.mem_iff.mp hb) h1 h2) (List.pairwise_mergeSort tr to xs) (isort_sorted tr to xs) (p1.trans p2.symm)
end
/-! alike data that are equal are the same -/
mutual
theorem alike_same : ∀ (x y : PyData), alike x y = true → PyData.eqv x y = true → x = y
  | .none, y, h, e => by cases y <;> simp_all [alike]
  | .bool a, y, h, e => by cases y <;> simp_all [alike, PyData.eqv]
  | .int a, y, h, e => by cases y <;> simp_all [alike, PyData.eqv]
  | .str a, y, h, e => by cases y <;> simp_all [alike, PyData.eqv]
  | .list xs, y, h, e => by
    cases y with
    | list ys =>
      have h' : alikeAll xs ys = true := by simpa [alike] using h
      have e' : PyData.eqvAll xs ys = true := by simpa [PyData.eqv] using e
      rw [alike_sameAll xs ys h' e']
    | _ => simp [alike] at h
  | .tuple xs, y, h, e => by
    cases y with
    | tuple ys =>
      have h' : alikeAll xs ys = true := by simpa [alike] using h
      have e' : PyData.eqvAll xs ys = true := by simpa [PyData.eqv] using e
      rw [alike_sameAll xs ys h' e']
    | _ => simp [alike] at h
  | .dict _, y, h, e => by cases y <;> simp [alike] at h
theorem alike_sameAll : ∀ (xs ys : List PyData), alikeAll xs ys = true → PyData.eqvAll xs ys = true → xs = ys
  | [], ys, h, e => by cases ys <;> simp_all [PyData.eqvAll]
  | x :: xs, ys, h, e => by
    cases ys with
    | nil => simp [PyData.eqvAll] at e
    | cons y ys =>
      simp only [alikeAll, Bool.and_eq_true] at h
      simp only [PyData.eqvAll, Bool.and_eq_true] at e
      rw [alike_same x y h.1 e.1, alike_sameAll xs ys h.2 e.2]
end
theorem le_anti {x y : PyData} (h : alike x y = true) (h1 : dataLe false (id : PyData → PyData) x y = true) (h2 : dataLe false (id : PyData → PyData) y x = true) : x = y := by
  have a1 : PyProof.Rows.lexLt itemOrd (keyToks y) (keyToks x) = false := by
    have : (!PyProof.Rows.lexLt itemOrd (keyToks y) (keyToks x)) = true := h1
    simpa using this
  have a2 : PyProof.Rows.lexLt itemOrd (keyToks x) (keyToks y) = false := by
    have : (!PyProof.Rows.lexLt itemOrd (keyToks x) (keyToks y)) = true := h2
    simpa using this
  have e := PyProof.Rows.lex_total (O := itemOrd) _ _ a2 a1
  cases q : PyData.eqv x y with
  | true => exact alike_same x y h q
  | false =>
    have t := (toks_eqv x y h).2 q [] [Sum.inl 0]
    rw [e, lex_pre, PyProof.Rows.lex_irrefl] at t
    cases t
def leD (x y : PyData) : Bool := !PyProof.Rows.lexLt itemOrd (keyToks y) (keyToks x)
def nnT : PyData → Bool
  | .none => false
  | .tuple _ => false
  | _ => true
def neT : PyData → Bool
  | .tuple (_ :: _) => true
  | _ => false
def sortOk (ds : List PyData) : Bool := (ds.all fun a => ds.all fun b => alike a b) && (ds.all neT || ds.all nnT) && (ds.all fun d => decide (d.depth ≤ 60)) && PyData.canLayAll0 ds
def sortD : List PyData → Option PyData
  | [.list ds] => if sortOk ds then some (.list (isort leD ds)) else none
  | [.tuple ds] => if sortOk ds then some (.list (isort leD ds)) else none
  | _ => none
theorem sortOk_spec {ds : List PyData} (h : sortOk ds = true) : AllAlike ds ∧ Sortable ds ∧ (∀ d ∈ ds, d.depth ≤ 60) ∧ PyData.canLayAll0 ds = true := by
  unfold sortOk at h
  simp only [Bool.and_eq_true, Bool.or_eq_true, List.all_eq_true, decide_eq_true_eq] at h
  obtain ⟨⟨⟨h1, h2⟩, h3⟩, h4⟩ := h
  refine ⟨fun d hd d' hd' => h1 d hd d' hd', ?_, h3, h4⟩
  rcases h2 with h2 | h2
  · left
    intro d hd
    have := h2 d hd
    unfold neT at this
    split at this
    · exact ⟨_, _, rfl⟩
    · cases this
  · right
    intro d hd
    have := h2 d hd
    unfold nnT at this
    constructor
    · rintro rfl; simp at this
    · rintro xs rfl; simp at this
theorem sort_eq {ds : List PyData} (h : sortOk ds = true) : ds.mergeSort (dataLe false id) = isort leD ds :=
  isort_merge (sortLe_total _ _ _).trans (fun a b => by
    have := (sortLe_total (listOrd itemOrd) false (fun b : PyData => keyToks b)).total a b
    rw [Bool.or_eq_true]; exact this) fun a ha b hb h1 h2 => le_anti ((sortOk_spec h).1 a ha b hb) h1 h2
theorem paired_all {K : PySem.W.Frag} {F : Hp} : ∀ {ys : List V} {ds : List PyData}, Paired (Dq K F) ys ds ↔ DqAll K F ys ds
  | [], [] => ⟨fun _ => .nil, fun _ => .nil⟩
  | [], _ :: _ => ⟨(fun h => nomatch h), (fun h => nomatch h)⟩
  | _ :: _, [] => ⟨(fun h => nomatch h), (fun h => nomatch h)⟩
  | _ :: ys, _ :: ds => ⟨fun h => by cases h with | cons a b => exact .cons a (paired_all.mp b), fun h => by cases h with | cons a b => exact .cons a (paired_all.mpr b)⟩
theorem d_sorted {K : PySem.W.Frag} : CaD K (rSorted K) sortD := fun F H us xs z Q s r e h => by
  have main : ∀ (ds : List PyData) (u : V) (a : Addr) (vs : List V), us = [.ref a] → sortOk ds = true → (SqL K H a vs ∨ SqT K H a vs) → DqAll K F vs ds → z = .list (isort leD ds) → rSorted K us H Q := by
    intro ds u a vs e1 ok hq da ez
    obtain ⟨h1, h2, h3, h4⟩ := sortOk_spec ok
    refine ⟨a, vs, ds, Dq K F, e1, hq, DqAll.dp (DqAll.mono s _ _ da) h4, paired_all.mpr da, h1, h2, h3, fun l zs hl pz => ?_⟩
    rw [sort_eq ok] at pz
    have g := Grow.new (o := .lst zs) s hl
    exact h _ _ _ g (by rw [ez]; exact .lst upd_same (DqAll.mono g.ff _ _ (paired_all.mp pz)))
  unfold sortD at e
  split at e
  · split at e
    · cases e
      obtain ⟨u, rfl, ru⟩ := r.one
      obtain ⟨a, vs, rfl, h1, d1⟩ := ru.list s
      exact main _ (.ref a) a vs rfl (by assumption) (.inl (SqL.of h1)) d1 rfl
    · cases e
  · split at e
    · cases e
      obtain ⟨u, rfl, ru⟩ := r.one
      obtain ⟨a, vs, rfl, h1, d1⟩ := ru.tuple s
      exact main _ (.ref a) a vs rfl (by assumption) (.inr h1) d1 rfl
    · cases e
  · cases e
theorem bSorted {X : Cx} {k : Nat} (hr : Room k X.A) (hc : X.calm = true) : BltR X (.builtin "sorted") sortD := ⟨_, call_sorted (Room.u65 hr), d_sorted⟩
example : isort leD [.tuple [.int 3, .int 1], .tuple [.int 2, .int 1]] = [.tuple [.int 2, .int 1], .tuple [.int 3, .int 1]] := by rfl
example : sortOk [.tuple [.int 3, .int 1], .tuple [.int 2, .int 1]] = true := by decide +kernel

/-! ### {a: b, c: d}.get(e), .get(e, f) -/
def get2 (a b c d : Int) (i : Int) : Option PyData := if i = a then some (.int b) else if i = c then some (.int d) else none
def getE1 (a b c d : Int) (fk : DE) : DE := fun sl S => (fk sl S).bind fun y S1 => match y with
  | .d (.int i) => .ok (.d ((get2 a b c d i).getD .none)) S1
  | _ => .bad
def getE2 (a b c d : Int) (fk fd : DE) : DE := fun sl S => (fk sl S).bind fun y S1 => (fd sl S1).bind fun z S2 => match y with
  | .d (.int i) => match get2 a b c d i with
    | some v => .ok (.d v) S2
    | none => .ok z S2
  | _ => .bad
section
variable {X : Cx} {W : WX} {e f : Expr} {fk fd : DE} {pos dpos apos cpos p1 p2 p3 p4 : Pos} {a b c d : Int} {k : Nat}
theorem val2 {a b c d : Int} (hac : a ≠ c) (i : Int) : valV (mergeK [] [((Sum.inl a : Key), V.int b), (.inl c, .int d)]) (.inl i) = if i = a then some (.int b) else if i = c then some (.int d) else none := by
  have e : mergeK [] [((Sum.inl a : Key), V.int b), (.inl c, .int d)] = [((Sum.inl a : Key), V.int b), (.inl c, .int d)] := by
    show putK (putK [] (Sum.inl a) (V.int b)) (Sum.inl c) (V.int d) = _
    have e1 : putK [] (Sum.inl a : Key) (V.int b) = [((Sum.inl a : Key), V.int b)] := rfl
    rw [e1]
    unfold putK
    have : ¬ (Sum.inl a : Key) = Sum.inl c := fun q => hac (Sum.inl.inj q)
    simp [this]
  rw [e]
  by_cases h1 : i = a
  · rw [if_pos h1, h1]; exact valV_pos rfl
  · rw [if_neg h1, valV_neg (fun q => h1 (Sum.inl.inj q).symm)]
    by_cases h2 : i = c
    · rw [if_pos h2, h2]; exact valV_pos rfl
    · rw [if_neg h2, valV_neg (fun q => h2 (Sum.inl.inj q).symm)]; exact valV_nil
theorem disp2_ok {K : PySem.W.Frag} {mg : Str → Option Value} {σ : L2.St} {H : Hp} {Q : VK} {ι : Nat → Addr} {F : Hp} {S : Sto} {sl : Sl} {α : Type} {r : R α} {P : α → Sto → (Nat → Addr) → Hp → Hp → Prop} (hz : sl.length ≤ σ.length) (hs : SlR K ι F S.length σ sl) (rel : Rel K ι F H S)
    (q : Aft K mg W σ ι F H S.length r P) (h : ∀ p F' H', H' p = some (.dK (mergeK [] [((Sum.inl a : Key), V.int b), (.inl c, .int d)])) → SlR K ι F' S.length σ sl → Rel K ι F' H' S → F' p = H' p → Aft K mg W σ ι F' H' S.length r P → Q (.ref p) H') :
    tDisp [(tC (.int a), tC (.int b)), (tC (.int c), tC (.int d))] σ H Q := by
  intro p hp
  refine ⟨upd_same, [(.inl a, .int b), (.inl c, .int d)], rfl, by simp, ?_⟩
  have g := Grow.new (o := .dK (mergeK [] [((Sum.inl a : Key), V.int b), (.inl c, .int d)])) rel.sub hp
  have eu : upd (upd H p (.dK [])) p (.dK (mergeK [] [((Sum.inl a : Key), V.int b), (.inl c, .int d)])) = upd H p (.dK (mergeK [] [((Sum.inl a : Key), V.int b), (.inl c, .int d)])) := by
    funext x
    unfold upd
    split <;> rfl
  show Q (.ref p) (upd (upd H p (.dK [])) p (.dK (mergeK [] [((Sum.inl a : Key), V.int b), (.inl c, .int d)])))
  rw [eu]
  exact h p _ _ upd_same (hs.stp g.stp) (rel.grow g) (by rw [upd_same, upd_same]) (q.stp g.stp)
theorem isd2 {F H F1 H1 : Hp} {p : Addr} {kvs : List (L2.Key × V)} (e : H p = some (.dK kvs)) (eF : F p = H p) (ff : Same F F1) (sub : Same F1 H1) : H1 p = some (.dK kvs) := sub _ _ (ff _ _ (eF.trans e))
theorem q_get1 {j1 j2 j3 j4 : Nat} (hr : Room k X.A) (hac : a ≠ c) (hk : QE X W e fk)
    (m : M1 X (.Dict [some (.Constant (.int a) j1 p1), some (.Constant (.int c) j3 p3)] [.Constant (.int b) j2 p2, .Constant (.int d) j4 p4] dpos) "get" apos e cpos) :
    QE X W (.Call (.Attribute (.Dict [some (.Constant (.int a) j1 p1), some (.Constant (.int c) j3 p3)] [.Constant (.int b) j2 p2, .Constant (.int d) j4 p4] dpos) "get" apos) [e] [] cpos) (getE1 a b c d fk) := by
  refine PE.imp (pe_dget1 (by have := hr.un; omega) (pe_disp (pps_cons pe_int pe_int (pps_cons pe_int pe_int pps_nil)) (by rfl) (by rfl) (by simp) (by simp)) hk m) fun σ H Q h => ?_
  obtain ⟨ι, F, S, sl, hz, hs, rel, q⟩ := h
  refine disp2_ok hz hs rel q fun p F' H' ep hs' rel' eF q' => ⟨p, rfl, .inl ⟨_, .inl ep⟩, ι, F', S, sl, hz, hs', rel', Aft.imp (Aft.bind q') fun y S1 ι1 F1 H1 ⟨s1, r1, h1⟩ u ru => ?_⟩
  split at h1
  · rename_i i _
    have eu : u = .int i := by cases ru; rfl
    subst eu
    refine ⟨_, DGet.k (k := .inl i) (isd2 ep eF s1.ff r1.sub), ?_⟩
    refine h1 ι1 F1 H1 .refl r1 _ ?_
    rw [val2 hac]
    unfold get2
    show Dq X.K F1 _ _
    split
    · exact .int _
    · split
      · exact .int _
      · exact .non
  · exact h1.elim
theorem q_get2 {j1 j2 j3 j4 : Nat} (hr : Room k X.A) (hac : a ≠ c) (hk : QE X W e fk) (hd : QE X W f fd)
    (m : M2 X (.Dict [some (.Constant (.int a) j1 p1), some (.Constant (.int c) j3 p3)] [.Constant (.int b) j2 p2, .Constant (.int d) j4 p4] dpos) "get" apos e f cpos) :
    QE X W (.Call (.Attribute (.Dict [some (.Constant (.int a) j1 p1), some (.Constant (.int c) j3 p3)] [.Constant (.int b) j2 p2, .Constant (.int d) j4 p4] dpos) "get" apos) [e, f] [] cpos) (getE2 a b c d fk fd) := by
  refine PE.imp (pe_dget2 (by have := hr.un; omega) (pe_disp (pps_cons pe_int pe_int (pps_cons pe_int pe_int pps_nil)) (by rfl) (by rfl) (by simp) (by simp)) hk hd m) fun σ H Q h => ?_
  obtain ⟨ι, F, S, sl, hz, hs, rel, q⟩ := h
  refine disp2_ok hz hs rel q fun p F' H' ep hs' rel' eF q' => ⟨p, rfl, .inl ⟨_, .inl ep⟩, ι, F', S, sl, hz, hs', rel', Aft.imp (Aft.bind q') fun y S1 ι1 F1 H1 ⟨s1, r1, h1⟩ u ru => ?_⟩
  refine ⟨ι1, F1, S1, sl, hz, hs'.stp s1, r1, Aft.imp (Aft.bind h1) fun z S2 ι2 F2 H2 ⟨s2, r2, h2⟩ v rv => ?_⟩
  split at h2
  · rename_i i _ _
    have eu : u = .int i := by cases ru; rfl
    subst eu
    refine ⟨_, DGet.k (k := .inl i) (isd2 ep eF (s1.ff.trans s2.ff) r2.sub), ?_⟩
    rw [val2 hac]
    unfold get2 at h2
    split at h2
    · rename_i v' e'
      split at e'
      · rename_i c1
        cases e'
        rw [if_pos c1]
        exact h2 ι2 F2 H2 .refl r2 _ (Dq.int _)
      · rename_i c1
        split at e'
        · rename_i c2
          cases e'
          rw [if_neg c1, if_pos c2]
          exact h2 ι2 F2 H2 .refl r2 _ (Dq.int _)
        · cases e'
    · rename_i e'
      split at e'
      · cases e'
      · rename_i c1
        split at e'
        · cases e'
        · rename_i c2
          rw [if_neg c1, if_neg c2]
          exact h2 ι2 F2 H2 .refl r2 _ rv
  · exact h2.elim
end
end DV
set_option Elab.async false
set_option linter.all false
set_option maxRecDepth 100000
set_option maxHeartbeats 4000000
namespace DV
open PySem
def takenD : DS :=
  (seqS (ifS (asB (bin gtI (ixE (var 0) (cst (.int 3))) (cst (.int 0)))) (seqS (asgS 3 (bin modD (blt intD (consL (ixE (var 0) (cst (.int 3))) nilL)) (var 1)))
  (seqS (putS (bin divD (ixE (var 0) (cst (.int 3))) (var 1)) (var 0) (cst (.int 3)))
  (rtS (var 3)))) nilS)
  (seqS (putS (bin addD (ixE (var 0) (cst (.int 1))) (cst (.int 1))) (var 0) (cst (.int 1)))
  (seqS (ifS (asB (bin gtI (ixE (var 0) (cst (.int 1))) (blt lenD (consL (ixE (var 0) (cst (.int 0))) nilL)))) (seqS (putS (bin modD (blt intD (consL (bin addD (bin mulD (ixE (var 0) (cst (.int 2))) (cst (.int 48271))) (cst (.int 11))) nilL)) (cst (.int 2147483647))) (var 0) (cst (.int 2)))
  (rtS (bin modD (blt intD (consL (bin divD (ixE (var 0) (cst (.int 2))) (cst (.int 7))) nilL)) (var 1)))) nilS)
  (seqS (asgS 2 (ixE (ixE (var 0) (cst (.int 0))) (bin subD (ixE (var 0) (cst (.int 1))) (cst (.int 1)))))
  (seqS (putS (bin modD (blt intD (consL (bin addD (bin addD (bin mulD (ixE (var 0) (cst (.int 2))) (cst (.int 48271))) (var 2)) (cst (.int 11))) nilL)) (cst (.int 2147483647))) (var 0) (cst (.int 2)))
  (seqS (ifS (asB (bin geI (var 2) (bin powD (cst (.int 10)) (cst (.int 18))))) (putS (bin divD (var 2) (var 1)) (var 0) (cst (.int 3))) nilS)
  (rtS (bin modD (blt intD (consL (var 2) nilL)) (var 1)))))))))
def takenF : FnR := runR 4 2 takenD
def rowD (ns : List Int) (i m c : Int) : List PyData := [scrD ns, .int i, .int m, .int c]
def RowOk (row : List PyData) : Prop := ∃ ns i m c, row = rowD ns i m c ∧ 0 ≤ i ∧ 0 ≤ m ∧ m < 2147483647
theorem log_row {m : Int} (h0 : 0 ≤ m) (h1 : m < 2147483647) : m.natAbs.log2 + Nat.log2 48271 < 1000000 := by
  have h2 : m.natAbs.log2 < 40 := by
    by_cases z : m.natAbs = 0
    · rw [z]; decide
    · exact (Nat.log2_lt z).mpr (by omega)
  have h3 : Nat.log2 48271 < 40 := by decide +kernel
  omega
theorem taken_ok {row : List PyData} {many : Int} (hr : RowOk row) (hm : 0 < many) (hl : many.natAbs.log2 < 9000) :
    ∃ r row', takenF [.int many] row = .ok (.int r) row' ∧ RowOk row' ∧ 0 ≤ r ∧ r < many := by
  obtain ⟨ns, i, m, c, rfl, hi, h0, h1⟩ := hr
  have lg := log_row h0 h1
  have rd : ∀ z : Int, 0 ≤ z % many ∧ z % many < many := fun z => ⟨Int.emod_nonneg _ (by omega), Int.emod_lt_of_pos _ hm⟩
  have rm : ∀ z : Int, 0 ≤ z % 2147483647 ∧ z % 2147483647 < 2147483647 := fun z => ⟨Int.emod_nonneg _ (by omega), Int.emod_lt_of_pos _ (by omega)⟩
  unfold takenF takenD rowD
  by_cases hc : 0 < c
  · refine ⟨c % many, rowD ns i m (c / many), ?_, ⟨ns, i, m, _, rfl, hi, h0, h1⟩, rd c⟩
    simp [slots, seqS, ifS, asB, bin, ixE, var, cst, two, dat, okD, ixV, R.bind, thenS, gtI, ltI, leI, geI, cmpI, asgS, blt, consL, nilL, dats, intD, modD, divD, putS, putV, lstAt, rtS, frz, endR, outR, allD, nilS, addD, subD, mulD, lenD, absD, runR, runP, endP, parS, setV, fzd, fzds, L2.atI, L2.ixN, hc, hm, hl, rowD]
  · by_cases hg : (ns.length : Int) < i + 1
    · refine ⟨(m * 48271 + 11) % 2147483647 / 7 % many, rowD ns (i + 1) ((m * 48271 + 11) % 2147483647) c, ?_, ⟨ns, _, _, _, rfl, by omega, rm _⟩, rd _⟩
      have l7 : Nat.log2 7 < 9000 := by decide +kernel
      simp [slots, seqS, ifS, asB, bin, ixE, var, cst, two, dat, okD, ixV, R.bind, thenS, gtI, ltI, leI, geI, cmpI, asgS, blt, consL, nilL, dats, intD, modD, divD, putS, putV, lstAt, rtS, frz, endR, outR, allD, nilS, addD, subD, mulD, lenD, absD, runR, runP, endP, parS, setV, fzd, fzds, L2.atI, L2.ixN, hc, hm, hl, scrD, hg, lg, l7, rowD]
    · have hlt : i.toNat < ns.length := by omega
      have hx : i < (ns.length : Int) := by omega
      generalize hcell : ns[i.toNat] = cell
      have hp : powD (.int 10) (.int 18) = some (.int 1000000000000000000) := by rfl
      by_cases hb : 1000000000000000000 ≤ cell
      · refine ⟨cell % many, rowD ns (i + 1) ((m * 48271 + cell + 11) % 2147483647) (cell / many), ?_, ⟨ns, _, _, _, rfl, by omega, rm _⟩, rd _⟩
        simp [slots, seqS, ifS, asB, bin, ixE, var, cst, two, dat, okD, ixV, R.bind, thenS, gtI, ltI, leI, geI, cmpI, asgS, blt, consL, nilL, dats, intD, modD, divD, putS, putV, lstAt, rtS, frz, endR, outR, allD, nilS, addD, subD, mulD, lenD, absD, runR, runP, endP, parS, setV, fzd, fzds, L2.atI, L2.ixN, hc, hm, hl, scrD, hg, lg, hi, hx, hlt, hcell, rowD, hp, hb]
      · refine ⟨cell % many, rowD ns (i + 1) ((m * 48271 + cell + 11) % 2147483647) c, ?_, ⟨ns, _, _, _, rfl, by omega, rm _⟩, rd _⟩
        simp [slots, seqS, ifS, asB, bin, ixE, var, cst, two, dat, okD, ixV, R.bind, thenS, gtI, ltI, leI, geI, cmpI, asgS, blt, consL, nilL, dats, intD, modD, divD, putS, putV, lstAt, rtS, frz, endR, outR, allD, nilS, addD, subD, mulD, lenD, absD, runR, runP, endP, parS, setV, fzd, fzds, L2.atI, L2.ixN, hc, hm, hl, scrD, hg, lg, hi, hx, hlt, hcell, rowD, hp, hb]
def pickD : DS := (rtS (ixE (var 1) (callR takenF (var 0) (consL (blt lenD (consL (var 1) nilL)) nilL))))
def pickF : FnR := runR 2 2 pickD
theorem atI_at {α : Type} {xs : List α} {r : Int} (h0 : 0 ≤ r) (h1 : r < xs.length) : ∃ x, L2.atI xs r = some x ∧ x ∈ xs := by
  have hl : r.toNat < xs.length := by omega
  refine ⟨xs[r.toNat], ?_, List.getElem_mem hl⟩
  simp [L2.atI, L2.ixN, h0, h1]
theorem pick_ok {row : List PyData} {xs : List PyData} (hr : RowOk row) (h0 : xs ≠ []) (hl : xs.length ≤ 1000000) :
    ∃ x row', pickF [.list xs] row = .ok x row' ∧ RowOk row' ∧ x ∈ xs := by
  have h1 : 0 < xs.length := List.length_pos_iff.mpr h0
  have hlog : (xs.length : Int).natAbs.log2 < 9000 := by
    have h2 : (xs.length : Int).natAbs ≠ 0 := by omega
    have : (xs.length : Int).natAbs.log2 < 40 := (Nat.log2_lt h2).mpr (by omega)
    omega
  obtain ⟨r, row', e, ok, r0, r1⟩ := taken_ok hr (many := xs.length) (by omega) hlog
  obtain ⟨x, ex, hx⟩ := atI_at r0 r1
  refine ⟨x, row', ?_, ok, hx⟩
  unfold pickF pickD
  simp [slots, seqS, ifS, asB, bin, ixE, var, cst, two, dat, okD, ixV, R.bind, thenS, gtI, ltI, leI, geI, cmpI, asgS, blt, consL, nilL, dats, intD, modD, divD, putS, putV, lstAt, rtS, frz, endR, outR, allD, nilS, addD, subD, mulD, lenD, absD, runR, runP, endP, parS, setV, fzd, fzds, callR, frzL, e, allD_map, ex]
end DV
set_option Elab.async false
set_option linter.all false
set_option maxRecDepth 100000
set_option maxHeartbeats 4000000
namespace DV
open PySem
theorem fgo_range {slot : Nat} {g : DS} {P : Nat → Sl → Sto → Prop} {lo : Int} {cnt : Nat} (h : ∀ i sl S, i < cnt → P i sl S → ∃ sl' S', g (sl.set slot (some (.d (.int (lo + (i : Nat)))))) S = .nx sl' S' ∧ P (i + 1) sl' S') {sl : Sl} {S : Sto} (h0 : P 0 sl S) :
    ∃ sl' S', fgo (.nm slot) g (rangeL lo cnt) sl S = .nx sl' S' ∧ P cnt sl' S' := by
  have main : ∀ (k i : Nat) (sl : Sl) (S : Sto), i + k = cnt → P i sl S → ∃ sl' S', fgo (.nm slot) g ((List.range' i k).map fun i => .int (lo + (i : Nat))) sl S = .nx sl' S' ∧ P cnt sl' S' := by
    intro k
    induction k with
    | zero =>
      intro i sl S e p
      have : i = cnt := by omega
      subst this
      exact ⟨sl, S, rfl, p⟩
    | succ k ih =>
      intro i sl S e p
      obtain ⟨sl1, S1, e1, p1⟩ := h i sl S (by omega) p
      obtain ⟨sl2, S2, e2, p2⟩ := ih (i + 1) sl1 S1 (by omega) p1
      refine ⟨sl2, S2, ?_, p2⟩
      rw [List.range'_succ, List.map_cons]
      unfold fgo
      simp only [setT, e1]
      exact e2
  have := main cnt 0 sl S (by omega) h0
  unfold rangeL
  rwa [List.range_eq_range']
/-- the table M of n by n in the store, behind a row -/
def linV (n : Nat) (f : Nat → Int) : List Val := (List.range n).map fun j => .d (.int (f j))
def matS (row : List PyData) (n : Nat) (M : Nat → Nat → Int) : Sto := .lst (row.map .d) :: (((List.range n).map fun i => Ob.lst (linV n (M i))) ++ [.lst ((List.range n).map fun i => .loc (i + 1))])
def upd2 (M : Nat → Nat → Int) (i j : Nat) (v : Int) : Nat → Nat → Int := fun a b => if a = i ∧ b = j then v else M a b
section
variable {row row' : List PyData} {n i j : Nat} {M : Nat → Nat → Int} {v : Int}
theorem mat_len : (matS row n M).length = n + 2 := by simp [matS]
theorem mat_0 : (matS row n M)[0]? = some (.lst (row.map .d)) := rfl
theorem mat_i (h : i < n) : (matS row n M)[i + 1]? = some (.lst (linV n (M i))) := by
  simp [matS, List.getElem?_append, h]
theorem mat_n : (matS row n M)[n + 1]? = some (.lst ((List.range n).map fun i => .loc (i + 1))) := by
  simp [matS, List.getElem?_append]
theorem mat_set0 : (matS row n M).set 0 (.lst (row'.map .d)) = matS row' n M := rfl
theorem map_set {α : Type} (f : Nat → α) (n i : Nat) (v : α) : ((List.range n).map f).set i v = (List.range n).map fun k => if k = i then v else f k := by
  apply List.ext_getElem?
  intro k
  by_cases hk : k < n
  · by_cases e : k = i
    · subst e; simp [hk]
    · have e' : ¬ i = k := fun q => e q.symm
      simp [List.getElem?_set, e, e', hk]
  · simp [List.getElem?_set, hk]
theorem mat_set (h : i < n) : (matS row n M).set (i + 1) (.lst ((linV n (M i)).set j (.d (.int v)))) = matS row n (upd2 M i j v) := by
  unfold matS
  rw [List.set_cons_succ, List.set_append_left _ _ (by simpa using h), map_set]
  congr 2
  apply List.map_congr_left
  intro k hk
  by_cases e : k = i
  · subst e
    rw [if_pos rfl]
    unfold linV
    rw [map_set]
    congr 1
    apply List.map_congr_left
    intro q hq
    unfold upd2
    by_cases e2 : q = j
    · simp [e2]
    · simp [e2]
  · rw [if_neg e]
    congr 1
    unfold linV
    apply List.map_congr_left
    intro q hq
    simp [upd2, e]
theorem lin_len {f : Nat → Int} : (linV n f).length = n := by simp [linV]
theorem ixN_of {n i : Nat} (h : i < n) : L2.ixN n (i : Int) = some i := by
  have : (i : Int) < n := by omega
  simp [L2.ixN, this]
theorem atI_map {α : Type} (f : Nat → α) {n i : Nat} (h : i < n) : L2.atI ((List.range n).map f) (i : Int) = some (f i) := by
  unfold L2.atI
  rw [List.length_map, List.length_range, ixN_of h]
  simp [h]
theorem mat_ix (h : i < n) : ixV (matS row n M) (.loc (n + 1)) (.d (.int i)) = .ok (.loc (i + 1)) (matS row n M) := by
  unfold ixV
  simp only [mat_n, atI_map _ h]
theorem mat_put (hi : i < n) (hj : j < n) : putV (matS row n M) (.loc (i + 1)) (.d (.int j)) (.d (.int v)) = some (matS row n (upd2 M i j v)) := by
  unfold putV lstAt
  simp only [mat_i hi, lin_len, ixN_of hj, mat_set hi]
theorem mat_lst0 : lstAt (matS row n M) (.loc 0) = some (0, row.map .d) := by
  unfold lstAt
  simp only [mat_0]
end
/-- turned about, small -/
def Skew (b : Int) (M : Nat → Nat → Int) : Prop := ∀ i j, M j i = -M i j ∧ -b ≤ M i j ∧ M i j ≤ b
theorem Skew.put {b : Int} {M : Nat → Nat → Int} (h : Skew b M) {y z : Nat} (hn : y ≠ z) {v : Int} (h1 : -b ≤ v) (h2 : v ≤ b) : Skew b (upd2 (upd2 M y z v) z y (0 - v)) := by
  intro i j
  obtain ⟨a1, a2, a3⟩ := h i j
  unfold upd2
  by_cases e1 : i = y ∧ j = z
  · obtain ⟨rfl, rfl⟩ := e1
    have : ¬ (i = j ∧ j = i) := fun q => hn q.1
    simp [this]
    omega
  · by_cases e2 : i = z ∧ j = y
    · obtain ⟨rfl, rfl⟩ := e2
      have : ¬ (j = i ∧ i = j) := fun q => hn q.1
      simp [this]
      omega
    · have e1' : ¬ (j = z ∧ i = y) := fun q => e1 ⟨q.2, q.1⟩
      have e2' : ¬ (j = y ∧ i = z) := fun q => e2 ⟨q.2, q.1⟩
      simp only [if_neg e1, if_neg e2, if_neg e1', if_neg e2']
      exact ⟨a1, a2, a3⟩
theorem Skew.zero {b : Int} (h : 0 ≤ b) : Skew b fun _ _ => 0 := fun _ _ => ⟨rfl, by show -b ≤ (0 : Int); omega, h⟩
/-! freezing the table -/
def webD (n : Nat) (M : Nat → Nat → Int) : PyData := .tuple ((List.range n).map fun i => .tuple ((List.range n).map fun j => .int (M i j)))
def linD (n : Nat) (f : Nat → Int) : List PyData := (List.range n).map fun j => .int (f j)
theorem linV_eq (n : Nat) (f : Nat → Int) : linV n f = (linD n f).map .d := by simp [linV, linD]
def matK (row : List PyData) (n : Nat) (M : Nat → Nat → Int) (k : Nat) : Sto := .lst (row.map .d) :: (((List.range n).map fun i => if i < k then Ob.frz (linD n (M i)) else Ob.lst (linV n (M i))) ++ [.lst ((List.range n).map fun i => .loc (i + 1))])
theorem matK_0 {row : List PyData} {n : Nat} {M : Nat → Nat → Int} : matK row n M 0 = matS row n M := by simp [matK, matS]
theorem matK_i {row : List PyData} {n i k : Nat} {M : Nat → Nat → Int} (h : i < n) : (matK row n M k)[i + 1]? = some (if i < k then Ob.frz (linD n (M i)) else Ob.lst (linV n (M i))) := by
  simp [matK, List.getElem?_append, h]
theorem matK_n {row : List PyData} {n k : Nat} {M : Nat → Nat → Int} : (matK row n M k)[n + 1]? = some (.lst ((List.range n).map fun i => .loc (i + 1))) := by
  simp [matK, List.getElem?_append]
theorem eachS_d (f : Sto → Val → Option Sto) (hf : ∀ S x, f S (.d x) = some S) (S : Sto) : ∀ ds : List PyData, eachS f S (ds.map .d) = some S
  | [] => rfl
  | d :: ds => by simp only [List.map_cons, eachS, hf, eachS_d f hf S ds]
theorem fzds_d (S : Sto) : ∀ ds : List PyData, fzds S (ds.map .d) = some ds
  | [] => rfl
  | d :: ds => by simp only [List.map_cons, fzds, fzd, fzds_d S ds]
theorem frzS_line {S : Sto} {k : Nat} {m : Nat} {ds : List PyData} (h : S[k]? = some (.lst (ds.map .d))) : frzS (m + 2) S (.loc k) = some (S.set k (.frz ds)) := by
  have e : eachS (frzS (m + 1)) S (ds.map .d) = some S := eachS_d _ (fun S x => by simp [frzS]) S ds
  unfold frzS
  simp only [h, e, fzds_d]
theorem frz_line {row : List PyData} {n i : Nat} {M : Nat → Nat → Int} (h : i < n) : frzS 3 (matK row n M i) (.loc (i + 1)) = some (matK row n M (i + 1)) := by
  have e : (matK row n M i)[i + 1]? = some (.lst ((linD n (M i)).map .d)) := by rw [matK_i h, if_neg (Nat.lt_irrefl i), linV_eq]
  rw [frzS_line e]
  congr 1
  unfold matK
  rw [List.set_cons_succ, List.set_append_left _ _ (by simpa using h), map_set]
  congr 2
  apply List.map_congr_left
  intro q hq
  by_cases e1 : q = i
  · subst e1; simp
  · rw [if_neg e1]
    by_cases e2 : q < i
    · rw [if_pos e2, if_pos (by omega)]
    · rw [if_neg e2, if_neg (by omega)]
theorem frz_lines {row : List PyData} {n : Nat} {M : Nat → Nat → Int} : ∀ (k i : Nat), i + k ≤ n → eachS (frzS 3) (matK row n M i) ((List.range' i k).map fun i => .loc (i + 1)) = some (matK row n M (i + k))
  | 0, i, _ => rfl
  | k + 1, i, h => by
    rw [List.range'_succ, List.map_cons]
    have e1 := frz_line (row := row) (M := M) (show i < n by omega)
    have e2 := frz_lines (row := row) (M := M) (n := n) k (i + 1) (by omega)
    unfold eachS
    simp only [e1, e2]
    rw [show i + 1 + k = i + (k + 1) by omega]
theorem fzds_map {S : Sto} (g : Nat → Val) (f : Nat → PyData) : ∀ l : List Nat, (∀ i ∈ l, fzd S (g i) = some (f i)) → fzds S (l.map g) = some (l.map f)
  | [], _ => rfl
  | a :: l, h => by
    simp only [List.map_cons, fzds, h a (List.mem_cons_self), fzds_map g f l fun i hi => h i (List.mem_cons_of_mem _ hi)]
theorem frz_mat {row : List PyData} {n : Nat} {M : Nat → Nat → Int} : ∃ S', frz (matS row n M) (.loc (n + 1)) = some (.list ((List.range n).map fun i => .list (linD n (M i))), S') ∧ S'[0]? = some (.lst (row.map .d)) := by
  have e1 := frz_lines (row := row) (M := M) (n := n) n 0 (by omega)
  rw [← List.range_eq_range', matK_0, Nat.zero_add] at e1
  have e2 : fzds (matK row n M n) ((List.range n).map fun i => .loc (i + 1)) = some ((List.range n).map fun i => .list (linD n (M i))) := by
    apply fzds_map
    intro i hi
    have hi' : i < n := List.mem_range.mp hi
    simp only [fzd, matK_i hi', if_pos hi']
  refine ⟨(matK row n M n).set (n + 1) (.frz ((List.range n).map fun i => .list (linD n (M i)))), ?_, ?_⟩
  · unfold frz frzS
    simp only [mat_n, e1, matK_n, e2]
    have hl : n + 1 < (matK row n M n).length := by simp [matK]
    simp [fzd, hl]
  · simp [matK]
/-! comprehensions that change nothing -/
theorem lcGo_map {slot : Nat} {tt : DB} {el : DE} {sl : Sl} {S : Sto} {p : PyData → Bool} {f : PyData → PyData} : ∀ (ds : List PyData) (n : Nat), (∀ d ∈ ds, tt (sl.set slot (some (.d d))) S = .ok (p d) S) → (∀ d ∈ ds, p d = true → el (sl.set slot (some (.d d))) S = .ok (.d (f d)) S) → n + ds.length ≤ sizeLine →
    lcGo (.nm slot) tt el sl n ds S = .ok (((ds.filter p).map f).map .d) S
  | [], _, _, _, _ => rfl
  | d :: ds, n, h1, h2, h3 => by
    have i1 := h1 d List.mem_cons_self
    simp only [List.length_cons] at h3
    unfold lcGo
    simp only [setT, i1, nb]
    by_cases c : p d = true
    · have i2 := h2 d List.mem_cons_self c
      have ih := lcGo_map ds (n + 1) (fun d hd => h1 d (List.mem_cons_of_mem _ hd)) (fun d hd => h2 d (List.mem_cons_of_mem _ hd)) (by omega)
      simp [c, i2, show n < sizeLine by omega, ih, R.bind, List.filter_cons]
    · have ih := lcGo_map ds n (fun d hd => h1 d (List.mem_cons_of_mem _ hd)) (fun d hd => h2 d (List.mem_cons_of_mem _ hd)) (by omega)
      simp [c, ih, List.filter_cons]
theorem lcGo_yes {slot : Nat} {el : DE} {sl : Sl} {S : Sto} {f : PyData → PyData} (ds : List PyData) (n : Nat) (h : ∀ d ∈ ds, el (sl.set slot (some (.d d))) S = .ok (.d (f d)) S) (hn : n + ds.length ≤ sizeLine) : lcGo (.nm slot) yes el sl n ds S = .ok ((ds.map f).map .d) S := by
  have := lcGo_map (p := fun _ => true) (f := f) ds n (tt := yes) (fun _ _ => rfl) (fun d hd _ => h d hd) hn
  rw [List.filter_eq_self.mpr (fun _ _ => rfl)] at this
  exact this
end DV
set_option Elab.async false
set_option linter.all false
set_option maxRecDepth 100000
set_option maxHeartbeats 4000000
namespace DV
open PySem
section
variable {g g2 : DS} {f fa fb fc : DE} {la : DL} {lg : DF} {c c2 : DB} {sl sl1 : Sl} {S S1 S2 S3 : Sto} {r : RS} {x y z : Val} {d d1 d2 d3 : PyData} {ds : List PyData} {xs : List Val} {i : Nat} {b : Bool}
theorem z_seq (h : g sl S = .nx sl1 S1) (h2 : g2 sl1 S1 = r) : seqS g g2 sl S = r := by
  show (match g sl S with | .nx sl' S' => g2 sl' S' | r => r) = r
  rw [h]; exact h2
theorem z_seqR (h : g sl S = .rt d S1) : seqS g g2 sl S = .rt d S1 := by
  show (match g sl S with | .nx sl' S' => g2 sl' S' | r => r) = _
  rw [h]
theorem z_asg (h : f sl S = .ok x S1) : asgS i f sl S = .nx (sl.set i (some x)) S1 := by
  show thenS (f sl S) sl _ = _
  rw [h]; rfl
theorem z_ex (h : f sl S = .ok x S1) : exS f sl S = .nx sl S1 := by
  show thenS (f sl S) sl _ = _
  rw [h]; rfl
theorem z_if (h : c sl S = .ok b S1) (h2 : (if b = true then g sl S1 else g2 sl S1) = r) : ifS c g g2 sl S = r := by
  show thenS (c sl S) sl _ = _
  rw [h]; exact h2
theorem z_ifT (h : c sl S = .ok true S1) (h2 : g sl S1 = r) : ifS c g g2 sl S = r := z_if h h2
theorem z_ifF (h : c sl S = .ok false S1) (h2 : g2 sl S1 = r) : ifS c g g2 sl S = r := z_if h h2
theorem z_rt (h : f sl S = .ok (.d d) S1) : rtS f sl S = .rt d S1 := by
  show thenS (f sl S) sl _ = _
  rw [h]; rfl
theorem z_rtL (h : f sl S = .ok x S1) (h2 : frz S1 x = some (d, S2)) : rtS f sl S = .rt d S2 := by
  show thenS (f sl S) sl _ = _
  rw [h]
  show (match frz S1 x with | some (d, S2) => RS.rt d S2 | none => .bad) = _
  rw [h2]
theorem z_for {it : IT} {tg : Tg} (h : it sl S = .ok ds S1) (h2 : fgo tg g ds sl S1 = r) : forS it tg g sl S = r := by
  show thenS (it sl S) sl _ = _
  rw [h]; exact h2
theorem z_own (h : lg sl S = .ok xs S1) : ownE lg sl S = .ok (.loc S1.length) (S1 ++ [.lst xs]) := by
  show (lg sl S).bind _ = _
  rw [h]; rfl
theorem frzL_d (S : Sto) : ∀ ds : List PyData, frzL S (ds.map .d) = some (ds, S)
  | [] => rfl
  | d :: ds => by simp only [List.map_cons, frzL, frz, frzL_d S ds]
theorem dats_d (S : Sto) : ∀ ds : List PyData, dats S (ds.map .d) = some ds
  | [] => rfl
  | d :: ds => by simp only [List.map_cons, dats, dat, dats_d S ds]
theorem z_frzE (h : lg sl S = .ok (ds.map .d) S1) : frzE lg sl S = .ok (.d (.list ds)) S1 := by
  show (lg sl S).bind _ = _
  rw [h]
  show (match frzL S1 (ds.map .d) with | some (ds, S2) => R.ok (Val.d (.list ds)) S2 | none => .bad) = _
  rw [frzL_d]
theorem z_sz (h : lg sl S = .ok xs S1) (h2 : xs.length ≤ sizeLine) : szF lg sl S = .ok xs S1 := by
  show (lg sl S).bind _ = _
  rw [h]
  exact if_pos h2
theorem z_nil : nilL sl S = .ok [] S := rfl
theorem z_cons (h : f sl S = .ok x S1) (h2 : la sl S1 = .ok xs S2) : consL f la sl S = .ok (x :: xs) S2 := by
  show (f sl S).bind _ = _
  rw [h]
  show (la sl S1).bind _ = _
  rw [h2]; rfl
/-- all data -/
theorem z_consD (h : f sl S = .ok (.d d) S1) (h2 : la sl S1 = .ok (ds.map .d) S2) : consL f la sl S = .ok ((d :: ds).map .d) S2 := z_cons h h2
theorem z_nilD : nilL sl S = .ok (([] : List PyData).map .d) S := rfl
theorem z_blt {gg : List PyData → Option PyData} (h : la sl S = .ok (ds.map .d) S1) (h2 : gg ds = some d) : blt gg la sl S = .ok (.d d) S1 := by
  show (la sl S).bind _ = _
  rw [h]
  show (match dats S1 (ds.map .d) with | some ds => okD (gg ds) S1 | none => .bad) = _
  rw [dats_d]
  show okD (gg ds) S1 = _
  rw [h2]; rfl
theorem z_bin {gg : PyData → PyData → Option PyData} (h : fa sl S = .ok (.d d1) S1) (h2 : fb sl S1 = .ok (.d d2) S2) (h3 : gg d1 d2 = some d) : bin gg fa fb sl S = .ok (.d d) S2 := by
  show (fa sl S).bind _ = _
  rw [h]
  show (fb sl S1).bind _ = _
  rw [h2]
  show okD (gg d1 d2) S2 = _
  rw [h3]; rfl
theorem z_un {gg : PyData → Option PyData} (h : fa sl S = .ok (.d d1) S1) (h3 : gg d1 = some d) : un gg fa sl S = .ok (.d d) S1 := by
  show (fa sl S).bind _ = _
  rw [h]
  show okD (gg d1) S1 = _
  rw [h3]; rfl
theorem z_asB (h : f sl S = .ok (.d (.bool b)) S1) : asB f sl S = .ok b S1 := by
  show (f sl S).bind _ = _
  rw [h]; rfl
theorem z_not (h : c sl S = .ok b S1) : notB c sl S = .ok (!b) S1 := by
  show (c sl S).bind _ = _
  rw [h]; rfl
theorem z_notT (h : c sl S = .ok true S1) : notB c sl S = .ok false S1 := z_not h
theorem z_notF (h : c sl S = .ok false S1) : notB c sl S = .ok true S1 := z_not h
theorem z_orT (h : c sl S = .ok true S1) : orB c c2 sl S = .ok true S1 := by
  show (c sl S).bind _ = _
  rw [h]; rfl
theorem z_orF {r : R Bool} (h : c sl S = .ok false S1) (h2 : c2 sl S1 = r) : orB c c2 sl S = r := by
  show (c sl S).bind _ = _
  rw [h]; exact h2
theorem z_andF (h : c sl S = .ok false S1) : andB c c2 sl S = .ok false S1 := by
  show (c sl S).bind _ = _
  rw [h]; rfl
theorem z_andT {r : R Bool} (h : c sl S = .ok true S1) (h2 : c2 sl S1 = r) : andB c c2 sl S = r := by
  show (c sl S).bind _ = _
  rw [h]; exact h2
theorem z_andVT {r : R Val} (h : fa sl S = .ok (.d (.bool true)) S1) (h2 : fb sl S1 = r) : andV fa fb sl S = r := by
  show (fa sl S).bind _ = _
  rw [h]; exact h2
theorem z_andVF (h : fa sl S = .ok (.d (.bool false)) S1) : andV fa fb sl S = .ok (.d (.bool false)) S1 := by
  show (fa sl S).bind _ = _
  rw [h]; rfl
theorem z_notV (h : fa sl S = .ok (.d (.bool b)) S1) : notV fa sl S = .ok (.d (.bool !b)) S1 := by
  show (fa sl S).bind _ = _
  rw [h]; rfl
theorem z_callP {Fn : FnP} (h : la sl S = .ok (ds.map .d) S1) (h2 : Fn ds = .ok d) : callP Fn la sl S = .ok (.d d) S1 := by
  show (la sl S).bind _ = _
  rw [h]
  show (match frzL S1 (ds.map .d) with | some (ds, S2) => (match Fn ds with | .ok x => R.ok (Val.d x) S2 | .er e => .er e S2 | .bad => .bad) | none => .bad) = _
  rw [frzL_d]
  show (match Fn ds with | .ok x => R.ok (Val.d x) S1 | .er e => .er e S1 | .bad => .bad) = _
  rw [h2]
theorem z_callR {Fn : FnR} {k : Nat} {row row' : List PyData} (h0 : f sl S = .ok (.loc k) S1) (hl : la sl S1 = .ok (ds.map .d) S2) (hk : S2[k]? = some (.lst (row.map .d))) (e : Fn ds row = .ok d row') :
    callR Fn f la sl S = .ok (.d d) (S2.set k (.lst (row'.map .d))) := by
  unfold callR
  rw [h0]
  simp only [R.bind]
  rw [hl]
  simp only [frzL_d, lstAt, hk, allD_map, e]
theorem z_tup (h : la sl S = .ok (ds.map .d) S1) (h2 : ds.length ≤ sizeLine) : tupE la sl S = .ok (.d (.tuple ds)) S1 := by
  show (la sl S).bind _ = _
  rw [h]
  show (match frzL S1 (ds.map .d) with | some (ds, S2) => if ds.length ≤ sizeLine then R.ok (Val.d (.tuple ds)) S2 else .bad | none => .bad) = _
  rw [frzL_d]
  exact if_pos h2
theorem z_ix (h : fa sl S = .ok x S1) (h2 : fb sl S1 = .ok y S2) {r : R Val} (h3 : ixV S2 x y = r) : ixE fa fb sl S = r := by
  show (fa sl S).bind _ = _
  rw [h]
  show (fb sl S1).bind _ = _
  rw [h2]; exact h3
theorem z_var (h : sl[i]? = some (some x)) : var i sl S = .ok x S := by
  unfold var; rw [h]
theorem z_lc {own : List Nat} {it : IT} {tg : Tg} {tt : DB} {el : DE} {q : R (List Val)} (h : it sl S = .ok ds S1) (h2 : lcGo tg tt el (wipeS sl own) 0 ds S1 = q) : lcF own it tg tt el sl S = q := by
  unfold lcF
  rw [h]
  exact h2
theorem z_seqL (h : fa sl S = .ok (.d (.list ds)) S1) : seqI fa sl S = .ok ds S1 := by
  show (fa sl S).bind _ = _
  rw [h]; rfl
theorem z_seqT (h : fa sl S = .ok (.d (.tuple ds)) S1) : seqI fa sl S = .ok ds S1 := by
  show (fa sl S).bind _ = _
  rw [h]; rfl
theorem z_chain {g1 g2' : PyData → PyData → Option PyData} (h : fa sl S = .ok (.d d1) S1) (h2 : fb sl S1 = .ok (.d d2) S2) (h3 : g1 d1 d2 = some (.bool true)) (h4 : fc sl S2 = .ok (.d d3) S3) (h5 : g2' d2 d3 = some d) : chain g1 g2' fa fb fc sl S = .ok (.d d) S3 := by
  show (fa sl S).bind _ = _
  rw [h]
  show (fb sl S1).bind _ = _
  rw [h2]
  show (okD (g1 d1 d2) S2).bind _ = _
  rw [h3]
  show (fc sl S2).bind _ = _
  rw [h4]
  show okD (g2' d2 d3) S3 = _
  rw [h5]; rfl
theorem z_chainF {g1 g2' : PyData → PyData → Option PyData} (h : fa sl S = .ok (.d d1) S1) (h2 : fb sl S1 = .ok (.d d2) S2) (h3 : g1 d1 d2 = some (.bool false)) : chain g1 g2' fa fb fc sl S = .ok (.d (.bool false)) S2 := by
  show (fa sl S).bind _ = _
  rw [h]
  show (fb sl S1).bind _ = _
  rw [h2]
  show (okD (g1 d1 d2) S2).bind _ = _
  rw [h3]; rfl
theorem z_par {is : List Nat} {sl2 : Sl} (h : la sl S = .ok xs S1) (h2 : setV is xs sl = some sl2) (h3 : is.length ≤ 1000) : parS is la sl S = .nx sl2 S1 := by
  show thenS (la sl S) sl _ = _
  rw [h]
  show (match setV is xs sl with | some sl' => if is.length ≤ 1000 then RS.nx sl' S1 else .bad | none => .bad) = _
  rw [h2]
  exact if_pos h3
theorem z_runP {n m : Nat} {args : List PyData} {q : FR} (h : args.length = m) (h2 : g (slots n (args.map .d)) [] = r) (h3 : endP r = q) : runP n m g args = q := by
  unfold runP
  rw [if_pos h, h2]; exact h3
theorem z_runR {n m : Nat} {args row : List PyData} {q : FRr} (h : args.length + 1 = m) (h2 : g (slots n (.loc 0 :: args.map .d)) [.lst (row.map .d)] = r) (h3 : endR r = q) : runR n m g args row = q := by
  unfold runR
  rw [if_pos h, h2]; exact h3
theorem z_outR {row : List PyData} (h : S[(0 : Nat)]? = some (.lst (row.map .d))) : outR d S = .ok d row := by
  unfold outR
  rw [h]
  simp only [allD_map]
theorem z_put {fv fo fi : DE} {S4 : Sto} (h : fv sl S = .ok z S1) (h2 : fo sl S1 = .ok x S2) (h3 : fi sl S2 = .ok y S3) (h4 : putV S3 x y z = some S4) : putS fv fo fi sl S = .nx sl S4 := by
  show thenS (fv sl S) sl _ = _
  rw [h]
  show thenS (fo sl S1) sl _ = _
  rw [h2]
  show thenS (fi sl S2) sl _ = _
  rw [h3]
  show (match putV S3 x y z with | some S4 => RS.nx sl S4 | none => .bad) = _
  rw [h4]
theorem z_put2 {fv fo fi fo2 fi2 : DE} {S4 S5 S6 S7 : Sto} {x2 y2 : Val} (h : fv sl S = .ok (.d (.tuple [d1, d2])) S1) (h2 : fo sl S1 = .ok x S2) (h3 : fi sl S2 = .ok y S3) (h4 : putV S3 x y (.d d1) = some S4)
    (h5 : fo2 sl S4 = .ok x2 S5) (h6 : fi2 sl S5 = .ok y2 S6) (h7 : putV S6 x2 y2 (.d d2) = some S7) : put2S fv fo fi fo2 fi2 sl S = .nx sl S7 := by
  unfold put2S
  rw [h]
  show thenS (fo sl S1) sl _ = _
  rw [h2]
  show thenS (fi sl S2) sl _ = _
  rw [h3]
  simp only [thenS, h4]
  rw [h5]
  simp only []
  rw [h6]
  simp only [h7]
theorem z_lst1 (h : fa sl S = .ok (.d (.tuple ds)) S1) : lstF fa sl S = .ok (ds.map .d) S1 := by
  show (fa sl S).bind _ = _
  rw [h]; rfl
end
end DV
set_option Elab.async false
set_option linter.all false
set_option maxRecDepth 100000
set_option maxHeartbeats 4000000
namespace DV
open PySem
def webLoop1 : DS := forS (rng1 (consL (var 6) nilL)) (.nm 7) (seqS (asgS 9 (cst (.int 0)))
  (seqS (ifS (asB (bin ltI (var 4) (cst (.int 2)))) (asgS 9 (bin mulD (callR pickF (var 0) (consL (frzE (szF (consL (cst (.int 0)) (consL (cst (.int 0)) (consL (cst (.int 1)) (consL (bin subD (cst (.int 0)) (cst (.int 1))) nilL)))))) nilL)) (bin addD (cst (.int 1)) (callR takenF (var 0) (consL (var 2) nilL))))) (ifS (asB (bin eqD (var 4) (cst (.int 2)))) (asgS 9 (bin mulD (callR pickF (var 0) (consL (frzE (szF (consL (cst (.int 1)) (consL (bin subD (cst (.int 0)) (cst (.int 1))) nilL)))) nilL)) (blt intD (consL (bin eqD (var 7) (bin subD (var 6) (cst (.int 1)))) nilL)))) (ifS (asB (bin eqD (var 4) (cst (.int 3)))) (asgS 9 (bin subD (blt intD (consL (bin eqD (var 7) (bin subD (var 6) (cst (.int 1)))) nilL)) (blt intD (consL (andV (bin eqD (var 7) (cst (.int 0))) (andV (bin eqD (var 6) (bin subD (var 3) (cst (.int 1)))) (bin gtI (var 3) (cst (.int 2))))) nilL)))) nilS)))
  (put2S (tupE (consL (var 9) (consL (bin subD (cst (.int 0)) (var 9)) nilL))) (ixE (var 5) (var 7)) (var 6) (ixE (var 5) (var 6)) (var 7))))
def webLoop2 : DS := forS (rng2 (consL (cst (.int 1)) (consL (var 3) nilL))) (.nm 6) (seqS (parS [7, 9] (consL (callR takenF (var 0) (consL (var 6) nilL)) (consL (callR pickF (var 0) (consL (frzE (szF (consL (cst (.int 1)) (consL (bin subD (cst (.int 0)) (cst (.int 1))) nilL)))) nilL)) nilL)))
  (put2S (tupE (consL (var 9) (consL (bin subD (cst (.int 0)) (var 9)) nilL))) (ixE (var 5) (var 7)) (var 6) (ixE (var 5) (var 6)) (var 7)))
def webD1 : DS :=
  (seqS (parS [3, 4] (consL (bin addD (cst (.int 1)) (callR takenF (var 0) (consL (var 1) nilL))) (consL (callR takenF (var 0) (consL (cst (.int 5)) nilL)) nilL)))
  (seqS (asgS 5 (ownE (lcF [8] (rng1 (consL (var 3) nilL)) (.nm 8) yes (ownE (repF (frzE (szF (consL (cst (.int 0)) nilL))) (var 3))))))
  (seqS (forS (rng2 (consL (cst (.int 1)) (consL (var 3) nilL))) (.nm 6) webLoop1)
  (seqS (ifS (asB (bin eqD (var 4) (cst (.int 4)))) webLoop2 nilS)
  (rtS (blt tupD (consL (frzE (lcF [10] (seqI (var 5)) (.nm 10) yes (blt tupD (consL (var 10) nilL)))) nilL)))))))
def webF : FnR := runR 11 3 webD1
theorem sz_ge (n : Nat) (h : n ≤ 1000) : n ≤ sizeLine := by rw [sizeLine_eq]; omega
theorem eqD_int (i j : Int) : eqD (.int i) (.int j) = some (.bool (decide (i = j))) := by
  unfold eqD
  simp [SeqAt.shaped, PyData.canLay0, PyData.depth, PyData.eqv]
  rfl
theorem put2_ok {row : List PyData} {n y z : Nat} {M : Nat → Nat → Int} {v : Int} (hy : y < n) (hz : z < n) {a1 a2 a3 a4 a8 a10 : Option Val} :
    put2S (tupE (consL (var 9) (consL (bin subD (cst (.int 0)) (var 9)) nilL))) (ixE (var 5) (var 7)) (var 6) (ixE (var 5) (var 6)) (var 7) [some (.loc 0), a1, a2, a3, a4, some (.loc (n + 1)), some (.d (.int z)), some (.d (.int y)), a8, some (.d (.int v)), a10] (matS row n M) =
      .nx [some (.loc 0), a1, a2, a3, a4, some (.loc (n + 1)), some (.d (.int z)), some (.d (.int y)), a8, some (.d (.int v)), a10] (matS row n (upd2 (upd2 M y z v) z y (0 - v))) := by
  have h2 : (2 : Nat) ≤ sizeLine := sz_ge 2 (by decide)
  simp [put2S, tupE, frzL, frz, consL, nilL, var, cst, bin, two, dat, subD, okD, R.bind, thenS, ixE, mat_ix hy, mat_ix hz, mat_put hy hz, mat_put hz hy, h2]
theorem log_small {a : Int} (h : -1000000 ≤ a) (h2 : a ≤ 1000000) : a.natAbs.log2 < 64 := by
  by_cases z : a.natAbs = 0
  · rw [z]; decide
  · exact (Nat.log2_lt z).mpr (by omega)
theorem mulD_small {a b : Int} (h : -1000000 ≤ a) (h2 : a ≤ 1000000) (h3 : -1000000 ≤ b) (h4 : b ≤ 1000000) : mulD (.int a) (.int b) = some (.int (a * b)) := by
  have := log_small h h2
  have := log_small h3 h4
  unfold mulD
  simp only []
  rw [if_pos (by omega)]
theorem frz4 {sl : Sl} {S : Sto} : frzE (szF (consL (cst (.int 0)) (consL (cst (.int 0)) (consL (cst (.int 1)) (consL (bin subD (cst (.int 0)) (cst (.int 1))) nilL))))) sl S = .ok (.d (.list [.int 0, .int 0, .int 1, .int (-1)])) S := by
  have h2 : (4 : Nat) ≤ sizeLine := sz_ge 4 (by decide)
  simp [frzE, szF, frzL, frz, consL, nilL, cst, bin, two, dat, subD, okD, R.bind, h2]
theorem frz2 {sl : Sl} {S : Sto} : frzE (szF (consL (cst (.int 1)) (consL (bin subD (cst (.int 0)) (cst (.int 1))) nilL))) sl S = .ok (.d (.list [.int 1, .int (-1)])) S := by
  have h2 : (2 : Nat) ≤ sizeLine := sz_ge 2 (by decide)
  simp [frzE, szF, frzL, frz, consL, nilL, cst, bin, two, dat, subD, okD, R.bind, h2]
theorem callR_mat {Fn : FnR} {row row' : List PyData} {n : Nat} {M : Nat → Nat → Int} {r : List (Option Val)} {la : DL} {d z : PyData} (hl : la (some (.loc 0) :: r) (matS row n M) = .ok [.d d] (matS row n M)) (e : Fn [d] row = .ok z row') :
    callR Fn (var 0) la (some (.loc 0) :: r) (matS row n M) = .ok (.d z) (matS row' n M) := by
  simp [callR, var, R.bind, hl, frzL, frz, mat_lst0, allD_map, e, mat_set0]
theorem pick4 {row : List PyData} (hr : RowOk row) : ∃ v row', pickF [.list [.int 0, .int 0, .int 1, .int (-1)]] row = .ok (.int v) row' ∧ RowOk row' ∧ -1 ≤ v ∧ v ≤ 1 := by
  obtain ⟨x, row', e, ok, hx⟩ := pick_ok hr (xs := [.int 0, .int 0, .int 1, .int (-1)]) (by simp) (by simp)
  simp only [List.mem_cons, List.not_mem_nil, or_false] at hx
  rcases hx with rfl | rfl | rfl | rfl <;> exact ⟨_, row', e, ok, by decide, by decide⟩
theorem pick2 {row : List PyData} (hr : RowOk row) : ∃ v row', pickF [.list [.int 1, .int (-1)]] row = .ok (.int v) row' ∧ RowOk row' ∧ -1 ≤ v ∧ v ≤ 1 := by
  obtain ⟨x, row', e, ok, hx⟩ := pick_ok hr (xs := [.int 1, .int (-1)]) (by simp) (by simp)
  simp only [List.mem_cons, List.not_mem_nil, or_false] at hx
  rcases hx with rfl | rfl <;> exact ⟨_, row', e, ok, by decide, by decide⟩
def webSl (most strong n way : Int) (m : Nat) (z y v : Option Val) : Sl := [some (.loc 0), some (.d (.int most)), some (.d (.int strong)), some (.d (.int n)), some (.d (.int way)), some (.loc (m + 1)), z, y, none, v, none]
/-- the choice of one arrow -/
theorem arrow_ok {row : List PyData} {m : Nat} {M : Nat → Nat → Int} {most strong n way z y : Int} (hr : RowOk row) (h1 : 1 ≤ strong) (h2 : strong ≤ 1000) :
    ∃ v row', (ifS (asB (bin ltI (var 4) (cst (.int 2)))) (asgS 9 (bin mulD (callR pickF (var 0) (consL (frzE (szF (consL (cst (.int 0)) (consL (cst (.int 0)) (consL (cst (.int 1)) (consL (bin subD (cst (.int 0)) (cst (.int 1))) nilL)))))) nilL)) (bin addD (cst (.int 1)) (callR takenF (var 0) (consL (var 2) nilL))))) (ifS (asB (bin eqD (var 4) (cst (.int 2)))) (asgS 9 (bin mulD (callR pickF (var 0) (consL (frzE (szF (consL (cst (.int 1)) (consL (bin subD (cst (.int 0)) (cst (.int 1))) nilL)))) nilL)) (blt intD (consL (bin eqD (var 7) (bin subD (var 6) (cst (.int 1)))) nilL)))) (ifS (asB (bin eqD (var 4) (cst (.int 3)))) (asgS 9 (bin subD (blt intD (consL (bin eqD (var 7) (bin subD (var 6) (cst (.int 1)))) nilL)) (blt intD (consL (andV (bin eqD (var 7) (cst (.int 0))) (andV (bin eqD (var 6) (bin subD (var 3) (cst (.int 1)))) (bin gtI (var 3) (cst (.int 2))))) nilL)))) nilS)))
      (webSl most strong n way m (some (.d (.int z))) (some (.d (.int y))) (some (.d (.int 0)))) (matS row m M) = .nx (webSl most strong n way m (some (.d (.int z))) (some (.d (.int y))) (some (.d (.int v)))) (matS row' m M) ∧ RowOk row' ∧ -strong ≤ v ∧ v ≤ strong := by
  have hls : strong.natAbs.log2 < 9000 := Nat.lt_trans (log_small (by omega) (by omega)) (by decide)
  by_cases c1 : way < 2
  · obtain ⟨p, row1, e1, ok1, p0, p1⟩ := pick4 hr
    obtain ⟨r, row2, e2, ok2, r0, r1⟩ := taken_ok ok1 (many := strong) (by omega) hls
    have k1 := callR_mat (n := m) (M := M) (r := [some (.d (.int most)), some (.d (.int strong)), some (.d (.int n)), some (.d (.int way)), some (.loc (m + 1)), some (.d (.int z)), some (.d (.int y)), none, some (.d (.int 0)), none]) (la := consL (frzE (szF (consL (cst (.int 0)) (consL (cst (.int 0)) (consL (cst (.int 1)) (consL (bin subD (cst (.int 0)) (cst (.int 1))) nilL)))))) nilL) (by simp [consL, nilL, frz4, R.bind]) e1
    have k2 := callR_mat (n := m) (M := M) (r := [some (.d (.int most)), some (.d (.int strong)), some (.d (.int n)), some (.d (.int way)), some (.loc (m + 1)), some (.d (.int z)), some (.d (.int y)), none, some (.d (.int 0)), none]) (la := consL (var 2) nilL) (by simp [consL, nilL, var, R.bind]) e2
    have k3 := mulD_small (a := p) (b := 1 + r) (by omega) (by omega) (by omega) (by omega)
    refine ⟨p * (1 + r), row2, ?_, ok2, ?_⟩
    · simp [ifS, asB, bin, var, cst, two, dat, ltI, cmpI, okD, R.bind, thenS, c1, asgS, webSl, k1, k2, k3, addD]
    · have : p = -1 ∨ p = 0 ∨ p = 1 := by omega
      rcases this with rfl | rfl | rfl <;> omega
  · by_cases c2 : way = 2
    · obtain ⟨p, row1, e1, ok1, p0, p1⟩ := pick2 hr
      have k1 := callR_mat (n := m) (M := M) (r := [some (.d (.int most)), some (.d (.int strong)), some (.d (.int n)), some (.d (.int way)), some (.loc (m + 1)), some (.d (.int z)), some (.d (.int y)), none, some (.d (.int 0)), none]) (la := consL (frzE (szF (consL (cst (.int 1)) (consL (bin subD (cst (.int 0)) (cst (.int 1))) nilL)))) nilL) (by simp [consL, nilL, frz2, R.bind]) e1
      have k3 := mulD_small (a := p) (b := if y = z - 1 then 1 else 0) (by omega) (by omega) (by split <;> omega) (by split <;> omega)
      refine ⟨p * (if y = z - 1 then 1 else 0), row1, ?_, ok1, ?_⟩
      · subst c2
        simp [ifS, asB, bin, var, cst, two, dat, ltI, cmpI, okD, R.bind, thenS, asgS, webSl, k1, eqD_int, subD, blt, consL, nilL, dats, intD, k3]
      · split <;> omega
    · by_cases c3 : way = 3
      · refine ⟨(if y = z - 1 then 1 else 0) - (if y = 0 ∧ z = n - 1 ∧ 2 < n then 1 else 0), row, ?_, hr, ?_⟩
        · subst c3
          by_cases d1 : y = 0
          · by_cases d2 : z = n - 1
            · simp [ifS, asB, bin, var, cst, two, dat, ltI, cmpI, okD, R.bind, thenS, asgS, webSl, eqD_int, subD, blt, consL, nilL, dats, intD, andV, gtI, d1, d2]
            · simp [ifS, asB, bin, var, cst, two, dat, ltI, cmpI, okD, R.bind, thenS, asgS, webSl, eqD_int, subD, blt, consL, nilL, dats, intD, andV, gtI, d1, d2]
          · simp [ifS, asB, bin, var, cst, two, dat, ltI, cmpI, okD, R.bind, thenS, asgS, webSl, eqD_int, subD, blt, consL, nilL, dats, intD, andV, gtI, d1]
        · split <;> split <;> omega
      · refine ⟨0, row, ?_, hr, by omega, by omega⟩
        simp [ifS, asB, bin, var, cst, two, dat, ltI, cmpI, okD, R.bind, thenS, asgS, webSl, eqD_int, c1, c2, c3, nilS]
theorem two62 : (2 : Int) ^ 62 = 4611686018427387904 := by decide +kernel
theorem lt62 {k : Nat} (hk : k ≤ 1000000) : ((k : Nat) : Int) < 2 ^ 62 := by rw [two62]; omega
theorem ge62 {k : Nat} : -(2 ^ 62) ≤ ((k : Nat) : Int) := by rw [two62]; omega
theorem rngc (j : Int) (S : Sto) (h2 : j < 2 ^ 62) (h3 : -(2 ^ 62) ≤ j) : (if decide (-(2 ^ 62) ≤ j) && decide (j < 2 ^ 62) then R.ok (rangeL 0 j.toNat) S else .bad) = .ok (rangeL 0 j.toNat) S := by
  rw [decide_eq_true h2, decide_eq_true h3]
  rfl
theorem rng1_ok' {la : DL} {sl : Sl} {S : Sto} {j : Int} (h : la sl S = .ok [.d (.int j)] S) (h2 : j < 2 ^ 62) (h3 : -(2 ^ 62) ≤ j) : rng1 la sl S = .ok (rangeL 0 j.toNat) S := by
  unfold rng1
  rw [h]
  exact rngc j S h2 h3
theorem rng1_ok {la : DL} {sl : Sl} {S : Sto} {k : Nat} (h : la sl S = .ok [.d (.int k)] S) (hk : k ≤ 1000000) : rng1 la sl S = .ok (rangeL 0 k) S := by
  have := rng1_ok' h (lt62 hk) ge62
  rwa [Int.toNat_natCast] at this
theorem rngc2 (i j : Int) (S : Sto) (h2 : j < 2 ^ 62) (h3 : -(2 ^ 62) ≤ j) (h4 : i < 2 ^ 62) (h5 : -(2 ^ 62) ≤ i) : (if decide (-(2 ^ 62) ≤ i) && decide (i < 2 ^ 62) && decide (-(2 ^ 62) ≤ j) && decide (j < 2 ^ 62) then R.ok (rangeL i (j - i).toNat) S else .bad) = .ok (rangeL i (j - i).toNat) S := by
  rw [decide_eq_true h2, decide_eq_true h3, decide_eq_true h4, decide_eq_true h5]
  rfl
theorem rng2_ok' {la : DL} {sl : Sl} {S : Sto} {i j : Int} (h : la sl S = .ok [.d (.int i), .d (.int j)] S) (h2 : j < 2 ^ 62) (h3 : -(2 ^ 62) ≤ j) (h4 : i < 2 ^ 62) (h5 : -(2 ^ 62) ≤ i) : rng2 la sl S = .ok (rangeL i (j - i).toNat) S := by
  unfold rng2
  rw [h]
  exact rngc2 i j S h2 h3 h4 h5
theorem rng2_ok {la : DL} {sl : Sl} {S : Sto} {i k : Nat} (h : la sl S = .ok [.d (.int i), .d (.int k)] S) (hi : i ≤ 1000000) (hk : k ≤ 1000000) : rng2 la sl S = .ok (rangeL i (k - i)) S := by
  have := rng2_ok' h (lt62 hk) ge62 (lt62 hi) ge62
  rwa [show ((k : Int) - (i : Int)).toNat = k - i by omega] at this
theorem consL_ok {f : DE} {g : DL} {sl : Sl} {S S1 S2 : Sto} {x : Val} {xs : List Val} (h : f sl S = .ok x S1) (h2 : g sl S1 = .ok xs S2) : consL f g sl S = .ok (x :: xs) S2 := by
  unfold consL
  rw [h]
  simp only [R.bind]
  rw [h2]
def WebP (most strong way : Int) (m : Nat) (z : Option Val) (sl : Sl) (S : Sto) : Prop := ∃ row M y v, sl = webSl most strong m way m z y v ∧ S = matS row m M ∧ RowOk row ∧ Skew strong M
theorem loop1_ok {most strong way : Int} {m z : Nat} (hz : z < m) (hm : m ≤ 1000) (h1 : 1 ≤ strong) (h2 : strong ≤ 1000) {sl : Sl} {S : Sto} (h : WebP most strong way m (some (.d (.int z))) sl S) :
    ∃ sl' S', webLoop1 sl S = .nx sl' S' ∧ WebP most strong way m (some (.d (.int z))) sl' S' := by
  have e0 : rng1 (consL (var 6) nilL) sl S = .ok (rangeL 0 z) S := by
    obtain ⟨row, M, y, v, rfl, rfl, hr, hs⟩ := h
    exact rng1_ok (by simp [consL, nilL, var, R.bind, webSl]) (by omega)
  unfold webLoop1 forS
  rw [e0]
  simp only [thenS]
  refine fgo_range (P := fun _ sl S => WebP most strong way m (some (.d (.int z))) sl S) (fun i sl S hi hp => ?_) h
  obtain ⟨row, M, y, v, rfl, rfl, hr, hs⟩ := hp
  obtain ⟨v', row', e, ok, v0, v1⟩ := arrow_ok (m := m) (M := M) (most := most) (n := m) (way := way) (z := z) (y := i) hr h1 h2
  have hi' : i < m := by omega
  refine ⟨webSl most strong m way m (some (.d (.int z))) (some (.d (.int i))) (some (.d (.int v'))), matS row' m (upd2 (upd2 M i z v') z i (0 - v')), ?_, row', _, _, _, rfl, rfl, ok, hs.put (by omega) v0 v1⟩
  have e1 : asgS 9 (cst (.int 0)) ((webSl most strong m way m (some (.d (.int z))) y v).set 7 (some (.d (.int (0 + (i : Nat)))))) (matS row m M) = .nx (webSl most strong m way m (some (.d (.int z))) (some (.d (.int i))) (some (.d (.int 0)))) (matS row m M) := by
    simp [asgS, cst, thenS, webSl]
  unfold seqS
  rw [e1]
  simp only []
  rw [e]
  simp only []
  unfold webSl
  exact put2_ok hi' hz
theorem loop2_ok {most strong way : Int} {m : Nat} (hm : m ≤ 1000) (h1 : 1 ≤ strong) {z0 : Option Val} {sl : Sl} {S : Sto} (h : WebP most strong way m z0 sl S) :
    ∃ z sl' S', webLoop2 sl S = .nx sl' S' ∧ WebP most strong way m z sl' S' := by
  have e0 : rng2 (consL (cst (.int 1)) (consL (var 3) nilL)) sl S = .ok (rangeL (1 : Nat) (m - 1)) S := by
    obtain ⟨row, M, y, v, rfl, rfl, hr, hs⟩ := h
    exact rng2_ok (by simp [consL, nilL, var, cst, R.bind, webSl]) (by omega) (by omega)
  unfold webLoop2 forS
  rw [e0]
  simp only [thenS]
  have := fgo_range (slot := 6) (lo := (1 : Nat)) (cnt := m - 1) (P := fun _ sl S => ∃ z, WebP most strong way m z sl S) (g := (seqS (parS [7, 9] (consL (callR takenF (var 0) (consL (var 6) nilL)) (consL (callR pickF (var 0) (consL (frzE (szF (consL (cst (.int 1)) (consL (bin subD (cst (.int 0)) (cst (.int 1))) nilL)))) nilL)) nilL)))
  (put2S (tupE (consL (var 9) (consL (bin subD (cst (.int 0)) (var 9)) nilL))) (ixE (var 5) (var 7)) (var 6) (ixE (var 5) (var 6)) (var 7)))) (fun i sl S hi hp => ?_) (sl := sl) (S := S) ⟨z0, h⟩
  · obtain ⟨sl', S', e, z, p⟩ := this
    exact ⟨z, sl', S', e, p⟩
  obtain ⟨z1, row, M, y, v, rfl, rfl, hr, hs⟩ := hp
  have hz : i + 1 < m := by omega
  have hls : ((i + 1 : Nat) : Int).natAbs.log2 < 9000 := Nat.lt_trans (log_small (by omega) (by omega)) (by decide)
  obtain ⟨r, row1, e1, ok1, r0, r1⟩ := taken_ok hr (many := ((i + 1 : Nat) : Int)) (by omega) hls
  obtain ⟨p, row2, e2, ok2, p0, p1⟩ := pick2 ok1
  obtain ⟨q, rfl⟩ : ∃ q : Nat, r = q := ⟨r.toNat, by omega⟩
  have hq : q < m := by omega
  refine ⟨webSl most strong m way m (some (.d (.int ((i + 1 : Nat) : Int)))) (some (.d (.int q))) (some (.d (.int p))), matS row2 m (upd2 (upd2 M q (i + 1) p) (i + 1) q (0 - p)), ?_, _, row2, _, _, _, rfl, rfl, ok2, hs.put (by omega) (by omega) (by omega)⟩
  have ei : ((1 : Nat) : Int) + (i : Nat) = ((i + 1 : Nat) : Int) := by omega
  have es : (webSl most strong m way m z1 y v).set 6 (some (.d (.int (((1 : Nat) : Int) + (i : Nat))))) = webSl most strong m way m (some (.d (.int ((i + 1 : Nat) : Int)))) y v := by rw [ei]; rfl
  rw [es]
  have k1 := callR_mat (n := m) (M := M) (r := (webSl most strong m way m (some (.d (.int ((i + 1 : Nat) : Int)))) y v).tail) (la := consL (var 6) nilL) (by simp [consL, nilL, var, R.bind, webSl]) e1
  have k2 := callR_mat (n := m) (M := M) (r := (webSl most strong m way m (some (.d (.int ((i + 1 : Nat) : Int)))) y v).tail) (la := consL (frzE (szF (consL (cst (.int 1)) (consL (bin subD (cst (.int 0)) (cst (.int 1))) nilL)))) nilL) (by simp [consL, nilL, frz2, R.bind]) e2
  have e3 : parS [7, 9] (consL (callR takenF (var 0) (consL (var 6) nilL)) (consL (callR pickF (var 0) (consL (frzE (szF (consL (cst (.int 1)) (consL (bin subD (cst (.int 0)) (cst (.int 1))) nilL)))) nilL)) nilL)) (webSl most strong m way m (some (.d (.int ((i + 1 : Nat) : Int)))) y v) (matS row m M)
     = .nx (webSl most strong m way m (some (.d (.int ((i + 1 : Nat) : Int)))) (some (.d (.int q))) (some (.d (.int p)))) (matS row2 m M) := by
    unfold webSl at k1 k2 ⊢
    simp only [List.tail_cons] at k1 k2
    unfold parS
    rw [show consL (callR takenF (var 0) (consL (var 6) nilL)) (consL (callR pickF (var 0) (consL (frzE (szF (consL (cst (.int 1)) (consL (bin subD (cst (.int 0)) (cst (.int 1))) nilL)))) nilL)) nilL) _ (matS row m M) = .ok [.d (.int q), .d (.int p)] (matS row2 m M) from by
      rw [consL_ok k1 (consL_ok k2 rfl)]]
    simp [thenS, setV]
  unfold seqS
  rw [e3]
  simp only []
  unfold webSl
  exact put2_ok hq hz
theorem callR_at {Fn : FnR} {fr : DE} {la : DL} {sl : Sl} {S S1 S2 : Sto} {k : Nat} {ds row row' : List PyData} {z : PyData} (h0 : fr sl S = .ok (.loc k) S1) (hl : la sl S1 = .ok (ds.map .d) S2) (hk : S2[k]? = some (.lst (row.map .d))) (e : Fn ds row = .ok z row') :
    callR Fn fr la sl S = .ok (.d z) (S2.set k (.lst (row'.map .d))) := by
  unfold callR
  rw [h0]
  simp only [R.bind]
  rw [hl]
  simp only [frzL_d, lstAt, hk, allD_map, e]
theorem lcGo_own {slot : Nat} {el : DE} {sl : Sl} {ob : PyData → Ob} : ∀ (ds : List PyData) (n : Nat) (S : Sto), (∀ d ∈ ds, ∀ S, el (sl.set slot (some (.d d))) S = .ok (.loc S.length) (S ++ [ob d])) → n + ds.length ≤ sizeLine →
    lcGo (.nm slot) yes el sl n ds S = .ok ((List.range' S.length ds.length).map .loc) (S ++ ds.map ob)
  | [], _, S, _, _ => by simp [lcGo]
  | d :: ds, n, S, h, hn => by
    simp only [List.length_cons] at hn
    have e1 := h d List.mem_cons_self S
    have ih := lcGo_own ds (n + 1) (S ++ [ob d]) (fun d hd => h d (List.mem_cons_of_mem _ hd)) (by omega)
    unfold lcGo
    simp only [setT, yes, nb, if_true, e1, show n < sizeLine by omega, ih, R.bind]
    simp [List.range'_succ]
theorem lcF_ok {own : List Nat} {it : IT} {tg : Tg} {tt : DB} {el : DE} {sl : Sl} {S S1 : Sto} {ds : List PyData} {r : R (List Val)} (h : it sl S = .ok ds S1) (h2 : lcGo tg tt el (wipeS sl own) 0 ds S1 = r) : lcF own it tg tt el sl S = r := by
  unfold lcF
  rw [h]
  exact h2
/-- n zeros -/
theorem rep0_ok {n : Nat} {sl : Sl} {S : Sto} {i : Nat} (hi : sl[i]? = some (some (.d (.int n)))) (hn : n ≤ 1000) : ownE (repF (frzE (szF (consL (cst (.int 0)) nilL))) (var i)) sl S = .ok (.loc S.length) (S ++ [.lst (linV n fun _ => 0)]) := by
  have h1 : (1 : Nat) ≤ sizeLine := sz_ge 1 (by decide)
  have e1 : frzE (szF (consL (cst (.int 0)) nilL)) sl S = .ok (.d (.list [.int 0])) S := by
    simp [frzE, szF, frzL, frz, consL, nilL, cst, R.bind, h1]
  have e2 : var i sl S = .ok (.d (.int n)) S := by unfold var; rw [hi]
  have h3 : ((n : Nat) : Int) < 2 ^ 63 := Int.lt_trans (lt62 (by omega)) (by decide +kernel)
  have h4 : -(2 ^ 63) ≤ ((n : Nat) : Int) := Int.le_trans (show -(2 ^ 63) ≤ -(2 ^ 62 : Int) by decide +kernel) ge62
  have h5 : n ≤ sizeLine := sz_ge n (by omega)
  have e3 : repF (frzE (szF (consL (cst (.int 0)) nilL))) (var i) sl S = .ok (linV n fun _ => 0) S := by
    unfold repF
    rw [e1]
    simp only [R.bind]
    rw [e2]
    simp only [dat]
    rw [decide_eq_true h3, decide_eq_true h4, if_pos (by simpa using h5)]
    congr 1
    simp [linV, List.map_const', List.flatten_replicate_singleton]
  unfold ownE
  rw [e3]
  rfl
def tupOf : PyData → PyData
  | .list ds => .tuple ds
  | d => d
theorem tup_map (n : Nat) (f : Nat → List PyData) : ((List.range n).map fun i => PyData.list (f i)).map tupOf = (List.range n).map fun i => .tuple (f i) := by
  rw [List.map_map]
  rfl
theorem web_ok {row : List PyData} {most strong : Int} (hr : RowOk row) (hm : 1 ≤ most) (hm2 : most ≤ 1000) (h1 : 1 ≤ strong) (h2 : strong ≤ 1000) :
    ∃ (n : Nat) (M : Nat → Nat → Int) (row' : List PyData), webF [.int most, .int strong] row = .ok (webD n M) row' ∧ RowOk row' ∧ 1 ≤ n ∧ (n : Int) ≤ most ∧ Skew strong M := by
  obtain ⟨r, row1, e1, ok1, r0, r1⟩ := taken_ok hr (many := most) (by omega) (Nat.lt_trans (log_small (by omega) (by omega)) (by decide))
  obtain ⟨way, row2, e2, ok2, w0, w1⟩ := taken_ok ok1 (many := 5) (by omega) (by decide +kernel)
  obtain ⟨n, hn⟩ : ∃ n : Nat, 1 + r = n := ⟨(1 + r).toNat, by omega⟩
  have hn1 : 1 ≤ n := by omega
  have hn2 : n ≤ 1000 := by omega
  let sl0 : Sl := slots 11 [.loc 0, .d (.int most), .d (.int strong)]
  let sl1 : Sl := [some (.loc 0), some (.d (.int most)), some (.d (.int strong)), some (.d (.int n)), some (.d (.int way)), none, none, none, none, none, none]
  have p1 : parS [3, 4] (consL (bin addD (cst (.int 1)) (callR takenF (var 0) (consL (var 1) nilL))) (consL (callR takenF (var 0) (consL (cst (.int 5)) nilL)) nilL)) sl0 [.lst (row.map .d)] = .nx sl1 [.lst (row2.map .d)] := by
    have c1 : callR takenF (var 0) (consL (var 1) nilL) sl0 [.lst (row.map .d)] = .ok (.d (.int r)) [.lst (row1.map .d)] := callR_at (k := 0) (S1 := [.lst (row.map .d)]) (S2 := [.lst (row.map .d)]) (ds := [.int most]) (row := row) rfl rfl rfl e1
    have c2 : callR takenF (var 0) (consL (cst (.int 5)) nilL) sl0 [.lst (row1.map .d)] = .ok (.d (.int way)) [.lst (row2.map .d)] := callR_at (k := 0) (S1 := [.lst (row1.map .d)]) (S2 := [.lst (row1.map .d)]) (ds := [.int 5]) (row := row1) rfl rfl rfl e2
    have c3 : bin addD (cst (.int 1)) (callR takenF (var 0) (consL (var 1) nilL)) sl0 [.lst (row.map .d)] = .ok (.d (.int n)) [.lst (row1.map .d)] := by
      unfold bin
      simp only [cst, R.bind]
      rw [c1]
      simp only [two, dat, addD, okD, hn]
    unfold parS
    rw [consL_ok c3 (consL_ok c2 rfl)]
    rfl
  let sl2 : Sl := webSl most strong n way n none none none
  have p2 : asgS 5 (ownE (lcF [8] (rng1 (consL (var 3) nilL)) (.nm 8) yes (ownE (repF (frzE (szF (consL (cst (.int 0)) nilL))) (var 3))))) sl1 [.lst (row2.map .d)] = .nx sl2 (matS row2 n fun _ _ => 0) := by
    have c1 : rng1 (consL (var 3) nilL) sl1 [.lst (row2.map .d)] = .ok (rangeL 0 n) [.lst (row2.map .d)] := rng1_ok rfl (by omega)
    have c2 := lcGo_own (slot := 8) (el := ownE (repF (frzE (szF (consL (cst (.int 0)) nilL))) (var 3))) (sl := wipeS sl1 [8]) (ob := fun _ => .lst (linV n fun _ => 0)) (rangeL 0 n) 0 [.lst (row2.map .d)] (fun d hd S => rep0_ok rfl hn2) (by rw [rangeL_length, Nat.zero_add]; exact sz_ge n hn2)
    have c3 := lcF_ok (own := [8]) c1 c2
    have c4 := z_asg (i := 5) (z_own c3)
    rw [c4]
    have q1 : [Ob.lst (row2.map .d)] ++ (rangeL 0 n).map (fun _ => Ob.lst (linV n fun _ => 0)) ++ [Ob.lst ((List.range' [Ob.lst (row2.map .d)].length (rangeL 0 n).length).map .loc)] = matS row2 n fun _ _ => 0 := by
      unfold matS
      rw [rangeL_length]
      simp [rangeL, List.range'_eq_map_range, Function.comp_def, Nat.add_comm]
    have q2 : ([Ob.lst (row2.map .d)] ++ (rangeL 0 n).map (fun _ => Ob.lst (linV n fun _ => 0))).length = n + 1 := by
      simp [rangeL_length]
    rw [q1, q2]
    rfl
  have hP0 : WebP most strong way n none sl2 (matS row2 n fun _ _ => 0) := ⟨row2, _, none, none, rfl, rfl, ok2, Skew.zero (by omega)⟩
  obtain ⟨sl3, S3, p3, z3, hP3⟩ : ∃ sl3 S3, forS (rng2 (consL (cst (.int 1)) (consL (var 3) nilL))) (.nm 6) webLoop1 sl2 (matS row2 n fun _ _ => 0) = .nx sl3 S3 ∧ ∃ z, WebP most strong way n z sl3 S3 := by
    unfold forS
    rw [rng2_ok (i := 1) (k := n) rfl (by omega) (by omega)]
    simp only [thenS]
    refine fgo_range (P := fun _ sl S => ∃ z, WebP most strong way n z sl S) (fun i sl S hi hp => ?_) ⟨none, hP0⟩
    obtain ⟨z, row, M, y, v, rfl, rfl, hr, hs⟩ := hp
    have es : (webSl most strong n way n z y v).set 6 (some (.d (.int (((1 : Nat) : Int) + (i : Nat))))) = webSl most strong n way n (some (.d (.int ((i + 1 : Nat) : Int)))) y v := by
      rw [show ((1 : Nat) : Int) + (i : Nat) = ((i + 1 : Nat) : Int) by omega]; rfl
    rw [es]
    obtain ⟨sl', S', e, p⟩ := loop1_ok (most := most) (strong := strong) (way := way) (m := n) (z := i + 1) (by omega) hn2 h1 h2 ⟨row, M, y, v, rfl, rfl, hr, hs⟩
    exact ⟨sl', S', e, _, p⟩
  obtain ⟨sl4, S4, p4, z4, hP4⟩ : ∃ sl4 S4, ifS (asB (bin eqD (var 4) (cst (.int 4)))) webLoop2 nilS sl3 S3 = .nx sl4 S4 ∧ ∃ z, WebP most strong way n z sl4 S4 := by
    have c : asB (bin eqD (var 4) (cst (.int 4))) sl3 S3 = .ok (decide (way = 4)) S3 := by
      obtain ⟨row, M, y, v, rfl, rfl, hr, hs⟩ := hP3
      simp [asB, bin, var, cst, two, dat, eqD_int, okD, R.bind, webSl]
    unfold ifS
    rw [c]
    simp only [thenS]
    by_cases w : way = 4
    · obtain ⟨z, sl4, S4, e, p⟩ := loop2_ok (most := most) (way := way) hn2 h1 hP3
      exact ⟨sl4, S4, by simpa [w] using e, z, p⟩
    · exact ⟨sl3, S3, by simp [w, nilS], z3, hP3⟩
  obtain ⟨row5, M, y5, v5, rfl, rfl, ok5, sk⟩ := hP4
  refine ⟨n, M, row5, ?_, ok5, hn1, by omega, sk⟩
  obtain ⟨S5, f1, f2⟩ := frz_mat (row := row5) (n := n) (M := M)
  have p5 : rtS (blt tupD (consL (frzE (lcF [10] (seqI (var 5)) (.nm 10) yes (blt tupD (consL (var 10) nilL)))) nilL)) (webSl most strong n way n z4 y5 v5) (matS row5 n M) = .rt (webD n M) S5 := by
    have c1 : seqI (var 5) (webSl most strong n way n z4 y5 v5) (matS row5 n M) = .ok ((List.range n).map fun i => .list (linD n (M i))) S5 := by
      simp [seqI, var, webSl, R.bind, f1]
    have c2 := lcGo_yes (slot := 10) (el := blt tupD (consL (var 10) nilL)) (sl := wipeS (webSl most strong n way n z4 y5 v5) [10]) (S := S5) (f := tupOf) ((List.range n).map fun i => .list (linD n (M i))) 0 (fun d hd => by
      obtain ⟨i, _, rfl⟩ := List.mem_map.mp hd
      rfl) (by rw [List.length_map, List.length_range, Nat.zero_add]; exact sz_ge n hn2)
    have c3 := lcF_ok (own := [10]) c1 c2
    rw [tup_map] at c3
    exact z_rt (z_blt (z_consD (z_frzE c3) z_nilD) rfl)
  exact z_runR rfl (z_seq p1 (z_seq p2 (z_seq p3 (z_seq p4 p5)))) (z_outR f2)
end DV
set_option Elab.async false
set_option linter.all false
set_option maxRecDepth 100000
set_option maxHeartbeats 4000000
namespace DV
open PySem
theorem allBD_true {ds : List PyData} (h : ∀ d ∈ ds, d = .bool true) : allBD [.list ds] = some (.bool true) := by
  have e : bools ds = some (List.replicate ds.length true) := by
    induction ds with
    | nil => rfl
    | cons d ds ih =>
      have hd := h d List.mem_cons_self
      subst hd
      simp only [bools, ih fun d hd => h d (List.mem_cons_of_mem _ hd), Option.map_some, List.length_cons, List.replicate_succ]
  show (bools ds).map _ = _
  rw [e]
  simp
theorem lc2Go_yes {s1 s2 : Nat} {it1 : IT} {el : DE} {vs1 : List Nat} {sl : Sl} {S : Sto} {es : PyData → List PyData} {f : PyData → PyData → PyData} {c : Nat} : ∀ (ds : List PyData) (n : Nat), (∀ d ∈ ds, it1 (sl.set s1 (some (.d d))) S = .ok (es d) S) → (∀ d ∈ ds, (es d).length ≤ c) →
    (∀ d ∈ ds, ∀ e ∈ es d, el ((wipeS (sl.set s1 (some (.d d))) vs1).set s2 (some (.d e))) S = .ok (.d (f d e)) S) → n + ds.length * c ≤ sizeLine →
    lc2Go (.nm s1) yes it1 (.nm s2) yes el vs1 sl n ds S = .ok ((ds.flatMap fun d => (es d).map (f d)).map .d) S
  | [], _, _, _, _, _ => rfl
  | d :: ds, n, h1, hc, h2, h3 => by
    have i1 := h1 d List.mem_cons_self
    have ic := hc d List.mem_cons_self
    have hmul : (d :: ds).length * c = ds.length * c + c := by rw [List.length_cons, Nat.add_mul, Nat.one_mul]
    rw [hmul] at h3
    have i2 := lcGo_yes (slot := s2) (el := el) (sl := wipeS (sl.set s1 (some (.d d))) vs1) (S := S) (f := f d) (es d) n (h2 d List.mem_cons_self) (by omega)
    have ih := lc2Go_yes ds (n + (es d).length) (fun d hd => h1 d (List.mem_cons_of_mem _ hd)) (fun d hd => hc d (List.mem_cons_of_mem _ hd)) (fun d hd => h2 d (List.mem_cons_of_mem _ hd)) (by omega)
    unfold lc2Go
    simp only [setT, yes, nb, if_true, i1]
    rw [show lcGo (.nm s2) yes el (wipeS (sl.set s1 (some (.d d))) vs1) n (es d) S = _ from i2]
    simp only [R.bind, List.length_map]
    rw [show lc2Go (.nm s1) yes it1 (.nm s2) yes el vs1 sl (n + (es d).length) ds S = _ from ih]
    simp
def isIntD : DS := (rtS (andV (isiE "int" (var 0)) (notV (isiE "bool" (var 0)))))
def isIntF : FnP := runP 1 1 isIntD
theorem isInt_int (i : Int) : isIntF [.int i] = .ok (.bool true) :=
  z_runP rfl (z_rt (z_andVT (z_un (z_var rfl) (by rfl)) (z_notV (z_un (z_var rfl) (by rfl))))) rfl
def isFromD : DS := (rtS (andV (callP isIntF (consL (var 0) nilL)) (chain leI leI (var 1) (var 0) (var 2))))
def isFromF : FnP := runP 3 3 isFromD
theorem isFrom_int (v lo hi : Int) : isFromF [.int v, .int lo, .int hi] = .ok (.bool (decide (lo ≤ v ∧ v ≤ hi))) := by
  refine z_runP rfl (z_rt (S1 := []) (z_andVT (z_callP (z_consD (z_var rfl) z_nilD) (isInt_int v)) ?_)) rfl
  by_cases h : lo ≤ v
  · have e : decide (lo ≤ v ∧ v ≤ hi) = decide (v ≤ hi) := by simp [h]
    rw [e]
    exact z_chain (z_var rfl) (z_var rfl) (by simp [leI, cmpI, h]) (z_var rfl) (by simp [leI, cmpI])
  · have e : decide (lo ≤ v ∧ v ≤ hi) = false := by simp [h]
    rw [e]
    exact z_chainF (z_var rfl) (z_var rfl) (by simp [leI, cmpI, h])
def isLineD : DS :=
  (seqS (ifS (orB (notB (asB (isiE "tuple" (var 1)))) (asB (bin neD (blt lenD (consL (var 1) nilL)) (var 0)))) (rtS (cst (.bool false))) nilS)
  (rtS (blt allBD (consL (frzE (lcF [2] (seqI (var 1)) (.nm 2) yes (callP isFromF (consL (var 2) (consL (un negD (cst (.int 1000))) (consL (cst (.int 1000)) nilL)))))) nilL))))
def isLineF : FnP := runP 3 2 isLineD
theorem neD_int (i j : Int) : neD (.int i) (.int j) = some (.bool (!decide (i = j))) := by
  unfold neD
  simp [SeqAt.shaped, PyData.canLay0, PyData.depth, PyData.eqv]
  rfl
theorem isLine_ok {n : Nat} {f : Nat → Int} (hn : n ≤ 1000) (h : ∀ j, j < n → -1000 ≤ f j ∧ f j ≤ 1000) : isLineF [.int n, .tuple (linD n f)] = .ok (.bool true) := by
  have hl : (linD n f).length = n := by simp [linD]
  refine z_runP rfl (z_seq (z_ifF (z_orF (z_notT (z_asB (z_un (z_var rfl) (by rfl)))) (z_asB (z_bin (d1 := .int n) (d2 := .int n) (z_blt (z_consD (z_var rfl) z_nilD) ?_) (z_var rfl) (by rw [neD_int]; simp)))) rfl) (z_rt (z_blt (z_consD (z_frzE (z_lc (z_seqT (z_var rfl)) (lcGo_yes (f := fun _ => .bool true) _ 0 (fun d hd => ?_) ?_))) z_nilD) (allBD_true ?_)))) rfl
  · show some (PyData.int (linD n f).length) = _
    rw [hl]
  · obtain ⟨j, hj, rfl⟩ := List.mem_map.mp hd
    have hj' := h j (List.mem_range.mp hj)
    refine z_callP (ds := [.int (f j), .int (-1000), .int 1000]) (z_consD (z_var rfl) (z_consD (z_un rfl rfl) (z_consD rfl z_nilD))) ?_
    rw [isFrom_int, decide_eq_true hj']
  · rw [hl]; exact sz_ge _ (by omega)
  · intro d hd
    obtain ⟨_, _, rfl⟩ := List.mem_map.mp hd
    rfl
def isWebD : DS :=
  (seqS (ifS (orB (notB (asB (isiE "tuple" (var 0)))) (notB (asB (chain leI leI (cst (.int 1)) (blt lenD (consL (var 0) nilL)) (cst (.int 6)))))) (rtS (cst (.bool false))) nilS)
  (seqS (asgS 1 (blt lenD (consL (var 0) nilL)))
  (seqS (ifS (notB (asB (blt allBD (consL (frzE (lcF [4] (seqI (var 0)) (.nm 4) yes (callP isLineF (consL (var 1) (consL (var 4) nilL))))) nilL)))) (rtS (cst (.bool false))) nilS)
  (rtS (blt allBD (consL (frzE (lc2F [2, 3] [3] (rng1 (consL (var 1) nilL)) (.nm 2) yes (rng1 (consL (var 1) nilL)) (.nm 3) yes (bin eqD (ixE (ixE (var 0) (var 2)) (var 3)) (un negD (ixE (ixE (var 0) (var 3)) (var 2)))))) nilL))))))
def isWebF : FnP := runP 5 1 isWebD
theorem web_len {n : Nat} {M : Nat → Nat → Int} : ((List.range n).map fun i => PyData.tuple ((List.range n).map fun j => .int (M i j))).length = n := by simp
theorem atI_web {n i : Nat} {M : Nat → Nat → Int} {S : Sto} (hi : i < n) : ixV S (.d (webD n M)) (.d (.int i)) = .ok (.d (.tuple (linD n (M i)))) S := by
  show okD (L2.atI _ _) S = _
  rw [atI_map _ hi]
  rfl
theorem atI_lin {n j : Nat} {f : Nat → Int} {S : Sto} (hj : j < n) : ixV S (.d (.tuple (linD n f))) (.d (.int j)) = .ok (.d (.int (f j))) S := by
  show okD (L2.atI (linD n f) _) S = _
  unfold linD
  rw [atI_map _ hj]
  rfl
theorem web_at {n i j : Nat} {M : Nat → Nat → Int} {fa fb fc : DE} {sl : Sl} {S : Sto} (h : fa sl S = .ok (.d (webD n M)) S) (h2 : fb sl S = .ok (.d (.int i)) S) (h3 : fc sl S = .ok (.d (.int j)) S) (hi : i < n) (hj : j < n) : ixE (ixE fa fb) fc sl S = .ok (.d (.int (M i j))) S :=
  z_ix (z_ix h h2 (atI_web hi)) h3 (atI_lin hj)
theorem mem_rangeL {n : Nat} {d : PyData} (h : d ∈ rangeL 0 n) : ∃ i : Nat, i < n ∧ d = .int i := by
  unfold rangeL at h
  obtain ⟨i, hi, rfl⟩ := List.mem_map.mp h
  exact ⟨i, List.mem_range.mp hi, by rw [Int.zero_add]⟩
theorem isWeb_ok {n : Nat} {M : Nat → Nat → Int} {b : Int} (h1 : 1 ≤ n) (h6 : n ≤ 6) (hb : b ≤ 1000) (hs : Skew b M) : isWebF [webD n M] = .ok (.bool true) := by
  have el : ∀ (sl : Sl) (S : Sto), sl[0]? = some (some (.d (webD n M))) → blt lenD (consL (var 0) nilL) sl S = .ok (.d (.int n)) S := fun sl S h => z_blt (ds := [webD n M]) (z_consD (z_var h) z_nilD) (by show some (PyData.int _) = _; rw [web_len])
  refine z_runP rfl (z_seq (z_ifF (z_orF (z_notT (z_asB (z_un (z_var rfl) (by rfl)))) (z_notT (z_asB (z_chain rfl (el _ _ rfl) (d := .bool true) ?_ rfl ?_)))) rfl) (z_seq (z_asg (el _ _ rfl)) (z_seq (z_ifF (z_notT (z_asB (z_blt (z_consD (z_frzE (z_lc (z_seqT (ds := (List.range n).map fun i => PyData.tuple (linD n (M i))) (z_var rfl)) (lcGo_yes (f := fun _ => .bool true) _ 0 (fun d hd => ?_) ?_))) z_nilD) (allBD_true ?_)))) rfl)
    (z_rt (S1 := []) (z_blt (z_consD (z_frzE ?_) z_nilD) (allBD_true (ds := (rangeL 0 n).flatMap fun d => (rangeL 0 n).map fun e => .bool true) ?_)))))) rfl
  · have : (1 : Int) ≤ n := by omega
    simp [leI, cmpI, this]
  · have : (n : Int) ≤ 6 := by omega
    simp [leI, cmpI, this]
  · obtain ⟨i, hi, rfl⟩ := List.mem_map.mp hd
    refine z_callP (ds := [.int n, .tuple (linD n (M i))]) (z_consD (z_var rfl) (z_consD (z_var rfl) z_nilD)) (isLine_ok (by omega) fun j hj => ?_)
    have := hs i j
    omega
  · simp only [List.length_map, List.length_range]; exact sz_ge _ (by omega)
  · intro d hd
    obtain ⟨_, _, rfl⟩ := List.mem_map.mp hd
    rfl
  · show (rng1 (consL (var 1) nilL) _ _).bind _ = _
    rw [rng1_ok (k := n) rfl (by omega)]
    refine lc2Go_yes (c := n) (es := fun _ => rangeL 0 n) (f := fun _ _ => .bool true) (rangeL 0 n) 0 (fun d hd => ?_) (fun d hd => ?_) (fun d hd e he => ?_) ?_
    · exact rng1_ok rfl (by omega)
    · exact Nat.le_of_eq (rangeL_length _ _)
    · obtain ⟨i, hi, rfl⟩ := mem_rangeL hd
      obtain ⟨j, hj, rfl⟩ := mem_rangeL he
      refine z_bin (web_at (M := M) (z_var rfl) (z_var rfl) (z_var rfl) hi hj) (z_un (web_at (M := M) (z_var rfl) (z_var rfl) (z_var rfl) hj hi) rfl) ?_
      rw [eqD_int]
      have := hs i j
      simp
      omega
    · rw [rangeL_length]
      have : n * n ≤ 6 * 6 := Nat.mul_le_mul h6 h6
      exact sz_ge _ (by omega)
  · intro d hd
    obtain ⟨_, _, h⟩ := List.mem_flatMap.mp hd
    obtain ⟨_, _, rfl⟩ := List.mem_map.mp h
    rfl
def needWebD : DS := (ifS (notB (asB (callP isWebF (consL (var 0) nilL)))) (raS "BadWeb") nilS)
def needWebF : FnP := runP 1 1 needWebD
theorem needWeb_ok {n : Nat} {M : Nat → Nat → Int} {b : Int} (h1 : 1 ≤ n) (h6 : n ≤ 6) (hb : b ≤ 1000) (hs : Skew b M) : needWebF [webD n M] = .ok .none :=
  z_runP rfl (z_ifF (z_notT (z_asB (z_callP (ds := [webD n M]) (z_consD (z_var rfl) z_nilD) (isWeb_ok h1 h6 hb hs)))) rfl) rfl
def needNodeD : DS := (ifS (notB (asB (callP isFromF (consL (var 1) (consL (cst (.int 0)) (consL (bin subD (blt lenD (consL (var 0) nilL)) (cst (.int 1))) nilL)))))) (raS "NoNode") nilS)
def needNodeF : FnP := runP 2 2 needNodeD
theorem needNode_ok {n x : Nat} {M : Nat → Nat → Int} (hx : x < n) : needNodeF [webD n M, .int x] = .ok .none := by
  refine z_runP rfl (z_ifF (z_notT (z_asB (z_callP (d := .bool true) (ds := [.int x, .int 0, .int ((n : Int) - 1)]) (z_consD (z_var rfl) (z_consD rfl (z_consD (z_bin (d1 := .int n) (z_blt (ds := [webD n M]) (z_consD (z_var rfl) z_nilD) (by show some (PyData.int _) = _; rw [web_len])) rfl rfl) z_nilD))) ?_))) rfl) rfl
  rw [isFrom_int]
  congr 2
  simp
  omega
end DV
set_option Elab.async false
set_option linter.all false
set_option maxRecDepth 100000
set_option maxHeartbeats 4000000
namespace DV
open PySem
/-- a table of zeros -/
theorem zeros_ok {own : List Nat} {slot i k : Nat} {row : List PyData} {n : Nat} {sl : Sl} (hk : sl[k]? = some (some (.d (.int n)))) (hi : ((wipeS sl own).set slot none)[i]? = some (some (.d (.int n))) ∧ slot ≠ i) (hn : n ≤ 1000) :
    ownE (lcF own (rng1 (consL (var k) nilL)) (.nm slot) yes (ownE (repF (frzE (szF (consL (cst (.int 0)) nilL))) (var i)))) sl [.lst (row.map .d)] = .ok (.loc (n + 1)) (matS row n fun _ _ => 0) := by
  have c1 : rng1 (consL (var k) nilL) sl [.lst (row.map .d)] = .ok (rangeL 0 n) [.lst (row.map .d)] := rng1_ok (z_cons (z_var hk) z_nil) (by omega)
  have c2 := lcGo_own (slot := slot) (el := ownE (repF (frzE (szF (consL (cst (.int 0)) nilL))) (var i))) (sl := wipeS sl own) (ob := fun _ => .lst (linV n fun _ => 0)) (rangeL 0 n) 0 [.lst (row.map .d)] (fun d hd S => rep0_ok (by
    have h := hi.1
    rw [List.getElem?_set_ne hi.2] at h ⊢
    exact h) hn) (by rw [rangeL_length, Nat.zero_add]; exact sz_ge n hn)
  rw [z_own (z_lc c1 c2)]
  have q1 : [Ob.lst (row.map .d)] ++ (rangeL 0 n).map (fun _ => Ob.lst (linV n fun _ => 0)) ++ [Ob.lst ((List.range' [Ob.lst (row.map .d)].length (rangeL 0 n).length).map .loc)] = matS row n fun _ _ => 0 := by
    unfold matS
    rw [rangeL_length]
    simp [rangeL, List.range'_eq_map_range, Function.comp_def, Nat.add_comm]
  have q2 : ([Ob.lst (row.map .d)] ++ (rangeL 0 n).map (fun _ => Ob.lst (linV n fun _ => 0))).length = n + 1 := by
    simp [rangeL_length]
  rw [q1, q2]
end DV
set_option Elab.async false
set_option linter.all false
set_option maxRecDepth 100000
set_option maxHeartbeats 4000000
namespace DV
open PySem
def matP (pre : Sto) (n : Nat) (M : Nat → Nat → Int) : Sto := pre ++ (((List.range n).map fun i => Ob.lst (linV n (M i))) ++ [.lst ((List.range n).map fun i => .loc (pre.length + i))])
section
variable {pre : Sto} {n i j : Nat} {M : Nat → Nat → Int} {v : Int}
theorem matP_i (h : i < n) : (matP pre n M)[pre.length + i]? = some (.lst (linV n (M i))) := by
  unfold matP
  rw [List.getElem?_append_right (by omega), Nat.add_sub_cancel_left, List.getElem?_append_left (by simpa using h)]
  simp [h]
theorem matP_n : (matP pre n M)[pre.length + n]? = some (.lst ((List.range n).map fun i => .loc (pre.length + i))) := by
  unfold matP
  rw [List.getElem?_append_right (by omega), Nat.add_sub_cancel_left, List.getElem?_append_right (by simp)]
  simp
theorem linV_set {f : Nat → Int} : (linV n f).set j (.d (.int v)) = linV n fun q => if q = j then v else f q := by
  unfold linV
  rw [map_set]
  apply List.map_congr_left
  intro q _
  by_cases e : q = j <;> simp [e]
theorem lines_set (h : i < n) : ((List.range n).map fun k => Ob.lst (linV n (M k))).set i (.lst (linV n fun q => if q = j then v else M i q)) = (List.range n).map fun k => Ob.lst (linV n (upd2 M i j v k)) := by
  rw [map_set]
  apply List.map_congr_left
  intro k _
  by_cases e : k = i
  · subst e
    rw [if_pos rfl]
    congr 2
    funext q
    unfold upd2
    by_cases e2 : q = j <;> simp [e2]
  · rw [if_neg e]
    congr 2
    funext q
    simp [upd2, e]
theorem matP_set (h : i < n) : (matP pre n M).set (pre.length + i) (.lst ((linV n (M i)).set j (.d (.int v)))) = matP pre n (upd2 M i j v) := by
  unfold matP
  rw [linV_set, List.set_append_right _ _ (by omega), Nat.add_sub_cancel_left, List.set_append_left _ _ (by simpa using h), lines_set h]
theorem matP_ix (h : i < n) : ixV (matP pre n M) (.loc (pre.length + n)) (.d (.int i)) = .ok (.loc (pre.length + i)) (matP pre n M) := by
  unfold ixV
  simp only [matP_n, atI_map _ h]
theorem matP_put (hi : i < n) (hj : j < n) : putV (matP pre n M) (.loc (pre.length + i)) (.d (.int j)) (.d (.int v)) = some (matP pre n (upd2 M i j v)) := by
  unfold putV lstAt
  simp only [matP_i hi, lin_len, ixN_of hj, matP_set hi]
theorem matP_get (hi : i < n) (hj : j < n) : ixV (matP pre n M) (.loc (pre.length + i)) (.d (.int j)) = .ok (.d (.int (M i j))) (matP pre n M) := by
  unfold ixV
  simp only [matP_i hi]
  unfold linV
  rw [atI_map _ hj]
/-- lists of lists in the store, given away -/
def matQ (pre : Sto) (n : Nat) (M : Nat → Nat → Int) (k : Nat) : Sto := pre ++ (((List.range n).map fun i => if i < k then Ob.frz (linD n (M i)) else Ob.lst (linV n (M i))) ++ [.lst ((List.range n).map fun i => .loc (pre.length + i))])
theorem matQ_0 : matQ pre n M 0 = matP pre n M := by simp [matQ, matP]
theorem matQ_i {k : Nat} (h : i < n) : (matQ pre n M k)[pre.length + i]? = some (if i < k then Ob.frz (linD n (M i)) else Ob.lst (linV n (M i))) := by
  unfold matQ
  rw [List.getElem?_append_right (by omega), Nat.add_sub_cancel_left, List.getElem?_append_left (by simpa using h)]
  simp [h]
theorem matQ_n {k : Nat} : (matQ pre n M k)[pre.length + n]? = some (.lst ((List.range n).map fun i => .loc (pre.length + i))) := by
  unfold matQ
  rw [List.getElem?_append_right (by omega), Nat.add_sub_cancel_left, List.getElem?_append_right (by simp)]
  simp
theorem matQ_line (h : i < n) : frzS 3 (matQ pre n M i) (.loc (pre.length + i)) = some (matQ pre n M (i + 1)) := by
  have e : (matQ pre n M i)[pre.length + i]? = some (.lst ((linD n (M i)).map .d)) := by rw [matQ_i h, if_neg (Nat.lt_irrefl i), linV_eq]
  rw [frzS_line e]
  congr 1
  unfold matQ
  rw [List.set_append_right _ _ (by omega), Nat.add_sub_cancel_left, List.set_append_left _ _ (by simpa using h), map_set]
  congr 2
  apply List.map_congr_left
  intro q hq
  by_cases e1 : q = i
  · subst e1; simp
  · rw [if_neg e1]
    by_cases e2 : q < i
    · rw [if_pos e2, if_pos (by omega)]
    · rw [if_neg e2, if_neg (by omega)]
theorem matQ_lines : ∀ (k i : Nat), i + k ≤ n → eachS (frzS 3) (matQ pre n M i) ((List.range' i k).map fun i => .loc (pre.length + i)) = some (matQ pre n M (i + k))
  | 0, i, _ => rfl
  | k + 1, i, h => by
    rw [List.range'_succ, List.map_cons]
    have e1 := matQ_line (pre := pre) (M := M) (show i < n by omega)
    have e2 := matQ_lines k (i + 1) (by omega)
    unfold eachS
    simp only [e1, e2]
    rw [show i + 1 + k = i + (k + 1) by omega]
theorem frz_matP : ∃ S', frz (matP pre n M) (.loc (pre.length + n)) = some (.list ((List.range n).map fun i => .list (linD n (M i))), S') ∧ ∀ q, q < pre.length → S'[q]? = pre[q]? := by
  have e1 := matQ_lines (pre := pre) (M := M) (n := n) n 0 (by omega)
  rw [← List.range_eq_range', matQ_0, Nat.zero_add] at e1
  have e2 : fzds (matQ pre n M n) ((List.range n).map fun i => .loc (pre.length + i)) = some ((List.range n).map fun i => .list (linD n (M i))) := by
    apply fzds_map
    intro i hi
    have hi' : i < n := List.mem_range.mp hi
    simp only [fzd, matQ_i hi', if_pos hi']
  refine ⟨(matQ pre n M n).set (pre.length + n) (.frz ((List.range n).map fun i => .list (linD n (M i)))), ?_, ?_⟩
  · unfold frz frzS
    simp only [matP_n, e1, matQ_n, e2]
    have hl : pre.length + n < (matQ pre n M n).length := by simp [matQ]
    simp [fzd, hl]
  · intro q hq
    rw [List.getElem?_set_ne (by omega)]
    unfold matQ
    rw [List.getElem?_append_left hq]
end
end DV
set_option Elab.async false
set_option linter.all false
set_option maxRecDepth 100000
set_option maxHeartbeats 4000000
namespace DV
open PySem
theorem matP_ext {pre : Sto} {n : Nat} {M M' : Nat → Nat → Int} (h : ∀ a b, a < n → b < n → M a b = M' a b) : matP pre n M = matP pre n M' := by
  unfold matP
  congr 2
  apply List.map_congr_left
  intro a ha
  congr 1
  unfold linV
  apply List.map_congr_left
  intro b hb
  rw [h a b (List.mem_range.mp ha) (List.mem_range.mp hb)]
theorem webD_ext {n : Nat} {M M' : Nat → Nat → Int} (h : ∀ a b, a < n → b < n → M a b = M' a b) : webD n M = webD n M' := by
  unfold webD
  congr 1
  apply List.map_congr_left
  intro a ha
  congr 1
  apply List.map_congr_left
  intro b hb
  rw [h a b (List.mem_range.mp ha) (List.mem_range.mp hb)]
def obOf : PyData → Ob
  | .tuple ds => .lst (ds.map .d)
  | _ => .lst []
/-- the web's lines copied -/
theorem copy_ok {own : List Nat} {slot k : Nat} {n : Nat} {M : Nat → Nat → Int} {sl : Sl} {S : Sto} (hk : sl[k]? = some (some (.d (webD n M)))) (hsl : slot < (wipeS sl own).length) (hn : n ≤ 1000) :
    ownE (lcF own (seqI (var k)) (.nm slot) yes (ownE (lstF (var slot)))) sl S = .ok (.loc (S.length + n)) (matP S n M) := by
  have c1 : seqI (var k) sl S = .ok ((List.range n).map fun i => .tuple (linD n (M i))) S := z_seqT (z_var hk)
  have c2 := lcGo_own (slot := slot) (el := ownE (lstF (var slot))) (sl := wipeS sl own) (ob := obOf) ((List.range n).map fun i => .tuple (linD n (M i))) 0 S (fun d hd S => by
    obtain ⟨i, _, rfl⟩ := List.mem_map.mp hd
    exact z_own (z_lst1 (z_var (by rw [List.getElem?_set_self hsl])))) (by simp only [List.length_map, List.length_range]; exact sz_ge _ (by omega))
  rw [z_own (z_lc c1 c2)]
  have q1 : (S ++ ((List.range n).map fun i => PyData.tuple (linD n (M i))).map obOf).length = S.length + n := by simp
  rw [q1]
  congr 1
  unfold matP
  rw [List.map_map]
  simp [Function.comp_def, linV_eq, List.range'_eq_map_range, List.map_map, obOf]
def thr (M : Nat → Nat → Int) (x a b : Nat) : Int := if 0 < M a x ∧ 0 < M x b then M a x * M x b else 0
def turnM (M : Nat → Nat → Int) (x : Nat) : Nat → Nat → Int := fun a b => if a = x ∨ b = x then 0 - M a b else M a b + thr M x a b - thr M x b a
def turnT (M : Nat → Nat → Int) (x i j : Nat) : Nat → Nat → Int := fun a b => M a b + (if a < i ∨ (a = i ∧ b < j) then thr M x a b else 0) - (if b < i ∨ (b = i ∧ a < j) then thr M x b a else 0)
def turnB : DS := (ifS (andB (asB (bin gtI (ixE (ixE (var 0) (var 4)) (var 1)) (cst (.int 0)))) (asB (bin gtI (ixE (ixE (var 0) (var 1)) (var 5)) (cst (.int 0))))) (seqS (asgS 7 (bin mulD (ixE (ixE (var 0) (var 4)) (var 1)) (ixE (ixE (var 0) (var 1)) (var 5))))
  (put2S (tupE (consL (bin addD (ixE (ixE (var 3) (var 4)) (var 5)) (var 7)) (consL (bin subD (ixE (ixE (var 3) (var 5)) (var 4)) (var 7)) nilL))) (ixE (var 3) (var 4)) (var 5) (ixE (var 3) (var 5)) (var 4))) nilS)
def turnC : DS := (put2S (tupE (consL (bin subD (cst (.int 0)) (ixE (ixE (var 0) (var 1)) (var 4))) (consL (bin subD (cst (.int 0)) (ixE (ixE (var 0) (var 4)) (var 1))) nilL))) (ixE (var 3) (var 1)) (var 4) (ixE (var 3) (var 4)) (var 1))
def turnD : DS :=
  (seqS (parS [2, 3] (consL (blt lenD (consL (var 0) nilL)) (consL (ownE (lcF [6] (seqI (var 0)) (.nm 6) yes (ownE (lstF (var 6))))) nilL)))
  (seqS (forS (rng1 (consL (var 2) nilL)) (.nm 4) (forS (rng1 (consL (var 2) nilL)) (.nm 5) turnB))
  (seqS (forS (rng1 (consL (var 2) nilL)) (.nm 4) turnC)
  (rtS (blt tupD (consL (frzE (lcF [6] (seqI (var 3)) (.nm 6) yes (blt tupD (consL (var 6) nilL)))) nilL))))))
def turnF : FnP := runP 8 2 turnD
def turnSl (n : Nat) (M : Nat → Nat → Int) (x : Nat) (y z m : Option Val) : Sl := [some (.d (webD n M)), some (.d (.int x)), some (.d (.int n)), some (.loc (([] : Sto).length + n)), y, z, none, m]
section
variable {n x y z : Nat} {M T : Nat → Nat → Int} {b : Int}
theorem mat_at {fa fb fc : DE} {sl : Sl} {i j : Nat} {pre : Sto} (h : fa sl (matP pre n T) = .ok (.loc (pre.length + n)) (matP pre n T)) (h2 : fb sl (matP pre n T) = .ok (.d (.int i)) (matP pre n T)) (h3 : fc sl (matP pre n T) = .ok (.d (.int j)) (matP pre n T)) (hi : i < n) (hj : j < n) :
    ixE (ixE fa fb) fc sl (matP pre n T) = .ok (.d (.int (T i j))) (matP pre n T) := z_ix (z_ix h h2 (matP_ix hi)) h3 (matP_get hi hj)
theorem turnB_ok (hs : Skew b M) (hb : b ≤ 1000000) (hx : x < n) (hy : y < n) (hz : z < n) {m : Option Val} :
    ∃ m', turnB (turnSl n M x (some (.d (.int y))) (some (.d (.int z))) m) (matP [] n (turnT M x y z)) = .nx (turnSl n M x (some (.d (.int y))) (some (.d (.int z))) m') (matP [] n (turnT M x y (z + 1))) := by
  have e1 : ∀ m S, ixE (ixE (var 0) (var 4)) (var 1) (turnSl n M x (some (.d (.int y))) (some (.d (.int z))) m) S = .ok (.d (.int (M y x))) S := fun m S => web_at (M := M) (z_var rfl) (z_var rfl) (z_var rfl) hy hx
  have e2 : ∀ m S, ixE (ixE (var 0) (var 1)) (var 5) (turnSl n M x (some (.d (.int y))) (some (.d (.int z))) m) S = .ok (.d (.int (M x z))) S := fun m S => web_at (M := M) (z_var rfl) (z_var rfl) (z_var rfl) hx hz
  have s1 := hs y x
  have s2 := hs x z
  have s3 := hs y z
  have s4 := hs x x
  by_cases c1 : 0 < M y x
  · by_cases c2 : 0 < M x z
    · have hyz : y ≠ z := by rintro rfl; omega
      refine ⟨some (.d (.int (M y x * M x z))), z_ifT (z_andT (z_asB (z_bin (e1 _ _) rfl (by simp [gtI, cmpI, c1]))) (z_asB (z_bin (e2 _ _) rfl (by simp [gtI, cmpI, c2])))) (z_seq (z_asg (x := .d (.int (M y x * M x z))) (z_bin (e1 _ _) (e2 _ _) (mulD_small (by omega) (by omega) (by omega) (by omega)))) ?_)⟩
      have et : thr M x y z = M y x * M x z := if_pos ⟨c1, c2⟩
      have en : turnT M x y (z + 1) = upd2 (upd2 (turnT M x y z) y z (turnT M x y z y z + M y x * M x z)) z y (turnT M x y z z y - M y x * M x z) := by
        funext a c
        unfold upd2
        by_cases h1 : a = z ∧ c = y
        · rw [if_pos h1]
          obtain ⟨rfl, rfl⟩ := h1
          unfold turnT
          have g1 : ¬ (c < c ∨ (c = c ∧ a < a)) := by omega
          have g2 : (c < c ∨ (c = c ∧ a < a + 1)) := by omega
          rw [if_neg g1, if_pos g2, et]
          by_cases g3 : a < c ∨ (a = c ∧ c < a)
          · rw [if_pos g3, if_pos (by omega)]; omega
          · rw [if_neg g3, if_neg (by omega)]; omega
        · rw [if_neg h1]
          by_cases h2 : a = y ∧ c = z
          · rw [if_pos h2]
            obtain ⟨rfl, rfl⟩ := h2
            unfold turnT
            have g1 : ¬ (a < a ∨ (a = a ∧ c < c)) := by omega
            have g2 : (a < a ∨ (a = a ∧ c < c + 1)) := by omega
            rw [if_neg g1, if_pos g2, et]
            by_cases g3 : c < a ∨ (c = a ∧ a < c)
            · rw [if_pos g3, if_pos (by omega)]; omega
            · rw [if_neg g3, if_neg (by omega)]; omega
          · rw [if_neg h2]
            unfold turnT
            have g1 : (a < y ∨ (a = y ∧ c < z + 1)) ↔ (a < y ∨ (a = y ∧ c < z)) := by omega
            have g2 : (c < y ∨ (c = y ∧ a < z + 1)) ↔ (c < y ∨ (c = y ∧ a < z)) := by omega
            simp only [g1, g2]
      rw [en]
      refine z_put2 (z_tup (z_consD (z_bin (mat_at (pre := []) (z_var rfl) (z_var rfl) (z_var rfl) hy hz) (z_var rfl) rfl) (z_consD (z_bin (mat_at (pre := []) (z_var rfl) (z_var rfl) (z_var rfl) hz hy) (z_var rfl) rfl) z_nilD)) (sz_ge 2 (by decide))) (z_ix (z_var rfl) (z_var rfl) (matP_ix hy)) (z_var rfl) (matP_put hy hz) (z_ix (z_var rfl) (z_var rfl) (matP_ix hz)) (z_var rfl) (matP_put hz hy)
    · refine ⟨m, z_ifF (z_andT (z_asB (z_bin (e1 _ _) rfl (by simp [gtI, cmpI, c1]))) (z_asB (z_bin (e2 _ _) rfl (by simp [gtI, cmpI, c2])))) ?_⟩
      have en : turnT M x y (z + 1) = turnT M x y z := by
        have et : thr M x y z = 0 := if_neg (by omega)
        funext a c
        unfold turnT
        by_cases h1 : a = y ∧ c = z
        · obtain ⟨rfl, rfl⟩ := h1
          rw [et, ite_self, ite_self]
          by_cases g : c < a ∨ (c = a ∧ a < c)
          · rw [if_pos g, if_pos (by omega)]
          · by_cases g' : c < a ∨ (c = a ∧ a < c + 1)
            · have : c = a := by omega
              subst this
              rw [if_pos g', if_neg g, et]
            · rw [if_neg g, if_neg g']
        · by_cases h2 : c = y ∧ a = z
          · obtain ⟨rfl, rfl⟩ := h2
            rw [et, ite_self, ite_self]
            have g1 : (a < c ∨ (a = c ∧ c < a + 1)) ↔ (a < c ∨ (a = c ∧ c < a)) := by omega
            simp only [g1]
          · have g1 : (a < y ∨ (a = y ∧ c < z + 1)) ↔ (a < y ∨ (a = y ∧ c < z)) := by omega
            have g2 : (c < y ∨ (c = y ∧ a < z + 1)) ↔ (c < y ∨ (c = y ∧ a < z)) := by omega
            simp only [g1, g2]
      rw [en]
      rfl
  · refine ⟨m, z_ifF (z_andF (z_asB (z_bin (e1 _ _) rfl (by simp [gtI, cmpI, c1])))) ?_⟩
    have en : turnT M x y (z + 1) = turnT M x y z := by
      have et : thr M x y z = 0 := if_neg (by omega)
      funext a c
      unfold turnT
      by_cases h1 : a = y ∧ c = z
      · obtain ⟨rfl, rfl⟩ := h1
        rw [et, ite_self, ite_self]
        by_cases g : c < a ∨ (c = a ∧ a < c)
        · rw [if_pos g, if_pos (by omega)]
        · by_cases g' : c < a ∨ (c = a ∧ a < c + 1)
          · have : c = a := by omega
            subst this
            rw [if_pos g', if_neg g, et]
          · rw [if_neg g, if_neg g']
      · by_cases h2 : c = y ∧ a = z
        · obtain ⟨rfl, rfl⟩ := h2
          rw [et, ite_self, ite_self]
          have g1 : (a < c ∨ (a = c ∧ c < a + 1)) ↔ (a < c ∨ (a = c ∧ c < a)) := by omega
          simp only [g1]
        · have g1 : (a < y ∨ (a = y ∧ c < z + 1)) ↔ (a < y ∨ (a = y ∧ c < z)) := by omega
          have g2 : (c < y ∨ (c = y ∧ a < z + 1)) ↔ (c < y ∨ (c = y ∧ a < z)) := by omega
          simp only [g1, g2]
    rw [en]
    rfl
theorem fgo_range0 {slot : Nat} {g : DS} {P : Nat → Sl → Sto → Prop} {cnt : Nat} (h : ∀ i sl S, i < cnt → P i sl S → ∃ sl' S', g (sl.set slot (some (.d (.int (i : Nat))))) S = .nx sl' S' ∧ P (i + 1) sl' S') {sl : Sl} {S : Sto} (h0 : P 0 sl S) :
    ∃ sl' S', fgo (.nm slot) g (rangeL 0 cnt) sl S = .nx sl' S' ∧ P cnt sl' S' :=
  fgo_range (fun i sl S hi hp => by
    obtain ⟨sl', S', e, p⟩ := h i sl S hi hp
    exact ⟨sl', S', by rw [Int.zero_add]; exact e, p⟩) h0
theorem turn_in (hs : Skew b M) (hb : b ≤ 1000000) (hn : n ≤ 1000) (hx : x < n) (hy : y < n) {z0 m0 : Option Val} :
    ∃ z m, forS (rng1 (consL (var 2) nilL)) (.nm 5) turnB (turnSl n M x (some (.d (.int y))) z0 m0) (matP [] n (turnT M x y 0)) = .nx (turnSl n M x (some (.d (.int y))) z m) (matP [] n (turnT M x y n)) := by
  obtain ⟨sl', S', e, z, m2, rfl, rfl⟩ := fgo_range0 (slot := 5) (g := turnB) (P := fun k sl S => ∃ z m, sl = turnSl n M x (some (.d (.int y))) z m ∧ S = matP [] n (turnT M x y k)) (cnt := n) (fun k sl S hk hp => by
    obtain ⟨z, m, rfl, rfl⟩ := hp
    obtain ⟨m', e⟩ := turnB_ok hs hb hx hy hk (m := m)
    exact ⟨_, _, e, _, _, rfl, rfl⟩) (sl := turnSl n M x (some (.d (.int y))) z0 m0) (S := matP [] n (turnT M x y 0)) ⟨z0, m0, rfl, rfl⟩
  exact ⟨z, m2, z_for (rng1_ok rfl (by omega)) e⟩
theorem turn_mid (hs : Skew b M) (hb : b ≤ 1000000) (hn : n ≤ 1000) (hx : x < n) {y0 z0 m0 : Option Val} :
    ∃ y z m, forS (rng1 (consL (var 2) nilL)) (.nm 4) (forS (rng1 (consL (var 2) nilL)) (.nm 5) turnB) (turnSl n M x y0 z0 m0) (matP [] n M) = .nx (turnSl n M x y z m) (matP [] n (turnT M x n 0)) := by
  have e0 : matP [] n M = matP [] n (turnT M x 0 0) := matP_ext fun a c _ _ => by
    unfold turnT
    rw [if_neg (by omega), if_neg (by omega)]
    omega
  obtain ⟨sl', S', e, y, z, m2, rfl, rfl⟩ := fgo_range0 (slot := 4) (g := forS (rng1 (consL (var 2) nilL)) (.nm 5) turnB) (P := fun k sl S => ∃ y z m, sl = turnSl n M x y z m ∧ S = matP [] n (turnT M x k 0)) (cnt := n) (fun k sl S hk hp => by
    obtain ⟨y, z, m, rfl, rfl⟩ := hp
    obtain ⟨z', m', e⟩ := turn_in hs hb hn hx hk (z0 := z) (m0 := m)
    refine ⟨_, _, e, _, _, _, rfl, matP_ext fun a c ha hc => ?_⟩
    unfold turnT
    have g1 : (a < k ∨ (a = k ∧ c < n)) ↔ (a < k + 1 ∨ (a = k + 1 ∧ c < 0)) := by omega
    have g2 : (c < k ∨ (c = k ∧ a < n)) ↔ (c < k + 1 ∨ (c = k + 1 ∧ a < 0)) := by omega
    simp only [g1, g2]) (sl := turnSl n M x y0 z0 m0) (S := matP [] n (turnT M x 0 0)) ⟨y0, z0, m0, rfl, rfl⟩
  rw [e0]
  exact ⟨y, z, m2, z_for (rng1_ok rfl (by omega)) e⟩
def turnU (M T : Nat → Nat → Int) (x k : Nat) : Nat → Nat → Int := fun a c => if (a = x ∧ c < k) ∨ (c = x ∧ a < k) then 0 - M a c else T a c
theorem turn_end (hn : n ≤ 1000) (hx : x < n) {y0 z0 m : Option Val} :
    ∃ y, forS (rng1 (consL (var 2) nilL)) (.nm 4) turnC (turnSl n M x y0 z0 m) (matP [] n T) = .nx (turnSl n M x y z0 m) (matP [] n (turnU M T x n)) := by
  have e0 : matP [] n T = matP [] n (turnU M T x 0) := matP_ext fun a c _ _ => by
    unfold turnU
    rw [if_neg (by omega)]
  obtain ⟨sl', S', e, y, rfl, rfl⟩ := fgo_range0 (slot := 4) (g := turnC) (P := fun k sl S => ∃ y, sl = turnSl n M x y z0 m ∧ S = matP [] n (turnU M T x k)) (cnt := n) (fun k sl S hk hp => by
    obtain ⟨y, rfl, rfl⟩ := hp
    refine ⟨turnSl n M x (some (.d (.int k))) z0 m, matP [] n (upd2 (upd2 (turnU M T x k) x k (0 - M x k)) k x (0 - M k x)), ?_, _, rfl, matP_ext fun a c ha hc => ?_⟩
    · exact z_put2 (z_tup (z_consD (z_bin rfl (web_at (M := M) (z_var rfl) (z_var rfl) (z_var rfl) hx hk) rfl) (z_consD (z_bin rfl (web_at (M := M) (z_var rfl) (z_var rfl) (z_var rfl) hk hx) rfl) z_nilD)) (sz_ge 2 (by decide))) (z_ix (z_var rfl) (z_var rfl) (matP_ix hx)) (z_var rfl) (matP_put hx hk) (z_ix (z_var rfl) (z_var rfl) (matP_ix hk)) (z_var rfl) (matP_put hk hx)
    · unfold upd2 turnU
      by_cases h1 : a = k ∧ c = x
      · obtain ⟨rfl, rfl⟩ := h1
        rw [if_pos ⟨rfl, rfl⟩, if_pos (by omega)]
      · rw [if_neg h1]
        by_cases h2 : a = x ∧ c = k
        · obtain ⟨rfl, rfl⟩ := h2
          rw [if_pos ⟨rfl, rfl⟩, if_pos (by omega)]
        · rw [if_neg h2]
          have g : ((a = x ∧ c < k + 1) ∨ (c = x ∧ a < k + 1)) ↔ ((a = x ∧ c < k) ∨ (c = x ∧ a < k)) := by omega
          simp only [g]) (sl := turnSl n M x y0 z0 m) (S := matP [] n (turnU M T x 0)) ⟨y0, rfl, rfl⟩
  rw [e0]
  exact ⟨y, z_for (rng1_ok rfl (by omega)) e⟩
theorem give_ok {own : List Nat} {slot k : Nat} {n : Nat} {T : Nat → Nat → Int} {sl : Sl} {pre S' : Sto} (hk : sl[k]? = some (some (.loc (pre.length + n)))) (hsl : slot < (wipeS sl own).length) (hn : n ≤ 1000) (hf : frz (matP pre n T) (.loc (pre.length + n)) = some (.list ((List.range n).map fun i => .list (linD n (T i))), S')) :
    blt tupD (consL (frzE (lcF own (seqI (var k)) (.nm slot) yes (blt tupD (consL (var slot) nilL)))) nilL) sl (matP pre n T) = .ok (.d (webD n T)) S' := by
  have c1 : seqI (var k) sl (matP pre n T) = .ok ((List.range n).map fun i => .list (linD n (T i))) S' := by
    show (var k sl (matP pre n T)).bind _ = _
    rw [z_var hk]
    simp only [R.bind, hf]
  have c2 := lcGo_yes (slot := slot) (el := blt tupD (consL (var slot) nilL)) (sl := wipeS sl own) (S := S') (f := tupOf) ((List.range n).map fun i => .list (linD n (T i))) 0 (fun d hd => by
    obtain ⟨i, _, rfl⟩ := List.mem_map.mp hd
    exact z_blt (ds := [.list (linD n (T i))]) (z_consD (z_var (by rw [List.getElem?_set_self hsl])) z_nilD) rfl) (by rw [List.length_map, List.length_range, Nat.zero_add]; exact sz_ge n hn)
  have c3 := z_lc (own := own) c1 c2
  rw [tup_map] at c3
  exact z_blt (z_consD (z_frzE c3) z_nilD) rfl
theorem turn_ok (hs : Skew b M) (hb : b ≤ 1000000) (hn : n ≤ 1000) (hx : x < n) : turnF [webD n M, .int x] = .ok (webD n (turnM M x)) := by
  obtain ⟨y1, z1, m1, e2⟩ := turn_mid hs hb hn hx (y0 := none) (z0 := none) (m0 := none)
  obtain ⟨y2, e3⟩ := turn_end (M := M) (T := turnT M x n 0) hn hx (y0 := y1) (z0 := z1) (m := m1)
  obtain ⟨S', f1, _⟩ := frz_matP (pre := []) (n := n) (M := turnU M (turnT M x n 0) x n)
  have e1 : parS [2, 3] (consL (blt lenD (consL (var 0) nilL)) (consL (ownE (lcF [6] (seqI (var 0)) (.nm 6) yes (ownE (lstF (var 6))))) nilL)) (slots 8 [.d (webD n M), .d (.int x)]) [] = .nx (turnSl n M x none none none) (matP [] n M) :=
    z_par (z_cons (x := .d (.int n)) (z_blt (ds := [webD n M]) (z_consD (z_var rfl) z_nilD) (by show some (PyData.int _) = _; rw [web_len])) (z_cons (copy_ok (own := [6]) rfl (show (6 : Nat) < 8 by decide) hn) z_nil)) rfl (by decide)
  have e4 := give_ok (own := [6]) (slot := 6) (k := 3) (sl := turnSl n M x y2 z1 m1) (pre := []) rfl (show (6 : Nat) < 8 by decide) hn f1
  have e5 : webD n (turnU M (turnT M x n 0) x n) = webD n (turnM M x) := webD_ext fun a c ha hc => by
    unfold turnU turnM
    by_cases h : a = x ∨ c = x
    · rw [if_pos (by omega), if_pos h]
    · rw [if_neg (by omega), if_neg h]
      unfold turnT
      rw [if_pos (by omega), if_pos (by omega)]
  rw [e5] at e4
  exact z_runP rfl (z_seq e1 (z_seq e2 (z_seq e3 (z_rt e4)))) rfl
end
end DV
set_option Elab.async false
set_option linter.all false
set_option maxRecDepth 100000
set_option maxHeartbeats 4000000
namespace DV
open PySem
def shareL : DS := (whS 100000 (asB (bin gtI (var 3) (cst (.int 0)))) (parS [2, 3] (consL (var 3) (consL (bin modD (var 2) (var 3)) nilL))))
def shareD : DS :=
  (seqS (parS [2, 3] (consL (blt absD (consL (var 0) nilL)) (consL (var 1) nilL)))
  (seqS shareL
  (rtS (tupE (consL (bin divD (var 0) (var 2)) (consL (bin divD (var 1) (var 2)) nilL))))))
def shareF : FnP := runP 4 2 shareD
def shD (p : Int × Int) : PyData := .tuple [.int p.1, .int p.2]
/-- the loop of Euclid -/
theorem euclid {t u : Option Val} : ∀ (k a b f : Nat), b < 2 ^ k → 2 * k + 2 ≤ f → ∃ S', wgo (asB (bin gtI (var 3) (cst (.int 0)))) (parS [2, 3] (consL (var 3) (consL (bin modD (var 2) (var 3)) nilL))) f [t, u, some (.d (.int a)), some (.d (.int b))] [] = .nx [t, u, some (.d (.int (Nat.gcd a b : Nat))), some (.d (.int 0))] [] ∧ S' = ([] : Sto) := by
  have stop : ∀ (a f : Nat), 1 ≤ f → wgo (asB (bin gtI (var 3) (cst (.int 0)))) (parS [2, 3] (consL (var 3) (consL (bin modD (var 2) (var 3)) nilL))) f [t, u, some (.d (.int a)), some (.d (.int (0 : Nat)))] [] = .nx [t, u, some (.d (.int (Nat.gcd a 0 : Nat))), some (.d (.int 0))] [] := by
    intro a f hf
    obtain ⟨g, rfl⟩ : ∃ g, f = g + 1 := ⟨f - 1, by omega⟩
    rw [Nat.gcd_zero_right]
    rfl
  have step : ∀ (a b f : Nat), 0 < b → wgo (asB (bin gtI (var 3) (cst (.int 0)))) (parS [2, 3] (consL (var 3) (consL (bin modD (var 2) (var 3)) nilL))) (f + 1) [t, u, some (.d (.int a)), some (.d (.int b))] [] = wgo (asB (bin gtI (var 3) (cst (.int 0)))) (parS [2, 3] (consL (var 3) (consL (bin modD (var 2) (var 3)) nilL))) f [t, u, some (.d (.int b)), some (.d (.int (a % b : Nat)))] [] := by
    intro a b f hb
    have c1 : asB (bin gtI (var 3) (cst (.int 0))) [t, u, some (.d (.int a)), some (.d (.int b))] [] = .ok true [] := z_asB (z_bin (z_var rfl) rfl (by
      have : (0 : Int) < b := by omega
      simp [gtI, cmpI]
      omega))
    have c2 : parS [2, 3] (consL (var 3) (consL (bin modD (var 2) (var 3)) nilL)) [t, u, some (.d (.int a)), some (.d (.int b))] [] = .nx [t, u, some (.d (.int b)), some (.d (.int (a % b : Nat)))] [] := z_par (z_cons (z_var rfl) (z_cons (x := .d (.int (a % b : Nat))) (z_bin (z_var rfl) (z_var rfl) (by
      have : (0 : Int) < b := by omega
      show (if (0 : Int) < b then some (PyData.int ((a : Int) % b)) else none) = _
      rw [if_pos this]
      simp)) z_nil)) rfl (by decide)
    show thenS _ _ _ = _
    rw [c1]
    simp only [thenS, if_true]
    rw [c2]
  intro k
  induction k with
  | zero =>
    intro a b f hb hf
    have : b = 0 := by omega
    subst this
    exact ⟨[], stop a f (by omega), rfl⟩
  | succ k ih =>
    intro a b f hb hf
    refine ⟨[], ?_, rfl⟩
    by_cases b0 : b = 0
    · subst b0
      exact stop a f (by omega)
    · obtain ⟨g, rfl⟩ : ∃ g, f = g + 2 := ⟨f - 2, by omega⟩
      rw [step a b (g + 1) (by omega)]
      by_cases r0 : a % b = 0
      · rw [r0, stop b (g + 1) (by omega), Nat.gcd_zero_right]
        rw [show Nat.gcd a b = b from by rw [Nat.gcd_comm, Nat.gcd_rec, r0, Nat.gcd_zero_left]]
      · have hr : a % b < b := Nat.mod_lt _ (by omega)
        rw [step b (a % b) g (by omega)]
        have hq : b % (a % b) < 2 ^ k := by
          have h1 : b % (a % b) < a % b := Nat.mod_lt _ (by omega)
          have h2 : b % (a % b) + (a % b) ≤ b := by
            have := Nat.div_add_mod b (a % b)
            have h3 : 1 ≤ b / (a % b) := Nat.div_pos (by omega) (by omega)
            have h4 : (a % b) * 1 ≤ (a % b) * (b / (a % b)) := Nat.mul_le_mul_left _ h3
            omega
          have : 2 ^ (k + 1) = 2 * 2 ^ k := by rw [Nat.pow_succ]; omega
          omega
        obtain ⟨S', e, _⟩ := ih (a % b) (b % (a % b)) g hq (by omega)
        rw [e]
        rw [show Nat.gcd a b = Nat.gcd (a % b) (b % (a % b)) from by
          rw [Nat.gcd_comm a b, Nat.gcd_rec b a]
          exact (Nat.gcd_rec (a % b) b).trans (Nat.gcd_comm _ _)]
def shareZ (t b : Int) : Int × Int := (t / (Nat.gcd t.natAbs b.natAbs : Nat), b / (Nat.gcd t.natAbs b.natAbs : Nat))
theorem share_ok {t b : Int} (hb : 0 < b) (hs : b.natAbs.log2 < 8000) : shareF [.int t, .int b] = .ok (shD (shareZ t b)) := by
  have e1 : parS [2, 3] (consL (blt absD (consL (var 0) nilL)) (consL (var 1) nilL)) (slots 4 [.d (.int t), .d (.int b)]) [] = .nx [some (.d (.int t)), some (.d (.int b)), some (.d (.int t.natAbs)), some (.d (.int b.natAbs))] [] := by
    have a1 : (if t < 0 then -t else t) = (t.natAbs : Int) := by split <;> omega
    have a2 : b = (b.natAbs : Int) := by omega
    refine z_par (xs := [.d (.int t.natAbs), .d (.int b)]) (z_cons (z_blt (ds := [.int t]) (z_consD (z_var rfl) z_nilD) (by show some (PyData.int (if t < 0 then -t else t)) = _; rw [a1])) (z_cons (z_var rfl) z_nil)) ?_ (by decide)
    show some [some (Val.d (.int t)), some (Val.d (.int b)), some (Val.d (.int t.natAbs)), some (Val.d (.int b))] = _
    rw [← a2]
  have hk : b.natAbs < 2 ^ (b.natAbs.log2 + 1) := Nat.lt_log2_self
  obtain ⟨_, e2, _⟩ := euclid (t := some (.d (.int t))) (u := some (.d (.int b))) (b.natAbs.log2 + 1) t.natAbs b.natAbs 100000 hk (by omega)
  have g0 : 0 < Nat.gcd t.natAbs b.natAbs := Nat.gcd_pos_of_pos_right _ (by omega)
  have g1 : Nat.gcd t.natAbs b.natAbs ≤ b.natAbs := Nat.le_of_dvd (by omega) (Nat.gcd_dvd_right _ _)
  have g2 : (Nat.gcd t.natAbs b.natAbs).log2 < 9000 := by
    have : (Nat.gcd t.natAbs b.natAbs).log2 ≤ b.natAbs.log2 := by
      have h := (Nat.log2_lt (show Nat.gcd t.natAbs b.natAbs ≠ 0 by omega)).mpr (Nat.lt_of_le_of_lt g1 hk)
      omega
    omega
  have dv : ∀ z : Int, divD (.int z) (.int (Nat.gcd t.natAbs b.natAbs : Nat)) = some (.int (z / (Nat.gcd t.natAbs b.natAbs : Nat))) := by
    intro z
    have h0 : (0 : Int) < (Nat.gcd t.natAbs b.natAbs : Nat) := by omega
    show (if decide ((0 : Int) < (Nat.gcd t.natAbs b.natAbs : Nat)) && decide ((((Nat.gcd t.natAbs b.natAbs : Nat) : Int)).natAbs.log2 < 9000) then some (PyData.int (z / (Nat.gcd t.natAbs b.natAbs : Nat))) else none) = _
    rw [decide_eq_true h0, Int.natAbs_natCast, decide_eq_true g2]
    rfl
  refine z_runP rfl (z_seq e1 (z_seq (show shareL _ _ = _ from e2) (z_rt (S1 := []) (z_tup (ds := [_, _]) (z_consD (z_bin (z_var rfl) (z_var rfl) (dv t)) (z_consD (z_bin (z_var rfl) (z_var rfl) (dv b)) z_nilD)) (sz_ge 2 (by decide)))))) rfl
theorem shareZ_pos {t b : Int} (hb : 0 < b) : 0 < (shareZ t b).2 := by
  unfold shareZ
  have g0 : 0 < Nat.gcd t.natAbs b.natAbs := Nat.gcd_pos_of_pos_right _ (by omega)
  have g1 : ((Nat.gcd t.natAbs b.natAbs : Nat) : Int) ∣ b := by
    have h : ((Nat.gcd t.natAbs b.natAbs : Nat) : Int) ∣ ((b.natAbs : Nat) : Int) := Int.natCast_dvd_natCast.mpr (Nat.gcd_dvd_right _ _)
    rwa [show ((b.natAbs : Nat) : Int) = b by omega] at h
  exact Int.ediv_pos_of_pos_of_dvd hb (by omega) g1
def timesD : DS :=
  (rtS (callP shareF (consL (bin mulD (ixE (var 0) (cst (.int 0))) (ixE (var 1) (cst (.int 0)))) (consL (bin mulD (ixE (var 0) (cst (.int 1))) (ixE (var 1) (cst (.int 1)))) nilL))))
def timesF : FnP := runP 2 2 timesD
def plusD : DS :=
  (rtS (callP shareF (consL (bin addD (bin mulD (ixE (var 0) (cst (.int 0))) (ixE (var 1) (cst (.int 1)))) (bin mulD (ixE (var 1) (cst (.int 0))) (ixE (var 0) (cst (.int 1))))) (consL (bin mulD (ixE (var 0) (cst (.int 1))) (ixE (var 1) (cst (.int 1)))) nilL))))
def plusF : FnP := runP 2 2 plusD
/-- not too great to reckon with, above 0 below -/
def Sm (p : Int × Int) : Prop := p.1.natAbs.log2 < 3000 ∧ 0 < p.2 ∧ p.2.natAbs.log2 < 3000
def smB (p : Int × Int) : Bool := decide (p.1.natAbs.log2 < 3000) && decide (0 < p.2) && decide (p.2.natAbs.log2 < 3000)
theorem smB_ok {p : Int × Int} (h : smB p = true) : Sm p := by
  simpa [smB, Sm, and_assoc] using h
def timesZ (p q : Int × Int) : Int × Int := shareZ (p.1 * q.1) (p.2 * q.2)
def plusZ (p q : Int × Int) : Int × Int := shareZ (p.1 * q.2 + q.1 * p.2) (p.2 * q.2)
theorem log_mul {a b : Int} : (a * b).natAbs.log2 ≤ a.natAbs.log2 + b.natAbs.log2 + 1 := by
  rw [Int.natAbs_mul]
  by_cases h : a.natAbs * b.natAbs = 0
  · rw [h]; simp
  · have h1 : a.natAbs < 2 ^ (a.natAbs.log2 + 1) := Nat.lt_log2_self
    have h2 : b.natAbs < 2 ^ (b.natAbs.log2 + 1) := Nat.lt_log2_self
    have h3 : a.natAbs * b.natAbs < 2 ^ (a.natAbs.log2 + 1 + (b.natAbs.log2 + 1)) := by
      rw [Nat.pow_add]
      exact Nat.mul_lt_mul'' h1 h2
    have := (Nat.log2_lt h).mpr h3
    omega
theorem mulD_log {a b : Int} (h : a.natAbs.log2 < 3000) (h2 : b.natAbs.log2 < 3000) : mulD (.int a) (.int b) = some (.int (a * b)) := by
  unfold mulD
  simp only []
  rw [if_pos (by omega)]
theorem sh_0 {p : Int × Int} {S : Sto} : ixV S (.d (shD p)) (.d (.int 0)) = .ok (.d (.int p.1)) S := rfl
theorem sh_1 {p : Int × Int} {S : Sto} : ixV S (.d (shD p)) (.d (.int 1)) = .ok (.d (.int p.2)) S := rfl
theorem times_ok {p q : Int × Int} (hp : Sm p) (hq : Sm q) : timesF [shD p, shD q] = .ok (shD (timesZ p q)) := by
  refine z_runP rfl (z_rt (S1 := []) (z_callP (ds := [.int (p.1 * q.1), .int (p.2 * q.2)]) (z_consD (z_bin (z_ix (z_var rfl) rfl sh_0) (z_ix (z_var rfl) rfl sh_0) (mulD_log hp.1 hq.1)) (z_consD (z_bin (z_ix (z_var rfl) rfl sh_1) (z_ix (z_var rfl) rfl sh_1) (mulD_log hp.2.2 hq.2.2)) z_nilD)) (share_ok (Int.mul_pos hp.2.1 hq.2.1) ?_))) rfl
  have := @log_mul p.2 q.2
  have := hp.2.2
  have := hq.2.2
  omega
theorem plus_ok {p q : Int × Int} (hp : Sm p) (hq : Sm q) : plusF [shD p, shD q] = .ok (shD (plusZ p q)) := by
  refine z_runP rfl (z_rt (S1 := []) (z_callP (ds := [.int (p.1 * q.2 + q.1 * p.2), .int (p.2 * q.2)]) (z_consD (z_bin (z_bin (z_ix (z_var rfl) rfl sh_0) (z_ix (z_var rfl) rfl sh_1) (mulD_log hp.1 hq.2.2)) (z_bin (z_ix (z_var rfl) rfl sh_0) (z_ix (z_var rfl) rfl sh_1) (mulD_log hq.1 hp.2.2)) rfl) (z_consD (z_bin (z_ix (z_var rfl) rfl sh_1) (z_ix (z_var rfl) rfl sh_1) (mulD_log hp.2.2 hq.2.2)) z_nilD)) (share_ok (Int.mul_pos hp.2.1 hq.2.1) ?_))) rfl
  have := @log_mul p.2 q.2
  have := hp.2.2
  have := hq.2.2
  omega
end DV
set_option Elab.async false
set_option linter.all false
set_option maxRecDepth 100000
set_option maxHeartbeats 4000000
namespace DV
open PySem
def valsB : DS := (seqS (asgS 5 (ifE (asB (bin gtI (ixE (ixE (var 0) (var 7)) (var 4)) (cst (.int 0)))) (callP timesF (consL (var 5) (consL (ixE (var 3) (var 7)) nilL))) (var 5)))
  (asgS 6 (ifE (asB (bin ltI (ixE (ixE (var 0) (var 7)) (var 4)) (cst (.int 0)))) (callP timesF (consL (var 6) (consL (ixE (var 3) (var 7)) nilL))) (var 6))))
def valsC : DS := forS (rng1 (consL (blt absD (consL (ixE (ixE (var 0) (var 7)) (var 4)) nilL)) nilL)) (.nm 8) valsB
def valsE : DS := (seqS (parS [5, 6] (consL (tupE (consL (cst (.int 1)) (consL (cst (.int 1)) nilL))) (consL (tupE (consL (cst (.int 1)) (consL (cst (.int 1)) nilL))) nilL)))
  (seqS (forS (rng1 (consL (blt lenD (consL (var 0) nilL)) nilL)) (.nm 7) valsC)
  (seqS (putS (callP timesF (consL (callP plusF (consL (var 5) (consL (var 6) nilL))) (consL (tupE (consL (ixE (ixE (var 3) (var 4)) (cst (.int 1))) (consL (ixE (ixE (var 3) (var 4)) (cst (.int 0))) nilL))) nilL))) (var 3) (var 4))
  (asgS 0 (callP turnF (consL (var 0) (consL (var 4) nilL)))))))
def valsD : DS :=
  (seqS (asgS 3 (ownE (lstF (var 2))))
  (seqS (forS (seqI (var 1)) (.nm 4) valsE)
  (rtS (var 3))))
def valsF : FnP := runP 9 3 valsD
abbrev Shr := Int × Int
theorem z_ifeT {c : DB} {fa fb : DE} {sl : Sl} {S S1 : Sto} {r : R Val} (h : c sl S = .ok true S1) (h2 : fa sl S1 = r) : ifE c fa fb sl S = r := by
  show (c sl S).bind _ = _
  rw [h]; exact h2
theorem z_ifeF {c : DB} {fa fb : DE} {sl : Sl} {S S1 : Sto} {r : R Val} (h : c sl S = .ok false S1) (h2 : fb sl S1 = r) : ifE c fa fb sl S = r := by
  show (c sl S).bind _ = _
  rw [h]; exact h2
def intoO (v : Shr) : Nat → Shr → Option Shr
  | 0, p => some p
  | k + 1, p => if smB p && smB v then intoO v k (timesZ p v) else none
def stepO (m : Int) (v : Shr) (io : Shr × Shr) : Option (Shr × Shr) :=
  if 0 < m then (intoO v m.natAbs io.1).map fun p => (p, io.2) else (intoO v m.natAbs io.2).map fun p => (io.1, p)
def ioO (M : Nat → Nat → Int) (x : Nat) (f : Nat → Shr) : Nat → Option (Shr × Shr)
  | 0 => some ((1, 1), (1, 1))
  | k + 1 => (ioO M x f k).bind (stepO (M k x) (f k))
def newO (n : Nat) (M : Nat → Nat → Int) (x : Nat) (f : Nat → Shr) : Option Shr :=
  (ioO M x f n).bind fun io => if smB io.1 && smB io.2 && smB (plusZ io.1 io.2) && smB ((f x).2, (f x).1) then some (timesZ (plusZ io.1 io.2) ((f x).2, (f x).1)) else none
def setF (f : Nat → Shr) (x : Nat) (v : Shr) : Nat → Shr := fun k => if k = x then v else f k
def valsO (n : Nat) : (Nat → Nat → Int) → List Nat → (Nat → Shr) → Option (Nat → Shr)
  | _, [], f => some f
  | M, x :: xs, f => (newO n M x f).bind fun v => valsO n (turnM M x) xs (setF f x v)
def WebsOk (n : Nat) : (Nat → Nat → Int) → List Nat → Prop
  | _, [] => True
  | M, x :: xs => x < n ∧ (∃ b, b ≤ 1000000 ∧ Skew b M) ∧ WebsOk n (turnM M x) xs
def valsL (n : Nat) (f : Nat → Shr) : List Val := (List.range n).map fun k => .d (shD (f k))
def valsSl (n : Nat) (M : Nat → Nat → Int) (told starts : Val) (x i o y t : Option Val) : Sl := [some (.d (webD n M)), some told, some starts, some (.loc 0), x, i, o, y, t]
section
variable {n x y : Nat} {M : Nat → Nat → Int} {f : Nat → Shr} {told starts : Val} {i o : Shr} {b : Int}
theorem val_get (hy : y < n) : ixV [.lst (valsL n f)] (.loc 0) (.d (.int y)) = .ok (.d (shD (f y))) [.lst (valsL n f)] := by
  show (match L2.atI (valsL n f) (y : Int) with | some v => R.ok v [Ob.lst (valsL n f)] | none => .bad) = _
  unfold valsL
  rw [atI_map _ hy]
theorem valsB_ok (hx : x < n) (hy : y < n) {t : Option Val} {m : Int} (em : M y x = m) (hm : m ≠ 0) {i' o' : Shr} (hi : if 0 < m then Sm i ∧ Sm (f y) ∧ i' = timesZ i (f y) ∧ o' = o else Sm o ∧ Sm (f y) ∧ o' = timesZ o (f y) ∧ i' = i) :
    valsB (valsSl n M told starts (some (.d (.int x))) (some (.d (shD i))) (some (.d (shD o))) (some (.d (.int y))) t) [.lst (valsL n f)] = .nx (valsSl n M told starts (some (.d (.int x))) (some (.d (shD i'))) (some (.d (shD o'))) (some (.d (.int y))) t) [.lst (valsL n f)] := by
  have e1 : ∀ i o, ixE (ixE (var 0) (var 7)) (var 4) (valsSl n M told starts (some (.d (.int x))) i o (some (.d (.int y))) t) [.lst (valsL n f)] = .ok (.d (.int m)) [.lst (valsL n f)] := fun i o => by
    rw [← em]
    exact web_at (M := M) (z_var rfl) (z_var rfl) (z_var rfl) hy hx
  by_cases c : 0 < m
  · rw [if_pos c] at hi
    obtain ⟨h1, h2, rfl, rfl⟩ := hi
    have c2 : ¬ m < 0 := by omega
    refine z_seq (S1 := [.lst (valsL n f)]) (z_asg (x := .d (shD (timesZ i (f y)))) ?_) (z_asg (x := .d (shD o')) ?_)
    · exact z_ifeT (S1 := [.lst (valsL n f)]) (z_asB (z_bin (e1 _ _) rfl (by simp [gtI, cmpI, c]))) (z_callP (ds := [shD i, shD (f y)]) (z_consD (z_var rfl) (z_consD (z_ix (z_var rfl) (z_var rfl) (val_get hy)) z_nilD)) (times_ok h1 h2))
    · exact z_ifeF (S1 := [.lst (valsL n f)]) (z_asB (z_bin (e1 _ _) rfl (by simp [ltI, cmpI, c2]))) (z_var rfl)
  · rw [if_neg c] at hi
    obtain ⟨h1, h2, rfl, rfl⟩ := hi
    have c2 : m < 0 := by omega
    refine z_seq (S1 := [.lst (valsL n f)]) (z_asg (x := .d (shD i')) ?_) (z_asg (x := .d (shD (timesZ o (f y)))) ?_)
    · exact z_ifeF (S1 := [.lst (valsL n f)]) (z_asB (z_bin (e1 _ _) rfl (by simp [gtI, cmpI, c]))) (z_var rfl)
    · exact z_ifeT (S1 := [.lst (valsL n f)]) (z_asB (z_bin (e1 _ _) rfl (by simp [ltI, cmpI, c2]))) (z_callP (ds := [shD o, shD (f y)]) (z_consD (z_var rfl) (z_consD (z_ix (z_var rfl) (z_var rfl) (val_get hy)) z_nilD)) (times_ok h1 h2))
theorem intoO_step {v p q : Shr} {k : Nat} (h : intoO v (k + 1) p = some q) : Sm p ∧ Sm v ∧ intoO v k (timesZ p v) = some q := by
  unfold intoO at h
  split at h
  · rename_i c
    simp only [Bool.and_eq_true] at c
    exact ⟨smB_ok c.1, smB_ok c.2, h⟩
  · cases h
/-- the inner loop -/
theorem valsC_go (hx : x < n) (hy : y < n) {m : Int} (em : M y x = m) (hm : m ≠ 0) : ∀ (l : List PyData) (i o : Shr) (io' : Shr × Shr) (t : Option Val), (if 0 < m then (intoO (f y) l.length i).map (fun p => (p, o)) else (intoO (f y) l.length o).map fun p => (i, p)) = some io' →
    ∃ t', fgo (.nm 8) valsB l (valsSl n M told starts (some (.d (.int x))) (some (.d (shD i))) (some (.d (shD o))) (some (.d (.int y))) t) [.lst (valsL n f)] = .nx (valsSl n M told starts (some (.d (.int x))) (some (.d (shD io'.1))) (some (.d (shD io'.2))) (some (.d (.int y))) t') [.lst (valsL n f)]
  | [], i, o, io', t, h => by
    have : io' = (i, o) := by
      split at h <;> simpa [intoO, eq_comm] using h
    subst this
    exact ⟨t, rfl⟩
  | d :: l, i, o, io', t, h => by
    by_cases c : 0 < m
    · rw [if_pos c] at h
      obtain ⟨p, e1, e2⟩ := Option.map_eq_some_iff.mp h
      obtain ⟨s1, s2, e3⟩ := intoO_step e1
      obtain ⟨t', e⟩ := valsC_go hx hy em hm l (timesZ i (f y)) o io' (some (.d d)) (by rw [if_pos c, e3]; exact congrArg some e2)
      refine ⟨t', ?_⟩
      have b1 := valsB_ok (told := told) (starts := starts) (i := i) (o := o) hx hy (t := some (.d d)) em hm (i' := timesZ i (f y)) (o' := o) (by rw [if_pos c]; exact ⟨s1, s2, rfl, rfl⟩)
      unfold fgo
      simp only [setT]
      rw [show (valsSl n M told starts (some (.d (.int x))) (some (.d (shD i))) (some (.d (shD o))) (some (.d (.int y))) t).set 8 (some (.d d)) = valsSl n M told starts (some (.d (.int x))) (some (.d (shD i))) (some (.d (shD o))) (some (.d (.int y))) (some (.d d)) from rfl, b1]
      exact e
    · rw [if_neg c] at h
      obtain ⟨p, e1, e2⟩ := Option.map_eq_some_iff.mp h
      obtain ⟨s1, s2, e3⟩ := intoO_step e1
      obtain ⟨t', e⟩ := valsC_go hx hy em hm l i (timesZ o (f y)) io' (some (.d d)) (by rw [if_neg c, e3]; exact congrArg some e2)
      refine ⟨t', ?_⟩
      have b1 := valsB_ok (told := told) (starts := starts) (i := i) (o := o) hx hy (t := some (.d d)) em hm (i' := i) (o' := timesZ o (f y)) (by rw [if_neg c]; exact ⟨s1, s2, rfl, rfl⟩)
      unfold fgo
      simp only [setT]
      rw [show (valsSl n M told starts (some (.d (.int x))) (some (.d (shD i))) (some (.d (shD o))) (some (.d (.int y))) t).set 8 (some (.d d)) = valsSl n M told starts (some (.d (.int x))) (some (.d (shD i))) (some (.d (shD o))) (some (.d (.int y))) (some (.d d)) from rfl, b1]
      exact e
theorem valsC_ok (hs : Skew b M) (hb : b ≤ 1000000) (hx : x < n) (hy : y < n) {io io' : Shr × Shr} {t : Option Val} (h : stepO (M y x) (f y) io = some io') :
    ∃ t', valsC (valsSl n M told starts (some (.d (.int x))) (some (.d (shD io.1))) (some (.d (shD io.2))) (some (.d (.int y))) t) [.lst (valsL n f)] = .nx (valsSl n M told starts (some (.d (.int x))) (some (.d (shD io'.1))) (some (.d (shD io'.2))) (some (.d (.int y))) t') [.lst (valsL n f)] := by
  have e0 : rng1 (consL (blt absD (consL (ixE (ixE (var 0) (var 7)) (var 4)) nilL)) nilL) (valsSl n M told starts (some (.d (.int x))) (some (.d (shD io.1))) (some (.d (shD io.2))) (some (.d (.int y))) t) [.lst (valsL n f)] = .ok (rangeL 0 (M y x).natAbs) [.lst (valsL n f)] := by
    refine rng1_ok (z_cons (z_blt (ds := [.int (M y x)]) (z_consD (web_at (M := M) (z_var rfl) (z_var rfl) (z_var rfl) hy hx) z_nilD) ?_) z_nil) ?_
    · show some (PyData.int (if M y x < 0 then -(M y x) else M y x)) = _
      congr 2
      split <;> omega
    · have := hs y x
      omega
  by_cases hm : M y x = 0
  · have : io' = io := by
      unfold stepO at h
      rw [hm] at h
      simp [intoO] at h
      exact h.symm
    subst this
    refine ⟨t, z_for e0 ?_⟩
    rw [hm]
    rfl
  · obtain ⟨t', e⟩ := valsC_go (told := told) (starts := starts) (f := f) hx hy rfl hm (rangeL 0 (M y x).natAbs) io.1 io.2 io' t (by rw [rangeL_length]; exact h)
    exact ⟨t', z_for e0 e⟩
theorem valsC_all (hs : Skew b M) (hb : b ≤ 1000000) (hn : n ≤ 1000) (hx : x < n) {y0 t0 : Option Val} : ∀ {io : Shr × Shr}, ioO M x f n = some io →
    ∃ y t, forS (rng1 (consL (blt lenD (consL (var 0) nilL)) nilL)) (.nm 7) valsC (valsSl n M told starts (some (.d (.int x))) (some (.d (shD (1, 1)))) (some (.d (shD (1, 1)))) y0 t0) [.lst (valsL n f)] = .nx (valsSl n M told starts (some (.d (.int x))) (some (.d (shD io.1))) (some (.d (shD io.2))) y t) [.lst (valsL n f)] := by
  intro io h
  have some_at : ∀ k, k ≤ n → ∃ io, ioO M x f k = some io := by
    intro k hk
    by_cases e : k = n
    · exact ⟨io, e ▸ h⟩
    · have main : ∀ j, ∀ io, ioO M x f j = some io → ∀ k, k ≤ j → ∃ io, ioO M x f k = some io := by
        intro j
        induction j with
        | zero =>
          intro io h k hk
          have : k = 0 := by omega
          subst this
          exact ⟨io, h⟩
        | succ j ih =>
          intro io h k hk
          by_cases e : k = j + 1
          · exact ⟨io, e ▸ h⟩
          · unfold ioO at h
            obtain ⟨io1, h1, _⟩ := Option.bind_eq_some_iff.mp h
            exact ih io1 h1 k (by omega)
      exact main n io h k hk
  have e0 : rng1 (consL (blt lenD (consL (var 0) nilL)) nilL) (valsSl n M told starts (some (.d (.int x))) (some (.d (shD (1, 1)))) (some (.d (shD (1, 1)))) y0 t0) [.lst (valsL n f)] = .ok (rangeL 0 n) [.lst (valsL n f)] :=
    rng1_ok (z_cons (z_blt (ds := [webD n M]) (z_consD (z_var rfl) z_nilD) (by show some (PyData.int _) = _; rw [web_len])) z_nil) (by omega)
  obtain ⟨sl', S', e, io2, y, t, h2, rfl, rfl⟩ := fgo_range0 (slot := 7) (g := valsC) (cnt := n) (P := fun k sl S => ∃ io y t, ioO M x f k = some io ∧ sl = valsSl n M told starts (some (.d (.int x))) (some (.d (shD io.1))) (some (.d (shD io.2))) y t ∧ S = [.lst (valsL n f)]) (fun k sl S hk hp => by
    obtain ⟨io1, y, t, h1, rfl, rfl⟩ := hp
    obtain ⟨io2, h2⟩ := some_at (k + 1) (by omega)
    have h3 : stepO (M k x) (f k) io1 = some io2 := by
      unfold ioO at h2
      rw [h1] at h2
      exact h2
    obtain ⟨t', e⟩ := valsC_ok (told := told) (starts := starts) hs hb hx hk (t := t) h3
    exact ⟨_, _, e, io2, _, _, h2, rfl, rfl⟩) (sl := valsSl n M told starts (some (.d (.int x))) (some (.d (shD (1, 1)))) (some (.d (shD (1, 1)))) y0 t0) (S := [.lst (valsL n f)]) ⟨((1, 1), (1, 1)), y0, t0, rfl, rfl, rfl⟩
  rw [h] at h2
  cases h2
  exact ⟨y, t, z_for e0 e⟩
theorem valsL_set {v : Shr} (hx : x < n) : (valsL n f).set x (.d (shD v)) = valsL n (setF f x v) := by
  unfold valsL
  rw [map_set]
  apply List.map_congr_left
  intro k _
  unfold setF
  by_cases e : k = x <;> simp [e]
theorem valsE_ok (hs : Skew b M) (hb : b ≤ 1000000) (hn : n ≤ 1000) (hx : x < n) {v : Shr} (h : newO n M x f = some v) {i0 o0 y0 t0 : Option Val} :
    ∃ i o y t, valsE (valsSl n M told starts (some (.d (.int x))) i0 o0 y0 t0) [.lst (valsL n f)] = .nx (valsSl n (turnM M x) told starts (some (.d (.int x))) i o y t) [.lst (valsL n (setF f x v))] := by
  unfold newO at h
  obtain ⟨io, h1, h2⟩ := Option.bind_eq_some_iff.mp h
  split at h2
  · rename_i c
    simp only [Bool.and_eq_true] at c
    obtain ⟨⟨⟨c1, c2⟩, c3⟩, c4⟩ := c
    cases h2
    obtain ⟨y, t, e2⟩ := valsC_all (told := told) (starts := starts) hs hb hn hx (y0 := y0) (t0 := t0) h1
    refine ⟨some (.d (shD io.1)), some (.d (shD io.2)), y, t, z_seq (S1 := [.lst (valsL n f)]) (sl1 := valsSl n M told starts (some (.d (.int x))) (some (.d (shD (1, 1)))) (some (.d (shD (1, 1)))) y0 t0) ?_ (z_seq e2 (z_seq (sl1 := valsSl n M told starts (some (.d (.int x))) (some (.d (shD io.1))) (some (.d (shD io.2))) y t) (S1 := [.lst (valsL n (setF f x (timesZ (plusZ io.1 io.2) ((f x).2, (f x).1))))]) ?_ (z_asg (x := .d (webD n (turnM M x))) (z_callP (ds := [webD n M, .int x]) (z_consD (z_var rfl) (z_consD (z_var rfl) z_nilD)) (turn_ok hs hb hn hx)))))⟩
    · exact z_par (z_cons (z_tup (ds := [.int 1, .int 1]) (z_consD rfl (z_consD rfl z_nilD)) (sz_ge 2 (by decide))) (z_cons (z_tup (ds := [.int 1, .int 1]) (z_consD rfl (z_consD rfl z_nilD)) (sz_ge 2 (by decide))) z_nil)) rfl (by decide)
    · refine z_put (z_callP (ds := [shD (plusZ io.1 io.2), shD ((f x).2, (f x).1)]) (z_consD (z_callP (ds := [shD io.1, shD io.2]) (z_consD (z_var rfl) (z_consD (z_var rfl) z_nilD)) (plus_ok (smB_ok c1) (smB_ok c2))) (z_consD (z_tup (ds := [.int (f x).2, .int (f x).1]) (z_consD (z_ix (z_ix (z_var rfl) (z_var rfl) (val_get hx)) rfl sh_1) (z_consD (z_ix (z_ix (z_var rfl) (z_var rfl) (val_get hx)) rfl sh_0) z_nilD)) (sz_ge 2 (by decide))) z_nilD)) (times_ok (smB_ok c3) (smB_ok c4))) (z_var rfl) (z_var rfl) ?_
      show (match L2.ixN (valsL n f).length (x : Int) with | some j => some ([Ob.lst (valsL n f)].set 0 (.lst ((valsL n f).set j _))) | none => none) = _
      rw [show (valsL n f).length = n by simp [valsL], ixN_of hx]
      simp only [List.set_cons_zero]
      rw [valsL_set hx]
  · cases h2
theorem vals_cons {k : Nat} {l : List Nat} {M : Nat → Nat → Int} {f f' : Nat → Shr} (h : valsO n M (k :: l) f = some f') : ∃ v, newO n M k f = some v ∧ valsO n (turnM M k) l (setF f k v) = some f' := by
  have h' : (newO n M k f).bind (fun v => valsO n (turnM M k) l (setF f k v)) = some f' := h
  exact Option.bind_eq_some_iff.mp h'
theorem webs_cons {k : Nat} {l : List Nat} {M : Nat → Nat → Int} (h : WebsOk n M (k :: l)) : k < n ∧ (∃ b, b ≤ 1000000 ∧ Skew b M) ∧ WebsOk n (turnM M k) l := h
theorem fgo_cons {tg : Nat} {g : DS} {d : PyData} {ds : List PyData} {sl sl2 : Sl} {S S2 : Sto} {r : RS} (h : g (sl.set tg (some (.d d))) S = .nx sl2 S2) (h2 : fgo (.nm tg) g ds sl2 S2 = r) : fgo (.nm tg) g (d :: ds) sl S = r := by
  unfold fgo
  simp only [setT]
  rw [h]
  exact h2
theorem vals_go (hn : n ≤ 1000) : ∀ (l : List Nat) (M : Nat → Nat → Int) (f f' : Nat → Shr) (x0 i0 o0 y0 t0 : Option Val), WebsOk n M l → valsO n M l f = some f' →
    ∃ M' x i o y t, fgo (.nm 4) valsE (l.map fun k => .int (k : Nat)) (valsSl n M told starts x0 i0 o0 y0 t0) [.lst (valsL n f)] = .nx (valsSl n M' told starts x i o y t) [.lst (valsL n f')] := by
  intro l
  induction l with
  | nil =>
    intro M f f' x0 i0 o0 y0 t0 _ h
    have e : f = f' := Option.some.inj h
    subst e
    exact ⟨M, x0, i0, o0, y0, t0, rfl⟩
  | cons k l ih =>
    intro M f f' x0 i0 o0 y0 t0 hw h
    obtain ⟨hk, ⟨b, hb, hs⟩, hw2⟩ := webs_cons hw
    obtain ⟨v, h1, h2⟩ := vals_cons h
    obtain ⟨i, o, y, t, e⟩ := valsE_ok (told := told) (starts := starts) hs hb hn hk h1 (i0 := i0) (o0 := o0) (y0 := y0) (t0 := t0)
    obtain ⟨M', x2, i2, o2, y2, t2, e2⟩ := ih (turnM M k) (setF f k v) f' (some (.d (.int k))) i o y t hw2 h2
    exact ⟨M', x2, i2, o2, y2, t2, fgo_cons e e2⟩
theorem vals_ok {l : List Nat} {f' : Nat → Shr} (hn : n ≤ 1000) (hw : WebsOk n M l) (h : valsO n M l f = some f') :
    valsF [webD n M, .tuple (l.map fun k => .int (k : Nat)), .tuple ((List.range n).map fun k => shD (f k))] = .ok (.list ((List.range n).map fun k => shD (f' k))) := by
  obtain ⟨M', x, i, o, y, t, e⟩ := vals_go (told := .d (.tuple (l.map fun k => .int (k : Nat)))) (starts := .d (.tuple ((List.range n).map fun k => shD (f k)))) hn l M f f' none none none none none hw h
  have e1 : asgS 3 (ownE (lstF (var 2))) (slots 9 [.d (webD n M), .d (.tuple (l.map fun k => .int (k : Nat))), .d (.tuple ((List.range n).map fun k => shD (f k)))]) [] = .nx (valsSl n M (.d (.tuple (l.map fun k => .int (k : Nat)))) (.d (.tuple ((List.range n).map fun k => shD (f k)))) none none none none none) [.lst (valsL n f)] := by
    rw [z_asg (z_own (z_lst1 (ds := (List.range n).map fun k => shD (f k)) (z_var rfl)))]
    rw [List.map_map]
    rfl
  have hf : frz [.lst (valsL n f')] (.loc 0) = some (.list ((List.range n).map fun k => shD (f' k)), [.frz ((List.range n).map fun k => shD (f' k))]) := by
    have : valsL n f' = ((List.range n).map fun k => shD (f' k)).map .d := by rw [List.map_map]; rfl
    rw [this]
    show (match frzS 4 _ (.loc 0) with | some S1 => (match fzd S1 (.loc 0) with | some d => some (d, S1) | none => none) | none => none) = _
    rw [frzS_line (S := [.lst (((List.range n).map fun k => shD (f' k)).map .d)]) (k := 0) rfl]
    rfl
  exact z_runP rfl (z_seq e1 (z_seq (z_for (z_seqT (z_var rfl)) e) (z_rtL (z_var rfl) hf))) rfl
end
end DV
set_option Elab.async false
set_option linter.all false
set_option maxRecDepth 100000
set_option maxHeartbeats 4000000
namespace K22
open PySem PySem.Spec PyProof.Rows L2 DV
def top (i : Nat) : Stmt := PySem.Challenge.pw_dartwebs_k22_whole_rounds.main.body.getD i (.Pass ⟨0, 0, 0, 0⟩)
structure Tx (K : PySem.W.Frag) (mg : Str → Option Value) : Prop where
  n_int : mg "int" = none
  n_len : mg "len" = none
  n_range : mg "range" = none
  n_tuple : mg "tuple" = none
  n_isinstance : mg "isinstance" = none
  n_list : mg "list" = none
  n_dict : mg "dict" = none
  n_sorted : mg "sorted" = none
  n_str : mg "str" = none
  n_bool : mg "bool" = none
  i_MOST_ARROWS : IsI mg "MOST_ARROWS" 1000
  n_all : mg "all" = none
  i_MOST_NODES : IsI mg "MOST_NODES" 6
  e_BadWeb : ExcC K mg "BadWeb"
  e_NoNode : ExcC K mg "NoNode"
  e_Alike : ExcC K mg "Alike"
  n_abs : mg "abs" = none
  n_min : mg "min" = none
  n_max : mg "max" = none
def fuel : Nat := 100000
section
variable {P : Program} {w : World} {K : PySem.W.Frag} {mg : Str → Option Value} {base : Heap}
abbrev s__law_taken : Stmt := top 17
abbrev N__law_taken : List Str := ["_law_row", "_law_many", "_law_cell", "_law_found"]
theorem sc__law_taken : FnScope N__law_taken ["_law_row", "_law_many"] (defScope s__law_taken) := ⟨rfl, rfl, rfl, by decide +kernel, rfl, by decide +kernel, by decide +kernel⟩
def D__law_taken : DS :=
  (seqS (ifS (asB (bin gtI (ixE (var 0) (cst (.int 3))) (cst (.int 0)))) (seqS (asgS 3 (bin modD (blt intD (consL (ixE (var 0) (cst (.int 3))) nilL)) (var 1)))
  (seqS (putS (bin divD (ixE (var 0) (cst (.int 3))) (var 1)) (var 0) (cst (.int 3)))
  (rtS (var 3)))) nilS)
  (seqS (putS (bin addD (ixE (var 0) (cst (.int 1))) (cst (.int 1))) (var 0) (cst (.int 1)))
  (seqS (ifS (asB (bin gtI (ixE (var 0) (cst (.int 1))) (blt lenD (consL (ixE (var 0) (cst (.int 0))) nilL)))) (seqS (putS (bin modD (blt intD (consL (bin addD (bin mulD (ixE (var 0) (cst (.int 2))) (cst (.int 48271))) (cst (.int 11))) nilL)) (cst (.int 2147483647))) (var 0) (cst (.int 2)))
  (rtS (bin modD (blt intD (consL (bin divD (ixE (var 0) (cst (.int 2))) (cst (.int 7))) nilL)) (var 1)))) nilS)
  (seqS (asgS 2 (ixE (ixE (var 0) (cst (.int 0))) (bin subD (ixE (var 0) (cst (.int 1))) (cst (.int 1)))))
  (seqS (putS (bin modD (blt intD (consL (bin addD (bin addD (bin mulD (ixE (var 0) (cst (.int 2))) (cst (.int 48271))) (var 2)) (cst (.int 11))) nilL)) (cst (.int 2147483647))) (var 0) (cst (.int 2)))
  (seqS (ifS (asB (bin geI (var 2) (bin powD (cst (.int 10)) (cst (.int 18))))) (putS (bin divD (var 2) (var 1)) (var 0) (cst (.int 3))) nilS)
  (rtS (bin modD (blt intD (consL (var 2) nilL)) (var 1)))))))))
def F__law_taken : FnR := runR 4 2 D__law_taken
theorem b__law_taken {cdv : Value} {A : Around} {outer : List Env} {s : Shared} {H : Hp} {E : XK} {f : Addr} (T : Tx K mg)  (hr : Room 0 (A.deeper (envOfC "_law_taken" (defScope s__law_taken) s.heap.objs.size f cdv))) :
    QB (cxOf (L2.CX P w) P w K mg base N__law_taken "_law_taken" (defScope s__law_taken) f cdv A outer s H E) (WE0 E) (defBody s__law_taken) D__law_taken :=
  (b_cons (s_if (t_c (cGt) (q_ix (v_ 0) q_int (fun _ _ => rfl)) q_int) (b_cons (s_set (ps_set (i := 3) sc__law_taken.nd rfl (by first | exact .inl rfl | exact .inr rfl) (q_mod (q_bt bInt T.n_int (by decide +kernel) (a_cons (q_ix (v_ 0) q_int (fun _ _ => rfl)) a_nil)) (v_ 1))))
  (b_cons (s_put (ps_asg (q_div (q_ix (v_ 0) q_int (fun _ _ => rfl)) (v_ 1)) (pg_sub (v_ 0) q_int set_list)))
  (b_one (s_ret (v_ 3))))) b_nil)
  (b_cons (s_put (ps_asg (q_add (q_ix (v_ 0) q_int (fun _ _ => rfl)) q_int) (pg_sub (v_ 0) q_int set_list)))
  (b_cons (s_if (t_c (cGt) (q_ix (v_ 0) q_int (fun _ _ => rfl)) (q_b bLen T.n_len (by decide +kernel) (a_cons (q_ix (v_ 0) q_int (fun _ _ => rfl)) a_nil))) (b_cons (s_put (ps_asg (q_mod (q_bt bInt T.n_int (by decide +kernel) (a_cons (q_add (q_mul (q_ix (v_ 0) q_int (fun _ _ => rfl)) q_int) q_int) a_nil)) q_int) (pg_sub (v_ 0) q_int set_list)))
  (b_one (s_ret (q_mod (q_bt bInt T.n_int (by decide +kernel) (a_cons (q_div (q_ix (v_ 0) q_int (fun _ _ => rfl)) q_int) a_nil)) (v_ 1))))) b_nil)
  (b_cons (s_set (ps_set (i := 2) sc__law_taken.nd rfl (by first | exact .inl rfl | exact .inr rfl) (q_ix (q_ix (v_ 0) q_int (fun _ _ => rfl)) (q_sub (q_ix (v_ 0) q_int (fun _ _ => rfl)) q_int) (fun _ _ => rfl))))
  (b_cons (s_put (ps_asg (q_mod (q_bt bInt T.n_int (by decide +kernel) (a_cons (q_add (q_add (q_mul (q_ix (v_ 0) q_int (fun _ _ => rfl)) q_int) (v_ 2)) q_int) a_nil)) q_int) (pg_sub (v_ 0) q_int set_list)))
  (b_cons (s_if (t_c (cGe) (v_ 2) (q_pow q_int q_int)) (b_one (s_put (ps_asg (q_div (v_ 2) (v_ 1)) (pg_sub (v_ 0) q_int set_list)))) b_nil)
  (b_one (s_ret (q_mod (q_bt bInt T.n_int (by decide +kernel) (a_cons (v_ 2) a_nil)) (v_ 1))))))))))
theorem ok__law_taken {f : Addr} {fd : FuncData} (T : Tx K mg)  (F : FnD K "_law_taken" s__law_taken f fd) (hm : mg "_law_taken" = some (.ref f)) : CalR P w K mg base "_law_taken" 1 ["_law_row", "_law_many"] F__law_taken :=
  ⟨fn_okR F sc__law_taken fun cdv A outer s H E hr => b__law_taken T  hr, hm, F.kp, F.bindsN (fun _ _ _ _ _ _ us hl => match us, hl with | [_, _], _ => rfl), runR_len⟩
abbrev s__law_pick : Stmt := top 18
abbrev N__law_pick : List Str := ["_law_row", "_law_things"]
theorem sc__law_pick : FnScope N__law_pick ["_law_row", "_law_things"] (defScope s__law_pick) := ⟨rfl, rfl, rfl, by decide +kernel, rfl, by decide +kernel, by decide +kernel⟩
def D__law_pick : DS :=
  (rtS (ixE (var 1) (callR F__law_taken (var 0) (consL (blt lenD (consL (var 1) nilL)) nilL))))
def F__law_pick : FnR := runR 2 2 D__law_pick
theorem b__law_pick {cdv : Value} {A : Around} {outer : List Env} {s : Shared} {H : Hp} {E : XK} {f : Addr} (T : Tx K mg) (C__law_taken : CalR P w K mg base "_law_taken" 1 ["_law_row", "_law_many"] F__law_taken) (hr : Room 1 (A.deeper (envOfC "_law_pick" (defScope s__law_pick) s.heap.objs.size f cdv))) :
    QB (cxOf (L2.CX P w) P w K mg base N__law_pick "_law_pick" (defScope s__law_pick) f cdv A outer s H E) (WE0 E) (defBody s__law_pick) D__law_pick :=
  (b_one (s_ret (q_ix (v_ 1) (q_r C__law_taken hr (by omega) (takes_of rfl rfl rfl rfl) (v_ 0) (a_cons (q_b bLen T.n_len (by decide +kernel) (a_cons (v_ 1) a_nil)) a_nil)) (fun _ _ => rfl))))
theorem ok__law_pick {f : Addr} {fd : FuncData} (T : Tx K mg) (C__law_taken : CalR P w K mg base "_law_taken" 1 ["_law_row", "_law_many"] F__law_taken) (F : FnD K "_law_pick" s__law_pick f fd) (hm : mg "_law_pick" = some (.ref f)) : CalR P w K mg base "_law_pick" 2 ["_law_row", "_law_things"] F__law_pick :=
  ⟨fn_okR F sc__law_pick fun cdv A outer s H E hr => b__law_pick T C__law_taken hr, hm, F.kp, F.bindsN (fun _ _ _ _ _ _ us hl => match us, hl with | [_, _], _ => rfl), runR_len⟩
abbrev s__law_web : Stmt := top 20
abbrev N__law_web : List Str := ["_law_row", "_law_most", "_law_strong", "_law_n", "_law_way", "_law_table", "_law_z", "_law_y", "_law_x", "_law_many", "_law_line"]
theorem sc__law_web : FnScope N__law_web ["_law_row", "_law_most", "_law_strong"] (defScope s__law_web) := ⟨rfl, rfl, rfl, by decide +kernel, rfl, by decide +kernel, by decide +kernel⟩
def D__law_web : DS :=
  (seqS (parS [3, 4] (consL (bin addD (cst (.int 1)) (callR F__law_taken (var 0) (consL (var 1) nilL))) (consL (callR F__law_taken (var 0) (consL (cst (.int 5)) nilL)) nilL)))
  (seqS (asgS 5 (ownE (lcF [8] (rng1 (consL (var 3) nilL)) (.nm 8) yes (ownE (repF (frzE (szF (consL (cst (.int 0)) nilL))) (var 3))))))
  (seqS (forS (rng2 (consL (cst (.int 1)) (consL (var 3) nilL))) (.nm 6) (forS (rng1 (consL (var 6) nilL)) (.nm 7) (seqS (asgS 9 (cst (.int 0)))
  (seqS (ifS (asB (bin ltI (var 4) (cst (.int 2)))) (asgS 9 (bin mulD (callR F__law_pick (var 0) (consL (frzE (szF (consL (cst (.int 0)) (consL (cst (.int 0)) (consL (cst (.int 1)) (consL (bin subD (cst (.int 0)) (cst (.int 1))) nilL)))))) nilL)) (bin addD (cst (.int 1)) (callR F__law_taken (var 0) (consL (var 2) nilL))))) (ifS (asB (bin eqD (var 4) (cst (.int 2)))) (asgS 9 (bin mulD (callR F__law_pick (var 0) (consL (frzE (szF (consL (cst (.int 1)) (consL (bin subD (cst (.int 0)) (cst (.int 1))) nilL)))) nilL)) (blt intD (consL (bin eqD (var 7) (bin subD (var 6) (cst (.int 1)))) nilL)))) (ifS (asB (bin eqD (var 4) (cst (.int 3)))) (asgS 9 (bin subD (blt intD (consL (bin eqD (var 7) (bin subD (var 6) (cst (.int 1)))) nilL)) (blt intD (consL (andV (bin eqD (var 7) (cst (.int 0))) (andV (bin eqD (var 6) (bin subD (var 3) (cst (.int 1)))) (bin gtI (var 3) (cst (.int 2))))) nilL)))) nilS)))
  (put2S (tupE (consL (var 9) (consL (bin subD (cst (.int 0)) (var 9)) nilL))) (ixE (var 5) (var 7)) (var 6) (ixE (var 5) (var 6)) (var 7))))))
  (seqS (ifS (asB (bin eqD (var 4) (cst (.int 4)))) (forS (rng2 (consL (cst (.int 1)) (consL (var 3) nilL))) (.nm 6) (seqS (parS [7, 9] (consL (callR F__law_taken (var 0) (consL (var 6) nilL)) (consL (callR F__law_pick (var 0) (consL (frzE (szF (consL (cst (.int 1)) (consL (bin subD (cst (.int 0)) (cst (.int 1))) nilL)))) nilL)) nilL)))
  (put2S (tupE (consL (var 9) (consL (bin subD (cst (.int 0)) (var 9)) nilL))) (ixE (var 5) (var 7)) (var 6) (ixE (var 5) (var 6)) (var 7)))) nilS)
  (rtS (blt tupD (consL (frzE (lcF [10] (seqI (var 5)) (.nm 10) yes (blt tupD (consL (var 10) nilL)))) nilL)))))))
def F__law_web : FnR := runR 11 3 D__law_web
theorem b__law_web {cdv : Value} {A : Around} {outer : List Env} {s : Shared} {H : Hp} {E : XK} {f : Addr} (T : Tx K mg) (C__law_taken : CalR P w K mg base "_law_taken" 1 ["_law_row", "_law_many"] F__law_taken) (C__law_pick : CalR P w K mg base "_law_pick" 2 ["_law_row", "_law_things"] F__law_pick) (hr : Room 2 (A.deeper (envOfC "_law_web" (defScope s__law_web) s.heap.objs.size f cdv))) :
    QB (cxOf (L2.CX P w) P w K mg base N__law_web "_law_web" (defScope s__law_web) f cdv A outer s H E) (WE0 E) (defBody s__law_web) D__law_web :=
  (b_cons (s_parT (is := [3, 4]) (ps_asg (pe_tup (a_cons (q_add q_int (q_r C__law_taken hr (by omega) (takes_of rfl rfl rfl rfl) (v_ 0) (a_cons (v_ 1) a_nil))) (a_cons (q_r C__law_taken hr (by omega) (takes_of rfl rfl rfl rfl) (v_ 0) (a_cons q_int a_nil)) a_nil))) (pg_tup rfl (pgs_cons (pg_name (i := 3) sc__law_web.nd rfl (by first | exact .inl rfl | exact .inr rfl)) (pgs_cons (pg_name (i := 4) sc__law_web.nd rfl (by first | exact .inl rfl | exact .inr rfl)) pgs_nil)))))
  (b_cons (s_setLc Keeps.own (own := [("_law_x", 8)]) rfl sc__law_web.nd rfl rfl (sw_true rfl rfl rfl (by decide +kernel)) (i_rng1 (by rfl) T.n_range (a_cons (v_ 3) a_nil)) (blkOk_by (N := N__law_web) (sc := defScope s__law_web) (own := [("_law_x", 8)]) (by decide +kernel)) (by decide) (fun _ _ _ _ _ => (pg_name (i := 8) sc__law_web.nd rfl (by first | exact .inl rfl | exact .inr rfl))) (fun _ _ _ _ _ => ts_nil) (fun _ _ _ _ _ => (q_own (f_rep (q_frz (f_lst (a_cons q_int a_nil))) (v_ 3)))))
  (b_cons (s_for (passes_of rfl) rfl (i_rng2 (by rfl) T.n_range (a_cons q_int (a_cons (v_ 3) a_nil))) (pg_name (i := 6) sc__law_web.nd rfl (by first | exact .inl rfl | exact .inr rfl)) (b_one (s_for (passes_of rfl) rfl (i_rng1 (by rfl) T.n_range (a_cons (v_ 6) a_nil)) (pg_name (i := 7) sc__law_web.nd rfl (by first | exact .inl rfl | exact .inr rfl)) (b_cons (s_set (ps_set (i := 9) sc__law_web.nd rfl (by first | exact .inl rfl | exact .inr rfl) q_int))
  (b_cons (s_if (t_c (cLt) (v_ 4) q_int) (b_one (s_set (ps_set (i := 9) sc__law_web.nd rfl (by first | exact .inl rfl | exact .inr rfl) (q_mul (q_r C__law_pick hr (by omega) (takes_of rfl rfl rfl rfl) (v_ 0) (a_cons (q_frz (f_lst (a_cons q_int (a_cons q_int (a_cons q_int (a_cons (q_sub q_int q_int) a_nil)))))) a_nil)) (q_add q_int (q_r C__law_taken hr (by omega) (takes_of rfl rfl rfl rfl) (v_ 0) (a_cons (v_ 2) a_nil))))))) (b_one (s_if (t_c (cEq hr) (v_ 4) q_int) (b_one (s_set (ps_set (i := 9) sc__law_web.nd rfl (by first | exact .inl rfl | exact .inr rfl) (q_mul (q_r C__law_pick hr (by omega) (takes_of rfl rfl rfl rfl) (v_ 0) (a_cons (q_frz (f_lst (a_cons q_int (a_cons (q_sub q_int q_int) a_nil)))) a_nil)) (q_bt bInt T.n_int (by decide +kernel) (a_cons (q_c (cEq hr) (v_ 7) (q_sub (v_ 6) q_int)) a_nil)))))) (b_one (s_if (t_c (cEq hr) (v_ 4) q_int) (b_one (s_set (ps_set (i := 9) sc__law_web.nd rfl (by first | exact .inl rfl | exact .inr rfl) (q_sub (q_bt bInt T.n_int (by decide +kernel) (a_cons (q_c (cEq hr) (v_ 7) (q_sub (v_ 6) q_int)) a_nil)) (q_bt bInt T.n_int (by decide +kernel) (a_cons (q_and (q_c (cEq hr) (v_ 7) q_int) (q_and (q_c (cEq hr) (v_ 6) (q_sub (v_ 3) q_int)) (q_one (q_c (cGt) (v_ 3) q_int)))) a_nil)))))) b_nil)))))
  (b_one (s_put2 (ps_asg (q_tup (a_cons (v_ 9) (a_cons (q_sub q_int (v_ 9)) a_nil))) (pg_tup rfl (pgs_cons (pg_sub (q_ix (v_ 5) (v_ 7) (fun _ _ => rfl)) (v_ 6) set_list) (pgs_cons (pg_sub (q_ix (v_ 5) (v_ 6) (fun _ _ => rfl)) (v_ 7) set_list) pgs_nil)))))))))))
  (b_cons (s_if (t_c (cEq hr) (v_ 4) q_int) (b_one (s_for (passes_of rfl) rfl (i_rng2 (by rfl) T.n_range (a_cons q_int (a_cons (v_ 3) a_nil))) (pg_name (i := 6) sc__law_web.nd rfl (by first | exact .inl rfl | exact .inr rfl)) (b_cons (s_par (ps_par (i := 7) (j := 9) rfl sc__law_web.nd rfl rfl (by decide) rfl rfl (a_cons (q_r C__law_taken hr (by omega) (takes_of rfl rfl rfl rfl) (v_ 0) (a_cons (v_ 6) a_nil)) (a_cons (q_r C__law_pick hr (by omega) (takes_of rfl rfl rfl rfl) (v_ 0) (a_cons (q_frz (f_lst (a_cons q_int (a_cons (q_sub q_int q_int) a_nil)))) a_nil)) a_nil)) (by rfl)))
  (b_one (s_put2 (ps_asg (q_tup (a_cons (v_ 9) (a_cons (q_sub q_int (v_ 9)) a_nil))) (pg_tup rfl (pgs_cons (pg_sub (q_ix (v_ 5) (v_ 7) (fun _ _ => rfl)) (v_ 6) set_list) (pgs_cons (pg_sub (q_ix (v_ 5) (v_ 6) (fun _ _ => rfl)) (v_ 7) set_list) pgs_nil))))))))) b_nil)
  (b_one (s_ret (q_bt bTuple T.n_tuple (by decide +kernel) (a_cons (q_frz (f_lc (own := [("_law_line", 10)]) rfl sc__law_web.nd (i_seq (v_ 5)) (blkOk_by (N := N__law_web) (sc := defScope s__law_web) (own := [("_law_line", 10)]) (by decide +kernel)) (by decide) (fun _ _ _ _ _ => (pg_name (i := 10) sc__law_web.nd rfl (by first | exact .inl rfl | exact .inr rfl))) (fun _ _ _ _ _ => ts_nil) (fun _ _ _ _ _ => (q_bt bTuple T.n_tuple (by decide +kernel) (a_cons (v_ 10) a_nil))))) a_nil))))))))
theorem ok__law_web {f : Addr} {fd : FuncData} (T : Tx K mg) (C__law_taken : CalR P w K mg base "_law_taken" 1 ["_law_row", "_law_many"] F__law_taken) (C__law_pick : CalR P w K mg base "_law_pick" 2 ["_law_row", "_law_things"] F__law_pick) (F : FnD K "_law_web" s__law_web f fd) (hm : mg "_law_web" = some (.ref f)) : CalR P w K mg base "_law_web" 3 ["_law_row", "_law_most", "_law_strong"] F__law_web :=
  ⟨fn_okR F sc__law_web fun cdv A outer s H E hr => b__law_web T C__law_taken C__law_pick hr, hm, F.kp, F.bindsN (fun _ _ _ _ _ _ us hl => match us, hl with | [_, _, _], _ => rfl), runR_len⟩
abbrev s__law_alike : Stmt := top 19
abbrev N__law_alike : List Str := ["_law_found", "_law_due", "_law_k", "_law_key"]
theorem sc__law_alike : FnScope N__law_alike ["_law_found", "_law_due"] (defScope s__law_alike) := ⟨rfl, rfl, rfl, by decide +kernel, rfl, by decide +kernel, by decide +kernel⟩
def D__law_alike (R : FnP) : DS :=
  (seqS (ifS (asB (un (isiD2 "tuple" "list") (var 1))) (seqS (ifS (orB (notB (asB (un (isiD2 "tuple" "list") (var 0)))) (asB (bin neD (isiE "list" (var 0)) (isiE "list" (var 1))))) (rtS (cst (.bool false))) nilS)
  (seqS (ifS (asB (bin neD (blt lenD (consL (var 0) nilL)) (blt lenD (consL (var 1) nilL)))) (rtS (cst (.bool false))) nilS)
  (rtS (bin eqD (frzE (lcF [2] (rng1 (consL (blt lenD (consL (var 1) nilL)) nilL)) (.nm 2) (notB (asB (callP R (consL (ixE (var 0) (var 2)) (consL (ixE (var 1) (var 2)) nilL))))) (var 2))) (frzE (szF nilL)))))) nilS)
  (seqS (ifS (asB (isiE "dict" (var 1))) (seqS (ifS (orB (notB (asB (isiE "dict" (var 0)))) (asB (bin neD (blt sortD (consL (var 0) nilL)) (blt sortD (consL (var 1) nilL))))) (rtS (cst (.bool false))) nilS)
  (rtS (bin eqD (frzE (lcF [3] (seqI (var 1)) (.nm 3) (notB (asB (callP R (consL (ixE (var 0) (var 3)) (consL (ixE (var 1) (var 3)) nilL))))) (var 3))) (frzE (szF nilL))))) nilS)
  (seqS (ifS (orB (asB (bin isN (var 1) (cst .none))) (asB (isiE "str" (var 1)))) (rtS (andV (bin eqD (var 0) (var 1)) (bin eqD (isiE "str" (var 0)) (isiE "str" (var 1))))) nilS)
  (rtS (andV (isiE "int" (var 0)) (andV (bin eqD (isiE "bool" (var 0)) (isiE "bool" (var 1))) (bin eqD (var 0) (var 1))))))))
def F__law_alike : Nat → FnP
  | 0 => fun _ => .bad
  | n + 1 => runP 4 2 (D__law_alike (F__law_alike n))
theorem b__law_alike {R : FnP} {n : Nat} {cdv : Value} {A : Around} {outer : List Env} {s : Shared} {H : Hp} {E : XK} {f : Addr} (T : Tx K mg)  (C__law_alike : CalP P w K mg base "_law_alike" (0 + n) ["_law_found", "_law_due"] R) (hr : Room (0 + n) (A.deeper (envOfC "_law_alike" (defScope s__law_alike) s.heap.objs.size f cdv))) :
    QB (cxOf (L2.CX P w) P w K mg base N__law_alike "_law_alike" (defScope s__law_alike) f cdv A outer s H E) (WE0 E) (defBody s__law_alike) (D__law_alike R) :=
  (b_cons (s_if (t_val (q_is2 T.n_isinstance T.n_tuple (by decide +kernel) T.n_list (by decide +kernel) (v_ 1))) (b_cons (s_if (t_bool (w_or (t_not (t_val (q_is2 T.n_isinstance T.n_tuple (by decide +kernel) T.n_list (by decide +kernel) (v_ 0)))) (w_or1 (t_c (cNe hr) (q_is T.n_isinstance T.n_list (by decide +kernel) (v_ 0)) (q_is T.n_isinstance T.n_list (by decide +kernel) (v_ 1)))))) (b_one (s_ret q_bl)) b_nil)
  (b_cons (s_if (t_c (cNe hr) (q_b bLen T.n_len (by decide +kernel) (a_cons (v_ 0) a_nil)) (q_b bLen T.n_len (by decide +kernel) (a_cons (v_ 1) a_nil))) (b_one (s_ret q_bl)) b_nil)
  (b_one (s_ret (q_c (cEq hr) (q_frz (f_lc (own := [("_law_k", 2)]) rfl sc__law_alike.nd (i_rng1 (by rfl) T.n_range (a_cons (q_b bLen T.n_len (by decide +kernel) (a_cons (v_ 1) a_nil)) a_nil)) (blkOk_by (N := N__law_alike) (sc := defScope s__law_alike) (own := [("_law_k", 2)]) (by decide +kernel)) (by decide) (fun _ _ _ _ _ => (pg_name (i := 2) sc__law_alike.nd rfl (by first | exact .inl rfl | exact .inr rfl))) (fun _ _ _ _ _ => (ts_one (t_not (t_val (q_p C__law_alike hr (by omega) takes0 (a_cons (q_ix (v_ 0) (v_ 2) (fun _ _ => rfl)) (a_cons (q_ix (v_ 1) (v_ 2) (fun _ _ => rfl)) a_nil))))))) (fun _ _ _ _ _ => (v_ 2)))) (q_frz (f_lst a_nil))))))) b_nil)
  (b_cons (s_if (t_val (q_is T.n_isinstance T.n_dict (by decide +kernel) (v_ 1))) (b_cons (s_if (t_bool (w_or (t_not (t_val (q_is T.n_isinstance T.n_dict (by decide +kernel) (v_ 0)))) (w_or1 (t_c (cNe hr) (q_b (bSorted hr rfl) T.n_sorted (by decide +kernel) (a_cons (v_ 0) a_nil)) (q_b (bSorted hr rfl) T.n_sorted (by decide +kernel) (a_cons (v_ 1) a_nil)))))) (b_one (s_ret q_bl)) b_nil)
  (b_one (s_ret (q_c (cEq hr) (q_frz (f_lc (own := [("_law_key", 3)]) rfl sc__law_alike.nd (i_seq (v_ 1)) (blkOk_by (N := N__law_alike) (sc := defScope s__law_alike) (own := [("_law_key", 3)]) (by decide +kernel)) (by decide) (fun _ _ _ _ _ => (pg_name (i := 3) sc__law_alike.nd rfl (by first | exact .inl rfl | exact .inr rfl))) (fun _ _ _ _ _ => (ts_one (t_not (t_val (q_p C__law_alike hr (by omega) takes0 (a_cons (q_ix (v_ 0) (v_ 3) (fun _ _ => rfl)) (a_cons (q_ix (v_ 1) (v_ 3) (fun _ _ => rfl)) a_nil))))))) (fun _ _ _ _ _ => (v_ 3)))) (q_frz (f_lst a_nil)))))) b_nil)
  (b_cons (s_if (t_bool (w_or (t_c (cIs) (v_ 1) q_non) (w_or1 (t_val (q_is T.n_isinstance T.n_str (by decide +kernel) (v_ 1)))))) (b_one (s_ret (q_and (q_c (cEq hr) (v_ 0) (v_ 1)) (q_one (q_c (cEq hr) (q_is T.n_isinstance T.n_str (by decide +kernel) (v_ 0)) (q_is T.n_isinstance T.n_str (by decide +kernel) (v_ 1))))))) b_nil)
  (b_one (s_ret (q_and (q_is T.n_isinstance T.n_int (by decide +kernel) (v_ 0)) (q_and (q_c (cEq hr) (q_is T.n_isinstance T.n_bool (by decide +kernel) (v_ 0)) (q_is T.n_isinstance T.n_bool (by decide +kernel) (v_ 1))) (q_one (q_c (cEq hr) (v_ 0) (v_ 1))))))))))
theorem ok__law_alike {f : Addr} {fd : FuncData} (T : Tx K mg)  (F : FnD K "_law_alike" s__law_alike f fd) (hm : mg "_law_alike" = some (.ref f)) : ∀ n, CalP P w K mg base "_law_alike" (0 + n) ["_law_found", "_law_due"] (F__law_alike n)
  | 0 => cal0 F.kp hm (F.bindsN (fun _ _ _ _ _ _ us hl => match us, hl with | [_, _], _ => rfl))
  | n + 1 => ⟨fn_okP F sc__law_alike fun cdv A outer s H E hr => b__law_alike T  (ok__law_alike T  F hm n) hr, hm, F.kp, F.bindsN (fun _ _ _ _ _ _ us hl => match us, hl with | [_, _], _ => rfl), runP_len⟩
abbrev s_is_integer : Stmt := top 8
abbrev N_is_integer : List Str := ["value"]
theorem sc_is_integer : FnScope N_is_integer ["value"] (defScope s_is_integer) := ⟨rfl, rfl, rfl, by decide +kernel, rfl, by decide +kernel, by decide +kernel⟩
def D_is_integer : DS :=
  (rtS (andV (isiE "int" (var 0)) (notV (isiE "bool" (var 0)))))
def F_is_integer : FnP := runP 1 1 D_is_integer
theorem b_is_integer {cdv : Value} {A : Around} {outer : List Env} {s : Shared} {H : Hp} {E : XK} {f : Addr} (T : Tx K mg)  (hr : Room 0 (A.deeper (envOfC "is_integer" (defScope s_is_integer) s.heap.objs.size f cdv))) :
    QB (cxOf (L2.CX P w) P w K mg base N_is_integer "is_integer" (defScope s_is_integer) f cdv A outer s H E) (WE0 E) (defBody s_is_integer) D_is_integer :=
  (b_one (s_ret (q_and (q_is T.n_isinstance T.n_int (by decide +kernel) (v_ 0)) (q_one (q_not (q_is T.n_isinstance T.n_bool (by decide +kernel) (v_ 0)))))))
theorem ok_is_integer {f : Addr} {fd : FuncData} (T : Tx K mg)  (F : FnD K "is_integer" s_is_integer f fd) (hm : mg "is_integer" = some (.ref f)) : CalP P w K mg base "is_integer" 1 ["value"] F_is_integer :=
  ⟨fn_okP F sc_is_integer fun cdv A outer s H E hr => b_is_integer T  hr, hm, F.kp, F.bindsN (fun _ _ _ _ _ _ us hl => match us, hl with | [_], _ => rfl), runP_len⟩
abbrev s_is_from : Stmt := top 9
abbrev N_is_from : List Str := ["value", "low", "high"]
theorem sc_is_from : FnScope N_is_from ["value", "low", "high"] (defScope s_is_from) := ⟨rfl, rfl, rfl, by decide +kernel, rfl, by decide +kernel, by decide +kernel⟩
def D_is_from : DS :=
  (rtS (andV (callP F_is_integer (consL (var 0) nilL)) (chain leI leI (var 1) (var 0) (var 2))))
def F_is_from : FnP := runP 3 3 D_is_from
theorem b_is_from {cdv : Value} {A : Around} {outer : List Env} {s : Shared} {H : Hp} {E : XK} {f : Addr} (T : Tx K mg) (C_is_integer : CalP P w K mg base "is_integer" 1 ["value"] F_is_integer) (hr : Room 1 (A.deeper (envOfC "is_from" (defScope s_is_from) s.heap.objs.size f cdv))) :
    QB (cxOf (L2.CX P w) P w K mg base N_is_from "is_from" (defScope s_is_from) f cdv A outer s H E) (WE0 E) (defBody s_is_from) D_is_from :=
  (b_one (s_ret (q_and (q_p C_is_integer hr (by omega) (takes_of rfl rfl rfl rfl) (a_cons (v_ 0) a_nil)) (q_one (q_cc (cLe) (cLe) (v_ 1) (v_ 0) (v_ 2))))))
theorem ok_is_from {f : Addr} {fd : FuncData} (T : Tx K mg) (C_is_integer : CalP P w K mg base "is_integer" 1 ["value"] F_is_integer) (F : FnD K "is_from" s_is_from f fd) (hm : mg "is_from" = some (.ref f)) : CalP P w K mg base "is_from" 2 ["value", "low", "high"] F_is_from :=
  ⟨fn_okP F sc_is_from fun cdv A outer s H E hr => b_is_from T C_is_integer hr, hm, F.kp, F.bindsN (fun _ _ _ _ _ _ us hl => match us, hl with | [_, _, _], _ => rfl), runP_len⟩
abbrev s_is_line : Stmt := top 10
abbrev N_is_line : List Str := ["n", "value", "many"]
theorem sc_is_line : FnScope N_is_line ["n", "value"] (defScope s_is_line) := ⟨rfl, rfl, rfl, by decide +kernel, rfl, by decide +kernel, by decide +kernel⟩
def D_is_line : DS :=
  (seqS (ifS (orB (notB (asB (isiE "tuple" (var 1)))) (asB (bin neD (blt lenD (consL (var 1) nilL)) (var 0)))) (rtS (cst (.bool false))) nilS)
  (rtS (blt allBD (consL (frzE (lcF [2] (seqI (var 1)) (.nm 2) yes (callP F_is_from (consL (var 2) (consL (un negD (cst (.int 1000))) (consL (cst (.int 1000)) nilL)))))) nilL))))
def F_is_line : FnP := runP 3 2 D_is_line
theorem b_is_line {cdv : Value} {A : Around} {outer : List Env} {s : Shared} {H : Hp} {E : XK} {f : Addr} (T : Tx K mg) (C_is_from : CalP P w K mg base "is_from" 2 ["value", "low", "high"] F_is_from) (hr : Room 2 (A.deeper (envOfC "is_line" (defScope s_is_line) s.heap.objs.size f cdv))) :
    QB (cxOf (L2.CX P w) P w K mg base N_is_line "is_line" (defScope s_is_line) f cdv A outer s H E) (WE0 E) (defBody s_is_line) D_is_line :=
  (b_cons (s_if (t_bool (w_or (t_not (t_val (q_is T.n_isinstance T.n_tuple (by decide +kernel) (v_ 1)))) (w_or1 (t_c (cNe hr) (q_b bLen T.n_len (by decide +kernel) (a_cons (v_ 1) a_nil)) (v_ 0))))) (b_one (s_ret q_bl)) b_nil)
  (b_one (s_ret (q_b (bAll rfl) T.n_all (by decide +kernel) (a_cons (q_frz (f_lc (own := [("many", 2)]) rfl sc_is_line.nd (i_seq (v_ 1)) (blkOk_by (N := N_is_line) (sc := defScope s_is_line) (own := [("many", 2)]) (by decide +kernel)) (by decide) (fun _ _ _ _ _ => (pg_name (i := 2) sc_is_line.nd rfl (by first | exact .inl rfl | exact .inr rfl))) (fun _ _ _ _ _ => ts_nil) (fun _ _ _ _ _ => (q_p C_is_from hr (by omega) takes0 (a_cons (v_ 2) (a_cons (q_neg (c_int T.i_MOST_ARROWS)) (a_cons (c_int T.i_MOST_ARROWS) a_nil))))))) a_nil)))))
theorem ok_is_line {f : Addr} {fd : FuncData} (T : Tx K mg) (C_is_from : CalP P w K mg base "is_from" 2 ["value", "low", "high"] F_is_from) (F : FnD K "is_line" s_is_line f fd) (hm : mg "is_line" = some (.ref f)) : CalP P w K mg base "is_line" 3 ["n", "value"] F_is_line :=
  ⟨fn_okP F sc_is_line fun cdv A outer s H E hr => b_is_line T C_is_from hr, hm, F.kp, F.bindsN (fun _ _ _ _ _ _ us hl => match us, hl with | [_, _], _ => rfl), runP_len⟩
abbrev s_is_web : Stmt := top 11
abbrev N_is_web : List Str := ["value", "n", "y", "z", "line"]
theorem sc_is_web : FnScope N_is_web ["value"] (defScope s_is_web) := ⟨rfl, rfl, rfl, by decide +kernel, rfl, by decide +kernel, by decide +kernel⟩
def D_is_web : DS :=
  (seqS (ifS (orB (notB (asB (isiE "tuple" (var 0)))) (notB (asB (chain leI leI (cst (.int 1)) (blt lenD (consL (var 0) nilL)) (cst (.int 6)))))) (rtS (cst (.bool false))) nilS)
  (seqS (asgS 1 (blt lenD (consL (var 0) nilL)))
  (seqS (ifS (notB (asB (blt allBD (consL (frzE (lcF [4] (seqI (var 0)) (.nm 4) yes (callP F_is_line (consL (var 1) (consL (var 4) nilL))))) nilL)))) (rtS (cst (.bool false))) nilS)
  (rtS (blt allBD (consL (frzE (lc2F [2, 3] [3] (rng1 (consL (var 1) nilL)) (.nm 2) yes (rng1 (consL (var 1) nilL)) (.nm 3) yes (bin eqD (ixE (ixE (var 0) (var 2)) (var 3)) (un negD (ixE (ixE (var 0) (var 3)) (var 2)))))) nilL))))))
def F_is_web : FnP := runP 5 1 D_is_web
theorem b_is_web {cdv : Value} {A : Around} {outer : List Env} {s : Shared} {H : Hp} {E : XK} {f : Addr} (T : Tx K mg) (C_is_line : CalP P w K mg base "is_line" 3 ["n", "value"] F_is_line) (hr : Room 3 (A.deeper (envOfC "is_web" (defScope s_is_web) s.heap.objs.size f cdv))) :
    QB (cxOf (L2.CX P w) P w K mg base N_is_web "is_web" (defScope s_is_web) f cdv A outer s H E) (WE0 E) (defBody s_is_web) D_is_web :=
  (b_cons (s_if (t_bool (w_or (t_not (t_val (q_is T.n_isinstance T.n_tuple (by decide +kernel) (v_ 0)))) (w_or1 (t_not (t_cc (cLe) (cLe) q_int (q_b bLen T.n_len (by decide +kernel) (a_cons (v_ 0) a_nil)) (c_int T.i_MOST_NODES)))))) (b_one (s_ret q_bl)) b_nil)
  (b_cons (s_set (ps_set (i := 1) sc_is_web.nd rfl (by first | exact .inl rfl | exact .inr rfl) (q_b bLen T.n_len (by decide +kernel) (a_cons (v_ 0) a_nil))))
  (b_cons (s_if (t_not (t_val (q_b (bAll rfl) T.n_all (by decide +kernel) (a_cons (q_frz (f_lc (own := [("line", 4)]) rfl sc_is_web.nd (i_seq (v_ 0)) (blkOk_by (N := N_is_web) (sc := defScope s_is_web) (own := [("line", 4)]) (by decide +kernel)) (by decide) (fun _ _ _ _ _ => (pg_name (i := 4) sc_is_web.nd rfl (by first | exact .inl rfl | exact .inr rfl))) (fun _ _ _ _ _ => ts_nil) (fun _ _ _ _ _ => (q_p C_is_line hr (by omega) takes0 (a_cons (v_ 1) (a_cons (v_ 4) a_nil)))))) a_nil)))) (b_one (s_ret q_bl)) b_nil)
  (b_one (s_ret (q_b (bAll rfl) T.n_all (by decide +kernel) (a_cons (q_frz (f_lc2 (own := [("y", 2), ("z", 3)]) (vs1 := [3]) rfl sc_is_web.nd (i_rng1 (by rfl) T.n_range (a_cons (v_ 1) a_nil)) (blkOk_by (N := N_is_web) (sc := defScope s_is_web) (own := [("y", 2), ("z", 3)]) (by decide +kernel)) (by decide) (by decide) (by decide) (fun _ _ _ _ _ => (pg_name (i := 2) sc_is_web.nd rfl (by first | exact .inl rfl | exact .inr rfl))) (fun _ _ _ _ _ => ts_nil) (fun _ _ _ _ _ => (i_rng1 (by rfl) T.n_range (a_cons (v_ 1) a_nil))) (fun _ _ _ _ _ => (pg_name (i := 3) sc_is_web.nd rfl (by first | exact .inl rfl | exact .inr rfl))) (fun _ _ _ _ _ => ts_nil) (fun _ _ _ _ _ => (q_c (cEq hr) (q_ix (q_ix (v_ 0) (v_ 2) (fun _ _ => rfl)) (v_ 3) (fun _ _ => rfl)) (q_neg (q_ix (q_ix (v_ 0) (v_ 3) (fun _ _ => rfl)) (v_ 2) (fun _ _ => rfl))))))) a_nil)))))))
theorem ok_is_web {f : Addr} {fd : FuncData} (T : Tx K mg) (C_is_line : CalP P w K mg base "is_line" 3 ["n", "value"] F_is_line) (F : FnD K "is_web" s_is_web f fd) (hm : mg "is_web" = some (.ref f)) : CalP P w K mg base "is_web" 4 ["value"] F_is_web :=
  ⟨fn_okP F sc_is_web fun cdv A outer s H E hr => b_is_web T C_is_line hr, hm, F.kp, F.bindsN (fun _ _ _ _ _ _ us hl => match us, hl with | [_], _ => rfl), runP_len⟩
abbrev s_need_web : Stmt := top 12
abbrev N_need_web : List Str := ["value"]
theorem sc_need_web : FnScope N_need_web ["value"] (defScope s_need_web) := ⟨rfl, rfl, rfl, by decide +kernel, rfl, by decide +kernel, by decide +kernel⟩
def D_need_web : DS :=
  (ifS (notB (asB (callP F_is_web (consL (var 0) nilL)))) (raS "BadWeb") nilS)
def F_need_web : FnP := runP 1 1 D_need_web
theorem b_need_web {cdv : Value} {A : Around} {outer : List Env} {s : Shared} {H : Hp} {E : XK} {f : Addr} (T : Tx K mg) (C_is_web : CalP P w K mg base "is_web" 4 ["value"] F_is_web) (hr : Room 4 (A.deeper (envOfC "need_web" (defScope s_need_web) s.heap.objs.size f cdv))) :
    QB (cxOf (L2.CX P w) P w K mg base N_need_web "need_web" (defScope s_need_web) f cdv A outer s H E) (WE0 E) (defBody s_need_web) D_need_web :=
  (b_one (s_if (t_not (t_val (q_p C_is_web hr (by omega) (takes_of rfl rfl rfl rfl) (a_cons (v_ 0) a_nil)))) (b_one (s_ra rfl (takes_of rfl rfl rfl rfl) T.e_BadWeb)) b_nil))
theorem ok_need_web {f : Addr} {fd : FuncData} (T : Tx K mg) (C_is_web : CalP P w K mg base "is_web" 4 ["value"] F_is_web) (F : FnD K "need_web" s_need_web f fd) (hm : mg "need_web" = some (.ref f)) : CalP P w K mg base "need_web" 5 ["value"] F_need_web :=
  ⟨fn_okP F sc_need_web fun cdv A outer s H E hr => b_need_web T C_is_web hr, hm, F.kp, F.bindsN (fun _ _ _ _ _ _ us hl => match us, hl with | [_], _ => rfl), runP_len⟩
abbrev s_need_node : Stmt := top 13
abbrev N_need_node : List Str := ["web", "value"]
theorem sc_need_node : FnScope N_need_node ["web", "value"] (defScope s_need_node) := ⟨rfl, rfl, rfl, by decide +kernel, rfl, by decide +kernel, by decide +kernel⟩
def D_need_node : DS :=
  (ifS (notB (asB (callP F_is_from (consL (var 1) (consL (cst (.int 0)) (consL (bin subD (blt lenD (consL (var 0) nilL)) (cst (.int 1))) nilL)))))) (raS "NoNode") nilS)
def F_need_node : FnP := runP 2 2 D_need_node
theorem b_need_node {cdv : Value} {A : Around} {outer : List Env} {s : Shared} {H : Hp} {E : XK} {f : Addr} (T : Tx K mg) (C_is_from : CalP P w K mg base "is_from" 2 ["value", "low", "high"] F_is_from) (hr : Room 2 (A.deeper (envOfC "need_node" (defScope s_need_node) s.heap.objs.size f cdv))) :
    QB (cxOf (L2.CX P w) P w K mg base N_need_node "need_node" (defScope s_need_node) f cdv A outer s H E) (WE0 E) (defBody s_need_node) D_need_node :=
  (b_one (s_if (t_not (t_val (q_p C_is_from hr (by omega) (takes_of rfl rfl rfl rfl) (a_cons (v_ 1) (a_cons q_int (a_cons (q_sub (q_b bLen T.n_len (by decide +kernel) (a_cons (v_ 0) a_nil)) q_int) a_nil)))))) (b_one (s_ra rfl (takes_of rfl rfl rfl rfl) T.e_NoNode)) b_nil))
theorem ok_need_node {f : Addr} {fd : FuncData} (T : Tx K mg) (C_is_from : CalP P w K mg base "is_from" 2 ["value", "low", "high"] F_is_from) (F : FnD K "need_node" s_need_node f fd) (hm : mg "need_node" = some (.ref f)) : CalP P w K mg base "need_node" 3 ["web", "value"] F_need_node :=
  ⟨fn_okP F sc_need_node fun cdv A outer s H E hr => b_need_node T C_is_from hr, hm, F.kp, F.bindsN (fun _ _ _ _ _ _ us hl => match us, hl with | [_, _], _ => rfl), runP_len⟩
abbrev s_round_of : Stmt := top 15
abbrev N_round_of : List Str := ["web", "x", "y"]
theorem sc_round_of : FnScope N_round_of ["web", "x", "y"] (defScope s_round_of) := ⟨rfl, rfl, rfl, by decide +kernel, rfl, by decide +kernel, by decide +kernel⟩
def D_round_of : DS :=
  (seqS (exS (callP F_need_web (consL (var 0) nilL)))
  (seqS (exS (callP F_need_node (consL (var 0) (consL (var 1) nilL))))
  (seqS (exS (callP F_need_node (consL (var 0) (consL (var 2) nilL))))
  (seqS (ifS (asB (bin eqD (var 1) (var 2))) (raS "Alike") nilS)
  (rtS (getE1 0 4 1 5 (blt absD (consL (ixE (ixE (var 0) (var 1)) (var 2)) nilL))))))))
def F_round_of : FnP := runP 3 3 D_round_of
theorem b_round_of {cdv : Value} {A : Around} {outer : List Env} {s : Shared} {H : Hp} {E : XK} {f : Addr} (T : Tx K mg) (C_need_web : CalP P w K mg base "need_web" 5 ["value"] F_need_web) (C_need_node : CalP P w K mg base "need_node" 3 ["web", "value"] F_need_node) (hr : Room 5 (A.deeper (envOfC "round_of" (defScope s_round_of) s.heap.objs.size f cdv))) :
    QB (cxOf (L2.CX P w) P w K mg base N_round_of "round_of" (defScope s_round_of) f cdv A outer s H E) (WE0 E) (defBody s_round_of) D_round_of :=
  (b_cons (s_expr (q_p C_need_web hr (by omega) (takes_of rfl rfl rfl rfl) (a_cons (v_ 0) a_nil)))
  (b_cons (s_expr (q_p C_need_node hr (by omega) (takes_of rfl rfl rfl rfl) (a_cons (v_ 0) (a_cons (v_ 1) a_nil))))
  (b_cons (s_expr (q_p C_need_node hr (by omega) (takes_of rfl rfl rfl rfl) (a_cons (v_ 0) (a_cons (v_ 2) a_nil))))
  (b_cons (s_if (t_c (cEq hr) (v_ 1) (v_ 2)) (b_one (s_ra rfl (takes_of rfl rfl rfl rfl) T.e_Alike)) b_nil)
  (b_one (s_ret (q_get1 hr (by decide) (q_b bAbs T.n_abs (by decide +kernel) (a_cons (q_ix (q_ix (v_ 0) (v_ 1) (fun _ _ => rfl)) (v_ 2) (fun _ _ => rfl)) a_nil)) ⟨by rfl, by rfl, by rfl, by rfl⟩)))))))
theorem ok_round_of {f : Addr} {fd : FuncData} (T : Tx K mg) (C_need_web : CalP P w K mg base "need_web" 5 ["value"] F_need_web) (C_need_node : CalP P w K mg base "need_node" 3 ["web", "value"] F_need_node) (F : FnD K "round_of" s_round_of f fd) (hm : mg "round_of" = some (.ref f)) : CalP P w K mg base "round_of" 6 ["web", "x", "y"] F_round_of :=
  ⟨fn_okP F sc_round_of fun cdv A outer s H E hr => b_round_of T C_need_web C_need_node hr, hm, F.kp, F.bindsN (fun _ _ _ _ _ _ us hl => match us, hl with | [_, _, _], _ => rfl), runP_len⟩
abbrev s__law_share : Stmt := top 22
abbrev N__law_share : List Str := ["_law_top", "_law_bottom", "_law_one", "_law_other"]
theorem sc__law_share : FnScope N__law_share ["_law_top", "_law_bottom"] (defScope s__law_share) := ⟨rfl, rfl, rfl, by decide +kernel, rfl, by decide +kernel, by decide +kernel⟩
def D__law_share : DS :=
  (seqS (parS [2, 3] (consL (blt absD (consL (var 0) nilL)) (consL (var 1) nilL)))
  (seqS (whS fuel (asB (bin gtI (var 3) (cst (.int 0)))) (parS [2, 3] (consL (var 3) (consL (bin modD (var 2) (var 3)) nilL))))
  (rtS (tupE (consL (bin divD (var 0) (var 2)) (consL (bin divD (var 1) (var 2)) nilL))))))
def F__law_share : FnP := runP 4 2 D__law_share
theorem b__law_share {cdv : Value} {A : Around} {outer : List Env} {s : Shared} {H : Hp} {E : XK} {f : Addr} (T : Tx K mg)  (hr : Room 0 (A.deeper (envOfC "_law_share" (defScope s__law_share) s.heap.objs.size f cdv))) :
    QB (cxOf (L2.CX P w) P w K mg base N__law_share "_law_share" (defScope s__law_share) f cdv A outer s H E) (WE0 E) (defBody s__law_share) D__law_share :=
  (b_cons (s_par (ps_par (i := 2) (j := 3) rfl sc__law_share.nd rfl rfl (by decide) rfl rfl (a_cons (q_b bAbs T.n_abs (by decide +kernel) (a_cons (v_ 0) a_nil)) (a_cons (v_ 1) a_nil)) (by rfl)))
  (b_cons (s_while (n := fuel) (passes_of rfl) (t_c (cGt) (v_ 3) q_int) (b_one (s_par (ps_par (i := 2) (j := 3) rfl sc__law_share.nd rfl rfl (by decide) rfl rfl (a_cons (v_ 3) (a_cons (q_mod (v_ 2) (v_ 3)) a_nil)) (by rfl)))))
  (b_one (s_ret (q_tup (a_cons (q_div (v_ 0) (v_ 2)) (a_cons (q_div (v_ 1) (v_ 2)) a_nil)))))))
theorem ok__law_share {f : Addr} {fd : FuncData} (T : Tx K mg)  (F : FnD K "_law_share" s__law_share f fd) (hm : mg "_law_share" = some (.ref f)) : CalP P w K mg base "_law_share" 1 ["_law_top", "_law_bottom"] F__law_share :=
  ⟨fn_okP F sc__law_share fun cdv A outer s H E hr => b__law_share T  hr, hm, F.kp, F.bindsN (fun _ _ _ _ _ _ us hl => match us, hl with | [_, _], _ => rfl), runP_len⟩
abbrev s__law_times : Stmt := top 23
abbrev N__law_times : List Str := ["_law_one", "_law_other"]
theorem sc__law_times : FnScope N__law_times ["_law_one", "_law_other"] (defScope s__law_times) := ⟨rfl, rfl, rfl, by decide +kernel, rfl, by decide +kernel, by decide +kernel⟩
def D__law_times : DS :=
  (rtS (callP F__law_share (consL (bin mulD (ixE (var 0) (cst (.int 0))) (ixE (var 1) (cst (.int 0)))) (consL (bin mulD (ixE (var 0) (cst (.int 1))) (ixE (var 1) (cst (.int 1)))) nilL))))
def F__law_times : FnP := runP 2 2 D__law_times
theorem b__law_times {cdv : Value} {A : Around} {outer : List Env} {s : Shared} {H : Hp} {E : XK} {f : Addr} (T : Tx K mg) (C__law_share : CalP P w K mg base "_law_share" 1 ["_law_top", "_law_bottom"] F__law_share) (hr : Room 1 (A.deeper (envOfC "_law_times" (defScope s__law_times) s.heap.objs.size f cdv))) :
    QB (cxOf (L2.CX P w) P w K mg base N__law_times "_law_times" (defScope s__law_times) f cdv A outer s H E) (WE0 E) (defBody s__law_times) D__law_times :=
  (b_one (s_ret (q_p C__law_share hr (by omega) (takes_of rfl rfl rfl rfl) (a_cons (q_mul (q_ix (v_ 0) q_int (fun _ _ => rfl)) (q_ix (v_ 1) q_int (fun _ _ => rfl))) (a_cons (q_mul (q_ix (v_ 0) q_int (fun _ _ => rfl)) (q_ix (v_ 1) q_int (fun _ _ => rfl))) a_nil)))))
theorem ok__law_times {f : Addr} {fd : FuncData} (T : Tx K mg) (C__law_share : CalP P w K mg base "_law_share" 1 ["_law_top", "_law_bottom"] F__law_share) (F : FnD K "_law_times" s__law_times f fd) (hm : mg "_law_times" = some (.ref f)) : CalP P w K mg base "_law_times" 2 ["_law_one", "_law_other"] F__law_times :=
  ⟨fn_okP F sc__law_times fun cdv A outer s H E hr => b__law_times T C__law_share hr, hm, F.kp, F.bindsN (fun _ _ _ _ _ _ us hl => match us, hl with | [_, _], _ => rfl), runP_len⟩
abbrev s__law_turn : Stmt := top 21
abbrev N__law_turn : List Str := ["_law_web_here", "_law_x", "_law_n", "_law_table", "_law_y", "_law_z", "_law_line", "_law_more"]
theorem sc__law_turn : FnScope N__law_turn ["_law_web_here", "_law_x"] (defScope s__law_turn) := ⟨rfl, rfl, rfl, by decide +kernel, rfl, by decide +kernel, by decide +kernel⟩
def D__law_turn : DS :=
  (seqS (parS [2, 3] (consL (blt lenD (consL (var 0) nilL)) (consL (ownE (lcF [6] (seqI (var 0)) (.nm 6) yes (ownE (lstF (var 6))))) nilL)))
  (seqS (forS (rng1 (consL (var 2) nilL)) (.nm 4) (forS (rng1 (consL (var 2) nilL)) (.nm 5) (ifS (andB (asB (bin gtI (ixE (ixE (var 0) (var 4)) (var 1)) (cst (.int 0)))) (asB (bin gtI (ixE (ixE (var 0) (var 1)) (var 5)) (cst (.int 0))))) (seqS (asgS 7 (bin mulD (ixE (ixE (var 0) (var 4)) (var 1)) (ixE (ixE (var 0) (var 1)) (var 5))))
  (put2S (tupE (consL (bin addD (ixE (ixE (var 3) (var 4)) (var 5)) (var 7)) (consL (bin subD (ixE (ixE (var 3) (var 5)) (var 4)) (var 7)) nilL))) (ixE (var 3) (var 4)) (var 5) (ixE (var 3) (var 5)) (var 4))) nilS)))
  (seqS (forS (rng1 (consL (var 2) nilL)) (.nm 4) (put2S (tupE (consL (bin subD (cst (.int 0)) (ixE (ixE (var 0) (var 1)) (var 4))) (consL (bin subD (cst (.int 0)) (ixE (ixE (var 0) (var 4)) (var 1))) nilL))) (ixE (var 3) (var 1)) (var 4) (ixE (var 3) (var 4)) (var 1)))
  (rtS (blt tupD (consL (frzE (lcF [6] (seqI (var 3)) (.nm 6) yes (blt tupD (consL (var 6) nilL)))) nilL))))))
def F__law_turn : FnP := runP 8 2 D__law_turn
theorem b__law_turn {cdv : Value} {A : Around} {outer : List Env} {s : Shared} {H : Hp} {E : XK} {f : Addr} (T : Tx K mg)  (hr : Room 0 (A.deeper (envOfC "_law_turn" (defScope s__law_turn) s.heap.objs.size f cdv))) :
    QB (cxOf (L2.CX P w) P w K mg base N__law_turn "_law_turn" (defScope s__law_turn) f cdv A outer s H E) (WE0 E) (defBody s__law_turn) D__law_turn :=
  (b_cons (s_par (ps_par (i := 2) (j := 3) rfl sc__law_turn.nd rfl rfl (by decide) rfl rfl (a_cons (q_b bLen T.n_len (by decide +kernel) (a_cons (v_ 0) a_nil)) (a_cons (q_own (f_lc (own := [("_law_line", 6)]) rfl sc__law_turn.nd (i_seq (v_ 0)) (blkOk_by (N := N__law_turn) (sc := defScope s__law_turn) (own := [("_law_line", 6)]) (by decide +kernel)) (by decide) (fun _ _ _ _ _ => (pg_name (i := 6) sc__law_turn.nd rfl (by first | exact .inl rfl | exact .inr rfl))) (fun _ _ _ _ _ => ts_nil) (fun _ _ _ _ _ => (q_own (f_list (pe_callTy call_list_of (by rfl) T.n_list (by decide +kernel) (pa_cons (v_ 6) pa_nil))))))) a_nil)) (by rfl)))
  (b_cons (s_for (passes_of rfl) rfl (i_rng1 (by rfl) T.n_range (a_cons (v_ 2) a_nil)) (pg_name (i := 4) sc__law_turn.nd rfl (by first | exact .inl rfl | exact .inr rfl)) (b_one (s_for (passes_of rfl) rfl (i_rng1 (by rfl) T.n_range (a_cons (v_ 2) a_nil)) (pg_name (i := 5) sc__law_turn.nd rfl (by first | exact .inl rfl | exact .inr rfl)) (b_one (s_if (t_bool (w_and (t_c (cGt) (q_ix (q_ix (v_ 0) (v_ 4) (fun _ _ => rfl)) (v_ 1) (fun _ _ => rfl)) q_int) (w_and1 (t_c (cGt) (q_ix (q_ix (v_ 0) (v_ 1) (fun _ _ => rfl)) (v_ 5) (fun _ _ => rfl)) q_int)))) (b_cons (s_set (ps_set (i := 7) sc__law_turn.nd rfl (by first | exact .inl rfl | exact .inr rfl) (q_mul (q_ix (q_ix (v_ 0) (v_ 4) (fun _ _ => rfl)) (v_ 1) (fun _ _ => rfl)) (q_ix (q_ix (v_ 0) (v_ 1) (fun _ _ => rfl)) (v_ 5) (fun _ _ => rfl)))))
  (b_one (s_put2 (ps_asg (q_tup (a_cons (q_add (q_ix (q_ix (v_ 3) (v_ 4) (fun _ _ => rfl)) (v_ 5) (fun _ _ => rfl)) (v_ 7)) (a_cons (q_sub (q_ix (q_ix (v_ 3) (v_ 5) (fun _ _ => rfl)) (v_ 4) (fun _ _ => rfl)) (v_ 7)) a_nil))) (pg_tup rfl (pgs_cons (pg_sub (q_ix (v_ 3) (v_ 4) (fun _ _ => rfl)) (v_ 5) set_list) (pgs_cons (pg_sub (q_ix (v_ 3) (v_ 5) (fun _ _ => rfl)) (v_ 4) set_list) pgs_nil))))))) b_nil)))))
  (b_cons (s_for (passes_of rfl) rfl (i_rng1 (by rfl) T.n_range (a_cons (v_ 2) a_nil)) (pg_name (i := 4) sc__law_turn.nd rfl (by first | exact .inl rfl | exact .inr rfl)) (b_one (s_put2 (ps_asg (q_tup (a_cons (q_sub q_int (q_ix (q_ix (v_ 0) (v_ 1) (fun _ _ => rfl)) (v_ 4) (fun _ _ => rfl))) (a_cons (q_sub q_int (q_ix (q_ix (v_ 0) (v_ 4) (fun _ _ => rfl)) (v_ 1) (fun _ _ => rfl))) a_nil))) (pg_tup rfl (pgs_cons (pg_sub (q_ix (v_ 3) (v_ 1) (fun _ _ => rfl)) (v_ 4) set_list) (pgs_cons (pg_sub (q_ix (v_ 3) (v_ 4) (fun _ _ => rfl)) (v_ 1) set_list) pgs_nil)))))))
  (b_one (s_ret (q_bt bTuple T.n_tuple (by decide +kernel) (a_cons (q_frz (f_lc (own := [("_law_line", 6)]) rfl sc__law_turn.nd (i_seq (v_ 3)) (blkOk_by (N := N__law_turn) (sc := defScope s__law_turn) (own := [("_law_line", 6)]) (by decide +kernel)) (by decide) (fun _ _ _ _ _ => (pg_name (i := 6) sc__law_turn.nd rfl (by first | exact .inl rfl | exact .inr rfl))) (fun _ _ _ _ _ => ts_nil) (fun _ _ _ _ _ => (q_bt bTuple T.n_tuple (by decide +kernel) (a_cons (v_ 6) a_nil))))) a_nil)))))))
theorem ok__law_turn {f : Addr} {fd : FuncData} (T : Tx K mg)  (F : FnD K "_law_turn" s__law_turn f fd) (hm : mg "_law_turn" = some (.ref f)) : CalP P w K mg base "_law_turn" 1 ["_law_web_here", "_law_x"] F__law_turn :=
  ⟨fn_okP F sc__law_turn fun cdv A outer s H E hr => b__law_turn T  hr, hm, F.kp, F.bindsN (fun _ _ _ _ _ _ us hl => match us, hl with | [_, _], _ => rfl), runP_len⟩
abbrev s__law_plus : Stmt := top 24
abbrev N__law_plus : List Str := ["_law_one", "_law_other"]
theorem sc__law_plus : FnScope N__law_plus ["_law_one", "_law_other"] (defScope s__law_plus) := ⟨rfl, rfl, rfl, by decide +kernel, rfl, by decide +kernel, by decide +kernel⟩
def D__law_plus : DS :=
  (rtS (callP F__law_share (consL (bin addD (bin mulD (ixE (var 0) (cst (.int 0))) (ixE (var 1) (cst (.int 1)))) (bin mulD (ixE (var 1) (cst (.int 0))) (ixE (var 0) (cst (.int 1))))) (consL (bin mulD (ixE (var 0) (cst (.int 1))) (ixE (var 1) (cst (.int 1)))) nilL))))
def F__law_plus : FnP := runP 2 2 D__law_plus
theorem b__law_plus {cdv : Value} {A : Around} {outer : List Env} {s : Shared} {H : Hp} {E : XK} {f : Addr} (T : Tx K mg) (C__law_share : CalP P w K mg base "_law_share" 1 ["_law_top", "_law_bottom"] F__law_share) (hr : Room 1 (A.deeper (envOfC "_law_plus" (defScope s__law_plus) s.heap.objs.size f cdv))) :
    QB (cxOf (L2.CX P w) P w K mg base N__law_plus "_law_plus" (defScope s__law_plus) f cdv A outer s H E) (WE0 E) (defBody s__law_plus) D__law_plus :=
  (b_one (s_ret (q_p C__law_share hr (by omega) (takes_of rfl rfl rfl rfl) (a_cons (q_add (q_mul (q_ix (v_ 0) q_int (fun _ _ => rfl)) (q_ix (v_ 1) q_int (fun _ _ => rfl))) (q_mul (q_ix (v_ 1) q_int (fun _ _ => rfl)) (q_ix (v_ 0) q_int (fun _ _ => rfl)))) (a_cons (q_mul (q_ix (v_ 0) q_int (fun _ _ => rfl)) (q_ix (v_ 1) q_int (fun _ _ => rfl))) a_nil)))))
theorem ok__law_plus {f : Addr} {fd : FuncData} (T : Tx K mg) (C__law_share : CalP P w K mg base "_law_share" 1 ["_law_top", "_law_bottom"] F__law_share) (F : FnD K "_law_plus" s__law_plus f fd) (hm : mg "_law_plus" = some (.ref f)) : CalP P w K mg base "_law_plus" 2 ["_law_one", "_law_other"] F__law_plus :=
  ⟨fn_okP F sc__law_plus fun cdv A outer s H E hr => b__law_plus T C__law_share hr, hm, F.kp, F.bindsN (fun _ _ _ _ _ _ us hl => match us, hl with | [_, _], _ => rfl), runP_len⟩
abbrev s__law_values : Stmt := top 25
abbrev N__law_values : List Str := ["_law_web_here", "_law_told", "_law_starts", "_law_found", "_law_x", "_law_into", "_law_out", "_law_y", "_law_turn_here"]
theorem sc__law_values : FnScope N__law_values ["_law_web_here", "_law_told", "_law_starts"] (defScope s__law_values) := ⟨rfl, rfl, rfl, by decide +kernel, rfl, by decide +kernel, by decide +kernel⟩
def D__law_values : DS :=
  (seqS (asgS 3 (ownE (lstF (var 2))))
  (seqS (forS (seqI (var 1)) (.nm 4) (seqS (parS [5, 6] (consL (tupE (consL (cst (.int 1)) (consL (cst (.int 1)) nilL))) (consL (tupE (consL (cst (.int 1)) (consL (cst (.int 1)) nilL))) nilL)))
  (seqS (forS (rng1 (consL (blt lenD (consL (var 0) nilL)) nilL)) (.nm 7) (forS (rng1 (consL (blt absD (consL (ixE (ixE (var 0) (var 7)) (var 4)) nilL)) nilL)) (.nm 8) (seqS (asgS 5 (ifE (asB (bin gtI (ixE (ixE (var 0) (var 7)) (var 4)) (cst (.int 0)))) (callP F__law_times (consL (var 5) (consL (ixE (var 3) (var 7)) nilL))) (var 5)))
  (asgS 6 (ifE (asB (bin ltI (ixE (ixE (var 0) (var 7)) (var 4)) (cst (.int 0)))) (callP F__law_times (consL (var 6) (consL (ixE (var 3) (var 7)) nilL))) (var 6))))))
  (seqS (putS (callP F__law_times (consL (callP F__law_plus (consL (var 5) (consL (var 6) nilL))) (consL (tupE (consL (ixE (ixE (var 3) (var 4)) (cst (.int 1))) (consL (ixE (ixE (var 3) (var 4)) (cst (.int 0))) nilL))) nilL))) (var 3) (var 4))
  (asgS 0 (callP F__law_turn (consL (var 0) (consL (var 4) nilL))))))))
  (rtS (var 3))))
def F__law_values : FnP := runP 9 3 D__law_values
theorem b__law_values {cdv : Value} {A : Around} {outer : List Env} {s : Shared} {H : Hp} {E : XK} {f : Addr} (T : Tx K mg) (C__law_times : CalP P w K mg base "_law_times" 2 ["_law_one", "_law_other"] F__law_times) (C__law_turn : CalP P w K mg base "_law_turn" 1 ["_law_web_here", "_law_x"] F__law_turn) (C__law_plus : CalP P w K mg base "_law_plus" 2 ["_law_one", "_law_other"] F__law_plus) (hr : Room 2 (A.deeper (envOfC "_law_values" (defScope s__law_values) s.heap.objs.size f cdv))) :
    QB (cxOf (L2.CX P w) P w K mg base N__law_values "_law_values" (defScope s__law_values) f cdv A outer s H E) (WE0 E) (defBody s__law_values) D__law_values :=
  (b_cons (s_set (ps_set (i := 3) sc__law_values.nd rfl (by first | exact .inl rfl | exact .inr rfl) (q_own (f_list (pe_callTy call_list_of (by rfl) T.n_list (by decide +kernel) (pa_cons (v_ 2) pa_nil))))))
  (b_cons (s_for (passes_of rfl) rfl (i_seq (v_ 1)) (pg_name (i := 4) sc__law_values.nd rfl (by first | exact .inl rfl | exact .inr rfl)) (b_cons (s_parT (is := [5, 6]) (ps_asg (pe_tup (a_cons (q_tup (a_cons q_int (a_cons q_int a_nil))) (a_cons (q_tup (a_cons q_int (a_cons q_int a_nil))) a_nil))) (pg_tup rfl (pgs_cons (pg_name (i := 5) sc__law_values.nd rfl (by first | exact .inl rfl | exact .inr rfl)) (pgs_cons (pg_name (i := 6) sc__law_values.nd rfl (by first | exact .inl rfl | exact .inr rfl)) pgs_nil)))))
  (b_cons (s_for (passes_of rfl) rfl (i_rng1 (by rfl) T.n_range (a_cons (q_b bLen T.n_len (by decide +kernel) (a_cons (v_ 0) a_nil)) a_nil)) (pg_name (i := 7) sc__law_values.nd rfl (by first | exact .inl rfl | exact .inr rfl)) (b_one (s_for (passes_of rfl) rfl (i_rng1 (by rfl) T.n_range (a_cons (q_b bAbs T.n_abs (by decide +kernel) (a_cons (q_ix (q_ix (v_ 0) (v_ 7) (fun _ _ => rfl)) (v_ 4) (fun _ _ => rfl)) a_nil)) a_nil)) (pg_name (i := 8) sc__law_values.nd rfl (by first | exact .inl rfl | exact .inr rfl)) (b_cons (s_set (ps_set (i := 5) sc__law_values.nd rfl (by first | exact .inl rfl | exact .inr rfl) (q_if (t_c (cGt) (q_ix (q_ix (v_ 0) (v_ 7) (fun _ _ => rfl)) (v_ 4) (fun _ _ => rfl)) q_int) (q_p C__law_times hr (by omega) (takes_of rfl rfl rfl rfl) (a_cons (v_ 5) (a_cons (q_ix (v_ 3) (v_ 7) (fun _ _ => rfl)) a_nil))) (v_ 5))))
  (b_one (s_set (ps_set (i := 6) sc__law_values.nd rfl (by first | exact .inl rfl | exact .inr rfl) (q_if (t_c (cLt) (q_ix (q_ix (v_ 0) (v_ 7) (fun _ _ => rfl)) (v_ 4) (fun _ _ => rfl)) q_int) (q_p C__law_times hr (by omega) (takes_of rfl rfl rfl rfl) (a_cons (v_ 6) (a_cons (q_ix (v_ 3) (v_ 7) (fun _ _ => rfl)) a_nil))) (v_ 6)))))))))
  (b_cons (s_put (ps_asg (q_p C__law_times hr (by omega) (takes_of rfl rfl rfl rfl) (a_cons (q_p C__law_plus hr (by omega) (takes_of rfl rfl rfl rfl) (a_cons (v_ 5) (a_cons (v_ 6) a_nil))) (a_cons (q_tup (a_cons (q_ix (q_ix (v_ 3) (v_ 4) (fun _ _ => rfl)) q_int (fun _ _ => rfl)) (a_cons (q_ix (q_ix (v_ 3) (v_ 4) (fun _ _ => rfl)) q_int (fun _ _ => rfl)) a_nil))) a_nil))) (pg_sub (v_ 3) (v_ 4) set_list)))
  (b_one (s_set (ps_set (i := 0) sc__law_values.nd rfl (by first | exact .inl rfl | exact .inr rfl) (q_p C__law_turn hr (by omega) (takes_of rfl rfl rfl rfl) (a_cons (v_ 0) (a_cons (v_ 4) a_nil))))))))))
  (b_one (s_ret (v_ 3)))))
theorem ok__law_values {f : Addr} {fd : FuncData} (T : Tx K mg) (C__law_times : CalP P w K mg base "_law_times" 2 ["_law_one", "_law_other"] F__law_times) (C__law_turn : CalP P w K mg base "_law_turn" 1 ["_law_web_here", "_law_x"] F__law_turn) (C__law_plus : CalP P w K mg base "_law_plus" 2 ["_law_one", "_law_other"] F__law_plus) (F : FnD K "_law_values" s__law_values f fd) (hm : mg "_law_values" = some (.ref f)) : CalP P w K mg base "_law_values" 3 ["_law_web_here", "_law_told", "_law_starts"] F__law_values :=
  ⟨fn_okP F sc__law_values fun cdv A outer s H E hr => b__law_values T C__law_times C__law_turn C__law_plus hr, hm, F.kp, F.bindsN (fun _ _ _ _ _ _ us hl => match us, hl with | [_, _, _], _ => rfl), runP_len⟩
abbrev s_law : Stmt := top 26
abbrev N_law : List Str := ["_law_script", "_law_row", "_law_web_here", "_law_n", "_law_x", "_law_y", "_law_due", "_law_lines", "_law_small", "_law_starts", "_law_turns", "_law_many", "_law_now", "_law_a", "_law_line"]
theorem sc_law : FnScope N_law ["_law_script"] (defScope s_law) := ⟨rfl, rfl, rfl, by decide +kernel, rfl, by decide +kernel, by decide +kernel⟩
def D_law : DS :=
  (seqS (asgS 1 (ownE (szF (consL (var 0) (consL (cst (.int 0)) (consL (cst (.int 7322)) (consL (cst (.int 0)) nilL)))))))
  (seqS (asgS 2 (callR F__law_web (var 1) (consL (cst (.int 6)) (consL (cst (.int 3)) nilL))))
  (seqS (asgS 3 (blt lenD (consL (var 2) nilL)))
  (seqS (ifS (asB (bin ltI (var 3) (cst (.int 2)))) (rtS (cst (.bool true))) nilS)
  (seqS (asgS 4 (callR F__law_taken (var 1) (consL (var 3) nilL)))
  (seqS (asgS 5 (bin modD (bin addD (bin addD (var 4) (cst (.int 1))) (callR F__law_taken (var 1) (consL (bin subD (var 3) (cst (.int 1))) nilL))) (var 3)))
  (seqS (asgS 6 (getE2 0 4 1 5 (blt absD (consL (ixE (ixE (var 2) (var 4)) (var 5)) nilL)) (cst .none)))
  (seqS (ifS (notB (asB (callP (F__law_alike 8) (consL (callP F_round_of (consL (var 2) (consL (var 4) (consL (var 5) nilL)))) (consL (var 6) nilL))))) (rtS (cst (.bool false))) nilS)
  (seqS (asgS 7 (ownE (lcF [13] (rng1 (consL (var 3) nilL)) (.nm 13) yes (ownE (repF (frzE (szF (consL (cst (.int 0)) nilL))) (var 3))))))
  (seqS (put2S (tupE (consL (blt maxD2 (consL (bin subD (cst (.int 0)) (cst (.int 1))) (consL (blt minD2 (consL (cst (.int 1)) (consL (ixE (ixE (var 2) (var 4)) (var 5)) nilL))) nilL))) (consL (blt maxD2 (consL (bin subD (cst (.int 0)) (cst (.int 1))) (consL (blt minD2 (consL (cst (.int 1)) (consL (ixE (ixE (var 2) (var 5)) (var 4)) nilL))) nilL))) nilL))) (ixE (var 7) (var 4)) (var 5) (ixE (var 7) (var 5)) (var 4))
  (seqS (asgS 8 (blt tupD (consL (frzE (lcF [14] (seqI (var 7)) (.nm 14) yes (blt tupD (consL (var 14) nilL)))) nilL)))
  (seqS (parS [9, 10] (consL (slE (tupE (consL (tupE (consL (cst (.int 3)) (consL (cst (.int 1)) nilL))) (consL (tupE (consL (cst (.int 7)) (consL (cst (.int 2)) nilL))) (consL (tupE (consL (cst (.int 11)) (consL (cst (.int 5)) nilL))) (consL (tupE (consL (cst (.int 13)) (consL (cst (.int 1)) nilL))) (consL (tupE (consL (cst (.int 17)) (consL (cst (.int 3)) nilL))) (consL (tupE (consL (cst (.int 19)) (consL (cst (.int 7)) nilL))) nilL))))))) noO (someO (var 3))) (consL (bin mulD (tupE (consL (var 4) (consL (var 5) nilL))) (cst (.int 3))) nilL)))
  (seqS (forS (rng2 (consL (cst (.int 1)) (consL (cst (.int 6)) nilL))) (.nm 11) (seqS (asgS 12 (blt sortD (consL (callP F__law_values (consL (var 8) (consL (slE (var 10) noO (someO (var 11))) (consL (var 9) nilL)))) nilL)))
  (ifS (asB (bin neD (bin eqD (var 12) (blt sortD (consL (var 9) nilL))) (bin eqD (var 11) (ifE (asB (bin eqD (ixE (ixE (var 8) (var 4)) (var 5)) (cst (.int 0)))) (cst (.int 4)) (cst (.int 5)))))) (rtS (cst (.bool false))) nilS)))
  (rtS (cst (.bool true))))))))))))))))
def F_law : FnP := runP 15 1 D_law
theorem b_law {cdv : Value} {A : Around} {outer : List Env} {s : Shared} {H : Hp} {E : XK} {f : Addr} (T : Tx K mg) (C__law_web : CalR P w K mg base "_law_web" 3 ["_law_row", "_law_most", "_law_strong"] F__law_web) (C__law_taken : CalR P w K mg base "_law_taken" 1 ["_law_row", "_law_many"] F__law_taken) (C__law_alike : CalP P w K mg base "_law_alike" 8 ["_law_found", "_law_due"] (F__law_alike 8)) (C_round_of : CalP P w K mg base "round_of" 6 ["web", "x", "y"] F_round_of) (C__law_values : CalP P w K mg base "_law_values" 3 ["_law_web_here", "_law_told", "_law_starts"] F__law_values) (hr : Room 8 (A.deeper (envOfC "law" (defScope s_law) s.heap.objs.size f cdv))) :
    QB (cxOf (L2.CX P w) P w K mg base N_law "law" (defScope s_law) f cdv A outer s H E) (WE0 E) (defBody s_law) D_law :=
  (b_cons (s_set (ps_set (i := 1) sc_law.nd rfl (by first | exact .inl rfl | exact .inr rfl) (q_own (f_lst (a_cons (v_ 0) (a_cons q_int (a_cons q_int (a_cons q_int a_nil))))))))
  (b_cons (s_set (ps_set (i := 2) sc_law.nd rfl (by first | exact .inl rfl | exact .inr rfl) (q_r C__law_web hr (by omega) (takes_of rfl rfl rfl rfl) (v_ 1) (a_cons q_int (a_cons q_int a_nil)))))
  (b_cons (s_set (ps_set (i := 3) sc_law.nd rfl (by first | exact .inl rfl | exact .inr rfl) (q_b bLen T.n_len (by decide +kernel) (a_cons (v_ 2) a_nil))))
  (b_cons (s_if (t_c (cLt) (v_ 3) q_int) (b_one (s_ret q_bl)) b_nil)
  (b_cons (s_set (ps_set (i := 4) sc_law.nd rfl (by first | exact .inl rfl | exact .inr rfl) (q_r C__law_taken hr (by omega) (takes_of rfl rfl rfl rfl) (v_ 1) (a_cons (v_ 3) a_nil))))
  (b_cons (s_set (ps_set (i := 5) sc_law.nd rfl (by first | exact .inl rfl | exact .inr rfl) (q_mod (q_add (q_add (v_ 4) q_int) (q_r C__law_taken hr (by omega) (takes_of rfl rfl rfl rfl) (v_ 1) (a_cons (q_sub (v_ 3) q_int) a_nil))) (v_ 3))))
  (b_cons (s_set (ps_set (i := 6) sc_law.nd rfl (by first | exact .inl rfl | exact .inr rfl) (q_get2 hr (by decide) (q_b bAbs T.n_abs (by decide +kernel) (a_cons (q_ix (q_ix (v_ 2) (v_ 4) (fun _ _ => rfl)) (v_ 5) (fun _ _ => rfl)) a_nil)) q_non ⟨by rfl, by rfl, by rfl, by rfl⟩)))
  (b_cons (s_if (t_not (t_val (q_p C__law_alike hr (by omega) (takes_of rfl rfl rfl rfl) (a_cons (q_p C_round_of hr (by omega) (takes_of rfl rfl rfl rfl) (a_cons (v_ 2) (a_cons (v_ 4) (a_cons (v_ 5) a_nil)))) (a_cons (v_ 6) a_nil))))) (b_one (s_ret q_bl)) b_nil)
  (b_cons (s_setLc Keeps.own (own := [("_law_a", 13)]) rfl sc_law.nd rfl rfl (sw_true rfl rfl rfl (by decide +kernel)) (i_rng1 (by rfl) T.n_range (a_cons (v_ 3) a_nil)) (blkOk_by (N := N_law) (sc := defScope s_law) (own := [("_law_a", 13)]) (by decide +kernel)) (by decide) (fun _ _ _ _ _ => (pg_name (i := 13) sc_law.nd rfl (by first | exact .inl rfl | exact .inr rfl))) (fun _ _ _ _ _ => ts_nil) (fun _ _ _ _ _ => (q_own (f_rep (q_frz (f_lst (a_cons q_int a_nil))) (v_ 3)))))
  (b_cons (s_put2 (ps_asg (q_tup (a_cons (q_b (bMax2 rfl) T.n_max (by decide +kernel) (a_cons (q_sub q_int q_int) (a_cons (q_b (bMin2 rfl) T.n_min (by decide +kernel) (a_cons q_int (a_cons (q_ix (q_ix (v_ 2) (v_ 4) (fun _ _ => rfl)) (v_ 5) (fun _ _ => rfl)) a_nil))) a_nil))) (a_cons (q_b (bMax2 rfl) T.n_max (by decide +kernel) (a_cons (q_sub q_int q_int) (a_cons (q_b (bMin2 rfl) T.n_min (by decide +kernel) (a_cons q_int (a_cons (q_ix (q_ix (v_ 2) (v_ 5) (fun _ _ => rfl)) (v_ 4) (fun _ _ => rfl)) a_nil))) a_nil))) a_nil))) (pg_tup rfl (pgs_cons (pg_sub (q_ix (v_ 7) (v_ 4) (fun _ _ => rfl)) (v_ 5) set_list) (pgs_cons (pg_sub (q_ix (v_ 7) (v_ 5) (fun _ _ => rfl)) (v_ 4) set_list) pgs_nil)))))
  (b_cons (s_set (ps_set (i := 8) sc_law.nd rfl (by first | exact .inl rfl | exact .inr rfl) (q_bt bTuple T.n_tuple (by decide +kernel) (a_cons (q_frz (f_lc (own := [("_law_line", 14)]) rfl sc_law.nd (i_seq (v_ 7)) (blkOk_by (N := N_law) (sc := defScope s_law) (own := [("_law_line", 14)]) (by decide +kernel)) (by decide) (fun _ _ _ _ _ => (pg_name (i := 14) sc_law.nd rfl (by first | exact .inl rfl | exact .inr rfl))) (fun _ _ _ _ _ => ts_nil) (fun _ _ _ _ _ => (q_bt bTuple T.n_tuple (by decide +kernel) (a_cons (v_ 14) a_nil))))) a_nil))))
  (b_cons (s_par (ps_par (i := 9) (j := 10) rfl sc_law.nd rfl rfl (by decide) rfl rfl (a_cons (q_sl (q_tup (a_cons (q_tup (a_cons q_int (a_cons q_int a_nil))) (a_cons (q_tup (a_cons q_int (a_cons q_int a_nil))) (a_cons (q_tup (a_cons q_int (a_cons q_int a_nil))) (a_cons (q_tup (a_cons q_int (a_cons q_int a_nil))) (a_cons (q_tup (a_cons q_int (a_cons q_int a_nil))) (a_cons (q_tup (a_cons q_int (a_cons q_int a_nil))) a_nil))))))) o_none (o_some (v_ 3))) (a_cons (q_mul (q_tup (a_cons (v_ 4) (a_cons (v_ 5) a_nil))) q_int) a_nil)) (by rfl)))
  (b_cons (s_for (passes_of rfl) rfl (i_rng2 (by rfl) T.n_range (a_cons q_int (a_cons q_int a_nil))) (pg_name (i := 11) sc_law.nd rfl (by first | exact .inl rfl | exact .inr rfl)) (b_cons (s_set (ps_set (i := 12) sc_law.nd rfl (by first | exact .inl rfl | exact .inr rfl) (q_b (bSorted hr rfl) T.n_sorted (by decide +kernel) (a_cons (q_p C__law_values hr (by omega) (takes_of rfl rfl rfl rfl) (a_cons (v_ 8) (a_cons (q_sl (v_ 10) o_none (o_some (v_ 11))) (a_cons (v_ 9) a_nil)))) a_nil))))
  (b_one (s_if (t_c (cNe hr) (q_c (cEq hr) (v_ 12) (q_b (bSorted hr rfl) T.n_sorted (by decide +kernel) (a_cons (v_ 9) a_nil))) (q_c (cEq hr) (v_ 11) (q_if (t_c (cEq hr) (q_ix (q_ix (v_ 8) (v_ 4) (fun _ _ => rfl)) (v_ 5) (fun _ _ => rfl)) q_int) q_int q_int))) (b_one (s_ret q_bl)) b_nil))))
  (b_one (s_ret q_bl)))))))))))))))
theorem ok_law {f : Addr} {fd : FuncData} (T : Tx K mg) (C__law_web : CalR P w K mg base "_law_web" 3 ["_law_row", "_law_most", "_law_strong"] F__law_web) (C__law_taken : CalR P w K mg base "_law_taken" 1 ["_law_row", "_law_many"] F__law_taken) (C__law_alike : CalP P w K mg base "_law_alike" 8 ["_law_found", "_law_due"] (F__law_alike 8)) (C_round_of : CalP P w K mg base "round_of" 6 ["web", "x", "y"] F_round_of) (C__law_values : CalP P w K mg base "_law_values" 3 ["_law_web_here", "_law_told", "_law_starts"] F__law_values) (F : FnD K "law" s_law f fd) (hm : mg "law" = some (.ref f)) : CalP P w K mg base "law" 9 ["_law_script"] F_law :=
  ⟨fn_okP F sc_law fun cdv A outer s H E hr => b_law T C__law_web C__law_taken C__law_alike C_round_of C__law_values hr, hm, F.kp, F.bindsN (fun _ _ _ _ _ _ us hl => match us, hl with | [_], _ => rfl), runP_len⟩
end
end K22
set_option Elab.async false
set_option linter.all false
set_option maxRecDepth 1000000
set_option maxHeartbeats 4000000
/-! T22: the rounds of two nodes. -/
namespace K22
open PySem DV
def sm (x y : Nat) (s : Int) : Nat → Nat → Int := upd2 (upd2 (fun _ _ => 0) x y s) y x (0 - s)
def st : Nat → Shr
  | 0 => (3, 1)
  | 1 => (7, 2)
  | 2 => (11, 5)
  | 3 => (13, 1)
  | 4 => (17, 3)
  | _ => (19, 7)
theorem sm_xy {x y : Nat} {s : Int} (h : x ≠ y) (a b : Nat) : sm x y s a b = if a = x ∧ b = y then s else if a = y ∧ b = x then -s else 0 := by
  unfold sm upd2
  by_cases h1 : a = y ∧ b = x
  · have h2 : ¬ (a = x ∧ b = y) := by omega
    rw [if_pos h1, if_neg h2, if_pos h1]; omega
  · rw [if_neg h1, if_neg h1]
theorem sm_skew {x y : Nat} {s : Int} (h : x ≠ y) (hs : -1 ≤ s ∧ s ≤ 1) : Skew 1 (sm x y s) := by
  intro i j
  rw [sm_xy h, sm_xy h]
  repeat' split
  all_goals omega
theorem turn_sm {x y z : Nat} {s : Int} (h : x ≠ y) (hz : z = x ∨ z = y) : turnM (sm x y s) z = sm x y (-s) := by
  funext a b
  unfold turnM
  have t0 : ∀ a b, ¬ (a = z ∨ b = z) → thr (sm x y s) z a b = 0 := by
    intro a b _
    unfold thr
    refine if_neg ?_
    rw [sm_xy h, sm_xy h]
    rintro ⟨h1, h2⟩
    split at h1
    · split at h2
      · omega
      · split at h2 <;> omega
    · split at h1
      · split at h2
        · omega
        · split at h2 <;> omega
      · omega
  by_cases c : a = z ∨ b = z
  · rw [if_pos c, sm_xy h, sm_xy h]
    repeat' split
    all_goals omega
  · rw [if_neg c, t0 a b c, t0 b a (by omega), sm_xy h, sm_xy h]
    repeat' split
    all_goals omega
def valsS (n x y : Nat) : Int → List Nat → (Nat → Shr) → Option (Nat → Shr)
  | _, [], f => some f
  | s, z :: zs, f => (newO n (sm x y s) z f).bind fun v => valsS n x y (-s) zs (setF f z v)
theorem vals_sm {n x y : Nat} (h : x ≠ y) : ∀ (l : List Nat) (s : Int) (f : Nat → Shr), (∀ z ∈ l, z = x ∨ z = y) → valsO n (sm x y s) l f = valsS n x y s l f
  | [], _, _, _ => rfl
  | z :: l, s, f, hl => by
    show (newO n (sm x y s) z f).bind (fun v => valsO n (turnM (sm x y s) z) l (setF f z v)) = (newO n (sm x y s) z f).bind fun v => valsS n x y (-s) l (setF f z v)
    rw [turn_sm h (hl z List.mem_cons_self)]
    congr 1
    funext v
    exact vals_sm h l (-s) _ fun z hz => hl z (List.mem_cons_of_mem _ hz)
theorem webs_sm {n x y : Nat} (h : x ≠ y) (hx : x < n) (hy : y < n) : ∀ (l : List Nat) (s : Int), -1 ≤ s ∧ s ≤ 1 → (∀ z ∈ l, z = x ∨ z = y) → WebsOk n (sm x y s) l
  | [], _, _, _ => True.intro
  | z :: l, s, hs, hl => by
    have hz := hl z List.mem_cons_self
    refine ⟨by rcases hz with rfl | rfl <;> assumption, ⟨1, by decide, sm_skew h hs⟩, ?_⟩
    rw [turn_sm h hz]
    exact webs_sm h hx hy l (-s) (by omega) fun z hz => hl z (List.mem_cons_of_mem _ hz)
def shs (n : Nat) (f : Nat → Shr) : List PyData := (List.range n).map fun k => shD (f k)
def chk (n x y : Nat) (s : Int) (k : Nat) : Bool := match valsS n x y s ([x, y, x, y, x, y].take k) st with
  | some f => match sortD [.list (shs n f)], sortD [.tuple (shs n st)] with
    | some a, some b => match eqD a b with
      | some (.bool e) => e == decide (k = if s = 0 then 4 else 5)
      | _ => false
    | _, _ => false
  | none => false
def chkN (n : Nat) : Bool := (List.range n).all fun x => (List.range n).all fun y => x == y || [1, 0, -1].all fun s => [1, 2, 3, 4, 5].all fun k => chk n x y s k
theorem t2 : chkN 2 = true := by decide +kernel
theorem t3 : chkN 3 = true := by decide +kernel
theorem t4 : chkN 4 = true := by decide +kernel
theorem t5 : chkN 5 = true := by decide +kernel
theorem t6 : chkN 6 = true := by decide +kernel
theorem chk_true {n x y k : Nat} {s : Int} (h2 : 2 ≤ n) (h6 : n ≤ 6) (hx : x < n) (hy : y < n) (hn : x ≠ y) (hs : s = 1 ∨ s = 0 ∨ s = -1) (k1 : 1 ≤ k) (k5 : k ≤ 5) : chk n x y s k = true := by
  have c : chkN n = true := by
    have : n = 2 ∨ n = 3 ∨ n = 4 ∨ n = 5 ∨ n = 6 := by omega
    rcases this with rfl | rfl | rfl | rfl | rfl
    · exact t2
    · exact t3
    · exact t4
    · exact t5
    · exact t6
  have c1 := List.all_eq_true.mp (List.all_eq_true.mp c x (List.mem_range.mpr hx)) y (List.mem_range.mpr hy)
  rw [Bool.or_eq_true] at c1
  rcases c1 with c1 | c1
  · exact absurd (by simpa using c1) hn
  · have c2 := List.all_eq_true.mp c1 s (by rcases hs with rfl | rfl | rfl <;> simp)
    exact List.all_eq_true.mp c2 k (by
      have : k = 1 ∨ k = 2 ∨ k = 3 ∨ k = 4 ∨ k = 5 := by omega
      rcases this with rfl | rfl | rfl | rfl | rfl <;> simp)
end K22
set_option Elab.async false
set_option linter.all false
set_option maxRecDepth 1000000
set_option maxHeartbeats 4000000
namespace K22
open PySem DV
def tailB : DS := (seqS (asgS 12 (blt sortD (consL (callP valsF (consL (var 8) (consL (slE (var 10) noO (someO (var 11))) (consL (var 9) nilL)))) nilL)))
  (ifS (asB (bin neD (bin eqD (var 12) (blt sortD (consL (var 9) nilL))) (bin eqD (var 11) (ifE (asB (bin eqD (ixE (ixE (var 8) (var 4)) (var 5)) (cst (.int 0)))) (cst (.int 4)) (cst (.int 5)))))) (rtS (cst (.bool false))) nilS))
def starts6 : DE := (tupE (consL (tupE (consL (cst (.int 3)) (consL (cst (.int 1)) nilL))) (consL (tupE (consL (cst (.int 7)) (consL (cst (.int 2)) nilL))) (consL (tupE (consL (cst (.int 11)) (consL (cst (.int 5)) nilL))) (consL (tupE (consL (cst (.int 13)) (consL (cst (.int 1)) nilL))) (consL (tupE (consL (cst (.int 17)) (consL (cst (.int 3)) nilL))) (consL (tupE (consL (cst (.int 19)) (consL (cst (.int 7)) nilL))) nilL)))))))
def tailD : DS :=
  (seqS (asgS 8 (blt tupD (consL (frzE (lcF [14] (seqI (var 7)) (.nm 14) yes (blt tupD (consL (var 14) nilL)))) nilL)))
  (seqS (parS [9, 10] (consL (slE starts6 noO (someO (var 3))) (consL (bin mulD (tupE (consL (var 4) (consL (var 5) nilL))) (cst (.int 3))) nilL)))
  (seqS (forS (rng2 (consL (cst (.int 1)) (consL (cst (.int 6)) nilL))) (.nm 11) tailB)
  (rtS (cst (.bool true))))))
def tailSl (o1 o2 w : Val) (n x y : Nat) : Sl := [some o1, some (.loc 0), some w, some (.d (.int n)), some (.d (.int x)), some (.d (.int y)), some o2, some (.loc (n + 1)), none, none, none, none, none, none, none]
def told (x y : Nat) : List PyData := [.int x, .int y, .int x, .int y, .int x, .int y]
def tailS2 (o1 o2 w : Val) (n x y : Nat) (s : Int) (k v : Option Val) : Sl := [some o1, some (.loc 0), some w, some (.d (.int n)), some (.d (.int x)), some (.d (.int y)), some o2, some (.loc (n + 1)), some (.d (webD n (sm x y s))), some (.d (.tuple (shs n st))), some (.d (.tuple (told x y))), k, v, none, none]
theorem z_sl {fa : DE} {fl fh : DO} {sl : Sl} {S S1 S2 S3 : Sto} {ds : List PyData} {lo hi : Option Int} (h : fa sl S = .ok (.d (.tuple ds)) S1) (h2 : fl sl S1 = .ok lo S2) (h3 : fh sl S2 = .ok hi S3) : slE fa fl fh sl S = .ok (.d (.tuple (cutX ds lo hi))) S3 := by
  show (fa sl S).bind _ = _
  rw [h]
  show (fl sl S1).bind _ = _
  rw [h2]
  show (fh sl S2).bind _ = _
  rw [h3]; rfl
theorem z_some {f : DE} {sl : Sl} {S S1 : Sto} {i : Int} (h : f sl S = .ok (.d (.int i)) S1) : someO f sl S = .ok (some i) S1 := by
  show (f sl S).bind _ = _
  rw [h]; rfl
theorem starts_ok {sl : Sl} {S : Sto} : starts6 sl S = .ok (.d (.tuple [shD (3, 1), shD (7, 2), shD (11, 5), shD (13, 1), shD (17, 3), shD (19, 7)])) S := by
  have t : ∀ a b : Int, tupE (consL (cst (.int a)) (consL (cst (.int b)) nilL)) sl S = .ok (.d (shD (a, b))) S := fun a b => z_tup (ds := [.int a, .int b]) (z_consD rfl (z_consD rfl z_nilD)) (sz_ge 2 (by decide))
  exact z_tup (ds := [shD (3, 1), shD (7, 2), shD (11, 5), shD (13, 1), shD (17, 3), shD (19, 7)]) (z_consD (t _ _) (z_consD (t _ _) (z_consD (t _ _) (z_consD (t _ _) (z_consD (t _ _) (z_consD (t _ _) z_nilD)))))) (sz_ge 6 (by decide))
theorem cut_starts {n : Nat} (h2 : 2 ≤ n) (h6 : n ≤ 6) : cutX [shD (3, 1), shD (7, 2), shD (11, 5), shD (13, 1), shD (17, 3), shD (19, 7)] none (some (n : Int)) = shs n st := by
  have : n = 2 ∨ n = 3 ∨ n = 4 ∨ n = 5 ∨ n = 6 := by omega
  rcases this with rfl | rfl | rfl | rfl | rfl <;> rfl
theorem cut_told {x y k : Nat} (k1 : 1 ≤ k) (k5 : k ≤ 5) : cutX (told x y) none (some (k : Int)) = (([x, y, x, y, x, y].take k).map fun z => .int (z : Nat)) := by
  have : k = 1 ∨ k = 2 ∨ k = 3 ∨ k = 4 ∨ k = 5 := by omega
  rcases this with rfl | rfl | rfl | rfl | rfl <;> rfl
theorem neD_bool (a b : Bool) : neD (.bool a) (.bool b) = some (.bool (!(a == b))) := by
  cases a <;> cases b <;> rfl
theorem sort_list (ds : List PyData) : sortD [.list ds] = sortD [.tuple ds] := rfl
theorem tailB_ok {o1 o2 w : Val} {n x y k : Nat} {s : Int} {v : Option Val} {S : Sto} (h2 : 2 ≤ n) (h6 : n ≤ 6) (hx : x < n) (hy : y < n) (hn : x ≠ y) (hs : s = 1 ∨ s = 0 ∨ s = -1) (k1 : 1 ≤ k) (k5 : k ≤ 5) :
    ∃ v', tailB (tailS2 o1 o2 w n x y s (some (.d (.int k))) v) S = .nx (tailS2 o1 o2 w n x y s (some (.d (.int k))) v') S := by
  have c := chk_true h2 h6 hx hy hn hs k1 k5
  unfold chk at c
  split at c
  · rename_i f ef
    split at c
    · rename_i a b ea eb
      split at c
      · rename_i e ee
        have hl : ∀ z ∈ [x, y, x, y, x, y].take k, z = x ∨ z = y := fun z hz => by
          have := List.mem_of_mem_take hz
          simp only [List.mem_cons, List.not_mem_nil, or_false] at this
          omega
        rw [← vals_sm hn _ _ _ hl] at ef
        have ev := vals_ok (n := n) (f := st) (by omega) (webs_sm hn hx hy _ s (by omega) hl) ef
        have s1 : asgS 12 (blt sortD (consL (callP valsF (consL (var 8) (consL (slE (var 10) noO (someO (var 11))) (consL (var 9) nilL)))) nilL)) (tailS2 o1 o2 w n x y s (some (.d (.int k))) v) S = .nx (tailS2 o1 o2 w n x y s (some (.d (.int k))) (some (.d a))) S := by
          refine z_asg (z_blt (ds := [.list (shs n f)]) (z_consD (z_callP (ds := [webD n (sm x y s), .tuple (([x, y, x, y, x, y].take k).map fun z => .int (z : Nat)), .tuple (shs n st)]) (z_consD (z_var rfl) (z_consD ?_ (z_consD (z_var rfl) z_nilD))) ev) z_nilD) ea)
          rw [← cut_told k1 k5]
          exact z_sl (z_var rfl) rfl (z_some (z_var rfl))
        have hsxy : sm x y s x y = s := by rw [sm_xy hn]; simp
        refine ⟨some (.d a), z_seq s1 (z_ifF (S1 := S) (z_asB (z_bin (d1 := .bool e) (d2 := .bool (decide (k = if s = 0 then 4 else 5))) (z_bin (z_var rfl) (z_blt (ds := [.tuple (shs n st)]) (z_consD (z_var rfl) z_nilD) eb) ee) (z_bin (d2 := .int (if s = 0 then 4 else 5)) (z_var rfl) ?_ ?_) (by rw [neD_bool, c]; rfl))) rfl)⟩
        · have hc := z_asB (z_bin (web_at (n := n) (M := sm x y s) (fa := var 8) (fb := var 4) (fc := var 5) (sl := tailS2 o1 o2 w n x y s (some (.d (.int k))) (some (.d a))) (S := S) (z_var rfl) (z_var rfl) (z_var rfl) hx hy) (show cst (.int 0) _ S = .ok (.d (.int 0)) S from rfl) (eqD_int _ _))
          rw [hsxy] at hc
          by_cases z : s = 0
          · rw [decide_eq_true z] at hc
            rw [if_pos z]
            exact z_ifeT hc rfl
          · rw [decide_eq_false z] at hc
            rw [if_neg z]
            exact z_ifeF hc rfl
        · rw [eqD_int]
          congr 2
          by_cases z : s = 0
          · simp only [if_pos z]
            by_cases q : k = 4
            · simp [q]
            · have : ¬ (k : Int) = 4 := by omega
              simp [q, this]
          · simp only [if_neg z]
            by_cases q : k = 5
            · simp [q]
            · have : ¬ (k : Int) = 5 := by omega
              simp [q, this]
      · cases c
    · cases c
  · cases c
theorem matS_eq {row : List PyData} {n : Nat} {M : Nat → Nat → Int} : matS row n M = matP [.lst (row.map .d)] n M := by
  unfold matS matP
  simp [Nat.add_comm]
theorem tail_ok {row : List PyData} {o1 o2 w : Val} {n x y : Nat} {s : Int} (h2 : 2 ≤ n) (h6 : n ≤ 6) (hx : x < n) (hy : y < n) (hn : x ≠ y) (hs : s = 1 ∨ s = 0 ∨ s = -1) :
    ∃ S', tailD (tailSl o1 o2 w n x y) (matS row n (sm x y s)) = .rt (.bool true) S' := by
  obtain ⟨S', f1, _⟩ := frz_matP (pre := [.lst (row.map .d)]) (n := n) (M := sm x y s)
  have e1 : asgS 8 (blt tupD (consL (frzE (lcF [14] (seqI (var 7)) (.nm 14) yes (blt tupD (consL (var 14) nilL)))) nilL)) (tailSl o1 o2 w n x y) (matS row n (sm x y s)) = .nx ((tailSl o1 o2 w n x y).set 8 (some (.d (webD n (sm x y s))))) S' := by
    rw [matS_eq]
    exact z_asg (give_ok (own := [14]) (slot := 14) (k := 7) (pre := [.lst (row.map .d)]) (show (tailSl o1 o2 w n x y)[7]? = some (some (.loc (1 + n))) by rw [Nat.add_comm]; rfl) (show (14 : Nat) < 15 by decide) (by omega) f1)
  have e2 : parS [9, 10] (consL (slE starts6 noO (someO (var 3))) (consL (bin mulD (tupE (consL (var 4) (consL (var 5) nilL))) (cst (.int 3))) nilL)) ((tailSl o1 o2 w n x y).set 8 (some (.d (webD n (sm x y s))))) S' = .nx (tailS2 o1 o2 w n x y s none none) S' := by
    refine z_par (xs := [.d (.tuple (shs n st)), .d (.tuple (told x y))]) (z_cons ?_ (z_cons (z_bin (z_tup (ds := [.int x, .int y]) (z_consD (z_var rfl) (z_consD (z_var rfl) z_nilD)) (sz_ge 2 (by decide))) rfl rfl) z_nil)) rfl (by decide)
    rw [← cut_starts h2 h6]
    exact z_sl starts_ok rfl (z_some (z_var rfl))
  obtain ⟨sl3, S3, e3, k3, v3, rfl, rfl⟩ := fgo_range (slot := 11) (g := tailB) (lo := (1 : Nat)) (cnt := 5) (P := fun _ sl S => ∃ k v, sl = tailS2 o1 o2 w n x y s k v ∧ S = S') (fun i sl S hi hp => by
    obtain ⟨k, v, rfl, rfl⟩ := hp
    obtain ⟨v', e⟩ := tailB_ok (o1 := o1) (o2 := o2) (w := w) (k := i + 1) (v := v) (S := S) h2 h6 hx hy hn hs (by omega) (by omega)
    refine ⟨tailS2 o1 o2 w n x y s (some (.d (.int ((i + 1 : Nat) : Int)))) v', S, ?_, some (.d (.int ((i + 1 : Nat) : Int))), v', rfl, rfl⟩
    rw [show ((1 : Nat) : Int) + (i : Nat) = ((i + 1 : Nat) : Int) by omega]
    exact e) (sl := tailS2 o1 o2 w n x y s none none) (S := S') ⟨none, none, rfl, rfl⟩
  exact ⟨S3, z_seq e1 (z_seq e2 (z_seq (z_for (rng2_ok (i := 1) (k := 6) rfl (by decide) (by decide)) e3) (z_rt rfl)))⟩
end K22
set_option Elab.async false
set_option linter.all false
set_option maxRecDepth 100000
set_option maxHeartbeats 4000000
namespace K22
open PySem DV
theorem web_eq : F__law_web = webF := rfl
theorem taken_eq : F__law_taken = takenF := rfl
theorem needWeb_eq : F_need_web = needWebF := rfl
theorem needNode_eq : F_need_node = needNodeF := rfl
def dueD (a : Int) : PyData := (get2 0 4 1 5 (if a < 0 then -a else a)).getD .none
theorem round_ok {n x y : Nat} {M : Nat → Nat → Int} (h1 : 1 ≤ n) (h6 : n ≤ 6) (hs : Skew 3 M) (hx : x < n) (hy : y < n) (hn : x ≠ y) : F_round_of [webD n M, .int x, .int y] = .ok (dueD (M x y)) := by
  refine z_runP rfl (z_seq (z_ex (z_callP (Fn := F_need_web) (ds := [webD n M]) (z_consD (z_var rfl) z_nilD) (needWeb_ok h1 h6 (by decide) hs))) (z_seq (z_ex (z_callP (Fn := F_need_node) (ds := [webD n M, .int x]) (z_consD (z_var rfl) (z_consD (z_var rfl) z_nilD)) (needNode_ok hx))) (z_seq (z_ex (z_callP (Fn := F_need_node) (ds := [webD n M, .int y]) (z_consD (z_var rfl) (z_consD (z_var rfl) z_nilD)) (needNode_ok hy))) (z_seq (z_ifF (z_asB (z_bin (z_var rfl) (z_var rfl) (d1 := .int x) (d2 := .int y) ?_)) rfl) (z_rt (S1 := []) ?_))))) rfl
  · rw [eqD_int]
    congr 2
    simp
    omega
  · show (blt absD (consL (ixE (ixE (var 0) (var 1)) (var 2)) nilL) _ _).bind _ = _
    rw [z_blt (ds := [.int (M x y)]) (z_consD (web_at (M := M) (z_var rfl) (z_var rfl) (z_var rfl) hx hy) z_nilD) rfl]
    rfl
theorem due_cases (a : Int) : dueD a = .int 4 ∨ dueD a = .int 5 ∨ dueD a = .none := by
  unfold dueD get2
  generalize (if a < 0 then -a else a) = b
  by_cases h1 : b = 0
  · left; rw [if_pos h1]; rfl
  · rw [if_neg h1]
    by_cases h2 : b = 1
    · right; left; rw [if_pos h2]; rfl
    · right; right; rw [if_neg h2]; rfl
theorem alike_due (a : Int) : F__law_alike 8 [dueD a, dueD a] = .ok (.bool true) := by
  rcases due_cases a with h | h | h <;> rw [h] <;> kernel_rfl
def sgn (a : Int) : Int := if (if a < 1 then a else 1) > -1 then (if a < 1 then a else 1) else -1
theorem sgn_cases (a : Int) : sgn a = 1 ∨ sgn a = 0 ∨ sgn a = -1 := by unfold sgn; split <;> split <;> omega
theorem sgn_neg (a : Int) : sgn (-a) = 0 - sgn a := by
  unfold sgn
  repeat' split
  all_goals omega
theorem put2_law {row : List PyData} {n x y : Nat} {M : Nat → Nat → Int} {o1 o2 : Val} (hx : x < n) (hy : y < n) (hs : Skew 3 M) :
    put2S (tupE (consL (blt maxD2 (consL (bin subD (cst (.int 0)) (cst (.int 1))) (consL (blt minD2 (consL (cst (.int 1)) (consL (ixE (ixE (var 2) (var 4)) (var 5)) nilL))) nilL))) (consL (blt maxD2 (consL (bin subD (cst (.int 0)) (cst (.int 1))) (consL (blt minD2 (consL (cst (.int 1)) (consL (ixE (ixE (var 2) (var 5)) (var 4)) nilL))) nilL))) nilL))) (ixE (var 7) (var 4)) (var 5) (ixE (var 7) (var 5)) (var 4) (tailSl o1 o2 (.d (webD n M)) n x y) (matS row n fun _ _ => 0) =
      .nx (tailSl o1 o2 (.d (webD n M)) n x y) (matS row n (upd2 (upd2 (fun _ _ => 0) x y (sgn (M x y))) y x (0 - sgn (M x y)))) := by
  have mm : ∀ (a : Int) (f : DE) (sl : Sl) (S : Sto), f sl S = .ok (.d (.int a)) S → blt maxD2 (consL (bin subD (cst (.int 0)) (cst (.int 1))) (consL (blt minD2 (consL (cst (.int 1)) (consL f nilL))) nilL)) sl S = .ok (.d (.int (sgn a))) S := fun a f sl S h =>
    z_blt (ds := [.int (0 - 1), .int (if a < 1 then a else 1)]) (z_consD (z_bin rfl rfl rfl) (z_consD (z_blt (ds := [.int 1, .int a]) (z_consD rfl (z_consD h z_nilD)) rfl) z_nilD)) rfl
  have t := z_tup (S1 := matS row n fun _ _ => 0) (ds := [.int (sgn (M x y)), .int (sgn (M y x))]) (z_consD (mm (M x y) (ixE (ixE (var 2) (var 4)) (var 5)) (tailSl o1 o2 (.d (webD n M)) n x y) _ (web_at (M := M) (z_var rfl) (z_var rfl) (z_var rfl) hx hy)) (z_consD (mm (M y x) (ixE (ixE (var 2) (var 5)) (var 4)) (tailSl o1 o2 (.d (webD n M)) n x y) _ (web_at (M := M) (z_var rfl) (z_var rfl) (z_var rfl) hy hx)) z_nilD)) (sz_ge 2 (by decide))
  have e : sgn (M y x) = 0 - sgn (M x y) := by rw [(hs x y).1]; exact sgn_neg _
  rw [e] at t
  unfold put2S
  rw [t]
  simp [thenS, ixE, var, tailSl, R.bind, mat_ix hx, mat_ix hy, mat_put hx hy, mat_put hy hx]
theorem law_true (ns : List Int) (hl : ns.length ≤ 63) : F_law [scrD ns] = .ok (.bool true) := by
  have ok0 : RowOk (rowD ns 0 7322 0) := ⟨ns, 0, 7322, 0, rfl, by decide, by decide, by decide⟩
  obtain ⟨n, M, row1, e1, ok1, n1, n6, sk⟩ := web_ok ok0 (most := 6) (strong := 3) (by decide) (by decide) (by decide) (by decide)
  have n6' : n ≤ 6 := by omega
  let sl0 : Sl := slots 15 [.d (scrD ns)]
  let S0 : Sto := [.lst ((rowD ns 0 7322 0).map .d)]
  let slw : Sl := [some (.d (scrD ns)), some (.loc 0), some (.d (webD n M)), some (.d (.int n)), none, none, none, none, none, none, none, none, none, none, none]
  have p1 : asgS 1 (ownE (szF (consL (var 0) (consL (cst (.int 0)) (consL (cst (.int 7322)) (consL (cst (.int 0)) nilL)))))) sl0 [] = .nx (sl0.set 1 (some (.loc 0))) S0 :=
    z_asg (z_own (S1 := []) (z_sz (z_cons (z_var rfl) (z_cons rfl (z_cons rfl (z_cons rfl z_nil)))) (sz_ge 4 (by decide))))
  have p2 : asgS 2 (callR F__law_web (var 1) (consL (cst (.int 6)) (consL (cst (.int 3)) nilL))) (sl0.set 1 (some (.loc 0))) S0 = .nx ((sl0.set 1 (some (.loc 0))).set 2 (some (.d (webD n M)))) [.lst (row1.map .d)] :=
    z_asg (z_callR (Fn := F__law_web) (k := 0) (S1 := S0) (S2 := S0) (ds := [.int 6, .int 3]) (row := rowD ns 0 7322 0) (z_var rfl) rfl rfl e1)
  have p3 : asgS 3 (blt lenD (consL (var 2) nilL)) ((sl0.set 1 (some (.loc 0))).set 2 (some (.d (webD n M)))) [.lst (row1.map .d)] = .nx slw [.lst (row1.map .d)] :=
    z_asg (x := .d (.int n)) (z_blt (ds := [webD n M]) (z_consD (z_var rfl) z_nilD) (by show some (PyData.int _) = _; rw [web_len]))
  by_cases c2 : n < 2
  · refine z_runP (r := .rt (.bool true) [.lst (row1.map .d)]) rfl (z_seq p1 (z_seq p2 (z_seq p3 (z_seqR (z_ifT (S1 := [.lst (row1.map .d)]) (z_asB (z_bin (d1 := .int n) (d2 := .int 2) (z_var rfl) rfl ?_)) (z_rt rfl)))))) rfl
    have : (n : Int) < 2 := by omega
    simp [ltI, cmpI, this]
  obtain ⟨x0, row2, e2, ok2, x0a, x0b⟩ := taken_ok ok1 (many := n) (by omega) (Nat.lt_trans (log_small (by omega) (by omega)) (by decide))
  obtain ⟨d, row3, e3, ok3, d0, d1⟩ := taken_ok ok2 (many := (n : Int) - 1) (by omega) (Nat.lt_trans (log_small (by omega) (by omega)) (by decide))
  obtain ⟨x, rfl⟩ : ∃ x : Nat, x0 = x := ⟨x0.toNat, by omega⟩
  have hx : x < n := by omega
  have hn0 : (n : Int) ≠ 0 := by omega
  have hy0 := Int.emod_nonneg ((x : Int) + 1 + d) hn0
  obtain ⟨y, hy⟩ : ∃ y : Nat, ((x : Int) + 1 + d) % n = y := ⟨(((x : Int) + 1 + d) % n).toNat, (Int.toNat_of_nonneg hy0).symm⟩
  have hyn : y < n := by have := Int.emod_lt_of_pos ((x : Int) + 1 + d) (show (0 : Int) < n by omega); omega
  have hxy : y ≠ x := by
    intro q
    subst q
    by_cases c : (y : Int) + 1 + d < n
    · rw [Int.emod_eq_of_lt (by omega) c] at hy; omega
    · have : ((y : Int) + 1 + d) = ((y : Int) + 1 + d - n) + n := by omega
      rw [this, Int.add_emod_right, Int.emod_eq_of_lt (by omega) (by omega)] at hy
      omega
  let sl4 : Sl := [some (.d (scrD ns)), some (.loc 0), some (.d (webD n M)), some (.d (.int n)), some (.d (.int x)), none, none, none, none, none, none, none, none, none, none]
  let sl5 : Sl := [some (.d (scrD ns)), some (.loc 0), some (.d (webD n M)), some (.d (.int n)), some (.d (.int x)), some (.d (.int y)), none, none, none, none, none, none, none, none, none]
  let sl6 : Sl := [some (.d (scrD ns)), some (.loc 0), some (.d (webD n M)), some (.d (.int n)), some (.d (.int x)), some (.d (.int y)), some (.d (dueD (M x y))), none, none, none, none, none, none, none, none]
  have p4 : asgS 4 (callR F__law_taken (var 1) (consL (var 3) nilL)) slw [.lst (row1.map .d)] = .nx sl4 [.lst (row2.map .d)] :=
    z_asg (z_callR (Fn := F__law_taken) (k := 0) (S1 := [.lst (row1.map .d)]) (S2 := [.lst (row1.map .d)]) (ds := [.int n]) (row := row1) (z_var rfl) rfl rfl e2)
  have p5 : asgS 5 (bin modD (bin addD (bin addD (var 4) (cst (.int 1))) (callR F__law_taken (var 1) (consL (bin subD (var 3) (cst (.int 1))) nilL))) (var 3)) sl4 [.lst (row2.map .d)] = .nx sl5 [.lst (row3.map .d)] := by
    refine z_asg (x := .d (.int y)) (z_bin (z_bin (z_bin (z_var rfl) rfl rfl) (z_callR (Fn := F__law_taken) (k := 0) (S1 := [.lst (row2.map .d)]) (S2 := [.lst (row2.map .d)]) (ds := [.int ((n : Int) - 1)]) (row := row2) (z_var rfl) rfl rfl e3) rfl) (z_var rfl) ?_)
    show modD (.int ((x : Int) + 1 + d)) (.int n) = _
    have : (0 : Int) < n := by omega
    show (if (0 : Int) < n then some (PyData.int (((x : Int) + 1 + d) % n)) else none) = _
    rw [if_pos this, hy]
  have p6 : asgS 6 (getE2 0 4 1 5 (blt absD (consL (ixE (ixE (var 2) (var 4)) (var 5)) nilL)) (cst .none)) sl5 [.lst (row3.map .d)] = .nx sl6 [.lst (row3.map .d)] := by
    refine z_asg (x := .d (dueD (M x y))) ?_
    show (blt absD (consL (ixE (ixE (var 2) (var 4)) (var 5)) nilL) sl5 [.lst (row3.map .d)]).bind _ = _
    rw [z_blt (S1 := [.lst (row3.map .d)]) (ds := [.int (M x y)]) (z_consD (web_at (M := M) (z_var rfl) (z_var rfl) (z_var rfl) hx hyn) z_nilD) rfl]
    unfold dueD
    simp only [R.bind, cst]
    cases get2 0 4 1 5 (if M x y < 0 then -M x y else M x y) with
    | none => rfl
    | some v => rfl
  have p7 : ifS (notB (asB (callP (F__law_alike 8) (consL (callP F_round_of (consL (var 2) (consL (var 4) (consL (var 5) nilL)))) (consL (var 6) nilL))))) (rtS (cst (.bool false))) nilS sl6 [.lst (row3.map .d)] = .nx sl6 [.lst (row3.map .d)] :=
    z_ifF (S1 := [.lst (row3.map .d)]) (z_notT (z_asB (z_callP (ds := [dueD (M x y), dueD (M x y)]) (z_consD (z_callP (ds := [webD n M, .int x, .int y]) (z_consD (z_var rfl) (z_consD (z_var rfl) (z_consD (z_var rfl) z_nilD))) (round_ok n1 n6' sk hx hyn (Ne.symm hxy))) (z_consD (z_var rfl) z_nilD)) (alike_due _)))) rfl
  have p8 : asgS 7 (ownE (lcF [13] (rng1 (consL (var 3) nilL)) (.nm 13) yes (ownE (repF (frzE (szF (consL (cst (.int 0)) nilL))) (var 3))))) sl6 [.lst (row3.map .d)] = .nx (tailSl (.d (scrD ns)) (.d (dueD (M x y))) (.d (webD n M)) n x y) (matS row3 n fun _ _ => 0) := by
    have c := zeros_ok (own := [13]) (slot := 13) (i := 3) (k := 3) (row := row3) (n := n) (sl := sl6) rfl ⟨rfl, by decide⟩ (by omega)
    rw [z_asg c]
    rfl
  have p9 := put2_law (row := row3) (o1 := .d (scrD ns)) (o2 := .d (dueD (M x y))) hx hyn sk
  obtain ⟨S', q⟩ := tail_ok (row := row3) (o1 := .d (scrD ns)) (o2 := .d (dueD (M x y))) (w := .d (webD n M)) (by omega : 2 ≤ n) n6' hx hyn (Ne.symm hxy) (sgn_cases (M x y))
  have p3b : ifS (asB (bin ltI (var 3) (cst (.int 2)))) (rtS (cst (.bool true))) nilS slw [.lst (row1.map .d)] = .nx slw [.lst (row1.map .d)] := by
    refine z_ifF (S1 := [.lst (row1.map .d)]) (z_asB (z_bin (d1 := .int n) (d2 := .int 2) (z_var rfl) rfl ?_)) rfl
    have : ¬ (n : Int) < 2 := by omega
    simp [ltI, cmpI, this]
  exact z_runP rfl (z_seq p1 (z_seq p2 (z_seq p3 (z_seq p3b (z_seq p4 (z_seq p5 (z_seq p6 (z_seq p7 (z_seq p8 (z_seq p9 q)))))))))) rfl
end K22
set_option Elab.async false
set_option linter.all false
set_option maxRecDepth 100000
set_option maxHeartbeats 4000000
namespace K22
open PySem PySem.Spec PyProof.Rows L2 DV
def fa : List He.Fa := [.free "int", .free "len", .free "range", .free "tuple", .free "isinstance", .free "list", .free "dict", .free "sorted", .free "str", .free "bool", .int "MOST_ARROWS" 1000, .free "all", .int "MOST_NODES" 6, .glo "BadWeb", .exc "BadWeb", .glo "NoNode", .exc "NoNode", .glo "Alike", .exc "Alike", .free "abs", .free "min", .free "max", .glo "_law_taken", .glo "_law_pick", .glo "_law_web", .glo "_law_alike", .glo "is_integer", .glo "is_from", .glo "is_line", .glo "is_web", .glo "need_web", .glo "need_node", .glo "round_of", .glo "_law_share", .glo "_law_times", .glo "_law_turn", .glo "_law_plus", .glo "_law_values", .glo "law"]
def d__law_taken : He.DefD := ⟨("_law_taken", none), "_law_taken", "_law_taken", defArgs s__law_taken, defBody s__law_taken, defScope s__law_taken, [], []⟩
def d__law_pick : He.DefD := ⟨("_law_pick", none), "_law_pick", "_law_pick", defArgs s__law_pick, defBody s__law_pick, defScope s__law_pick, [], []⟩
def d__law_web : He.DefD := ⟨("_law_web", none), "_law_web", "_law_web", defArgs s__law_web, defBody s__law_web, defScope s__law_web, [], []⟩
def d__law_alike : He.DefD := ⟨("_law_alike", none), "_law_alike", "_law_alike", defArgs s__law_alike, defBody s__law_alike, defScope s__law_alike, [], []⟩
def d_is_integer : He.DefD := ⟨("is_integer", none), "is_integer", "is_integer", defArgs s_is_integer, defBody s_is_integer, defScope s_is_integer, [], []⟩
def d_is_from : He.DefD := ⟨("is_from", none), "is_from", "is_from", defArgs s_is_from, defBody s_is_from, defScope s_is_from, [], []⟩
def d_is_line : He.DefD := ⟨("is_line", none), "is_line", "is_line", defArgs s_is_line, defBody s_is_line, defScope s_is_line, [], []⟩
def d_is_web : He.DefD := ⟨("is_web", none), "is_web", "is_web", defArgs s_is_web, defBody s_is_web, defScope s_is_web, [], []⟩
def d_need_web : He.DefD := ⟨("need_web", none), "need_web", "need_web", defArgs s_need_web, defBody s_need_web, defScope s_need_web, [], []⟩
def d_need_node : He.DefD := ⟨("need_node", none), "need_node", "need_node", defArgs s_need_node, defBody s_need_node, defScope s_need_node, [], []⟩
def d_round_of : He.DefD := ⟨("round_of", none), "round_of", "round_of", defArgs s_round_of, defBody s_round_of, defScope s_round_of, [], []⟩
def d__law_share : He.DefD := ⟨("_law_share", none), "_law_share", "_law_share", defArgs s__law_share, defBody s__law_share, defScope s__law_share, [], []⟩
def d__law_times : He.DefD := ⟨("_law_times", none), "_law_times", "_law_times", defArgs s__law_times, defBody s__law_times, defScope s__law_times, [], []⟩
def d__law_turn : He.DefD := ⟨("_law_turn", none), "_law_turn", "_law_turn", defArgs s__law_turn, defBody s__law_turn, defScope s__law_turn, [], []⟩
def d__law_plus : He.DefD := ⟨("_law_plus", none), "_law_plus", "_law_plus", defArgs s__law_plus, defBody s__law_plus, defScope s__law_plus, [], []⟩
def d__law_values : He.DefD := ⟨("_law_values", none), "_law_values", "_law_values", defArgs s__law_values, defBody s__law_values, defScope s__law_values, [], []⟩
def d_law : He.DefD := ⟨("law", none), "law", "law", defArgs s_law, defBody s_law, defScope s_law, [], []⟩
def fn : List He.DefD := [d__law_taken, d__law_pick, d__law_web, d__law_alike, d_is_integer, d_is_from, d_is_line, d_is_web, d_need_web, d_need_node, d_round_of, d__law_share, d__law_times, d__law_turn, d__law_plus, d__law_values, d_law]
theorem facts {P : Program} {w : World} {K : PySem.W.Frag} {h : Heap} {mg : Str → Option Value} {f : Addr} (X : K.In h) (G : h.Ns mainGlobals mg) (hfa : mg ("law" : Str) = some (.ref f)) (c : He.SaysD fa fn K) :
    ∃ fd : FuncData, (∀ (s : Shared) (v : Value), BindsTo s fd ⟨[v], []⟩ [("_law_script", v)]) ∧ ∀ base : Heap, K.In base → base.Ns mainGlobals mg → FnOk P w K mg base (L2.CX P w) 9 f fd ["_law_script"] (spP K mg 1 F_law) := by
  have T : Tx K mg := ⟨He.free_ok X G (c.fact 0 (f := .free "int") rfl), He.free_ok X G (c.fact 1 (f := .free "len") rfl), He.free_ok X G (c.fact 2 (f := .free "range") rfl), He.free_ok X G (c.fact 3 (f := .free "tuple") rfl), He.free_ok X G (c.fact 4 (f := .free "isinstance") rfl), He.free_ok X G (c.fact 5 (f := .free "list") rfl), He.free_ok X G (c.fact 6 (f := .free "dict") rfl), He.free_ok X G (c.fact 7 (f := .free "sorted") rfl), He.free_ok X G (c.fact 8 (f := .free "str") rfl), He.free_ok X G (c.fact 9 (f := .free "bool") rfl), He.int_ok X G (c.fact 10 (f := .int "MOST_ARROWS" 1000) rfl), He.free_ok X G (c.fact 11 (f := .free "all") rfl), He.int_ok X G (c.fact 12 (f := .int "MOST_NODES" 6) rfl), ⟨_, He.glo_ok X G (c.fact 13 (f := .glo "BadWeb") rfl), He.exc_ok (c.fact 14 (f := .exc "BadWeb") rfl)⟩, ⟨_, He.glo_ok X G (c.fact 15 (f := .glo "NoNode") rfl), He.exc_ok (c.fact 16 (f := .exc "NoNode") rfl)⟩, ⟨_, He.glo_ok X G (c.fact 17 (f := .glo "Alike") rfl), He.exc_ok (c.fact 18 (f := .exc "Alike") rfl)⟩, He.free_ok X G (c.fact 19 (f := .free "abs") rfl), He.free_ok X G (c.fact 20 (f := .free "min") rfl), He.free_ok X G (c.fact 21 (f := .free "max") rfl)⟩
  obtain ⟨fd__law_taken, E__law_taken⟩ := c.def_ 0 (d := d__law_taken) rfl
  have g__law_taken := He.glo_ok X G (c.fact 22 (f := .glo "_law_taken") rfl)
  obtain ⟨fd__law_pick, E__law_pick⟩ := c.def_ 1 (d := d__law_pick) rfl
  have g__law_pick := He.glo_ok X G (c.fact 23 (f := .glo "_law_pick") rfl)
  obtain ⟨fd__law_web, E__law_web⟩ := c.def_ 2 (d := d__law_web) rfl
  have g__law_web := He.glo_ok X G (c.fact 24 (f := .glo "_law_web") rfl)
  obtain ⟨fd__law_alike, E__law_alike⟩ := c.def_ 3 (d := d__law_alike) rfl
  have g__law_alike := He.glo_ok X G (c.fact 25 (f := .glo "_law_alike") rfl)
  obtain ⟨fd_is_integer, E_is_integer⟩ := c.def_ 4 (d := d_is_integer) rfl
  have g_is_integer := He.glo_ok X G (c.fact 26 (f := .glo "is_integer") rfl)
  obtain ⟨fd_is_from, E_is_from⟩ := c.def_ 5 (d := d_is_from) rfl
  have g_is_from := He.glo_ok X G (c.fact 27 (f := .glo "is_from") rfl)
  obtain ⟨fd_is_line, E_is_line⟩ := c.def_ 6 (d := d_is_line) rfl
  have g_is_line := He.glo_ok X G (c.fact 28 (f := .glo "is_line") rfl)
  obtain ⟨fd_is_web, E_is_web⟩ := c.def_ 7 (d := d_is_web) rfl
  have g_is_web := He.glo_ok X G (c.fact 29 (f := .glo "is_web") rfl)
  obtain ⟨fd_need_web, E_need_web⟩ := c.def_ 8 (d := d_need_web) rfl
  have g_need_web := He.glo_ok X G (c.fact 30 (f := .glo "need_web") rfl)
  obtain ⟨fd_need_node, E_need_node⟩ := c.def_ 9 (d := d_need_node) rfl
  have g_need_node := He.glo_ok X G (c.fact 31 (f := .glo "need_node") rfl)
  obtain ⟨fd_round_of, E_round_of⟩ := c.def_ 10 (d := d_round_of) rfl
  have g_round_of := He.glo_ok X G (c.fact 32 (f := .glo "round_of") rfl)
  obtain ⟨fd__law_share, E__law_share⟩ := c.def_ 11 (d := d__law_share) rfl
  have g__law_share := He.glo_ok X G (c.fact 33 (f := .glo "_law_share") rfl)
  obtain ⟨fd__law_times, E__law_times⟩ := c.def_ 12 (d := d__law_times) rfl
  have g__law_times := He.glo_ok X G (c.fact 34 (f := .glo "_law_times") rfl)
  obtain ⟨fd__law_turn, E__law_turn⟩ := c.def_ 13 (d := d__law_turn) rfl
  have g__law_turn := He.glo_ok X G (c.fact 35 (f := .glo "_law_turn") rfl)
  obtain ⟨fd__law_plus, E__law_plus⟩ := c.def_ 14 (d := d__law_plus) rfl
  have g__law_plus := He.glo_ok X G (c.fact 36 (f := .glo "_law_plus") rfl)
  obtain ⟨fd__law_values, E__law_values⟩ := c.def_ 15 (d := d__law_values) rfl
  have g__law_values := He.glo_ok X G (c.fact 37 (f := .glo "_law_values") rfl)
  obtain ⟨fd_law, E_law⟩ := c.def_ 16 (d := d_law) rfl
  have g_law := He.glo_ok X G (c.fact 38 (f := .glo "law") rfl)
  cases hfa.symm.trans g_law
  refine ⟨fd_law, fun s v => FunD.bindsA (ps := ["_law_script"]) E_law (fun _ _ _ _ _ _ us hl => match us, hl with | [_], _ => rfl) s [v] rfl, fun base _ _ => ?_⟩
  have C__law_taken : CalR P w K mg base "_law_taken" 1 ["_law_row", "_law_many"] F__law_taken := ok__law_taken T  E__law_taken g__law_taken
  have C__law_pick : CalR P w K mg base "_law_pick" 2 ["_law_row", "_law_things"] F__law_pick := ok__law_pick T C__law_taken E__law_pick g__law_pick
  have C__law_web : CalR P w K mg base "_law_web" 3 ["_law_row", "_law_most", "_law_strong"] F__law_web := ok__law_web T C__law_taken C__law_pick E__law_web g__law_web
  have C__law_alike : CalP P w K mg base "_law_alike" 8 ["_law_found", "_law_due"] (F__law_alike 8) := ok__law_alike T  E__law_alike g__law_alike 8
  have C_is_integer : CalP P w K mg base "is_integer" 1 ["value"] F_is_integer := ok_is_integer T  E_is_integer g_is_integer
  have C_is_from : CalP P w K mg base "is_from" 2 ["value", "low", "high"] F_is_from := ok_is_from T C_is_integer E_is_from g_is_from
  have C_is_line : CalP P w K mg base "is_line" 3 ["n", "value"] F_is_line := ok_is_line T C_is_from E_is_line g_is_line
  have C_is_web : CalP P w K mg base "is_web" 4 ["value"] F_is_web := ok_is_web T C_is_line E_is_web g_is_web
  have C_need_web : CalP P w K mg base "need_web" 5 ["value"] F_need_web := ok_need_web T C_is_web E_need_web g_need_web
  have C_need_node : CalP P w K mg base "need_node" 3 ["web", "value"] F_need_node := ok_need_node T C_is_from E_need_node g_need_node
  have C_round_of : CalP P w K mg base "round_of" 6 ["web", "x", "y"] F_round_of := ok_round_of T C_need_web C_need_node E_round_of g_round_of
  have C__law_share : CalP P w K mg base "_law_share" 1 ["_law_top", "_law_bottom"] F__law_share := ok__law_share T  E__law_share g__law_share
  have C__law_times : CalP P w K mg base "_law_times" 2 ["_law_one", "_law_other"] F__law_times := ok__law_times T C__law_share E__law_times g__law_times
  have C__law_turn : CalP P w K mg base "_law_turn" 1 ["_law_web_here", "_law_x"] F__law_turn := ok__law_turn T  E__law_turn g__law_turn
  have C__law_plus : CalP P w K mg base "_law_plus" 2 ["_law_one", "_law_other"] F__law_plus := ok__law_plus T C__law_share E__law_plus g__law_plus
  have C__law_values : CalP P w K mg base "_law_values" 3 ["_law_web_here", "_law_told", "_law_starts"] F__law_values := ok__law_values T C__law_times C__law_turn C__law_plus E__law_values g__law_values
  exact fn_okP E_law sc_law fun cdv A outer s H E hr => b_law T C__law_web C__law_taken C__law_alike C_round_of C__law_values hr
abbrev Rw : PySem.W.OpenRow := PySem.W.OpenLaw.row PySem.Challenge.rw_dartwebs_k22_whole_rounds
abbrev hk : PySem.W.Hook := He.hookD 5 fa fn
def ob (s : PySem.W.SharedT) : He.AlD := He.obsDG 5 fa fn (HandSHeadRun.getT s)
theorem ob_eq (s : PySem.W.SharedT) : ob s = hk.obs s.abs := He.obsDG_eq (HandSHeadRun.getT_eq s)
def loose : List PySem.Str := ["__name__", "WebError", "BadWeb", "NoNode", "Alike", "MOST_NODES", "MOST_ARROWS", "is_integer", "is_from", "is_line", "is_web", "need_web", "need_node", "round_of", "_law_taken", "_law_pick", "_law_alike", "_law_web", "_law_turn", "_law_share", "_law_times", "_law_plus", "_law_values"]
theorem run (w : World) : HandSHeadRun.RunEq Rw (PySem.W.view Rw.prog [26]) hk ob 4000 loose w := by
  intro os
  kernel_rfl
end K22
open PySem PySem.W PySem.Calls PyProof.Rows in
set_option maxHeartbeats 0 in
theorem PySem.Challenge.cw_dartwebs_k22_whole_rounds_holds : PySem.Challenge.rw_dartwebs_k22_whole_rounds.Holds := by
  w_on; o_law
  refine HandSHeadRun.head_any (r := OpenLaw.row PySem.Challenge.rw_dartwebs_k22_whole_rounds) (q := view (OpenLaw.row PySem.Challenge.rw_dartwebs_k22_whole_rounds).prog [26]) (H := K22.hk) (ob := K22.ob) (M := 4000) (loose := K22.loose) (d := HandSHeadRun.topDef (OpenLaw.row PySem.Challenge.rw_dartwebs_k22_whole_rounds).prog 26) (kwd := []) K22.ob_eq
    (by kernel_rfl) (fun s => by kernel_rfl) K22.run (by kernel_rfl) (by kernel_rfl) (by kernel_rfl) (by rfl) (by first | assumption | decide +kernel) (by decide +kernel) ⟨rfl, rfl, rfl, rfl, rfl, by decide +kernel⟩ ?hw ?hc
  case hw => w_witness2
  case hc =>
    refine DV.walk_law (l := PySem.Challenge.rw_dartwebs_k22_whole_rounds) (n := 63) (k := 9) (x := "_law_script") rfl (by decide) (by kernel_rfl) ⟨rfl, by decide, by decide⟩ ?F
    intro w mg fa h Y G hmg0
    obtain ⟨K, KX, c⟩ := Y
    have hmg : mg ("law" : PySem.Str) = some (.ref fa) := by
      have e : (HandSHeadRun.topDef (OpenLaw.row PySem.Challenge.rw_dartwebs_k22_whole_rounds).prog 26).name = ("law" : PySem.Str) := by kernel_rfl
      rw [← e]
      exact hmg0
    obtain ⟨fd, hb, hF⟩ := K22.facts (P := (PySem.Challenge.rw_dartwebs_k22_whole_rounds).prog) (w := w) KX G hmg c
    exact ⟨K, fd, DV.spP K mg 1 K22.F_law, KX, hb, fun H a ns hl hS => DV.law_sp hS (K22.law_true ns hl), hF⟩
